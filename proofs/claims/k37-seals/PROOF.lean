import PyProof.Rows.All
import Wide.All
import OpenK.AllK
import Wide.FinOn
import PySem.PyData
import KE.KDictKeyed
import KE.SortData
import PyProof.ReprReads
import HandS.ForMost
import HandS.ForExc
import HandS.Defaults
import HandS.Lambda
import HandS.ExcInit
import HandS.TupAny
import HandS.TupLe
import HandS.Deep
import PyProof.StrOps2
import HandS.Text
import HandS.Flow
import HandS.IsInst
import HandS.Star
import HandS.Codes
import HandS.Style
import PyProof.CollectStr
import HandS.ExcField
import HandS.TryMany
import HandS.HeadHook4
import HandS.HeadWalk
import KE.GoesEnum
import KE.GoesEnumKw
import KE.DataMinMax
import HandS.CallLocal
import KE.KStateDown
import HandS.Head0
import HandS.Head1
import HandS.Head2
import HandS.HeadEnd
import HandS.HeadHook1
import HandS.HeadHook2
import HandS.HeadHook3
import PySem.Challenge.RW_folkmeld_k37_whole_seals
set_option Elab.async false
section
/-! FM1: an evaluator of a small Python over data and a small store. Pure Lean; FM2 ties it to the model. -/
set_option autoImplicit false
set_option linter.all false
namespace FM
open PySem

abbrev D := PyData
def T (l : List Nat) : Str := ⟨l.toArray⟩
def tl (s : Str) : List Nat := s.cps.toList
@[simp] theorem tl_T (l : List Nat) : tl (T l) = l := by simp [tl, T]
@[simp] theorem T_tl (s : Str) : T (tl s) = s := by cases s; simp [tl, T]
@[simp] theorem T_inj {a b : List Nat} : T a = T b ↔ a = b := by simp [T]
abbrev dStr (l : List Nat) : D := .str (T l)

def SZ : Nat := 16777216

/-! ### values, cells -/
inductive W where
  | d (x : D) | ref (n : Nat) | fn (f : String)
inductive Cell where
  | lst (ws : List W) | dct (kvs : List (D × W)) | ins (c : String) (fs : List (String × W)) | dead
abbrev Sto := List Cell
abbrev Env := List (Option W)
structure Exn where
  c : String
  fs : List (String × W)
inductive Res (α : Type) where
  | ok (a : α) (st : Sto) | exn (x : Exn) (st : Sto) | bad
inductive Out where
  | nx (ρ : Env) (st : Sto) | rt (w : W) (st : Sto) | bk (ρ : Env) (st : Sto) | ct (ρ : Env) (st : Sto) | exn (x : Exn) (st : Sto) | bad
def Res.bind {α β : Type} (r : Res α) (f : α → Sto → Res β) : Res β := match r with
  | .ok a st => f a st | .exn x st => .exn x st | .bad => .bad
def Res.out {α : Type} (r : Res α) (f : α → Sto → Out) : Out := match r with
  | .ok a st => f a st | .exn x st => .exn x st | .bad => .bad
def Out.next (o : Out) (f : Env → Sto → Out) : Out := match o with
  | .nx ρ st => f ρ st | o => o
@[simp] theorem Res.bind_ok {α β : Type} (a : α) (st : Sto) (f : α → Sto → Res β) : (Res.ok a st).bind f = f a st := rfl
@[simp] theorem Res.bind_exn {α β : Type} (x : Exn) (st : Sto) (f : α → Sto → Res β) : (Res.exn x st).bind f = .exn x st := rfl
@[simp] theorem Res.bind_bad {α β : Type} (f : α → Sto → Res β) : (Res.bad).bind f = .bad := rfl
@[simp] theorem Res.out_ok {α : Type} (a : α) (st : Sto) (f : α → Sto → Out) : (Res.ok a st).out f = f a st := rfl
@[simp] theorem Res.out_exn {α : Type} (x : Exn) (st : Sto) (f : α → Sto → Out) : (Res.exn x st).out f = .exn x st := rfl
@[simp] theorem Res.out_bad {α : Type} (f : α → Sto → Out) : (Res.bad).out f = .bad := rfl
@[simp] theorem Out.next_nx (ρ : Env) (st : Sto) (f : Env → Sto → Out) : (Out.nx ρ st).next f = f ρ st := rfl
@[simp] theorem Out.next_rt (w : W) (st : Sto) (f : Env → Sto → Out) : (Out.rt w st).next f = .rt w st := rfl
@[simp] theorem Out.next_bk (ρ : Env) (st : Sto) (f : Env → Sto → Out) : (Out.bk ρ st).next f = .bk ρ st := rfl
@[simp] theorem Out.next_ct (ρ : Env) (st : Sto) (f : Env → Sto → Out) : (Out.ct ρ st).next f = .ct ρ st := rfl
@[simp] theorem Out.next_exn (x : Exn) (st : Sto) (f : Env → Sto → Out) : (Out.exn x st).next f = .exn x st := rfl
@[simp] theorem Out.next_bad (f : Env → Sto → Out) : (Out.bad).next f = .bad := rfl
def Res.of {α : Type} (o : Option α) (st : Sto) : Res α := match o with
  | some a => .ok a st | none => .bad
@[simp] theorem Res.of_some {α : Type} (a : α) (st : Sto) : Res.of (some a) st = .ok a st := rfl
@[simp] theorem Res.of_none {α : Type} (st : Sto) : (Res.of none st : Res α) = .bad := rfl

/-! ### data -/
mutual
def eqD : D → D → Bool
  | .none, .none => true
  | .bool a, .bool b => a == b
  | .bool a, .int j => (if a then 1 else 0) == j
  | .int i, .bool b => i == (if b then 1 else 0)
  | .int i, .int j => i == j
  | .str x, .str y => x == y
  | .list xs, .list ys => eqAll xs ys
  | .tuple xs, .tuple ys => eqAll xs ys
  | .dict xs, .dict ys => false
  | _, _ => false
def eqAll : List D → List D → Bool
  | [], [] => true
  | x :: xs, y :: ys => eqD x y && eqAll xs ys
  | _, _ => false
end
mutual
/-- no dict within -/
def nod : D → Bool
  | .list xs | .tuple xs => nodAll xs
  | .dict _ => false
  | _ => true
def nodAll : List D → Bool
  | [] => true
  | x :: xs => nod x && nodAll xs
end
mutual
def dep : D → Nat
  | .list xs | .tuple xs => depAll xs + 1
  | .dict kvs => depKv kvs + 1
  | _ => 0
def depAll : List D → Nat
  | [] => 0
  | x :: xs => max (dep x) (depAll xs)
def depKv : List (D × D) → Nat
  | [] => 0
  | (a, b) :: r => max (max (dep a) (dep b)) (depKv r)
end
def eqOk (x y : D) : Bool := nod x && nod y && (decide (dep x ≤ 64) || decide (dep y ≤ 64))
/-- lists of codes in order -/
def ltL : List Nat → List Nat → Bool
  | [], [] => false
  | [], _ :: _ => true
  | _ :: _, [] => false
  | a :: x, b :: y => if a = b then ltL x y else decide (a < b)
mutual
/-- the two can be compared, place by place -/
def alk : D → D → Bool
  | .bool _, .bool _ => true
  | .int _, .int _ => true
  | .str _, .str _ => true
  | .list xs, .list ys => alkAll xs ys
  | .tuple xs, .tuple ys => alkAll xs ys
  | .none, .none => true
  | _, _ => false
def alkAll : List D → List D → Bool
  | x :: xs, y :: ys => alk x y && alkAll xs ys
  | _, _ => true
end
mutual
def ltD : D → D → Bool
  | .bool a, .bool b => !a && b
  | .int i, .int j => decide (i < j)
  | .str x, .str y => ltL (tl x) (tl y)
  | .list xs, .list ys => ltAll xs ys
  | .tuple xs, .tuple ys => ltAll xs ys
  | _, _ => false
def ltAll : List D → List D → Bool
  | [], [] => false
  | [], _ :: _ => true
  | _ :: _, [] => false
  | x :: xs, y :: ys => if eqD x y then ltAll xs ys else ltD x y
end
mutual
/-- ints, texts, None, and tuples of these -/
def ordOk : D → Bool
  | .int _ => true
  | .str _ => true
  | .none => true
  | .tuple xs => ordAll xs
  | _ => false
def ordAll : List D → Bool
  | [] => true
  | x :: xs => ordOk x && ordAll xs
end
def isNo : D → Bool
  | .none => true
  | _ => false
/-- the two have an order -/
def cmpOk (x y : D) : Bool := alk x y && (ordOk x && (ordOk y && (!isNo x && (decide (dep x ≤ 64) && decide (dep y ≤ 64)))))
def leD (x y : D) : Bool := !ltD y x

def allD : List W → Option (List D)
  | [] => some []
  | .d x :: r => (allD r).map (x :: ·)
  | _ :: _ => none
def allDK : List (D × W) → Option (List (D × D))
  | [] => some []
  | (k, .d x) :: r => (allDK r).map ((k, x) :: ·)
  | _ :: _ => none
@[simp] theorem allD_map (xs : List D) : allD (xs.map W.d) = some xs := by
  induction xs with
  | nil => rfl
  | cons x r ih => simp [allD, ih]
@[simp] theorem allDK_map (kvs : List (D × D)) : allDK (kvs.map fun p => (p.1, W.d p.2)) = some kvs := by
  induction kvs with
  | nil => rfl
  | cons x r ih => simp [allDK, ih]
/-- as data, if it is -/
def vw (st : Sto) : W → Option D
  | .d x => some x
  | .ref n => match st[n]? with
    | some (.lst ws) => (allD ws).map .list
    | some (.dct kvs) => (allDK kvs).map .dict
    | _ => none
  | .fn _ => none
@[simp] theorem vw_d (st : Sto) (x : D) : vw st (.d x) = some x := rfl
/-- the items of a list or tuple -/
def seqW (st : Sto) : W → Option (List W)
  | .d (.list xs) => some (xs.map .d)
  | .d (.tuple xs) => some (xs.map .d)
  | .ref n => match st[n]? with
    | some (.lst ws) => some ws
    | _ => none
  | _ => none
/-- the items of a list -/
def lstW (st : Sto) : W → Option (List W)
  | .d (.list xs) => some (xs.map .d)
  | .ref n => match st[n]? with
    | some (.lst ws) => some ws
    | _ => none
  | _ => none
/-- the entries of a dict -/
def dctW (st : Sto) : W → Option (List (D × W))
  | .d (.dict kvs) => some (kvs.map fun p => (p.1, .d p.2))
  | .ref n => match st[n]? with
    | some (.dct kvs) => some kvs
    | _ => none
  | _ => none
mutual
/-- what may be a key -/
def keyOk : D → Bool
  | .int _ => true
  | .str _ => true
  | .tuple xs => keyAll xs
  | _ => false
def keyAll : List D → Bool
  | [] => true
  | x :: xs => keyOk x && keyAll xs
end
def keyC (k : D) : Bool := keyOk k && decide (dep k ≤ 8)
def look {α : Type} (k : D) : List (D × α) → Option α
  | [] => none
  | (q, v) :: r => if eqD q k then some v else look k r
def put {α : Type} (k : D) (v : α) : List (D × α) → List (D × α)
  | [] => [(k, v)]
  | (q, u) :: r => if eqD q k then (q, v) :: r else (q, u) :: put k v r
def rem {α : Type} (k : D) : List (D × α) → List (D × α)
  | [] => []
  | (q, u) :: r => if eqD q k then r else (q, u) :: rem k r

/-! ### text functions -/
def chars (s : Str) : List W := (tl s).map fun c => .d (dStr [c])
/-- x begins with p -/
def pre : List Nat → List Nat → Bool
  | [], _ => true
  | _ :: _, [] => false
  | a :: p, b :: x => a == b && pre p x
def lower1 (c : Nat) : Nat := if 65 ≤ c ∧ c ≤ 90 then c + 32 else c
def upper1 (c : Nat) : Nat := if 97 ≤ c ∧ c ≤ 122 then c - 32 else c
/-- parted by one sign -/
def splitC (c : Nat) : List Nat → List (List Nat)
  | [] => [[]]
  | a :: x => if a = c then [] :: splitC c x else match splitC c x with
    | [] => [[a]]
    | y :: r => (a :: y) :: r
def joinT (sep : List Nat) : List (List Nat) → List Nat
  | [] => []
  | [x] => x
  | x :: y :: r => x ++ sep ++ joinT sep (y :: r)
/-- ahead of and behind the first c -/
def partC (c : Nat) : List Nat → Option (List Nat × List Nat)
  | [] => none
  | a :: x => if a = c then some ([], x) else (partC c x).map fun p => (a :: p.1, p.2)

/-! ### places -/
def sIdx (n : Nat) (i : Int) : Nat := if i < 0 then ((n : Int) + i).toNat else min i.toNat n
def cut {α : Type} (xs : List α) (lo hi : Option Int) : List α :=
  let a := match lo with
    | some i => sIdx xs.length i
    | none => 0
  let b := match hi with
    | some i => sIdx xs.length i
    | none => xs.length
  (xs.drop a).take (b - a)
def atI {α : Type} (xs : List α) (i : Int) : Option α := if 0 ≤ i then xs[i.toNat]? else if 0 ≤ (xs.length : Int) + i then xs[((xs.length : Int) + i).toNat]? else none

/-! ### the syntax -/
inductive BOp where | add | sub | mul | fdiv | mod | pow
inductive COp where | eq | ne | lt | le | gt | ge | isin | notin | din | dnotin | is | isnot
inductive Ty where | int | str | bool | list | tuple | dict deriving DecidableEq
inductive B1 where | len | dlen | int | str | ord | sum | all | any | tuple | repr | min | max | abs
inductive B2 where | max | min
inductive M0 where | lower | upper
inductive M1 where | append | extend | get | join | partition | pop | dpop | remove | split | index
inductive M2 where | get | setdefault
inductive Tg where | v (i : Nat) | t (ts : List Tg)
mutual
inductive E where
  | var (i : Nat) | glob (x : String) | none | bl (b : Bool) | int (i : Int) | str (l : List Nat)
  | bin (op : BOp) (a b : E) | neg (a : E) | not (a : E)
  | cmp (op : COp) (a b : E) | chain (o1 o2 : COp) (a b c : E)
  | and (a b : E) | or (a b : E) | ife (c : C) (a b : E)
  | tup (es : Es) | pur (f : F) | new (f : F)
  | idx (a b : E) | didx (a b : E) | sl (a : E) (lo hi : O) | rev (a : E)
  | fld (a : E) (f : String) | call (f : String) (es : Es) | callv (i : Nat) (cs : List String) (es : Es) | make (c : String) (es : Es)
  | meth (m : String) (a : E) (es : Es)
  | isi (a : E) (ts : List Ty) | b1 (b : B1) (a : E) | b2 (b : B2) (x y : E) | maxd (a d : E)
  | m0 (m : M0) (a : E) | m1 (m : M1) (a x : E) | m2 (m : M2) (a x y : E)
  | refused (f : String) (b : E) | bad
inductive O where
  | no | e (a : E)
inductive Es where
  | nil | cons (e : E) (r : Es) | star (e : E) (r : Es)
inductive Ps where
  | nil | cons (k v : E) (r : Ps)
inductive C where
  | e (a : E) | and (a b : C) | or (a b : C) | not (a : C)
inductive F where
  | lst (es : Es) | dct (ps : Ps) | lc (own : List Nat) (tg : Tg) (it : I) (c : Cs) (a : E) | dc (own : List Nat) (tg : Tg) (it : I) (c : Cs) (k v : E)
  | sorted (a : E) | list (a : E) | dict (a : E) | cat (a b : E)
inductive Cs where
  | no | c (c : C)
inductive I where
  | e (a : E) | keys (a : E) | items (a : E) | values (a : E) | rng1 (a : E) | rng2 (a b : E) | rng3 (a b c : E) | enum (a : E) (k : Nat) | zip (a b : E) | enumz (a b : E)
end
mutual
inductive S where
  | set (tg : Tg) (e : E) | par (i j : Nat) (a b : E) | setIx (a i e : E) | setKey (a i e : E) | setFld (a : E) (f : String) (e : E) | aug (i : Nat) (op : BOp) (e : E)
  | ex (e : E) | ife (c : C) (a b : Ss) | for (tg : Tg) (it : I) (b : Ss) | while (c : C) (b : Ss)
  | ret (e : E) | retN | raise (c : String) (es : Es) | brk | cont | pass | bad | freeze (i : Nat)
inductive Ss where
  | nil | cons (s : S) (r : Ss)
end

/-! ### the program -/
inductive Mode where | pure | eff | keep | obj
structure Fn where
  params : Nat
  slots : Nat
  mode : Mode := .pure
  body : Ss
structure Prog where
  fn : String → Option Fn
  glob : String → Option W
  /-- the handlers of a def that tries a call: class, word, fields (one: itself, several: their tuple) -/
  refused : String → Option (List (String × List Nat × List String))
  /-- an exception's class: 1 keeps its one argument, 2 is made with what and limit -/
  exc : String → Option Nat

/-! ### operations on values -/
def int? : W → Option Int
  | .d (.int i) => some i
  | _ => none
def CMulB (i j : Int) : Bool := (decide (-(2 ^ 64) < i) && decide (i < 2 ^ 64)) || (decide (-(2 ^ 64) < j) && decide (j < 2 ^ 64))
def binD : BOp → D → D → Option D
  | .add, .int i, .int j => some (.int (i + j))
  | .add, .str x, .str y => if (tl x).length + (tl y).length ≤ SZ then some (dStr (tl x ++ tl y)) else none
  | .add, .list x, .list y => if x.length + y.length ≤ SZ then some (.list (x ++ y)) else none
  | .add, .tuple x, .tuple y => if x.length + y.length ≤ SZ then some (.tuple (x ++ y)) else none
  | .sub, .int i, .int j => some (.int (i - j))
  | .mul, .int i, .int j => if CMulB i j then some (.int (i * j)) else none
  | .mul, .str x, .int j => if (tl x).length * j.toNat ≤ SZ ∧ j < 2 ^ 62 ∧ 0 ≤ j then some (dStr (List.replicate j.toNat (tl x)).flatten) else none
  | .mul, .list x, .int j => if x.length * j.toNat ≤ SZ ∧ j < 2 ^ 62 ∧ 0 ≤ j then some (.list (List.replicate j.toNat x).flatten) else none
  | .fdiv, .int i, .int j => if 0 < j ∧ j < 1073741824 then some (.int (i / j)) else none
  | .mod, .int i, .int j => if 0 < j then some (.int (i % j)) else none
  | .pow, .int i, .int j => if 0 ≤ j ∧ j ≤ 1000000 ∧ i.natAbs < 2 ^ 64 then some (.int (i ^ j.toNat)) else none
  | _, _, _ => none
def binW (st : Sto) (op : BOp) (x y : W) : Option W := match vw st x, vw st y with
  | some a, some b => (binD op a b).map .d
  | _, _ => none
/-- op= : ints and texts -/
def noPow : BOp → Bool
  | .pow => false
  | _ => true
def augW (op : BOp) (x y : W) : Option W := match x, y with
  | .d (.str x), .d (.str y) => (match op with
    | .add => (binD .add (.str x) (.str y)).map .d
    | _ => none)
  | .d (.int i), .d (.int j) => if noPow op then (binD op (.int i) (.int j)).map .d else none
  | _, _ => none
def isD : D → D → Option Bool
  | .bool a, .bool b => some (a == b)
  | .none, .none => some true
  | .bool _, .none => some false
  | .int _, .none => some false
  | .str _, .none => some false
  | .list _, .none => some false
  | .tuple _, .none => some false
  | .dict _, .none => some false
  | _, _ => none
def inStr (x y : Str) : Option Bool := match tl x with
  | [c] => some ((tl y).contains c)
  | _ => none
def cmpD : COp → D → D → Option Bool
  | .eq, x, y => if eqOk x y then some (eqD x y) else none
  | .ne, x, y => if eqOk x y then some (!eqD x y) else none
  | .lt, x, y => if cmpOk x y then some (ltD x y) else none
  | .le, x, y => if cmpOk x y then some (!ltD y x) else none
  | .gt, x, y => if cmpOk x y then some (ltD y x) else none
  | .ge, x, y => if cmpOk x y then some (!ltD x y) else none
  | .is, x, y => isD x y
  | .isin, .str x, .str y => inStr x y
  | .isin, x, .list ys => if ys.all (eqOk x) then some (ys.any (eqD · x)) else none
  | .isin, x, .tuple ys => if ys.all (eqOk x) then some (ys.any (eqD · x)) else none
  | _, _, _ => none
def cmpP (st : Sto) (op : COp) (x y : W) : Option Bool := match vw st x, vw st y with
  | some a, some b => cmpD op a b
  | _, _ => none
/-- in, of a dict by its keys -/
def inDW (st : Sto) (x y : W) : Option Bool := match dctW st y with
  | some kvs => (match x with
    | .d k => if keyC k then some (look k kvs).isSome else none
    | _ => none)
  | none => none
/-- is: a cell is not None -/
def isW (st : Sto) (x y : W) : Option Bool := match x, y with
  | .ref _, .d .none => some false
  | .d x, .d y => isD x y
  | _, _ => none
def cmpW (st : Sto) : COp → W → W → Option Bool
  | .notin, x, y => (cmpP st .isin x y).map (! ·)
  | .din, x, y => inDW st x y
  | .dnotin, x, y => (inDW st x y).map (! ·)
  | .is, x, y => isW st x y
  | .isnot, x, y => (isW st x y).map (! ·)
  | op, x, y => cmpP st op x y
def truD : D → Option Bool
  | .none => some false
  | .bool b => some b
  | .int i => some (decide (i ≠ 0))
  | .str s => if (tl s).length ≤ SZ then some (!(tl s).isEmpty) else none
  | .list xs => some (!xs.isEmpty)
  | .tuple xs => some (!xs.isEmpty)
  | .dict _ => none
def truW (st : Sto) : W → Option Bool
  | .d x => truD x
  | .ref n => match st[n]? with
    | some (.lst ws) => some (!ws.isEmpty)
    | _ => none
  | .fn _ => none
def lenW (st : Sto) : W → Option Int
  | .d (.str s) => if (tl s).length ≤ SZ then some (tl s).length else none
  | w => (seqW st w).map fun ws => ws.length
def lenDW (st : Sto) (w : W) : Option Int := (dctW st w).map fun kvs => kvs.length
def tyOf (st : Sto) : W → Option Ty
  | .d .none => none
  | .d (.bool _) => some .bool
  | .d (.int _) => some .int
  | .d (.str _) => some .str
  | .d (.list _) => some .list
  | .d (.tuple _) => some .tuple
  | .d (.dict _) => some .dict
  | .ref n => match st[n]? with
    | some (.lst _) => some .list
    | some (.dct _) => some .dict
    | _ => none
  | .fn _ => none
/-- a kind that isinstance can be asked of -/
def kindOk (st : Sto) : W → Bool
  | .d (.dict _) => false
  | .d _ => true
  | .ref n => match st[n]? with
    | some (.lst _) => true
    | _ => false
  | .fn _ => false
def isTy (t : Option Ty) (u : Ty) : Bool := match t with
  | some t => decide (t = u) || (decide (t = .bool) && decide (u = .int))
  | none => false
def isiW (st : Sto) (w : W) (ts : List Ty) : Option Bool := if kindOk st w then some (ts.any (isTy (tyOf st w))) else none
def sumI : List D → Option Int
  | [] => some 0
  | .int i :: r => (sumI r).map (i + ·)
  | _ :: _ => none
def boolsD : List D → Option (List Bool)
  | [] => some []
  | .bool b :: r => (boolsD r).map (b :: ·)
  | _ :: _ => none
def strsD : List D → Option (List (List Nat))
  | [] => some []
  | .str s :: r => (strsD r).map (tl s :: ·)
  | _ :: _ => none
def alkAllB (xs : List D) : Bool := xs.all fun x => xs.all fun y => alk x y
def minL : D → List D → D
  | m, [] => m
  | m, x :: r => minL (if ltD x m then x else m) r
def maxL : D → List D → D
  | m, [] => m
  | m, x :: r => maxL (if ltD m x then x else m) r
def depOk (xs : List D) : Bool := xs.all fun x => decide (dep x ≤ 64)

structure Fun1 where
  repr : D → List Nat
  showI : Int → List Nat
  ok : D → Bool
/-- what repr may be asked of -/
def reprOk (R : Fun1) : D → Bool
  | .tuple xs => nod (.tuple xs) && (decide (dep (.tuple xs) ≤ 60) && R.ok (.tuple xs))
  | _ => false
def b1W (R : Fun1) (st : Sto) (b : B1) (w : W) : Option W := match b with
  | .len => (lenW st w).map fun i => .d (.int i)
  | .dlen => (lenDW st w).map fun i => .d (.int i)
  | .int => match w with
    | .d (.int i) => some (.d (.int i))
    | .d (.str s) => none
    | _ => none
  | .str => match w with
    | .d (.int i) => if i.natAbs < 2 ^ 1900 then some (.d (dStr (R.showI i))) else none
    | _ => none
  | .ord => match w with
    | .d (.str s) => (match tl s with
      | [c] => some (.d (.int c))
      | _ => none)
    | _ => none
  | .abs => match w with
    | .d (.int i) => some (.d (.int (if i < 0 then -i else i)))
    | _ => none
  | .sum => match vw st w with
    | some (.list xs) => (sumI xs).map fun i => .d (.int i)
    | _ => none
  | .all => match vw st w with
    | some (.list xs) => (boolsD xs).map fun bs => .d (.bool (bs.all id))
    | _ => none
  | .any => match vw st w with
    | some (.list xs) => (boolsD xs).map fun bs => .d (.bool (bs.any id))
    | _ => none
  | .tuple => match vw st w with
    | some (.list xs) => some (.d (.tuple xs))
    | some (.tuple xs) => some (.d (.tuple xs))
    | _ => none
  | .repr => match vw st w with
    | some x => if reprOk R x then some (.d (dStr (R.repr x))) else none
    | none => none
  | .min => match vw st w with
    | some (.list (x :: r)) => if (alkAllB (x :: r) && depOk (x :: r)) && (x :: r).all (fun y => !isNo y) then some (.d (minL x r)) else none
    | _ => none
  | .max => match vw st w with
    | some (.list (x :: r)) => if (alkAllB (x :: r) && depOk (x :: r)) && (x :: r).all (fun y => !isNo y) then some (.d (maxL x r)) else none
    | _ => none
def b2W (b : B2) (x y : W) : Option W := match b, x, y with
  | .max, .d (.int i), .d (.int j) => some (.d (.int (if j > i then j else i)))
  | .min, .d (.int i), .d (.int j) => some (.d (.int (if j < i then j else i)))
  | _, _, _ => none
/-- max(.., default=..) of a list, a tuple or a dict's keys -/
def maxdW (st : Sto) (w d : W) : Option W :=
  let go : List D → Option W := fun xs => match xs with
    | [] => some d
    | x :: r => if alkAllB (x :: r) && depOk (x :: r) then some (.d (maxL x r)) else none
  match vw st w with
  | some (.list xs) => go xs
  | some (.tuple xs) => go xs
  | _ => none
def m0W (m : M0) (w : W) : Option W := match m, w with
  | .lower, .d (.str s) => if (tl s).all (fun c => decide (c < 128)) && decide ((tl s).length ≤ 1000000) then some (.d (dStr ((tl s).map lower1))) else none
  | .upper, .d (.str s) => if (tl s).all (fun c => decide (c < 128)) && decide ((tl s).length ≤ 1000000) then some (.d (dStr ((tl s).map upper1))) else none
  | _, _ => none
def noneW : W := .d .none
/-- the items of a list or a tuple, as data -/
def rowD : D → Option (List D)
  | .list xs => some xs
  | .tuple xs => some xs
  | _ => none
@[simp] theorem rowD_list (xs : List D) : rowD (.list xs) = some xs := rfl
@[simp] theorem rowD_tup (xs : List D) : rowD (.tuple xs) = some xs := rfl
/-- a method with one argument: the answer and the store behind it -/
def m1W (st : Sto) (m : M1) (a x : W) : Option (W × Sto) := match m with
  | .append => (match a with
    | .ref n => (match st[n]? with
      | some (.lst ws) => if ws.length < SZ then some (noneW, st.set n (.lst (ws ++ [x]))) else none
      | _ => none)
    | _ => none)
  | .extend => (match a, seqW st x with
    | .ref n, some ys => (match st[n]? with
      | some (.lst ws) => if ws.length + ys.length ≤ SZ then some (noneW, st.set n (.lst (ws ++ ys))) else none
      | _ => none)
    | _, _ => none)
  | .get => (match dctW st a, x with
    | some kvs, .d k => if keyC k then some ((look k kvs).getD noneW, st) else none
    | _, _ => none)
  | .join => (match a, (vw st x).bind rowD with
    | .d (.str s), some xs => (match strsD xs with
      | some ls => if (ls.map List.length).sum + ls.length * (tl s).length ≤ SZ then some (.d (dStr (joinT (tl s) ls)), st) else none
      | none => none)
    | _, _ => none)
  | .partition => (match a, x with
    | .d (.str s), .d (.str p) => (match tl p with
      | [c] => if (tl s).length ≤ SZ then (match partC c (tl s) with
        | some (u, v) => some (.d (.tuple [dStr u, dStr [c], dStr v]), st)
        | none => some (.d (.tuple [dStr (tl s), dStr [], dStr []]), st)) else none
      | _ => none)
    | _, _ => none)
  | .split => (match a, x with
    | .d (.str s), .d (.str p) => (match tl p with
      | [c] => if (tl s).length + 2 ≤ SZ ∧ c < 256 then some (.d (.list ((splitC c (tl s)).map dStr)), st) else none
      | _ => none)
    | _, _ => none)
  | .pop => (match a, x with
    | .ref n, .d k => (match st[n]?, k with
      | some (.lst (w :: ws)), .int 0 => some (w, st.set n (.lst ws))
      | _, _ => none)
    | _, _ => none)
  | .dpop => (match a, x with
    | .ref n, .d k => (match st[n]?, k with
      | some (.dct kvs), k => if keyC k then (match look k kvs with
        | some w => some (w, st.set n (.dct (rem k kvs)))
        | none => none) else none
      | _, _ => none)
    | _, _ => none)
  | .remove => (match a, x with
    | .ref n, .d y => (match st[n]? with
      | some (.lst ws) => (match allD ws with
        | some xs => if xs.all (eqOk y) && decide (dep y ≤ 64) && xs.any (eqD · y) then some (noneW, st.set n (.lst ((xs.eraseP (eqD · y)).map .d))) else none
        | none => none)
      | _ => none)
    | _, _ => none)
  | .index => (match vw st a, x with
    | some (.list xs), .d (.bool b) => (match boolsD xs with
      | some bs => if bs.contains b then some (.d (.int (bs.findIdx (· == b))), st) else none
      | none => none)
    | some (.str s), .d (.str p) => (match tl p with
      | [c] => if (tl s).contains c && decide ((tl s).length ≤ SZ) then some (.d (.int ((tl s).findIdx (· == c))), st) else none
      | _ => none)
    | _, _ => none)
def m2W (st : Sto) (m : M2) (a x y : W) : Option (W × Sto) := match m with
  | .get => (match dctW st a, x with
    | some kvs, .d k => if keyC k then some ((look k kvs).getD y, st) else none
    | _, _ => none)
  | .setdefault => (match a, x with
    | .ref n, .d k => (match st[n]? with
      | some (.dct kvs) => if keyC k && decide (kvs.length < SZ) then (match look k kvs with
        | some w => some (w, st)
        | none => some (y, st.set n (.dct (put k y kvs)))) else none
      | _ => none)
    | _, _ => none)
def idxW (st : Sto) (a i : W) : Option W := match i with
  | .d (.int i) => (match a with
    | .d (.str s) => if (tl s).length ≤ SZ then (atI (tl s) i).map fun c => .d (dStr [c]) else none
    | _ => match seqW st a with
      | some ws => atI ws i
      | none => none)
  | _ => none
def idxDW (st : Sto) (a i : W) : Option W := match dctW st a, i with
  | some kvs, .d k => if keyC k then look k kvs else none
  | _, _ => none
/-- nothing is cut off -/
def cutWhole (n : Nat) (lo hi : Option Int) : Bool := decide ((match lo with
    | some i => sIdx n i
    | none => 0) = 0) && decide ((match hi with
    | some i => sIdx n i
    | none => n) = n)
def slD (a : D) (lo hi : Option Int) : Option D := match a with
  | .list xs => some (.list (cut xs lo hi))
  | .tuple xs => if cutWhole xs.length lo hi then none else some (.tuple (cut xs lo hi))
  | .str s => if (tl s).length ≤ SZ then some (dStr (cut (tl s) lo hi)) else none
  | _ => none
def slW (st : Sto) (x : W) (lo hi : Option Int) : Option W := match vw st x with
  | some d => (slD d lo hi).map .d
  | none => none
def revD (a : D) : Option D := match a with
  | .list xs => some (.list xs.reverse)

  | _ => none
def fldW (st : Sto) (a : W) (f : String) : Option W := match a with
  | .ref n => (match st[n]? with
    | some (.ins _ fs) => fs.lookup f
    | _ => none)
  | _ => none
def putFl (f : String) (w : W) : List (String × W) → List (String × W)
  | [] => [(f, w)]
  | (g, u) :: r => if g = f then (g, w) :: r else (g, u) :: putFl f w r

/-! ### targets, environments -/
def varW (ρ : Env) (i : Nat) : Option W := match ρ[i]? with
  | some (some w) => some w
  | _ => none
mutual
def asgT : Tg → W → Env → Option Env
  | .v i, w, ρ => some (ρ.set i (some w))
  | .t ts, .d (.tuple xs), ρ => asgTs ts xs ρ
  | .t _, _, _ => none
def asgTs : List Tg → List D → Env → Option Env
  | [], [], ρ => some ρ
  | t :: ts, x :: xs, ρ => (asgT t (.d x) ρ).bind fun ρ => asgTs ts xs ρ
  | _, _, _ => none
end
def wip (ρ : Env) : List Nat → Env
  | [] => ρ
  | v :: vs => (wip ρ vs).set v none

/-! ### fresh containers -/
inductive Fr where
  | l (ws : List W) | m (kvs : List (D × W))
def Fr.pur : Fr → Option W
  | .l ws => (allD ws).map fun xs => .d (.list xs)
  | .m kvs => (allDK kvs).map fun xs => .d (.dict xs)
def Fr.cell : Fr → Cell
  | .l ws => .lst ws
  | .m kvs => .dct kvs
/-- the sources of loops: the items, and the cell that must stand still -/
abbrev Src := List W × Option Nat
def srcW (st : Sto) (w : W) : Option Src := match w with
  | .d (.list xs) => some (xs.map .d, none)
  | .d (.tuple xs) => some (xs.map .d, none)
  | .d (.str s) => if (tl s).length ≤ SZ then some (chars s, none) else none
  | .ref n => (match st[n]? with
    | some (.lst ws) => some (ws, some n)
    | _ => none)
  | _ => none
def guardOf : W → Option Nat
  | .ref n => some n
  | _ => none
def keysW (st : Sto) (w : W) : Option Src := match dctW st w with
  | some kvs => some (kvs.map fun p => .d p.1, guardOf w)
  | none => none
def itemsW (st : Sto) (w : W) : Option Src := match dctW st w with
  | some kvs => (allDK kvs).map fun l => (l.map fun p => .d (.tuple [p.1, p.2]), guardOf w)
  | none => none
def valuesW (st : Sto) (w : W) : Option Src := match dctW st w with
  | some kvs => some (kvs.map (·.2), guardOf w)
  | none => none
def rngL (lo : Int) (n : Nat) : List W := (List.range n).map fun i => .d (.int (lo + (i : Nat)))
def rngN (lo : Int) (n : Nat) : List W := (List.range n).map fun i => .d (.int (lo - (i : Nat)))
def rngOk (i : Int) : Bool := decide (-(2 ^ 62) ≤ i) && decide (i < 2 ^ 62)
def enumL : Int → List D → List D
  | _, [] => []
  | k, x :: r => .tuple [.int k, x] :: enumL (k + 1) r
def seqD (st : Sto) (w : W) : Option (List D) := match seqW st w with
  | some ws => allD ws
  | none => none
def zipL : List D → List D → List D
  | x :: r, y :: s => .tuple [x, y] :: zipL r s
  | _, _ => []
def sortD (xs : List D) : List D := xs.mergeSort leD
def sortable (xs : List D) : Bool := xs.all (fun x => match x with
    | .tuple (_ :: _) => true
    | _ => false) || xs.all fun x => match x with
    | .tuple _ => false
    | .none => false
    | _ => true
def sortOk (xs : List D) : Bool := alkAllB xs && (sortable xs && (depOk xs && decide (xs.length ≤ SZ)))
/-- the items of what is sorted or listed, as data -/
def srcD (s : Option Src) : Option (List D) := match s with
  | some (ws, _) => allD ws
  | none => none
def pairsD : List D → Option (List (D × D))
  | [] => some []
  | .tuple [k, v] :: r => if keyC k then (pairsD r).map ((k, v) :: ·) else none
  | _ :: _ => none
def mergeK {α : Type} (acc : List (D × α)) : List (D × α) → List (D × α)
  | [] => acc
  | (k, v) :: r => mergeK (put k v acc) r

/-! ### loops -/
open Classical in
/-- the cell at g stands as it stood -/
noncomputable def still (g : Option Nat) (st st' : Sto) : Bool := match g with
  | none => true
  | some n => decide (st'[n]? = st[n]?)
noncomputable def lcL {α : Type} (g : Option Nat) (step : W → Sto → Res (Option α)) : List W → Sto → Res (List α)
  | [], st => .ok [] st
  | w :: r, st => match step w st with
    | .ok o st' => if still g st st' then (match lcL g step r st' with
      | .ok ys st'' => .ok (match o with
        | some y => y :: ys
        | none => ys) st''
      | _ => .bad) else .bad
    | _ => .bad
noncomputable def forL (g : Option Nat) (step : W → Env → Sto → Out) : List W → Env → Sto → Out
  | [], ρ, st => .nx ρ st
  | w :: r, ρ, st => match step w ρ st with
    | .nx ρ' st' => if still g st st' then forL g step r ρ' st' else .bad
    | .ct ρ' st' => if still g st st' then forL g step r ρ' st' else .bad
    | .bk ρ' st' => .nx ρ' st'
    | o => o
/-- one turn of a while: what it ends with, or where it goes on -/
def wTurn (c : Env → Sto → Res Bool) (b : Env → Sto → Out) (ρ : Env) (st : Sto) : Out ⊕ (Env × Sto) := match c ρ st with
  | .ok true st' => (match b ρ st' with
    | .nx ρ' st'' => .inr (ρ', st'')
    | .ct ρ' st'' => .inr (ρ', st'')
    | .bk ρ' st'' => .inl (.nx ρ' st'')
    | o => .inl o)
  | .ok false st' => .inl (.nx ρ st')
  | .exn x st' => .inl (.exn x st')
  | .bad => .inl .bad
def wIter (c : Env → Sto → Res Bool) (b : Env → Sto → Out) : Nat → Env → Sto → Option Out
  | 0, _, _ => none
  | n + 1, ρ, st => match wTurn c b ρ st with
    | .inl o => some o
    | .inr (ρ', st') => wIter c b n ρ' st'
open Classical in
noncomputable def whileL (c : Env → Sto → Res Bool) (b : Env → Sto → Out) (ρ : Env) (st : Sto) : Out :=
  if h : ∃ n, (wIter c b n ρ st).isSome then (wIter c b h.choose ρ st).getD .bad else .bad

/-! ### calls -/
abbrev Call := String → List W → Sto → Res W
def W.below (n : Nat) : W → Bool
  | .ref k => decide (k < n)
  | _ => true
def Cell.below (n : Nat) : Cell → Bool
  | .lst ws => ws.all (W.below n)
  | .dct kvs => kvs.all fun p => p.2.below n
  | .ins _ fs => fs.all fun p => p.2.below n
  | .dead => true
/-- older cells are as they were, or name older cells alone -/
def okOld (st st' : Sto) : Prop := ∀ i, i < st.length → st'[i]? = st[i]? ∨ ∃ c, st'[i]? = some c ∧ c.below st.length = true
/-- a value as it stands once the cells from n on are frozen -/
def frzW (n : Nat) (st : Sto) (w : W) : Option W := match w with
  | .ref k => if k < n then some w else (vw st w).map .d
  | w => some w
def frzF (n : Nat) (st : Sto) : List (String × W) → Option (List (String × W))
  | [] => some []
  | (f, w) :: r => (frzW n st w).bind fun w => (frzF n st r).map ((f, w) :: ·)
open Classical in
noncomputable def exitOk (m : Mode) (st : Sto) (w : W) (st' : Sto) : Res W := match m with
  | .pure => if st'.take st.length = st then Res.of (frzW st.length st' w) st else .bad
  | .eff => if st.length ≤ st'.length ∧ okOld st st' then Res.of (frzW st.length st' w) (st'.take st.length) else .bad
  | .keep => .ok w st'
  | .obj => if st.length ≤ st'.length ∧ okOld st st' then (match w with
    | .ref k => if k < st.length then .bad else (match st'[k]? with
      | some (.ins c fs) => (match frzF st.length st' fs with
        | some fs => .ok (.ref st.length) (st'.take st.length ++ [.ins c fs])
        | none => .bad)
      | some (.lst ws) => if (Cell.lst ws).below st.length then .ok (.ref st.length) (st'.take st.length ++ [.lst ws]) else .bad
      | _ => .bad)
    | _ => .bad) else .bad
open Classical in
noncomputable def exitExn (m : Mode) (st : Sto) (x : Exn) (st' : Sto) : Res W := match m with
  | .keep => .exn x st'
  | _ => if st.length ≤ st'.length ∧ okOld st st' then (match frzF st.length st' x.fs with
    | some fs => .exn ⟨x.c, fs⟩ (st'.take st.length)
    | none => .bad) else .bad
noncomputable def exitR (m : Mode) (st : Sto) : Out → Res W
  | .nx _ st' => exitOk m st noneW st'
  | .rt w st' => exitOk m st w st'
  | .exn x st' => exitExn m st x st'
  | _ => .bad

/-! ### the evaluator -/
section
variable (P : Prog) (R : Fun1) (Φ : Call)
def ofP : Option (W × Sto) → Res W
  | some (w, st) => .ok w st
  | none => .bad
/-- the receiver is of the method's kind -/
def rcv1 (st : Sto) (m : M1) (u : W) : Bool := match m with
  | .append | .extend | .pop | .remove => decide (tyOf st u = some .list)
  | .get | .dpop => decide (tyOf st u = some .dict)
  | .join | .partition | .split => decide (tyOf st u = some .str)
  | .index => decide (tyOf st u = some .list) || decide (tyOf st u = some .str)
/-- what a handler answers -/
def handled (hs : List (String × List Nat × List String)) (x : Exn) (st : Sto) : Option W := match hs with
  | [] => none
  | (c, word, fs) :: r => if c = x.c then (match fs with
    | [f] => (match x.fs.lookup f with
      | some (.d d) => some (.d (.tuple [dStr word, d]))
      | _ => none)
    | [f, g] => (match x.fs.lookup f, x.fs.lookup g with
      | some (.d u), some (.d v) => some (.d (.tuple [dStr word, .tuple [u, v]]))
      | _, _ => none)
    | _ => none) else handled r x st
mutual
noncomputable def evE : E → Env → Sto → Res W
  | .var i, ρ, st => Res.of (varW ρ i) st
  | .glob x, _, st => Res.of (P.glob x) st
  | .none, _, st => .ok noneW st
  | .bl b, _, st => .ok (.d (.bool b)) st
  | .int i, _, st => .ok (.d (.int i)) st
  | .str l, _, st => .ok (.d (dStr l)) st
  | .bin op a b, ρ, st => (evE a ρ st).bind fun x st => (evE b ρ st).bind fun y st => Res.of (binW st op x y) st
  | .neg a, ρ, st => (evE a ρ st).bind fun x st => Res.of ((int? x).map fun i => .d (.int (-i))) st
  | .not a, ρ, st => (evE a ρ st).bind fun x st => match x with
    | .d (.bool b) => .ok (.d (.bool (!b))) st
    | _ => .bad
  | .cmp op a b, ρ, st => (evE a ρ st).bind fun x st => (evE b ρ st).bind fun y st => Res.of ((cmpW st op x y).map fun b => .d (.bool b)) st
  | .chain o1 o2 a b c, ρ, st => (evE a ρ st).bind fun x st => (evE b ρ st).bind fun y st => (Res.of (cmpW st o1 x y) st).bind fun k st =>
    if k then (evE c ρ st).bind fun z st => Res.of ((cmpW st o2 y z).map fun b => .d (.bool b)) st else .ok (.d (.bool false)) st
  | .and a b, ρ, st => (evE a ρ st).bind fun x st => match x with
    | .d (.bool true) => evE b ρ st
    | .d (.bool false) => .ok (.d (.bool false)) st
    | _ => .bad
  | .or a b, ρ, st => (evE a ρ st).bind fun x st => match x with
    | .d (.bool false) => evE b ρ st
    | .d (.bool true) => .ok (.d (.bool true)) st
    | _ => .bad
  | .ife c a b, ρ, st => (evC c ρ st).bind fun k st => if k then evE a ρ st else evE b ρ st
  | .tup es, ρ, st => (evEs es ρ st).bind fun ws st => match allD ws with
    | some xs => if xs.length ≤ SZ then .ok (.d (.tuple xs)) st else .bad
    | none => .bad
  | .pur f, ρ, st => (evF f ρ st).bind fun c st => Res.of c.pur st
  | .new f, ρ, st => (evF f ρ st).bind fun c st => .ok (.ref st.length) (st ++ [c.cell])
  | .idx a b, ρ, st => (evE a ρ st).bind fun x st => (evE b ρ st).bind fun y st => Res.of (idxW st x y) st
  | .didx a b, ρ, st => (evE a ρ st).bind fun x st => (evE b ρ st).bind fun y st => Res.of (idxDW st x y) st
  | .bad, _, _ => .bad
  | .sl a lo hi, ρ, st => (evE a ρ st).bind fun x st => (evO lo ρ st).bind fun l st => (evO hi ρ st).bind fun h st => Res.of (slW st x l h) st
  | .rev a, ρ, st => (evE a ρ st).bind fun x st => Res.of ((vw st x).bind fun d => (revD d).map .d) st
  | .fld a f, ρ, st => (evE a ρ st).bind fun x st => Res.of (fldW st x f) st
  | .call f es, ρ, st => (evEs es ρ st).bind fun ws st => Φ f ws st
  | .callv i cs es, ρ, st => match varW ρ i with
    | some (.fn f) => if cs.contains f then (evEs es ρ st).bind fun ws st => Φ f ws st else .bad
    | _ => .bad
  | .make c es, ρ, st => (evEs es ρ st).bind fun ws st => (Φ (c ++ ".__init__") (.ref st.length :: ws) (st ++ [.ins c []])).bind fun w st' => match w with
    | .d .none => .ok (.ref st.length) st'
    | _ => .bad
  | .meth m a es, ρ, st => (evE a ρ st).bind fun x st => match x with
    | .ref n => (match st[n]? with
      | some (.ins c _) => (evEs es ρ st).bind fun ws st => Φ (c ++ "." ++ m) (.ref n :: ws) st
      | _ => .bad)
    | _ => .bad
  | .isi a ts, ρ, st => (evE a ρ st).bind fun x st => Res.of ((isiW st x ts).map fun b => .d (.bool b)) st
  | .b1 b a, ρ, st => (evE a ρ st).bind fun x st => Res.of (b1W R st b x) st
  | .b2 b x y, ρ, st => (evE x ρ st).bind fun u st => (evE y ρ st).bind fun v st => Res.of (b2W b u v) st
  | .maxd a d, ρ, st => (evE a ρ st).bind fun u st => (evE d ρ st).bind fun v st => Res.of (maxdW st u v) st
  | .m0 m a, ρ, st => (evE a ρ st).bind fun x st => Res.of (m0W m x) st
  | .m1 m a x, ρ, st => (evE a ρ st).bind fun u st => if rcv1 st m u then (evE x ρ st).bind fun v st => ofP (m1W st m u v) else .bad
  | .m2 m a x y, ρ, st => (evE a ρ st).bind fun u st => if tyOf st u = some .dict then (evE x ρ st).bind fun v st => (evE y ρ st).bind fun z st => ofP (m2W st m u v z) else .bad
  | .refused f b, ρ, st => match P.refused f, exitR .eff st (match evE b ρ st with
      | .ok _ st' => .nx ρ st'
      | .exn x st' => .exn x st'
      | .bad => .bad) with
    | some _, .ok _ st' => .ok (.d (.tuple [dStr [], .none])) st'
    | some hs, .exn x st' => Res.of (handled hs x st') st'
    | _, _ => .bad
noncomputable def evO : O → Env → Sto → Res (Option Int)
  | .no, _, st => .ok none st
  | .e a, ρ, st => (evE a ρ st).bind fun x st => Res.of ((int? x).map some) st
noncomputable def evEs : Es → Env → Sto → Res (List W)
  | .nil, _, st => .ok [] st
  | .cons e r, ρ, st => (evE e ρ st).bind fun w st => (evEs r ρ st).bind fun ws st => .ok (w :: ws) st
  | .star e r, ρ, st => (evE e ρ st).bind fun w st => (Res.of (srcW st w) st).bind fun s st => (evEs r ρ st).bind fun ws st => .ok (s.1 ++ ws) st
noncomputable def evPs : Ps → Env → Sto → Res (List (D × W))
  | .nil, _, st => .ok [] st
  | .cons k v r, ρ, st => (evE k ρ st).bind fun kw st => (evE v ρ st).bind fun w st => match kw with
    | .d k => if keyC k then (evPs r ρ st).bind fun kvs st => .ok ((k, w) :: kvs) st else .bad
    | _ => .bad
noncomputable def evC : C → Env → Sto → Res Bool
  | .e a, ρ, st => (evE a ρ st).bind fun x st => Res.of (truW st x) st
  | .and a b, ρ, st => (evC a ρ st).bind fun k st => if k then evC b ρ st else .ok false st
  | .or a b, ρ, st => (evC a ρ st).bind fun k st => if k then .ok true st else evC b ρ st
  | .not a, ρ, st => (evC a ρ st).bind fun k st => .ok (!k) st
noncomputable def evCs : Cs → Env → Sto → Res Bool
  | .no, _, st => .ok true st
  | .c c, ρ, st => evC c ρ st
noncomputable def evF : F → Env → Sto → Res Fr
  | .lst es, ρ, st => (evEs es ρ st).bind fun ws st => if ws.length ≤ SZ then .ok (.l ws) st else .bad
  | .dct ps, ρ, st => (evPs ps ρ st).bind fun kvs st => .ok (.m (mergeK [] kvs)) st
  | .lc own tg it c a, ρ, st => (evI it ρ st).bind fun s st => if SZ < s.1.length then .bad else (lcL s.2 (fun w st => match asgT tg w (wip ρ own) with
      | some ρ' => (evCs c ρ' st).bind fun k st => if k then (evE a ρ' st).bind fun y st => .ok (some y) st else .ok none st
      | none => .bad) s.1 st).bind fun ys st => .ok (.l ys) st
  | .dc own tg it c k v, ρ, st => (evI it ρ st).bind fun s st => if SZ < s.1.length then .bad else (lcL s.2 (fun w st => match asgT tg w (wip ρ own) with
      | some ρ' => (evCs c ρ' st).bind fun b st => if b then (evE k ρ' st).bind fun x st => (evE v ρ' st).bind fun y st => (match x with
          | .d x => if keyC x then Res.ok (some (x, y)) st else Res.bad
          | _ => Res.bad) else .ok none st
      | none => .bad) s.1 st).bind fun kvs st => .ok (.m (mergeK [] kvs)) st
  | .sorted a, ρ, st => (evE a ρ st).bind fun x st => match (lstW st x).bind allD with
    | some xs => if sortOk xs then .ok (.l ((sortD xs).map .d)) st else .bad
    | none => .bad
  | .list a, ρ, st => (evE a ρ st).bind fun x st => match srcW st x with
    | some s => .ok (.l s.1) st
    | none => .bad
  | .dict a, ρ, st => (evE a ρ st).bind fun x st => match seqD st x with
    | some xs => (match pairsD xs with
      | some kvs => .ok (.m ((mergeK [] kvs).map fun p => (p.1, .d p.2))) st
      | none => .bad)
    | none => .bad
  | .cat a b, ρ, st => (evE a ρ st).bind fun x st => (evE b ρ st).bind fun y st => match lstW st x, lstW st y with
    | some u, some v => if u.length + v.length ≤ SZ then .ok (.l (u ++ v)) st else .bad
    | _, _ => .bad
noncomputable def evI : I → Env → Sto → Res Src
  | .e a, ρ, st => (evE a ρ st).bind fun x st => Res.of (srcW st x) st
  | .keys a, ρ, st => (evE a ρ st).bind fun x st => Res.of (keysW st x) st
  | .items a, ρ, st => (evE a ρ st).bind fun x st => Res.of (itemsW st x) st
  | .values a, ρ, st => (evE a ρ st).bind fun x st => Res.of (valuesW st x) st
  | .rng1 a, ρ, st => (evE a ρ st).bind fun x st => match int? x with
    | some i => if rngOk i then .ok (rngL 0 i.toNat, none) st else .bad
    | none => .bad
  | .rng2 a b, ρ, st => (evE a ρ st).bind fun x st => (evE b ρ st).bind fun y st => match int? x, int? y with
    | some i, some j => if rngOk i && rngOk j then .ok (rngL i (j - i).toNat, none) st else .bad
    | _, _ => .bad
  | .rng3 a b c, ρ, st => (evE a ρ st).bind fun x st => (evE b ρ st).bind fun y st => (evE c ρ st).bind fun z st => match int? x, int? y, int? z with
    | some i, some j, some (-1) => if rngOk i && rngOk j then .ok (rngN i (i - j).toNat, none) st else .bad
    | _, _, _ => .bad
  | .enum a k, ρ, st => (evE a ρ st).bind fun x st => match seqD st x with
    | some xs => .ok ((enumL k xs).map .d, guardOf x) st
    | none => .bad
  | .zip a b, ρ, st => (evE a ρ st).bind fun x st => (evE b ρ st).bind fun y st => match seqD st x, seqD st y, guardOf x, guardOf y with
    | some u, some v, none, g => .ok ((zipL u v).map .d, g) st
    | some u, some v, some g, none => .ok ((zipL u v).map .d, some g) st
    | _, _, _, _ => .bad
  | .enumz a b, ρ, st => (evE a ρ st).bind fun x st => (evE b ρ st).bind fun y st => match seqD st x, seqD st y, guardOf y with
    | some u, some v, none => .ok ((enumL 0 (zipL u v)).map .d, guardOf x) st
    | _, _, _ => .bad
end

def atIx (n : Nat) (i : Int) : Option Nat := if 0 ≤ i then (if i.toNat < n then some i.toNat else none) else if 0 ≤ (n : Int) + i then some ((n : Int) + i).toNat else none
/-- a[i] = w -/
def setIxW (st : Sto) (a i w : W) : Option Sto := match a, i with
  | .ref n, .d k => (match st[n]? with
    | some (.lst ws) => (match k with
      | .int i => (match atIx ws.length i with
        | some j => some (st.set n (.lst (ws.set j w)))
        | none => none)
      | _ => none)
    | _ => none)
  | _, _ => none
def setKeyW (st : Sto) (a i w : W) : Option Sto := match a, i with
  | .ref n, .d k => (match st[n]? with
    | some (.dct kvs) => if keyC k && decide (kvs.length < SZ) then some (st.set n (.dct (put k w kvs))) else none
    | _ => none)
  | _, _ => none
def setFldW (st : Sto) (a : W) (f : String) (w : W) : Option Sto := match a with
  | .ref n => (match st[n]? with
    | some (.ins c fs) => if fs.length < 900 then some (st.set n (.ins c (putFl f w fs))) else none
    | _ => none)
  | _ => none
/-- the fields of a new exception -/
def excFs (c : String) (ws : List W) : Option (List (String × W)) := match P.exc c, ws with
  | some 1, [] => some [("value", noneW)]
  | some 1, [w] => some [("value", w)]
  | some 2, [u, v] => some [("limit", v), ("what", u), ("value", u)]
  | _, _ => none
def frzS (ρ : Env) (st : Sto) (i : Nat) : Out := match varW ρ i with
  | some (.ref n) => (match vw st (.ref n) with
    | some x => .nx (ρ.set i (some (.d x))) (st.set n .dead)
    | none => .bad)
  | some (.d _) => .nx ρ st
  | _ => .bad
mutual
noncomputable def evS : S → Env → Sto → Out
  | .set tg e, ρ, st => (evE P R Φ e ρ st).out fun w st => match asgT tg w ρ with
    | some ρ' => .nx ρ' st
    | none => .bad
  | .par i j a b, ρ, st => (evE P R Φ a ρ st).out fun v st => (evE P R Φ b ρ st).out fun w st => .nx ((ρ.set i (some v)).set j (some w)) st
  | .setIx a i e, ρ, st => (evE P R Φ e ρ st).out fun w st => (evE P R Φ a ρ st).out fun x st => (evE P R Φ i ρ st).out fun k st => match setIxW st x k w with
    | some st' => .nx ρ st'
    | none => .bad
  | .setKey a i e, ρ, st => (evE P R Φ e ρ st).out fun w st => (evE P R Φ a ρ st).out fun x st => (evE P R Φ i ρ st).out fun k st => match setKeyW st x k w with
    | some st' => .nx ρ st'
    | none => .bad
  | .setFld a f e, ρ, st => (evE P R Φ e ρ st).out fun w st => (evE P R Φ a ρ st).out fun x st => match setFldW st x f w with
    | some st' => .nx ρ st'
    | none => .bad
  | .aug i op e, ρ, st => match varW ρ i with
    | some x => (evE P R Φ e ρ st).out fun y st => match augW op x y with
      | some w => .nx (ρ.set i (some w)) st
      | none => .bad
    | none => .bad
  | .ex e, ρ, st => (evE P R Φ e ρ st).out fun _ st => .nx ρ st
  | .ife c a b, ρ, st => (evC P R Φ c ρ st).out fun k st => if k then evSs a ρ st else evSs b ρ st
  | .for tg it b, ρ, st => (evI P R Φ it ρ st).out fun s st => forL s.2 (fun w ρ st => match asgT tg w ρ with
    | some ρ' => evSs b ρ' st
    | none => .bad) s.1 ρ st
  | .while c b, ρ, st => whileL (evC P R Φ c) (evSs b) ρ st
  | .ret e, ρ, st => (evE P R Φ e ρ st).out fun w st => .rt w st
  | .retN, _, st => .rt noneW st
  | .raise c es, ρ, st => (evEs P R Φ es ρ st).out fun ws st => match excFs P c ws with
    | some fs => .exn ⟨c, fs⟩ st
    | none => .bad
  | .brk, ρ, st => .bk ρ st
  | .cont, ρ, st => .ct ρ st
  | .pass, ρ, st => .nx ρ st
  | .bad, _, _ => .bad
  | .freeze i, ρ, st => frzS ρ st i
noncomputable def evSs : Ss → Env → Sto → Out
  | .nil, ρ, st => .nx ρ st
  | .cons s r, ρ, st => (evS s ρ st).next fun ρ st => evSs r ρ st
end
end
def entry (fn : Fn) (ws : List W) : Env := ws.map some ++ List.replicate (fn.slots - fn.params) none
noncomputable def runFn (P : Prog) (R : Fun1) (Φ : Call) (fn : Fn) (ws : List W) (st : Sto) : Res W :=
  if ws.length = fn.params then exitR fn.mode st (evSs P R Φ fn.body (entry fn ws) st) else .bad
noncomputable def callD (P : Prog) (R : Fun1) : Nat → Call
  | 0 => fun _ _ _ => .bad
  | n + 1 => fun f ws st => match P.fn f with
    | some fn => runFn P R (callD P R n) fn ws st
    | none => .bad
end FM
end

section
/-! FM2: how the evaluator's values and store lie in the layer's abstract heap. -/
set_option Elab.async false
set_option linter.all false
set_option maxRecDepth 100000
set_option autoImplicit false
namespace FM
open PySem PySem.Spec PyProof.Rows L2

/-- what stands where, once the top has run -/
structure Rt where
  prog : Program
  w : World
  K : PySem.W.Frag
  fa : String → Addr
  ca : String → Addr
  tabs : List (Addr × Str)

/-! ### keys -/
mutual
def nk : D → NestedKey
  | .int i => .num i
  | .str x => .text x
  | .tuple xs => .tup (nkAll xs)
  | _ => .none
def nkAll : List D → List NestedKey
  | [] => []
  | x :: xs => nk x :: nkAll xs
end
def hashD (Y : Rt) : D → Int
  | .int i => hashInt i
  | .str x => hashStr Y.w x
  | d => (nestedKind Y.prog Y.w).hash (nk d)

/-- a dict object with the entries es -/
def DctO (a : Addr) (es : List DictEntry) : HO := .ext fun h => ∃ o ep, h.get? a = some o ∧ o.ExactDict ∧ o.data = .dict es.toArray ep
/-- the same of the written part -/
def DctK (K : PySem.W.Frag) (a : Addr) (es : List DictEntry) : Prop := ∃ o ep, K.lookup a = some o ∧ o.ExactDict ∧ o.data = .dict es.toArray ep

/-! ### data in the abstract heap; nl: the addresses that stand still -/
section
variable (Y : Rt) (H : Hp) (nl : Addr → Prop)
def TupC (a : Addr) (vs : List V) : Prop := (Rd H a (.tup vs) ∧ nl a) ∨
  ∃ (o : Obj) (its : Array Value) (n : Nat), Y.K.lookup a = some o ∧ o.cls = .type "tuple" ∧ o.data = .seq its n ∧ its.size ≤ sizeLine ∧ Vals vs its.toList
def LstC (a : Addr) (vs : List V) : Prop := Rd H a (.lst vs) ∧ nl a
def DctC (a : Addr) (es : List DictEntry) : Prop := (H a = some (DctO a es) ∧ nl a) ∨ DctK Y.K a es
mutual
inductive PV : V → D → Prop
  | none : PV .non .none
  | bool (b : Bool) : PV (.bl b) (.bool b)
  | int (i : Int) : PV (.int i) (.int i)
  | str (x : Str) : PV (.str x) (.str x)
  | tup {a : Addr} {vs : List V} {ds : List D} : TupC Y H nl a vs → PVs vs ds → PV (.ref a) (.tuple ds)
  | lst {a : Addr} {vs : List V} {ds : List D} : LstC H nl a vs → PVs vs ds → PV (.ref a) (.list ds)
  | dct {a : Addr} {es : List DictEntry} {kvs : List (D × D)} : DctC Y H nl a es → (a == sysModules) = false → es.length ≤ sizeLine → PEs es kvs → (kvs.map fun p => nk p.1).Nodup → PV (.ref a) (.dict kvs)
inductive PVs : List V → List D → Prop
  | nil : PVs [] []
  | cons {v : V} {vs : List V} {d : D} {ds : List D} : PV v d → PVs vs ds → PVs (v :: vs) (d :: ds)
inductive PEs : List DictEntry → List (D × D) → Prop
  | nil : PEs [] []
  | cons {e : DictEntry} {es : List DictEntry} {k d : D} {r : List (D × D)} {kv v : V} : RelV kv e.key → PV kv k → keyC k = true → e.hash = hashD Y k → RelV v e.val → PV v d → PEs es r → PEs (e :: es) ((k, d) :: r)
end
end

/-! ### the store -/
/-- μ: where the cells stand; R: addresses that belong to a loop or a comprehension under way -/
structure Wd where
  R : List Addr
  μ : List Addr
  st : Sto
  H : Hp
def Wd.live (x : Wd) (a : Addr) : Prop := ∃ (n : Nat) (c : Cell), x.μ[n]? = some a ∧ x.st[n]? = some c ∧ c ≠ Cell.dead
def Wd.nl (x : Wd) (a : Addr) : Prop := a ∉ x.R ∧ ¬ x.live a
def PW (Y : Rt) (x : Wd) (v : V) (d : D) : Prop := PV Y x.H x.nl v d
inductive WV (Y : Rt) (x : Wd) : V → W → Prop
  | d {v : V} {d : D} : PV Y x.H x.nl v d → WV Y x v (.d d)
  | ref {n : Nat} {a : Addr} : x.μ[n]? = some a → WV Y x (.ref a) (.ref n)
  | fn (f : String) : WV Y x (.ref (Y.fa f)) (.fn f)
inductive WVs (Y : Rt) (x : Wd) : List V → List W → Prop
  | nil : WVs Y x [] []
  | cons {v : V} {w : W} {vs : List V} {ws : List W} : WV Y x v w → WVs Y x vs ws → WVs Y x (v :: vs) (w :: ws)
inductive WEs (Y : Rt) (x : Wd) : List DictEntry → List (D × W) → Prop
  | nil : WEs Y x [] []
  | cons {e : DictEntry} {es : List DictEntry} {k : D} {w : W} {r : List (D × W)} {kv v : V} : RelV kv e.key → PV Y x.H x.nl kv k → keyC k = true → e.hash = hashD Y k → RelV v e.val → WV Y x v w → WEs Y x es r → WEs Y x (e :: es) ((k, w) :: r)
inductive WFs (Y : Rt) (x : Wd) : List (Str × V) → List (String × W) → Prop
  | nil : WFs Y x [] []
  | cons {f : String} {v : V} {w : W} {fs : List (Str × V)} {ws : List (String × W)} : WV Y x v w → WFs Y x fs ws → WFs Y x ((Str.ofString f, v) :: fs) ((f, w) :: ws)
def CellOk (Y : Rt) (x : Wd) (a : Addr) : Cell → Prop
  | .lst ws => ∃ vs, x.H a = some (.lst vs) ∧ WVs Y x vs ws
  | .dct kvs => ∃ es, x.H a = some (DctO a es) ∧ (a == sysModules) = false ∧ es.length ≤ sizeLine ∧ WEs Y x es kvs ∧ (kvs.map fun p => nk p.1).Nodup
  | .ins c fs => ∃ dx vs, x.H a = some (.ins (Y.ca c) dx vs) ∧ WFs Y x vs fs ∧ (fs.map (·.1)).Nodup
  | .dead => True
structure SR (Y : Rt) (x : Wd) : Prop where
  len : x.μ.length = x.st.length
  nd : x.μ.Nodup
  dom : ∀ a ∈ x.μ, ∃ o, x.H a = some o ∧ (∀ ps, o ≠ .tbl ps) ∧ ∀ q, o ≠ LamX.CodeO a q
  res : ∀ a ∈ x.R, a ∉ x.μ ∧ ∃ o, x.H a = some o ∧ ∀ ps, o ≠ .tbl ps
  cell : ∀ (n : Nat) (a : Addr) (c : Cell), x.μ[n]? = some a → x.st[n]? = some c → CellOk Y x a c
  tabs : LamX.Tabs Y.tabs x.H
/-- from x to y: what stood still stands, the cells keep their places -/
structure Ext (x y : Wd) : Prop where
  R : y.R = x.R
  pre : x.μ <+: y.μ
  keep : ∀ a o, x.H a = some o → (∀ ps, o ≠ .tbl ps) → ¬ x.live a → y.H a = some o ∧ ¬ y.live a
  dom : ∀ a o, x.H a = some o → (∀ ps, o ≠ .tbl ps) → ∃ o', y.H a = some o' ∧ ∀ ps, o' ≠ .tbl ps
theorem Ext.refl (x : Wd) : Ext x x := ⟨rfl, List.prefix_refl _, fun _ _ h _ n => ⟨h, n⟩, fun _ o h t => ⟨o, h, t⟩⟩
theorem Ext.trans {x y z : Wd} (a : Ext x y) (b : Ext y z) : Ext x z := by
  refine ⟨b.R.trans a.R, a.pre.trans b.pre, fun c o h t n => ?_, fun c o h t => ?_⟩
  · obtain ⟨h1, n1⟩ := a.keep c o h t n
    exact b.keep c o h1 t n1
  · obtain ⟨o1, h1, t1⟩ := a.dom c o h t
    exact b.dom c o1 h1 t1
theorem Ext.nl {x y : Wd} (e : Ext x y) {a : Addr} {o : HO} (h : x.H a = some o) (t : ∀ ps, o ≠ .tbl ps) (n : x.nl a) : y.H a = some o ∧ y.nl a := by
  obtain ⟨h1, n1⟩ := e.keep a o h t n.2
  exact ⟨h1, by rw [e.R]; exact n.1, n1⟩
theorem Ext.get {x y : Wd} (e : Ext x y) {n : Nat} {a : Addr} (h : x.μ[n]? = some a) : y.μ[n]? = some a := by
  obtain ⟨l, hl⟩ := e.pre
  rw [← hl]
  exact List.getElem?_append_left (List.getElem?_eq_some_iff.mp h).1 |>.trans h

/-- what is known at x is known at y -/
structure Mv (x y : Wd) : Prop where
  pre : x.μ <+: y.μ
  nl_ : ∀ a o, x.H a = some o → (∀ ps, o ≠ .tbl ps) → x.nl a → y.H a = some o ∧ y.nl a
theorem Mv.nl {x y : Wd} (e : Mv x y) {a : Addr} {o : HO} (h : x.H a = some o) (t : ∀ ps, o ≠ .tbl ps) (n : x.nl a) : y.H a = some o ∧ y.nl a := e.nl_ a o h t n
theorem Mv.get {x y : Wd} (e : Mv x y) {n : Nat} {a : Addr} (h : x.μ[n]? = some a) : y.μ[n]? = some a := by
  obtain ⟨l, hl⟩ := e.pre
  rw [← hl]
  exact List.getElem?_append_left (List.getElem?_eq_some_iff.mp h).1 |>.trans h
theorem Mv.trans {x y z : Wd} (a : Mv x y) (b : Mv y z) : Mv x z := ⟨a.pre.trans b.pre, fun c o h t n => by
  obtain ⟨h1, n1⟩ := a.nl_ c o h t n
  exact b.nl_ c o h1 t n1⟩
theorem Ext.mv {x y : Wd} (e : Ext x y) : Mv x y := ⟨e.pre, fun _ _ h t n => e.nl h t n⟩
section
variable {Y : Rt} {x y : Wd}
theorem Mv.tupC (e : Mv x y) {a : Addr} {vs : List V} (h : TupC Y x.H x.nl a vs) : TupC Y y.H y.nl a vs := by
  rcases h with ⟨h, n⟩ | h
  · rcases h with h | ⟨o, h⟩
    · obtain ⟨h1, n1⟩ := e.nl h (fun _ z => by cases z) n
      exact .inl ⟨.inl h1, n1⟩
    · obtain ⟨h1, n1⟩ := e.nl h (fun _ z => by cases z) n
      exact .inl ⟨.inr ⟨o, h1⟩, n1⟩
  · exact .inr h
theorem Mv.lstC (e : Mv x y) {a : Addr} {vs : List V} (h : LstC x.H x.nl a vs) : LstC y.H y.nl a vs := by
  obtain ⟨h, n⟩ := h
  rcases h with h | ⟨o, h⟩
  · obtain ⟨h1, n1⟩ := e.nl h (fun _ z => by cases z) n
    exact ⟨.inl h1, n1⟩
  · obtain ⟨h1, n1⟩ := e.nl h (fun _ z => by cases z) n
    exact ⟨.inr ⟨o, h1⟩, n1⟩
theorem Mv.dctC (e : Mv x y) {a : Addr} {es : List DictEntry} (h : DctC Y x.H x.nl a es) : DctC Y y.H y.nl a es := by
  rcases h with ⟨h, n⟩ | h
  · obtain ⟨h1, n1⟩ := e.nl h (fun _ z => by cases z) n
    exact .inl ⟨h1, n1⟩
  · exact .inr h
mutual
theorem Mv.pv (e : Mv x y) : ∀ {v : V} {d : D}, PV Y x.H x.nl v d → PV Y y.H y.nl v d
  | _, _, .none => .none
  | _, _, .bool b => .bool b
  | _, _, .int i => .int i
  | _, _, .str s => .str s
  | _, _, .tup h1 h2 => .tup (e.tupC h1) (Mv.pvs e h2)
  | _, _, .lst h1 h2 => .lst (e.lstC h1) (Mv.pvs e h2)
  | _, _, .dct h1 h2 h3 h4 h5 => .dct (e.dctC h1) h2 h3 (Mv.pes e h4) h5
theorem Mv.pvs (e : Mv x y) : ∀ {vs : List V} {ds : List D}, PVs Y x.H x.nl vs ds → PVs Y y.H y.nl vs ds
  | _, _, .nil => .nil
  | _, _, .cons h1 h2 => .cons (Mv.pv e h1) (Mv.pvs e h2)
theorem Mv.pes (e : Mv x y) : ∀ {es : List DictEntry} {kvs : List (D × D)}, PEs Y x.H x.nl es kvs → PEs Y y.H y.nl es kvs
  | _, _, .nil => .nil
  | _, _, .cons h1 h2 h3 h4 h5 h6 h7 => .cons h1 (Mv.pv e h2) h3 h4 h5 (Mv.pv e h6) (Mv.pes e h7)
end
theorem Mv.wv (e : Mv x y) {v : V} {w : W} (h : WV Y x v w) : WV Y y v w := by
  cases h with
  | d h => exact .d (e.pv h)
  | ref h => exact .ref (e.get h)
  | fn f => exact .fn f
theorem Mv.wvs (e : Mv x y) {vs : List V} {ws : List W} (h : WVs Y x vs ws) : WVs Y y vs ws := by
  induction h with
  | nil => exact .nil
  | cons h _ ih => exact .cons (e.wv h) ih
theorem Mv.wes (e : Mv x y) {es : List DictEntry} {ws : List (D × W)} (h : WEs Y x es ws) : WEs Y y es ws := by
  induction h with
  | nil => exact .nil
  | cons h1 h2 h3 h4 h5 h6 _ ih => exact .cons h1 (e.pv h2) h3 h4 h5 (e.wv h6) ih
theorem Mv.wfs (e : Mv x y) {fs : List (Str × V)} {ws : List (String × W)} (h : WFs Y x fs ws) : WFs Y y fs ws := by
  induction h with
  | nil => exact .nil
  | cons h1 _ ih => exact .cons (e.wv h1) ih
theorem Ext.tupC (e : Ext x y) {a : Addr} {vs : List V} (h : TupC Y x.H x.nl a vs) : TupC Y y.H y.nl a vs := e.mv.tupC h
theorem Ext.dctC (e : Ext x y) {a : Addr} {es : List DictEntry} (h : DctC Y x.H x.nl a es) : DctC Y y.H y.nl a es := e.mv.dctC h
theorem Ext.pv (e : Ext x y) {v : V} {d : D} (h : PV Y x.H x.nl v d) : PV Y y.H y.nl v d := e.mv.pv h
theorem Ext.pvs (e : Ext x y) {v : List V} {d : List D} (h : PVs Y x.H x.nl v d) : PVs Y y.H y.nl v d := e.mv.pvs h
theorem Ext.pes (e : Ext x y) {v : List DictEntry} {d : List (D × D)} (h : PEs Y x.H x.nl v d) : PEs Y y.H y.nl v d := e.mv.pes h
theorem Ext.wv (e : Ext x y) {v : V} {w : W} (h : WV Y x v w) : WV Y y v w := e.mv.wv h
theorem Ext.wvs (e : Ext x y) {v : List V} {w : List W} (h : WVs Y x v w) : WVs Y y v w := e.mv.wvs h
theorem Ext.wes (e : Ext x y) {v : List DictEntry} {w : List (D × W)} (h : WEs Y x v w) : WEs Y y v w := e.mv.wes h
theorem Ext.wfs (e : Ext x y) {v : List (Str × V)} {w : List (String × W)} (h : WFs Y x v w) : WFs Y y v w := e.mv.wfs h
theorem Ext.lstC (e : Ext x y) {a : Addr} {vs : List V} (h : LstC x.H x.nl a vs) : LstC y.H y.nl a vs := e.mv.lstC h
/-! lists of values -/
theorem WVs.length {vs : List V} {ws : List W} (h : WVs Y x vs ws) : vs.length = ws.length := by
  induction h with
  | nil => rfl
  | cons _ _ ih => simp [ih]
theorem PVs.length {H : Hp} {nl : Addr → Prop} : ∀ {vs : List V} {ds : List D}, PVs Y H nl vs ds → vs.length = ds.length
  | _, _, .nil => rfl
  | _, _, .cons _ h => by simp [PVs.length h]
theorem WVs.get {vs : List V} {ws : List W} (h : WVs Y x vs ws) : ∀ {i : Nat} {w : W}, ws[i]? = some w → ∃ v, vs[i]? = some v ∧ WV Y x v w := by
  induction h with
  | nil => intro i w e; simp at e
  | cons h _ ih =>
    intro i w e
    cases i with
    | zero => simp at e; subst e; exact ⟨_, rfl, h⟩
    | succ i => obtain ⟨v, e1, e2⟩ := ih (i := i) (w := w) (by simpa using e); exact ⟨v, by simpa using e1, e2⟩
theorem WVs.getV {vs : List V} {ws : List W} (h : WVs Y x vs ws) : ∀ {i : Nat} {v : V}, vs[i]? = some v → ∃ w, ws[i]? = some w ∧ WV Y x v w := by
  induction h with
  | nil => intro i w e; simp at e
  | cons h _ ih =>
    intro i w e
    cases i with
    | zero => simp at e; subst e; exact ⟨_, rfl, h⟩
    | succ i => obtain ⟨v, e1, e2⟩ := ih (i := i) (v := w) (by simpa using e); exact ⟨v, by simpa using e1, e2⟩
theorem WVs.append {vs vs' : List V} {ws ws' : List W} (h : WVs Y x vs ws) (h' : WVs Y x vs' ws') : WVs Y x (vs ++ vs') (ws ++ ws') := by
  induction h with
  | nil => exact h'
  | cons h _ ih => exact .cons h ih
theorem WVs.set {v : V} {w : W} (hv : WV Y x v w) {vs : List V} {ws : List W} (h : WVs Y x vs ws) : ∀ i : Nat, WVs Y x (vs.set i v) (ws.set i w) := by
  induction h with
  | nil => intro i; exact .nil
  | cons h t ih =>
    intro i
    cases i with
    | zero => exact .cons hv t
    | succ i => exact .cons h (ih i)
theorem PVs.wvs : ∀ {vs : List V} {ds : List D}, PVs Y x.H x.nl vs ds → WVs Y x vs (ds.map W.d)
  | _, _, .nil => .nil
  | _, _, .cons h t => .cons (.d h) (PVs.wvs t)
theorem WVs.pvs : ∀ {ws : List W} {vs : List V} {ds : List D}, WVs Y x vs ws → allD ws = some ds → PVs Y x.H x.nl vs ds
  | [], _, _, h, e => by
    cases h
    simp [allD] at e
    subst e
    exact .nil
  | w :: ws, _, ds, h, e => by
    cases h with
    | cons h t =>
      cases h with
      | d h =>
        simp only [allD, Option.map_eq_some_iff] at e
        obtain ⟨r, e1, e2⟩ := e
        subst e2
        exact .cons h (WVs.pvs t e1)
      | ref _ => simp [allD] at e
      | fn _ => simp [allD] at e
end
end FM
end

section
/-! FM3: the judgements, and how they are chained. -/
set_option Elab.async false
set_option linter.all false
set_option maxRecDepth 100000
set_option autoImplicit false
namespace FM
open PySem PySem.Spec PyProof.Rows L2

/-- where the defs, the classes and the tables of code objects stand -/
structure Gd where
  fa : String → Addr
  ca : String → Addr
  tabs : List (Addr × Str)
abbrev yof (G : Gd) (X : Cx) : Rt := ⟨X.prog, X.w, X.K, G.fa, G.ca, G.tabs⟩

structure EnvOk (Y : Rt) (x : Wd) (ρ : Env) (σ : L2.St) : Prop where
  len : ρ.length = σ.length
  at_ : ∀ (i : Nat) (w : W), ρ[i]? = some (some w) → ∃ v, σ[i]? = some (some v) ∧ WV Y x v w
section
variable {Y : Rt} {x y : Wd} {ρ : Env} {σ : L2.St}
theorem EnvOk.ext (h : EnvOk Y x ρ σ) (e : Ext x y) : EnvOk Y y ρ σ := ⟨h.len, fun i w hi => let ⟨v, h1, h2⟩ := h.at_ i w hi; ⟨v, h1, e.wv h2⟩⟩
theorem EnvOk.mv (h : EnvOk Y x ρ σ) (e : Mv x y) : EnvOk Y y ρ σ := ⟨h.len, fun i w hi => let ⟨v, h1, h2⟩ := h.at_ i w hi; ⟨v, h1, e.wv h2⟩⟩
theorem EnvOk.var (h : EnvOk Y x ρ σ) {i : Nat} {w : W} (e : varW ρ i = some w) : ∃ v, σ[i]? = some (some v) ∧ WV Y x v w := by
  refine h.at_ i w ?_
  unfold varW at e
  split at e
  · rename_i u hu
    cases e
    exact hu
  · cases e
theorem EnvOk.set (h : EnvOk Y x ρ σ) {i : Nat} {v : V} {w : W} (hv : WV Y x v w) : EnvOk Y x (ρ.set i (some w)) (σ.set i (some v)) := by
  refine ⟨by simp [h.len], fun j u hj => ?_⟩
  by_cases e : i = j
  · subst e
    by_cases hl : i < ρ.length
    · rw [List.getElem?_set_self hl] at hj
      cases hj
      exact ⟨v, List.getElem?_set_self (by rw [← h.len]; exact hl), hv⟩
    · rw [List.getElem?_eq_none (by simpa using hl)] at hj
      cases hj
  · rw [List.getElem?_set_ne e] at hj
    obtain ⟨v', h1, h2⟩ := h.at_ j u hj
    exact ⟨v', by rw [List.getElem?_set_ne e]; exact h1, h2⟩
theorem EnvOk.wip (h : EnvOk Y x ρ σ) : ∀ vs : List Nat, EnvOk Y x (wip ρ vs) (wipe σ vs)
  | [] => h
  | v :: vs => by
    have ih := EnvOk.wip h vs
    refine ⟨by show ((FM.wip ρ vs).set v none).length = ((L2.wipe σ vs).set v none).length; simp [ih.len], fun j u hj => ?_⟩
    have hj : ((FM.wip ρ vs).set v none)[j]? = some (some u) := hj
    show ∃ v', ((L2.wipe σ vs).set v none)[j]? = some (some v') ∧ _
    by_cases e : v = j
    · subst e
      by_cases hl : v < (FM.wip ρ vs).length
      · rw [List.getElem?_set_self hl] at hj
        cases hj
      · rw [List.getElem?_eq_none (by simpa using hl)] at hj
        cases hj
    · rw [List.getElem?_set_ne e] at hj
      obtain ⟨v', h1, h2⟩ := ih.at_ j u hj
      exact ⟨v', by rw [List.getElem?_set_ne e]; exact h1, h2⟩
/-- an environment that knows less -/
theorem EnvOk.sub {ρ' : Env} (h : EnvOk Y x ρ σ) (hl : ρ'.length = ρ.length) (hs : ∀ (i : Nat) (w : W), ρ'[i]? = some (some w) → ρ[i]? = some (some w)) : EnvOk Y x ρ' σ := ⟨hl.trans h.len, fun i w hi => h.at_ i w (hs i w hi)⟩

/-- an exception as it lies behind its making -/
def ExR (Y : Rt) (y : Wd) (cls : Value) (d : Option Addr) (e : Exn) : Prop :=
  cls = .ref (Y.ca e.c) ∧ ∃ dx fs, d = some dx ∧ y.H dx = some (.xd fs) ∧ y.nl dx ∧ WFs Y y fs e.fs
variable {α β γ δ : Type}
/-- what must hold of an end -/
def rpost (Y : Rt) (Wx : WX) (σ : L2.St) (x : Wd) (rel : Wd → β → α → Prop) (Q : β → Hp → Prop) : Res α → Prop
  | .ok a st' => ∀ v y, Ext x y → SR Y y → y.st = st' → rel y v a → Q v y.H
  | .exn e st' => ∀ cls d y, Ext x y → SR Y y → y.st = st' → ExR Y y cls d e → Wx cls d σ y.H
  | .bad => False
def rd (Y : Rt) (Wx : WX) (rel : Wd → β → α → Prop) (t : Env → Sto → Res α) : L2.St → Hp → (β → Hp → Prop) → Prop :=
  fun σ H Q => ∃ ρ x, x.H = H ∧ SR Y x ∧ EnvOk Y x ρ σ ∧ rpost Y Wx σ x rel Q (t ρ x.st)
theorem rpost_ext {Wx : WX} {rel : Wd → β → α → Prop} {Q : β → Hp → Prop} {r : Res α} (e : Ext x y) (h : rpost Y Wx σ x rel Q r) : rpost Y Wx σ y rel Q r := by
  cases r with
  | ok a st' => exact fun v z e' => h v z (e.trans e')
  | exn a st' => exact fun c d z e' => h c d z (e.trans e')
  | bad => exact h
theorem rpost_bind {Wx : WX} {rel : Wd → β → α → Prop} {rel' : Wd → δ → γ → Prop} {Q : δ → Hp → Prop} {K : β → Hp → Prop} {r : Res α} {f : α → Sto → Res γ}
    (h : rpost Y Wx σ x rel' Q (r.bind f)) (k : ∀ v y a, Ext x y → SR Y y → rel y v a → rpost Y Wx σ y rel' Q (f a y.st) → K v y.H) : rpost Y Wx σ x rel K r := by
  cases r with
  | ok a st' =>
    intro v y e s hy hr
    subst hy
    exact k v y a e s hr (rpost_ext e h)
  | exn a st' => exact h
  | bad => exact h
theorem rpost_imp {Wx : WX} {rel : Wd → β → α → Prop} {Q Q' : β → Hp → Prop} {r : Res α} (h : rpost Y Wx σ x rel Q r) (k : ∀ v H, Q v H → Q' v H) : rpost Y Wx σ x rel Q' r := by
  cases r with
  | ok a st' => exact fun v y e s hy hr => k _ _ (h v y e s hy hr)
  | exn a st' => exact h
  | bad => exact h
/-- the step is done, by an operation on values -/
theorem rpost_of {Wx : WX} {rel : Wd → β → α → Prop} {Q : β → Hp → Prop} {o : Option α} (h : rpost Y Wx σ x rel Q (Res.of o x.st)) : ∃ a, o = some a ∧ ∀ v y, Ext x y → SR Y y → y.st = x.st → rel y v a → Q v y.H := by
  cases o with
  | none => exact h.elim
  | some a => exact ⟨a, rfl, h⟩
end

section
variable {X : Cx} {e : Expr}
theorem _root_.L2.PE.imp {t t' : TE} (h : PE X e t) (k : ∀ σ H Q, t' σ H Q → t σ H Q) : PE X e t' := ⟨fun pins s σ H Q I hq => h.run pins s σ H Q I (k σ H Q hq)⟩
theorem _root_.L2.PT.imp {t t' : TT} (h : PT X e t) (k : ∀ σ H Q, t' σ H Q → t σ H Q) : PT X e t' := ⟨fun pins s σ H Q I hq => h.run pins s σ H Q I (k σ H Q hq)⟩
theorem _root_.L2.PA.imp {es : List Expr} {t t' : TA} (h : PA X es t) (k : ∀ σ H Q, t' σ H Q → t σ H Q) : PA X es t' := ⟨fun pos pins s σ H Q I hq => h.run pos pins s σ H Q I (k σ H Q hq)⟩
theorem _root_.L2.PS.imp {st : Stmt} {t t' : TS} (h : PS X st t) (k : ∀ D σ H, t' D σ H → t D σ H) : PS X st t' := ⟨fun pins s σ H D I hq => h.run pins s σ H D I (k D σ H hq)⟩
theorem _root_.L2.PSs.imp {st : List Stmt} {t t' : TS} (h : PSs X st t) (k : ∀ D σ H, t' D σ H → t D σ H) : PSs X st t' := ⟨fun pins s σ H D I hq => h.run pins s σ H D I (k D σ H hq)⟩
end
/-- an expression, an argument list, a test, by what the evaluator says -/
abbrev FE (G : Gd) (X : Cx) (Wx : WX) (e : Expr) (t : Env → Sto → Res W) : Prop := PE X e (rd (yof G X) Wx (fun y v w => WV (yof G X) y v w) t)
abbrev FA (G : Gd) (X : Cx) (Wx : WX) (es : List Expr) (t : Env → Sto → Res (List W)) : Prop := PA X es (rd (yof G X) Wx (fun y v w => WVs (yof G X) y v w) t)
abbrev FT (G : Gd) (X : Cx) (Wx : WX) (e : Expr) (t : Env → Sto → Res Bool) : Prop := PT X e (rd (yof G X) Wx (fun _ v w => v = w) t)

/-! ### what lies in the real heap -/
section
variable {G : Gd} {X : Cx} {pins : List (Addr × Obj)} {σ : L2.St} {H : Hp} {s : Shared} {nl : Addr → Prop}
theorem TupC.sq {a : Addr} {vs : List V} (h : TupC (yof G X) H nl a vs) : SqT X.K H a vs := by
  rcases h with ⟨h, _⟩ | h
  · exact .inl h
  · exact .inr h
theorem LstC.sq {K : PySem.W.Frag} {a : Addr} {vs : List V} (h : LstC H nl a vs) : SqL K H a vs := .inl h.1
theorem rd_lst (I : Inv X pins σ H s) {a : Addr} {vs : List V} (h : Rd H a (.lst vs)) : ∃ (its : List Value) (n : Nat), Vals vs its ∧ s.heap.get? a = some { cls := .type "list", data := .seq its.toArray n } ∧ vs.length = its.length ∧ vs.length ≤ sizeLine := by
  obtain ⟨z, its, n, r, e⟩ := h.ok I.hok
  exact ⟨its, n, r, e, r.length, z⟩
theorem dctO_at (I : Inv X pins σ H s) {a : Addr} {es : List DictEntry} (h : H a = some (DctO a es)) : ∃ o ep, s.heap.get? a = some o ∧ o.ExactDict ∧ o.data = .dict es.toArray ep := (I.hok a _ h).1
theorem DctC.at_ (I : Inv X pins σ H s) {a : Addr} {es : List DictEntry} (h : DctC (yof G X) H nl a es) : ∃ o ep, s.heap.get? a = some o ∧ o.ExactDict ∧ o.data = .dict es.toArray ep := by
  rcases h with ⟨h, _⟩ | ⟨o, ep, h, h2⟩
  · exact dctO_at I h
  · exact ⟨o, ep, I.kIn a o h, h2⟩
mutual
theorem PV.reads (I : Inv X pins σ H s) : ∀ {v : V} {d : D} {u : Value}, PV (yof G X) H nl v d → RelV v u → ∃ as, Reads s.heap u d as
  | _, _, _, .none, r => by cases r; exact ⟨_, .none⟩
  | _, _, _, .bool b, r => by cases r; exact ⟨_, .bool b⟩
  | _, _, _, .int i, r => by obtain ⟨t, rfl⟩ := r; exact ⟨_, .int i t⟩
  | _, _, _, .str z, r => by obtain ⟨t, rfl⟩ := r; exact ⟨_, .str z t⟩
  | _, _, _, .tup h1 h2, r => by
    cases r
    obtain ⟨its, rv, ⟨o, e, c, n, d⟩, _⟩ := I.tuple h1.sq
    obtain ⟨as, ra⟩ := PVs.reads I h2 rv
    exact ⟨_, .tuple e c d (by simpa using ra)⟩
  | _, _, _, .lst h1 h2, r => by
    cases r
    obtain ⟨its, rv, ⟨o, n, e, c, _, d⟩, _⟩ := I.list h1.sq
    obtain ⟨as, ra⟩ := PVs.reads I h2 rv
    exact ⟨_, .list e c d (by simpa using ra)⟩
  | _, _, _, .dct h1 h2 h3 h4 h5, r => by
    cases r
    obtain ⟨o, ep, e, c, d⟩ := h1.at_ I
    obtain ⟨as, bs, r1, r2⟩ := PEs.reads I h4
    exact ⟨_, .dict e c.1 d (by simpa using r1) (by simpa using r2)⟩
theorem PVs.reads (I : Inv X pins σ H s) : ∀ {vs : List V} {ds : List D} {us : List Value}, PVs (yof G X) H nl vs ds → Vals vs us → ∃ as, ReadsAll s.heap us ds as
  | _, _, _, .nil, r => by cases r; exact ⟨_, .nil⟩
  | _, _, _, .cons h1 h2, r => by
    cases r with
    | cons r1 r2 =>
      obtain ⟨as, q1⟩ := PV.reads I h1 r1
      obtain ⟨bs, q2⟩ := PVs.reads I h2 r2
      exact ⟨_, .cons q1 q2⟩
theorem PEs.reads (I : Inv X pins σ H s) : ∀ {es : List DictEntry} {kvs : List (D × D)}, PEs (yof G X) H nl es kvs → ∃ as bs, ReadsAll s.heap (es.map (·.key)) (kvs.map (·.1)) as ∧ ReadsAll s.heap (es.map (·.val)) (kvs.map (·.2)) bs
  | _, _, .nil => ⟨_, _, .nil, .nil⟩
  | _, _, .cons h1 h2 h3 h4 h5 h6 h7 => by
    obtain ⟨as, q1⟩ := PV.reads I h2 h1
    obtain ⟨bs, q2⟩ := PV.reads I h6 h5
    obtain ⟨cs, ds, q3, q4⟩ := PEs.reads I h7
    exact ⟨_, _, .cons q1 q3, .cons q2 q4⟩
end
end

/-! ### new things -/
theorem nodup_at {α : Type} : ∀ {l : List α}, l.Nodup → ∀ {i j : Nat} {a : α}, l[i]? = some a → l[j]? = some a → i = j
  | [], _, i, j, a, h, _ => by simp at h
  | b :: l, nd, 0, 0, a, _, _ => rfl
  | b :: l, nd, 0, j + 1, a, h1, h2 => by
    simp at h1 h2
    subst h1
    exact ((List.nodup_cons.mp nd).1 (List.mem_of_getElem? h2)).elim
  | b :: l, nd, i + 1, 0, a, h1, h2 => by
    simp at h1 h2
    subst h2
    exact ((List.nodup_cons.mp nd).1 (List.mem_of_getElem? h1)).elim
  | b :: l, nd, i + 1, j + 1, a, h1, h2 => by
    simp at h1 h2
    rw [nodup_at (List.nodup_cons.mp nd).2 h1 h2]
theorem heap_of_size : ∀ n : Nat, ∃ h : Heap, h.objs.size = n
  | 0 => ⟨{ (default : Heap) with objs := #[] }, rfl⟩
  | n + 1 => by
    obtain ⟨h, e⟩ := heap_of_size n
    exact ⟨h.push { cls := .none, data := .plain }, by rw [Heap.size_push, e]⟩
theorem dct_code {a : Addr} {es : List DictEntry} {q : Str} : DctO a es ≠ LamX.CodeO a q := fun z => by
  unfold DctO LamX.CodeO at z
  injection z with z
  obtain ⟨h, e⟩ := heap_of_size a
  have k : ∃ (oc : Obj) (vs : Array Value) (t : Tok), (h.push { cls := .none, data := .fields #[.none, .str q 0] }).get? a = some oc ∧ oc.data = .fields vs ∧ vs[1]? = some (.str q t) :=
    ⟨_, _, 0, by rw [← e]; exact Heap.get?_push_size _ rfl, rfl, rfl⟩
  obtain ⟨o, ep, e1, _, e2⟩ := Eq.mp (congrFun z _).symm k
  have e3 := Heap.get?_push_size h (o := { cls := .none, data := .fields #[.none, .str q 0] }) rfl
  rw [e] at e3
  rw [e3] at e1
  cases e1
  cases e2
section
variable {Y : Rt} {x : Wd}
theorem CellOk.mv {x y : Wd} (e : Mv x y) {a : Addr} {c : Cell} (hH : ∀ o, x.H a = some o → (∀ ps, o ≠ .tbl ps) → y.H a = some o) (h : CellOk Y x a c) : CellOk Y y a c := by
  cases c with
  | lst ws =>
    obtain ⟨vs, h, r⟩ := h
    exact ⟨vs, hH _ h (fun _ z => by cases z), e.wvs r⟩
  | dct kvs =>
    obtain ⟨es, h, h2, h3, r, h4⟩ := h
    exact ⟨es, hH _ h (fun _ z => by cases z), h2, h3, e.wes r, h4⟩
  | ins cc fs =>
    obtain ⟨dx, vs, h, r, nd⟩ := h
    exact ⟨dx, vs, hH _ h (fun _ z => by cases z), e.wfs r, nd⟩
  | dead => exact True.intro
/-- nothing stands there, but a table at the most -/
def NT (x : Wd) (p : Addr) : Prop := ∀ o, x.H p = some o → ∃ ps, o = .tbl ps
theorem NT.of {x : Wd} {p : Addr} (h : x.H p = none) : NT x p := fun o e => by rw [h] at e; cases e
theorem Ext.nt {x y : Wd} (e : Ext x y) {p : Addr} (h : NT y p) : NT x p := fun o k => Classical.byContradiction fun z => by
  obtain ⟨o', h1, h2⟩ := e.dom p o k fun ps q => z ⟨ps, q⟩
  obtain ⟨ps, q⟩ := h o' h1
  exact h2 ps q
/-- a new object that belongs to what is under way -/
theorem new_res {p : Addr} {o : HO} (S : SR Y x) (hn : x.H p = none) (ho : ∀ ps, o ≠ .tbl ps) :
    Ext ⟨p :: x.R, x.μ, x.st, x.H⟩ ⟨p :: x.R, x.μ, x.st, upd x.H p o⟩ ∧ Mv x ⟨p :: x.R, x.μ, x.st, upd x.H p o⟩ ∧ SR Y ⟨p :: x.R, x.μ, x.st, upd x.H p o⟩ := by
  have ne : ∀ {b : Addr} {u : HO}, x.H b = some u → b ≠ p := fun {b u} h z => by rw [z, hn] at h; cases h
  have up : ∀ {b : Addr} {u : HO}, x.H b = some u → upd x.H p o b = some u := fun {b u} h => by rw [upd_ne (ne h)]; exact h
  have hμ : p ∉ x.μ := fun z => by
    obtain ⟨o', h, _⟩ := S.dom p z
    rw [hn] at h; cases h
  have mv : Mv x ⟨p :: x.R, x.μ, x.st, upd x.H p o⟩ := ⟨List.prefix_refl _, fun a u h t n => ⟨up h, fun z => (List.mem_cons.mp z).elim (ne h) n.1, n.2⟩⟩
  refine ⟨⟨rfl, List.prefix_refl _, fun b u h _ n => ⟨up h, n⟩, fun b u h t => ⟨u, up h, t⟩⟩, mv, ⟨S.len, S.nd, fun b hb => ?_, fun b hb => ?_, fun n b c h1 h2 => (S.cell n b c h1 h2).mv mv (fun u h _ => up h), ?_⟩⟩
  · obtain ⟨u, h, t⟩ := S.dom b hb
    exact ⟨u, up h, t⟩
  · rcases List.mem_cons.mp hb with z | z
    · rw [z]
      exact ⟨hμ, _, upd_same, ho⟩
    · obtain ⟨h1, u, h, t⟩ := S.res b z
      exact ⟨h1, u, up h, t⟩
  · exact S.tabs.ext fun b u h => up h
/-- what was under way is done: it stands still -/
theorem res_still {x y : Wd} {p : Addr} (e : Ext ⟨p :: x.R, x.μ, x.st, x.H⟩ y) (S : SR Y y) : Ext x ⟨x.R, y.μ, y.st, y.H⟩ ∧ Mv y ⟨x.R, y.μ, y.st, y.H⟩ ∧ SR Y ⟨x.R, y.μ, y.st, y.H⟩ := by
  have eR : y.R = p :: x.R := e.R
  have mv : Mv y ⟨x.R, y.μ, y.st, y.H⟩ := ⟨List.prefix_refl _, fun a u h t n => ⟨h, fun z => n.1 (by rw [eR]; exact List.mem_cons_of_mem _ z), n.2⟩⟩
  exact ⟨⟨rfl, e.pre, e.keep, e.dom⟩, mv, ⟨S.len, S.nd, S.dom, fun b hb => S.res b (by rw [eR]; exact List.mem_cons_of_mem _ hb), fun n b c h1 h2 => (S.cell n b c h1 h2).mv mv (fun u h _ => h), S.tabs⟩⟩
/-- .. it becomes a cell -/
theorem res_cell {x y : Wd} {p : Addr} {c : Cell} (e : Ext ⟨p :: x.R, x.μ, x.st, x.H⟩ y) (S : SR Y y) (hn : NT x p) (hp : ∃ o, y.H p = some o ∧ (∀ ps, o ≠ .tbl ps) ∧ ∀ q, o ≠ LamX.CodeO p q) (hR : p ∉ x.R) (hc : CellOk Y y p c) :
    Ext x ⟨x.R, y.μ ++ [p], y.st ++ [c], y.H⟩ ∧ Mv y ⟨x.R, y.μ ++ [p], y.st ++ [c], y.H⟩ ∧ SR Y ⟨x.R, y.μ ++ [p], y.st ++ [c], y.H⟩ ∧ WV Y ⟨x.R, y.μ ++ [p], y.st ++ [c], y.H⟩ (.ref p) (.ref y.st.length) := by
  have eR : y.R = p :: x.R := e.R
  have pR : p ∈ y.R := by rw [eR]; exact List.mem_cons_self
  have hμ : p ∉ y.μ := (S.res p pR).1
  have live : ∀ {a : Addr}, Wd.live ⟨x.R, y.μ ++ [p], y.st ++ [c], y.H⟩ a → y.live a ∨ a = p := fun {a} ⟨n, d, h1, h2, h3⟩ => by
    have h1 : (y.μ ++ [p])[n]? = some a := h1
    have h2 : (y.st ++ [c])[n]? = some d := h2
    by_cases hl : n < y.μ.length
    · rw [List.getElem?_append_left hl] at h1
      rw [List.getElem?_append_left (by rw [← S.len]; exact hl)] at h2
      exact .inl ⟨n, d, h1, h2, h3⟩
    · rw [List.getElem?_append_right (by omega)] at h1
      have : n - y.μ.length = 0 := by
        have := (List.getElem?_eq_some_iff.mp h1).1
        simp at this
        omega
      rw [this] at h1
      simp at h1
      exact .inr h1.symm
  have mv : Mv y ⟨x.R, y.μ ++ [p], y.st ++ [c], y.H⟩ := ⟨List.prefix_append _ _, fun a u h t n => ⟨h, fun z => n.1 (by rw [eR]; exact List.mem_cons_of_mem _ z), fun z => (live z).elim n.2 fun q => n.1 (by rw [q]; exact pR)⟩⟩
  refine ⟨⟨rfl, e.pre.trans (List.prefix_append _ _), fun a o h t n => ?_, e.dom⟩, mv, ⟨by simp [S.len], ?_, fun a ha => ?_, fun b hb => ?_, fun n b d h1 h2 => ?_, S.tabs⟩, .ref ?_⟩
  · obtain ⟨h1, n1⟩ := e.keep a o h t n
    exact ⟨h1, fun z => (live z).elim n1 fun q => by
      rw [q] at h
      obtain ⟨ps, z⟩ := hn o h
      exact t ps z⟩
  · exact List.nodup_append.mpr ⟨S.nd, by simp, fun a ha b hb => by
      have : b = p := by simpa using hb
      rw [this]; exact fun z => hμ (by rw [← z]; exact ha)⟩
  · rcases List.mem_append.mp ha with z | z
    · exact S.dom a z
    · have : a = p := by simpa using z
      rw [this]; exact hp
  · have hb : b ∈ x.R := hb
    obtain ⟨h1, u, h, t⟩ := S.res b (by rw [eR]; exact List.mem_cons_of_mem _ hb)
    refine ⟨fun z => ?_, u, h, t⟩
    rcases List.mem_append.mp z with z | z
    · exact h1 z
    · have : b = p := by simpa using z
      rw [this] at hb; exact hR hb
  · have h1 : (y.μ ++ [p])[n]? = some b := h1
    have h2 : (y.st ++ [c])[n]? = some d := h2
    by_cases hl : n < y.μ.length
    · rw [List.getElem?_append_left hl] at h1
      rw [List.getElem?_append_left (by rw [← S.len]; exact hl)] at h2
      exact (S.cell n b d h1 h2).mv mv (fun u h _ => h)
    · rw [List.getElem?_append_right (by omega)] at h1
      rw [List.getElem?_append_right (by rw [← S.len]; omega)] at h2
      have e0 : n - y.μ.length = 0 := by
        have := (List.getElem?_eq_some_iff.mp h1).1
        simp at this
        omega
      rw [e0] at h1
      rw [← S.len, e0] at h2
      simp at h1 h2
      rw [← h1, ← h2]
      exact hc.mv mv (fun u h _ => h)
  · show (y.μ ++ [p])[y.st.length]? = some p
    rw [← S.len, List.getElem?_append_right (Nat.le_refl _)]
    simp
/-- a new object, not live -/
theorem Ext.new {a : Addr} {o : HO} (s : SR Y x) (hn : x.H a = none) (ho : ∀ ps, o ≠ .tbl ps) : Ext x ⟨x.R, x.μ, x.st, upd x.H a o⟩ ∧ SR Y ⟨x.R, x.μ, x.st, upd x.H a o⟩ ∧ Wd.nl ⟨x.R, x.μ, x.st, upd x.H a o⟩ a := by
  have ne : ∀ {b : Addr} {u : HO}, x.H b = some u → b ≠ a := fun {b u} h z => by rw [z, hn] at h; cases h
  have hμ : a ∉ x.μ := fun z => by
    obtain ⟨o', h, _⟩ := s.dom a z
    rw [hn] at h; cases h
  have ext : Ext x ⟨x.R, x.μ, x.st, upd x.H a o⟩ := by
    refine ⟨rfl, List.prefix_refl _, fun b u h _ n => ⟨by show upd x.H a o b = _; rw [upd_ne (ne h)]; exact h, n⟩, fun b u h t => ⟨u, by show upd x.H a o b = _; rw [upd_ne (ne h)]; exact h, t⟩⟩
  refine ⟨ext, ⟨s.len, s.nd, fun b hb => ?_, fun b hb => ?_, fun n b c h1 h2 => ?_, ?_⟩, fun z => ?_, fun ⟨n, c, h1, _⟩ => hμ (List.mem_of_getElem? h1)⟩
  · obtain ⟨u, h, t⟩ := s.dom b hb
    exact ⟨u, by show upd x.H a o b = _; rw [upd_ne (ne h)]; exact h, t⟩
  · obtain ⟨h1, u, h, t⟩ := s.res b hb
    exact ⟨h1, u, by show upd x.H a o b = _; rw [upd_ne (ne h)]; exact h, t⟩
  · have hc := s.cell n b c h1 h2
    cases c with
    | lst ws =>
      obtain ⟨vs, h, r⟩ := hc
      exact ⟨vs, by show upd x.H a o b = _; rw [upd_ne (ne h)]; exact h, ext.wvs r⟩
    | dct kvs =>
      obtain ⟨es, h, h2, h3, r, h4⟩ := hc
      exact ⟨es, by show upd x.H a o b = _; rw [upd_ne (ne h)]; exact h, h2, h3, ext.wes r, h4⟩
    | ins cc fs =>
      obtain ⟨dx, vs, h, r, nd⟩ := hc
      exact ⟨dx, vs, by show upd x.H a o b = _; rw [upd_ne (ne h)]; exact h, ext.wfs r, nd⟩
    | dead => exact True.intro
  · exact s.tabs.ext fun b u h => by show upd x.H a o b = _; rw [upd_ne (ne h)]; exact h
  · obtain ⟨_, u, h, _⟩ := s.res a z
    rw [hn] at h; cases h
theorem nlNew {a : Addr} {o : HO} {H : Hp} : upd H a o a = some o := upd_same
end
end FM
end

section
/-! FM4: operations on values. -/
set_option Elab.async false
set_option linter.all false
set_option maxRecDepth 100000
set_option autoImplicit false
set_option maxHeartbeats 1000000
namespace FM
open PySem PySem.Spec PyProof.Rows L2

theorem SZ_eq : SZ = sizeLine := by rw [sizeLine_eq]; rfl
theorem len_eq (z : Str) : z.length = (tl z).length := by simp [tl, Str.length]

theorem str_app (i j : Str) : (i ++ j : Str) = T (tl i ++ tl j) := by
  show (⟨i.cps ++ j.cps⟩ : Str) = T (tl i ++ tl j)
  cases i; cases j
  simp [T, tl]

/-! ### views -/
inductive VD (Y : Rt) (x : Wd) : V → D → Prop
  | pv {v : V} {d : D} : PV Y x.H x.nl v d → VD Y x v d
  | lst {a : Addr} {vs : List V} {ds : List D} : x.H a = some (.lst vs) → PVs Y x.H x.nl vs ds → VD Y x (.ref a) (.list ds)
  | dct {a : Addr} {es : List DictEntry} {kvs : List (D × D)} : x.H a = some (DctO a es) → (a == sysModules) = false → es.length ≤ sizeLine → PEs Y x.H x.nl es kvs → (kvs.map fun p => nk p.1).Nodup → VD Y x (.ref a) (.dict kvs)
section
variable {Y : Rt} {x : Wd} {v : V} {d : D}
theorem WEs.pes : ∀ {ws : List (D × W)} {es : List DictEntry} {kvs : List (D × D)}, WEs Y x es ws → allDK ws = some kvs → PEs Y x.H x.nl es kvs
  | [], _, _, h, e => by
    cases h
    simp [allDK] at e
    subst e
    exact .nil
  | (k, w) :: ws, _, kvs, h, e => by
    cases h with
    | cons h1 h2 h3 h4 h5 h6 h7 =>
      cases h6 with
      | d h =>
        simp only [allDK, Option.map_eq_some_iff] at e
        obtain ⟨r, e1, e2⟩ := e
        subst e2
        exact .cons h1 h2 h3 h4 h5 h (WEs.pes h7 e1)
      | ref _ => simp [allDK] at e
      | fn _ => simp [allDK] at e
theorem allDK_keys : ∀ {ws : List (D × W)} {kvs : List (D × D)}, allDK ws = some kvs → ws.map (·.1) = kvs.map (·.1)
  | [], _, e => by simp [allDK] at e; subst e; rfl
  | (k, .d u) :: ws, kvs, e => by
    simp only [allDK, Option.map_eq_some_iff] at e
    obtain ⟨r, e1, e2⟩ := e
    subst e2
    simp [allDK_keys e1]
  | (k, .ref n) :: ws, kvs, e => by simp [allDK] at e
  | (k, .fn n) :: ws, kvs, e => by simp [allDK] at e
theorem SR.vw (S : SR Y x) {w : W} (h : WV Y x v w) (e : FM.vw x.st w = some d) : VD Y x v d := by
  cases h with
  | d h => cases e; exact .pv h
  | ref h =>
    rename_i n a
    simp only [FM.vw] at e
    cases hc : x.st[n]? with
    | none => rw [hc] at e; cases e
    | some c =>
      rw [hc] at e
      have hk := S.cell n a c h hc
      cases c with
      | lst ws =>
        obtain ⟨vs, hH, r⟩ := hk
        simp only [Option.map_eq_some_iff] at e
        obtain ⟨ds, e1, e2⟩ := e
        subst e2
        exact .lst hH (r.pvs e1)
      | dct kvs =>
        obtain ⟨es, hH, h2, h3, r, nd⟩ := hk
        simp only [Option.map_eq_some_iff] at e
        obtain ⟨ds, e1, e2⟩ := e
        subst e2
        refine .dct hH h2 h3 (r.pes e1) ?_
        have := allDK_keys e1
        have e3 : (ds.map fun p => nk p.1) = (kvs.map fun p => nk p.1) := by
          have := congrArg (List.map nk) this
          simpa [List.map_map, Function.comp_def] using this.symm
        rw [e3]
        exact nd
      | ins c fs => cases e
      | dead => cases e
  | fn f => cases e
theorem VD.int {i : Int} (h : VD Y x v (.int i)) : v = .int i := by cases h with | pv h => cases h; rfl
theorem VD.bool {b : Bool} (h : VD Y x v (.bool b)) : v = .bl b := by cases h with | pv h => cases h; rfl
theorem VD.none (h : VD Y x v .none) : v = .non := by cases h with | pv h => cases h; rfl
theorem VD.str {z : Str} (h : VD Y x v (.str z)) : v = .str z := by cases h with | pv h => cases h; rfl
theorem VD.list {ds : List D} (h : VD Y x v (.list ds)) : ∃ a vs, v = .ref a ∧ Rd x.H a (.lst vs) ∧ PVs Y x.H x.nl vs ds := by
  cases h with
  | pv h => cases h with | lst h1 h2 => exact ⟨_, _, rfl, h1.1, h2⟩
  | lst h1 h2 => exact ⟨_, _, rfl, .inl h1, h2⟩
theorem VD.tuple {ds : List D} (h : VD Y x v (.tuple ds)) : ∃ a vs, v = .ref a ∧ TupC Y x.H x.nl a vs ∧ PVs Y x.H x.nl vs ds := by
  cases h with
  | pv h => cases h with | tup h1 h2 => exact ⟨_, _, rfl, h1, h2⟩
theorem VD.dict {kvs : List (D × D)} (h : VD Y x v (.dict kvs)) : ∃ a es, v = .ref a ∧ (x.H a = some (DctO a es) ∨ DctK Y.K a es) ∧ (a == sysModules) = false ∧ es.length ≤ sizeLine ∧ PEs Y x.H x.nl es kvs ∧ (kvs.map fun p => nk p.1).Nodup := by
  cases h with
  | pv h => cases h with | dct h1 h2 h3 h4 h5 => exact ⟨_, _, rfl, h1.imp (·.1) id, h2, h3, h4, h5⟩
  | dct h1 h2 h3 h4 h5 => exact ⟨_, _, rfl, .inl h1, h2, h3, h4, h5⟩
end
section
variable {G : Gd} {X : Cx} {pins : List (Addr × Obj)} {σ : L2.St} {s : Shared} {x : Wd}
theorem dct_at (I : Inv X pins σ x.H s) {a : Addr} {es : List DictEntry} (h : x.H a = some (DctO a es) ∨ DctK X.K a es) : ∃ o ep, s.heap.get? a = some o ∧ o.ExactDict ∧ o.data = .dict es.toArray ep := by
  rcases h with h | ⟨o, ep, h, h2⟩
  · exact dctO_at I h
  · exact ⟨o, ep, I.kIn a o h, h2⟩
theorem VD.reads (I : Inv X pins σ x.H s) {v : V} {d : D} {u : Value} (h : VD (yof G X) x v d) (r : RelV v u) : ∃ as, Reads s.heap u d as := by
  cases h with
  | pv h => exact h.reads I r
  | lst h1 h2 =>
    cases r
    obtain ⟨its, n, rv, e, _⟩ := rd_lst I (.inl h1)
    obtain ⟨as, ra⟩ := PVs.reads I h2 rv
    exact ⟨_, .list e rfl rfl (by simpa using ra)⟩
  | dct h1 h2 h3 h4 h5 =>
    cases r
    obtain ⟨o, ep, e, c, d⟩ := dctO_at I h1
    obtain ⟨as, bs, r1, r2⟩ := PEs.reads I h4
    exact ⟨_, .dict e c.1 d (by simpa using r1) (by simpa using r2)⟩
end

/-! ### readings of operations by values -/
/-- what may come behind an operation that leaves the store -/
def After (Y : Rt) (x : Wd) (w : W) (Q : VK) : Prop := ∀ v' y, Ext x y → SR Y y → y.st = x.st → WV Y y v' w → Q v' y.H
def rOp (Y : Rt) (f : Sto → W → W → Option W) : R2 := fun v u H Q => ∃ x a b w, x.H = H ∧ SR Y x ∧ WV Y x v a ∧ WV Y x u b ∧ f x.st a b = some w ∧ After Y x w Q
section
variable {Y : Rt} {x : Wd} {Q : VK}
theorem After.d {v : V} {d : D} (q : After Y x (.d d) Q) (S : SR Y x) (h : PV Y x.H x.nl v d) : Q v x.H := q v x (Ext.refl x) S rfl (.d h)
theorem After.w {v : V} {w : W} (q : After Y x w Q) (S : SR Y x) (h : WV Y x v w) : Q v x.H := q v x (Ext.refl x) S rfl h
/-- a new list of data -/
theorem After.lst {ds : List D} {vs : List V} {p : Addr} (q : After Y x (.d (.list ds)) Q) (S : SR Y x) (h : PVs Y x.H x.nl vs ds) (hn : x.H p = none) : Q (.ref p) (upd x.H p (.lst vs)) := by
  obtain ⟨e, s, n⟩ := Ext.new (o := .lst vs) S hn (fun _ z => by cases z)
  exact q _ _ e s rfl (.d (.lst ⟨.inl upd_same, n⟩ (Ext.pvs e h)))
theorem After.tup {ds : List D} {vs : List V} {p : Addr} (q : After Y x (.d (.tuple ds)) Q) (S : SR Y x) (h : PVs Y x.H x.nl vs ds) (hn : x.H p = none) : Q (.ref p) (upd x.H p (.tup vs)) := by
  obtain ⟨e, s, n⟩ := Ext.new (o := .tup vs) S hn (fun _ z => by cases z)
  exact q _ _ e s rfl (.d (.tup (.inl ⟨.inl upd_same, n⟩) (Ext.pvs e h)))
theorem PVs.append {H : Hp} {nl : Addr → Prop} : ∀ {vs us : List V} {ds es : List D}, PVs Y H nl vs ds → PVs Y H nl us es → PVs Y H nl (vs ++ us) (ds ++ es)
  | _, _, _, _, .nil, h => h
  | _, _, _, _, .cons h t, h' => .cons h (PVs.append t h')
theorem PVs.flat {H : Hp} {nl : Addr → Prop} {vs : List V} {ds : List D} (h : PVs Y H nl vs ds) : ∀ n : Nat, PVs Y H nl (List.replicate n vs).flatten (List.replicate n ds).flatten
  | 0 => .nil
  | n + 1 => by
    simp only [List.replicate_succ, List.flatten_cons]
    exact h.append (PVs.flat h n)
end

section
variable {G : Gd} {X : Cx}
theorem binW_some {st : Sto} {op : BOp} {a b w : W} (h : binW st op a b = some w) : ∃ d1 d2 d, vw st a = some d1 ∧ vw st b = some d2 ∧ binD op d1 d2 = some d ∧ w = .d d := by
  unfold binW at h
  cases h1 : vw st a with
  | none => rw [h1] at h; cases h
  | some d1 =>
    cases h2 : vw st b with
    | none => rw [h1, h2] at h; cases h
    | some d2 =>
      rw [h1, h2] at h
      simp only [Option.map_eq_some_iff] at h
      obtain ⟨d, e1, e2⟩ := h
      exact ⟨d1, d2, d, rfl, rfl, e1, e2.symm⟩
/-- list + list, both as they may be read -/
theorem op_catR : OpR X (binaryOp .Add) (fun x y H Q => ∃ l b xs zs, x = .ref l ∧ y = .ref b ∧ Rd H l (.lst xs) ∧ Rd H b (.lst zs) ∧ xs.length + zs.length ≤ sizeLine ∧ ∀ p, H p = none → Q (.ref p) (upd H p (.lst (xs ++ zs)))) := by
  intro pins s σ H x y v u Q I rx ry h
  obtain ⟨l, b, xs, zs, rfl, rfl, hH, hB, hz, q⟩ := h
  cases rx
  cases ry
  obtain ⟨its, n, r, e, hl, _⟩ := rd_lst I hH
  obtain ⟨its2, n2, r2, e2, hl2, _⟩ := rd_lst I hB
  refine PySem.P.add_list e e2 ?_ (by simp only [List.size_toArray]; omega)
  rw [show its.toArray ++ its2.toArray = (its ++ its2).toArray by simp]
  exact ⟨.ref _, _, I.lnew (t' := s.toks) (r.append r2) (by rw [List.length_append]; exact hz), rfl, q _ I.fresh⟩
theorem ofn_add : OpR X (binaryOp .Add) (rOp (yof G X) fun st => binW st .add) := by
  intro pins s σ H v u vv uu Q I rv ru ⟨x, a, b, w, hx, S, ha, hb, hw, q⟩
  subst hx
  obtain ⟨d1, d2, d, e1, e2, e3, rfl⟩ := binW_some hw
  have h1 := S.vw ha e1
  have h2 := S.vw hb e2
  cases d1 <;> cases d2 <;> simp only [binD] at e3 <;> try cases e3
  · rename_i i j
    obtain rfl := h1.int
    obtain rfl := h2.int
    exact op_add pins s σ _ _ _ _ _ _ I rv ru ⟨i, j, rfl, rfl, q.d S (.int _)⟩
  · rename_i i j
    split at e3 <;> cases e3
    rename_i hz
    obtain rfl := h1.str
    obtain rfl := h2.str
    refine op_add_str pins s σ _ _ _ _ _ _ I rv ru ⟨i, j, rfl, rfl, by rw [len_eq, len_eq, ← SZ_eq]; exact hz, ?_⟩
    have e : (i ++ j : Str) = T (tl i ++ tl j) := str_app i j
    rw [e]
    exact q.d S (.str _)
  · split at e3 <;> cases e3
    rename_i hz
    obtain ⟨a1, v1, rfl, r1, p1⟩ := h1.list
    obtain ⟨a2, v2, rfl, r2, p2⟩ := h2.list
    exact op_catR pins s σ _ _ _ _ _ _ I rv ru ⟨a1, a2, v1, v2, rfl, rfl, r1, r2, by rw [p1.length, p2.length, ← SZ_eq]; exact hz, fun p hp => q.lst S (p1.append p2) hp⟩
  · rename_i xs ys
    split at e3 <;> cases e3
    rename_i hz
    obtain ⟨a1, v1, rfl, r1, p1⟩ := h1.tuple
    obtain ⟨a2, v2, rfl, r2, p2⟩ := h2.tuple
    refine op_catA pins s σ _ _ _ _ _ _ I rv ru ⟨a1, a2, v1, v2, rfl, rfl, r1.sq, r2.sq, by rw [p1.length, p2.length, ← SZ_eq]; exact hz, fun z => ?_, fun _ z => ?_, fun _ _ p hp => q.tup S (p1.append p2) hp⟩
    · subst z
      have : xs = [] := List.eq_nil_of_length_eq_zero (by rw [← p1.length]; rfl)
      subst this
      exact q.d S (.tup r2 p2)
    · subst z
      have : ys = [] := List.eq_nil_of_length_eq_zero (by rw [← p2.length]; rfl)
      subst this
      rw [List.append_nil] at q
      exact q.d S (.tup r1 p1)
theorem ofn_sub : OpR X (binaryOp .Sub) (rOp (yof G X) fun st => binW st .sub) := by
  intro pins s σ H v u vv uu Q I rv ru ⟨x, a, b, w, hx, S, ha, hb, hw, q⟩
  subst hx
  obtain ⟨d1, d2, d, e1, e2, e3, rfl⟩ := binW_some hw
  have h1 := S.vw ha e1
  have h2 := S.vw hb e2
  cases d1 <;> cases d2 <;> simp only [binD] at e3 <;> try cases e3
  rename_i i j
  obtain rfl := h1.int
  obtain rfl := h2.int
  exact op_sub pins s σ _ _ _ _ _ _ I rv ru ⟨i, j, rfl, rfl, q.d S (.int _)⟩
theorem ofn_fdiv : OpR X (binaryOp .FloorDiv) (rOp (yof G X) fun st => binW st .fdiv) := by
  intro pins s σ H v u vv uu Q I rv ru ⟨x, a, b, w, hx, S, ha, hb, hw, q⟩
  subst hx
  obtain ⟨d1, d2, d, e1, e2, e3, rfl⟩ := binW_some hw
  have h1 := S.vw ha e1
  have h2 := S.vw hb e2
  cases d1 <;> cases d2 <;> simp only [binD] at e3 <;> try cases e3
  rename_i i j
  split at e3 <;> cases e3
  rename_i hz
  obtain rfl := h1.int
  obtain rfl := h2.int
  exact op_fdiv pins s σ _ _ _ _ _ _ I rv ru ⟨i, j, rfl, rfl, hz, q.d S (.int _)⟩
theorem ofn_mod : OpR X (binaryOp .Mod) (rOp (yof G X) fun st => binW st .mod) := by
  intro pins s σ H v u vv uu Q I rv ru ⟨x, a, b, w, hx, S, ha, hb, hw, q⟩
  subst hx
  obtain ⟨d1, d2, d, e1, e2, e3, rfl⟩ := binW_some hw
  have h1 := S.vw ha e1
  have h2 := S.vw hb e2
  cases d1 <;> cases d2 <;> simp only [binD] at e3 <;> try cases e3
  rename_i i j
  split at e3 <;> cases e3
  rename_i hz
  obtain rfl := h1.int
  obtain rfl := h2.int
  exact op_mod pins s σ _ _ _ _ _ _ I rv ru ⟨i, j, rfl, rfl, hz, q.d S (.int _)⟩
theorem ofn_pow : OpR X (binaryOp .Pow) (rOp (yof G X) fun st => binW st .pow) := by
  intro pins s σ H v u vv uu Q I rv ru ⟨x, a, b, w, hx, S, ha, hb, hw, q⟩
  subst hx
  obtain ⟨d1, d2, d, e1, e2, e3, rfl⟩ := binW_some hw
  have h1 := S.vw ha e1
  have h2 := S.vw hb e2
  cases d1 <;> cases d2 <;> simp only [binD] at e3 <;> try cases e3
  rename_i i j
  split at e3 <;> cases e3
  rename_i hz
  obtain rfl := h1.int
  obtain rfl := h2.int
  exact op_pow pins s σ _ _ _ _ _ _ I rv ru ⟨i, j, rfl, rfl, hz, q.d S (.int _)⟩
theorem CMulB_ok {i j : Int} (h : CMulB i j = true) : CMul i j := by
  simp only [CMulB, Bool.or_eq_true, Bool.and_eq_true, decide_eq_true_eq] at h
  exact h
theorem flat_fold {α : Type} (xs : Array α) : ∀ (m : Nat) (acc : Array α), (List.replicate m xs).foldl (· ++ ·) acc = acc ++ (List.replicate m xs.toList).flatten.toArray
  | 0, acc => by simp
  | m + 1, acc => by
    rw [List.replicate_succ, List.foldl_cons, flat_fold xs m, List.replicate_succ, List.flatten_cons]
    rw [Array.append_assoc]
    congr 1
    apply Array.toList_inj.mp
    simp
/-- list * int, the list as it may be read -/
theorem op_repR : OpR X (binaryOp .Mult) (fun x y H Q => ∃ l k xs, x = .ref l ∧ y = .int k ∧ Rd H l (.lst xs) ∧ -(2 ^ 63) ≤ k ∧ k < 2 ^ 63 ∧ xs.length * k.toNat ≤ sizeLine ∧ ∀ p, H p = none → Q (.ref p) (upd H p (.lst (List.replicate k.toNat xs).flatten))) := by
  intro pins s σ H x y v u Q I rx ry h
  obtain ⟨l, k, xs, rfl, rfl, hH, b1, b2, hz, q⟩ := h
  cases rx
  obtain ⟨tk, rfl⟩ := ry
  obtain ⟨its, n, rv, e, hl, _⟩ := rd_lst I hH
  have hlen : its.toArray.size * k.toNat ≤ sizeLine := by
    rw [List.size_toArray, ← hl]
    exact hz
  have c1 : ¬ (!Builtin.List.listFitsIndex k) = true := by simp [fitsIndex_both b1 b2]
  have c2 : ¬ its.toArray.size * k.toNat > (2 ^ 63 - 1) / 8 := by
    have z : (sizeLine : Nat) ≤ (2 ^ 63 - 1) / 8 := by decide
    omega
  have c3 : ¬ Builtin.List.listTooLong (its.toArray.size * k.toNat) = true := by rw [notLongL hlen]; exact Bool.false_ne_true
  have enew : List.foldl (fun x1 x2 => x1 ++ x2) #[] (List.replicate (if its.toArray.isEmpty = true then 0 else k.toNat) its.toArray) = (List.replicate k.toNat its).flatten.toArray := by
    rw [flat_fold]
    cases its with
    | nil => simp
    | cons a r => simp
  refine wpAny_binaryOp_repeat_ref (T := "list") (U := "int") (by decide) ⟨_, e, rfl⟩ (fun s' => typeIs_int s' k tk) noFill_list_mul F.fills_int_mul F.slot_int_rmul repeat_list F.slot_int_index.lookup ?_
  refine call_meets F.slot_int_rmul (typeIs_int s k tk) F.entry_int_rmul (F.args_int_rmul_2 _ _) (int___rmul___int_list k tk l its.toArray n) ⟨e, rfl, ⟨_, e, rfl⟩, ?_⟩
  refine call_meets F.slot_list_mul ⟨_, e, rfl⟩ F.entry_list_mul (F.args_list_mul_2 _ _) (AutoListH.list___mul___list_int_3 l its.toArray n k tk c1 c2 c3) ⟨e, ?_⟩
  rw [enew]
  have rl : Vals (List.replicate k.toNat xs).flatten (List.replicate k.toNat its).flatten := by
    generalize k.toNat = m
    induction m with
    | zero => exact .nil
    | succ m ih =>
      simp only [List.replicate_succ, List.flatten_cons]
      exact rv.append ih
  have ll : (List.replicate k.toNat xs).flatten.length ≤ sizeLine := by
    simp only [List.length_flatten, List.map_replicate, List.sum_replicate_nat]
    rw [Nat.mul_comm]
    exact hz
  exact ⟨.ref _, _, I.lnew (t' := s.toks) rl ll, rfl, q _ I.fresh⟩
theorem flat_str (z : Str) (m : Nat) : (⟨(List.replicate m z.cps).foldl (· ++ ·) #[]⟩ : Str) = T (List.replicate m (tl z)).flatten := by
  rw [flat_fold]
  cases z
  simp [T, tl]
theorem op_mul_str : OpR X (binaryOp .Mult) (fun x y H Q => ∃ z k, x = .str z ∧ y = .int k ∧ k < 2 ^ 62 ∧ -(2 ^ 63) ≤ k ∧ (tl z).length * k.toNat ≤ SZ ∧ Q (.str (T (List.replicate k.toNat (tl z)).flatten)) H) := by
  intro pins s σ H x y v u Q I rx ry h
  obtain ⟨z, k, rfl, rfl, b1, b0, hz, q⟩ := h
  obtain ⟨t, rfl⟩ := rx
  obtain ⟨t', rfl⟩ := ry
  rw [SZ_eq, sizeLine_eq] at hz
  refine PySem.P.mul_str (by rw [decide_eq_false (by omega), decide_eq_false (by omega)]; rfl) (fun h1 _ h3 => ?_) (fun h1 _ => ?_) ?_
  · rw [len_eq] at h3
    have e : (((tl z).length * k.toNat : Nat) : Int) = ((tl z).length : Int) * k := by
      rw [Int.natCast_mul, Int.toNat_of_nonneg (by omega)]
    have h4 : ((tl z).length : Int) * k ≤ 16777216 := by omega
    have h5 : (2 ^ 63 - 1 : Int) / k * k ≤ 16777216 := Int.le_trans (Int.mul_le_mul_of_nonneg_right (Int.le_of_lt h3) (by omega)) h4
    have h6 := Int.emod_lt_of_pos (2 ^ 63 - 1 : Int) (show 0 < k by omega)
    have h7 := Int.emod_def (2 ^ 63 - 1 : Int) k
    rw [Int.mul_comm] at h7
    have big : (33554432 : Int) ≤ 2 ^ 63 - 1 := by decide
    have hk : k ≤ 16777216 ∨ (tl z).length = 0 := by
      by_cases z0 : (tl z).length = 0
      · exact .inr z0
      · refine .inl (Int.le_trans ?_ h4)
        have := Int.mul_le_mul_of_nonneg_right (show (1 : Int) ≤ ((tl z).length : Int) by omega) (show 0 ≤ k by omega)
        omega
    rcases hk with hk | hk
    · have h8 : (2 ^ 63 - 1 : Int) = 9223372036854775807 := by decide
      rw [h8] at h5 h6 h7
      omega
    · rw [hk] at h3
      have h9 : (0 : Int) ≤ (2 ^ 63 - 1) / k := Int.ediv_nonneg (by decide) (by omega)
      omega
  · rw [len_eq]
    have hs : sizeLine = 16777216 := sizeLine_eq
    unfold Builtin.Str.tooLong
    simp only [decide_eq_false_iff_not]
    omega
  · by_cases h1 : k < 1
    · rw [if_pos h1]
      have e : k.toNat = 0 := by omega
      rw [e] at q
      exact ⟨by decide, ⟨.str _, H, I.tok _, ⟨_, rfl⟩, q⟩⟩
    · rw [if_neg h1]
      by_cases h2 : (k == 1 || z.length == 0) = true
      · rw [if_pos h2]
        have e : T (List.replicate k.toNat (tl z)).flatten = z := by
          simp only [Bool.or_eq_true, beq_iff_eq] at h2
          rcases h2 with h2 | h2
          · subst h2
            simp
          · rw [len_eq] at h2
            have e : tl z = [] := List.eq_nil_of_length_eq_zero h2
            rw [e, ← T_tl z, e]
            simp
        rw [e] at q
        exact ⟨.str z, H, I, ⟨_, rfl⟩, q⟩
      · rw [if_neg h2, flat_str]
        refine ⟨?_, ⟨.str _, H, I.tok _, ⟨_, rfl⟩, q⟩⟩
        rw [len_eq, tl_T, sizeLine_eq]
        simp only [List.length_flatten, List.map_replicate, List.sum_replicate_nat]
        rw [Nat.mul_comm]
        exact hz
theorem ofn_mul : OpR X (binaryOp .Mult) (rOp (yof G X) fun st => binW st .mul) := by
  intro pins s σ H v u vv uu Q I rv ru ⟨x, a, b, w, hx, S, ha, hb, hw, q⟩
  subst hx
  obtain ⟨d1, d2, d, e1, e2, e3, rfl⟩ := binW_some hw
  have h1 := S.vw ha e1
  have h2 := S.vw hb e2
  cases d1 <;> cases d2 <;> simp only [binD] at e3 <;> try cases e3
  · rename_i i j
    split at e3 <;> cases e3
    rename_i hz
    obtain rfl := h1.int
    obtain rfl := h2.int
    exact op_mul pins s σ _ _ _ _ _ _ I rv ru ⟨i, j, rfl, rfl, CMulB_ok hz, q.d S (.int _)⟩
  · rename_i i j
    split at e3 <;> cases e3
    rename_i hz
    obtain rfl := h1.str
    obtain rfl := h2.int
    by_cases hn : -(2 ^ 63) ≤ j
    · exact op_mul_str pins s σ _ _ _ _ _ _ I rv ru ⟨i, j, rfl, rfl, hz.2.1, hn, hz.1, q.d S (.str _)⟩
    · exact (hn (by have := hz.2.2; omega)).elim
  · rename_i i j
    split at e3 <;> cases e3
    rename_i hz
    obtain ⟨a1, v1, rfl, r1, p1⟩ := h1.list
    obtain rfl := h2.int
    refine op_repR pins s σ _ _ _ _ _ _ I rv ru ⟨a1, j, v1, rfl, rfl, r1, by have := hz.2.2; omega, by have := hz.2.1; omega, by rw [p1.length, ← SZ_eq]; exact hz.1, fun p hp => q.lst S (p1.flat _) hp⟩
end
end FM
end

section
/-! FM5: comparisons. -/
set_option Elab.async false
set_option linter.all false
set_option maxRecDepth 100000
set_option autoImplicit false
set_option maxHeartbeats 1000000
namespace FM
open PySem PySem.Spec PyProof.Rows L2

/-! ### the evaluator's words are the library's -/
mutual
theorem eqD_eqv : ∀ x y : D, eqD x y = PyData.eqv x y
  | .none, y => by cases y <;> simp [eqD, PyData.eqv]
  | .bool _, y => by cases y <;> simp [eqD, PyData.eqv]
  | .int _, y => by cases y <;> simp [eqD, PyData.eqv]
  | .str _, y => by cases y <;> simp [eqD, PyData.eqv]
  | .list xs, y => by cases y <;> simp [eqD, PyData.eqv, eqAll_eqv]
  | .tuple xs, y => by cases y <;> simp [eqD, PyData.eqv, eqAll_eqv]
  | .dict _, y => by cases y <;> simp [eqD, PyData.eqv]
theorem eqAll_eqv : ∀ xs ys : List D, eqAll xs ys = PyData.eqvAll xs ys
  | [], [] => by simp [eqAll, PyData.eqvAll]
  | [], _ :: _ => by simp [eqAll, PyData.eqvAll]
  | _ :: _, [] => by simp [eqAll, PyData.eqvAll]
  | x :: xs, y :: ys => by simp [eqAll, PyData.eqvAll, eqD_eqv x y, eqAll_eqv xs ys]
end
mutual
theorem dep_depth : ∀ x : D, dep x = x.depth
  | .none => by simp [dep, PyData.depth]
  | .bool _ => by simp [dep, PyData.depth]
  | .int _ => by simp [dep, PyData.depth]
  | .str _ => by simp [dep, PyData.depth]
  | .list xs => by simp [dep, PyData.depth, depAll_depth xs]
  | .tuple xs => by simp [dep, PyData.depth, depAll_depth xs]
  | .dict kvs => by simp [dep, PyData.depth, depKv_depth kvs]
theorem depAll_depth : ∀ xs : List D, depAll xs = PyData.depthAll xs
  | [] => by simp [depAll, PyData.depthAll]
  | x :: xs => by simp [depAll, PyData.depthAll, dep_depth x, depAll_depth xs]
theorem depKv_depth : ∀ xs : List (D × D), depKv xs = PyData.depthKv xs
  | [] => by simp [depKv, PyData.depthKv]
  | (a, b) :: xs => by simp [depKv, PyData.depthKv, dep_depth a, dep_depth b, depKv_depth xs]
end
mutual
theorem eqD_comm : ∀ x y : D, eqD x y = eqD y x
  | .none, y => by cases y <;> simp [eqD]
  | .bool a, y => by
    cases y <;> simp only [eqD]
    · exact Bool.beq_comm
    · exact Bool.beq_comm
  | .int i, y => by
    cases y <;> simp only [eqD]
    · exact Bool.beq_comm
    · exact Bool.beq_comm
  | .str a, y => by
    cases y <;> simp [eqD]
    exact Bool.beq_comm
  | .list xs, y => by
    cases y <;> simp [eqD]
    exact eqAll_comm xs _
  | .tuple xs, y => by
    cases y <;> simp [eqD]
    exact eqAll_comm xs _
  | .dict _, y => by cases y <;> simp [eqD]
theorem eqAll_comm : ∀ xs ys : List D, eqAll xs ys = eqAll ys xs
  | [], [] => rfl
  | [], _ :: _ => rfl
  | _ :: _, [] => rfl
  | x :: xs, y :: ys => by
    show (eqD x y && eqAll xs ys) = (eqD y x && eqAll ys xs)
    rw [eqD_comm x y, eqAll_comm xs ys]
end
theorem ltL_iff : ∀ a b : List Nat, ltL a b = decide (a < b)
  | [], [] => by simp [ltL]
  | [], _ :: _ => by simp [ltL]
  | _ :: _, [] => by simp [ltL]
  | a :: x, b :: y => by
    rw [ltL, ltL_iff x y]
    by_cases h : a = b
    · subst h
      rw [if_pos rfl]
      simp [List.cons_lt_cons_iff]
    · rw [if_neg h]
      simp [List.cons_lt_cons_iff, h]

/-! ### == -/
mutual
theorem eqD_refl : ∀ {x : D}, nod x = true → eqD x x = true
  | .none, _ => by simp [eqD]
  | .bool _, _ => by simp [eqD]
  | .int _, _ => by simp [eqD]
  | .str _, _ => by simp [eqD]
  | .list xs, h => by simp only [eqD]; exact eqAll_refl (by simpa [nod] using h)
  | .tuple xs, h => by simp only [eqD]; exact eqAll_refl (by simpa [nod] using h)
  | .dict _, h => by simp [nod] at h
theorem eqAll_refl : ∀ {xs : List D}, nodAll xs = true → eqAll xs xs = true
  | [], _ => by simp [eqAll]
  | x :: xs, h => by
    simp only [nodAll, Bool.and_eq_true] at h
    simp [eqAll, eqD_refl h.1, eqAll_refl h.2]
end
theorem nodAll_get : ∀ {xs : List D} {j : Nat} {x : D}, nodAll xs = true → xs[j]? = some x → nod x = true
  | [], _, _, _, h => by simp at h
  | a :: xs, 0, x, h, e => by
    simp only [nodAll, Bool.and_eq_true] at h
    simp at e
    subst e
    exact h.1
  | a :: xs, j + 1, x, h, e => by
    simp only [nodAll, Bool.and_eq_true] at h
    exact nodAll_get h.2 (by simpa using e)
theorem depAll_get : ∀ {xs : List D} {j : Nat} {x : D}, xs[j]? = some x → dep x ≤ depAll xs
  | [], _, _, h => by simp at h
  | a :: xs, 0, x, h => by
    simp at h
    subst h
    simp only [depAll]
    omega
  | a :: xs, j + 1, x, h => by
    have := depAll_get (xs := xs) (j := j) (x := x) (by simpa using h)
    simp only [depAll]
    omega
theorem readsAll_get {h : Heap} : ∀ {vs : List Value} {ds : List D} {as : List Addr} {j : Nat} {v : Value}, ReadsAll h vs ds as → vs[j]? = some v → ∃ d bs, ds[j]? = some d ∧ Reads h v d bs
  | _, _, _, _, _, .nil, e => by simp at e
  | _, _, _, 0, _, .cons h1 _, e => by simp at e; subst e; exact ⟨_, _, rfl, h1⟩
  | _, _, _, j + 1, _, .cons _ h2, e => by
    obtain ⟨d, bs, e1, e2⟩ := readsAll_get (j := j) h2 (by simpa using e)
    exact ⟨d, bs, by simpa using e1, e2⟩
theorem readsAll_len {h : Heap} : ∀ {vs : List Value} {ds : List D} {as : List Addr}, ReadsAll h vs ds as → vs.length = ds.length
  | _, _, _, .nil => rfl
  | _, _, _, .cons _ h2 => by simp [readsAll_len h2]
open SeqAt in
theorem pairEq_eqD {xs ys : List D} {j : Nat} {x y : D} (h1 : xs[j]? = some x) (h2 : ys[j]? = some y) : pairEq xs ys j = eqD x y := by
  unfold pairEq
  rw [List.getD_eq_getElem?_getD, List.getD_eq_getElem?_getD, h1, h2, eqD_eqv]
  rfl
open SeqAt in
/-- == of two values that read as data: the sequences' items are asked by ih -/
theorem rcAtN {n : Nat} (ih : ∀ (da db : D) (A : Around) (s : Shared) (a b : Value) (as bs : List Addr), dep da < n → Reads s.heap a da as → Reads s.heap b db bs → nod da = true → nod db = true → A.units + min (dep da) (dep db) < cLine → EqAt A s a b (eqD da db))
    (da db : D) (A : Around) (s : Shared) (a b : Value) (as bs : List Addr) (hn : dep da ≤ n) (ra : Reads s.heap a da as) (rb : Reads s.heap b db bs) (na : nod da = true) (nb : nod db = true)
    (hu : A.units + min (dep da) (dep db) < cLine) : RcAt A s a b (eqD da db) := by
  have hu0 : A.units < cLine := by omega
  have items : ∀ (xs ys : List D) (vs ws : Array Value) (as bs : List Addr), nodAll xs = true → nodAll ys = true → depAll xs < n → A.units + 1 + min (depAll xs) (depAll ys) < cLine → ReadsAll s.heap vs.toList xs as → ReadsAll s.heap ws.toList ys bs →
      ∀ (j : Nat) (h1 : j < vs.size) (h2 : j < ws.size), EqAt A.in1 s vs[j] ws[j] (pairEq xs ys j) := fun xs ys vs ws as bs na nb hd hu ra rb j h1 h2 => by
    obtain ⟨x, cs, e1, r1⟩ := readsAll_get (j := j) (v := vs[j]) ra (by simp [h1])
    obtain ⟨y, ds, e2, r2⟩ := readsAll_get (j := j) (v := ws[j]) rb (by simp [h2])
    rw [pairEq_eqD e1 e2]
    have d1 := depAll_get e1
    have d2 := depAll_get e2
    have l1 := Nat.min_le_left (dep x) (dep y)
    have l2 := Nat.min_le_right (dep x) (dep y)
    refine ih x y A.in1 s _ _ cs ds (by omega) r1 r2 (nodAll_get na e1) (nodAll_get nb e2) ?_
    show A.units + 1 + min (dep x) (dep y) < cLine
    omega
  cases ra with
  | dict => simp [nod] at na
  | none =>
    cases rb with
    | dict => simp [nod] at nb
    | none => exact RcAt.none_none
    | bool y => exact RcAt.none_bool y
    | int y u => exact RcAt.none_int y u
    | str y u => exact RcAt.none_str y u
    | list k1 k2 k3 k4 => exact RcAt.none_list ⟨_, k1, k2, _, k3⟩ hu0
    | tuple k1 k2 k3 k4 => exact RcAt.none_tuple ⟨_, k1, k2, _, k3⟩ hu0
  | bool x =>
    cases rb with
    | dict => simp [nod] at nb
    | none => exact RcAt.bool_none x
    | bool y => exact RcAt.bool_bool x y
    | int y u => exact RcAt.bool_int x y u
    | str y u => exact RcAt.bool_str x y u
    | list k1 k2 k3 k4 => exact RcAt.bool_list x ⟨_, k1, k2, _, k3⟩ hu0
    | tuple k1 k2 k3 k4 => exact RcAt.bool_tuple x ⟨_, k1, k2, _, k3⟩ hu0
  | int x t =>
    cases rb with
    | dict => simp [nod] at nb
    | none => exact RcAt.int_none x t
    | bool y => exact RcAt.int_bool x t y
    | int y u => exact RcAt.int_int x t y u
    | str y u => exact RcAt.int_str x t y u
    | list k1 k2 k3 k4 => exact RcAt.int_list x t ⟨_, k1, k2, _, k3⟩ hu0
    | tuple k1 k2 k3 k4 => exact RcAt.int_tuple x t ⟨_, k1, k2, _, k3⟩ hu0
  | str x t =>
    cases rb with
    | dict => simp [nod] at nb
    | none => exact RcAt.str_none x t
    | bool y => exact RcAt.str_bool x t y
    | int y u => exact RcAt.str_int x t y u
    | str y u => exact RcAt.str_str x t y u
    | list k1 k2 k3 k4 => exact RcAt.str_list x t ⟨_, k1, k2, _, k3⟩ hu0
    | tuple k1 k2 k3 k4 => exact RcAt.str_tuple x t ⟨_, k1, k2, _, k3⟩ hu0
  | @list l o vs m xs as₁ h1 h2 h3 h4 =>
    have hl : s.heap.IsList l vs := ⟨_, h1, h2, _, h3⟩
    cases rb with
    | dict => simp [nod] at nb
    | none => exact RcAt.list_none hl hu0
    | bool y => exact RcAt.list_bool y hl hu0
    | int y u => exact RcAt.list_int y u hl hu0
    | str y u => exact RcAt.list_str y u hl hu0
    | tuple k1 k2 k3 k4 => exact RcAt.list_tuple hl ⟨_, k1, k2, _, k3⟩ hu0
    | @list l' o' vs' m' ys bs₁ k1 k2 k3 k4 =>
      have hl' : s.heap.IsList l' vs' := ⟨_, k1, k2, _, k3⟩
      have n1 : vs.size = xs.length := by simpa using readsAll_len h4
      have n2 : vs'.size = ys.length := by simpa using readsAll_len k4
      have na' : nodAll xs = true := by simpa [nod] using na
      have nb' : nodAll ys = true := by simpa [nod] using nb
      have dn : depAll xs < n := by simp only [dep] at hn; omega
      simp only [dep] at hu
      show RcAt A s (.ref l) (.ref l') (eqD (.list xs) (.list ys))
      rw [show eqD (.list xs) (.list ys) = PyData.eqvAll xs ys by simp only [eqD]; exact eqAll_eqv xs ys]
      by_cases hsz : vs.size = vs'.size
      · rw [← eqvAll_same_length (by omega : xs.length = ys.length), ← n1]
        exact RcAt.lists hl hl' hsz hu0 (items xs ys vs vs' _ _ na' nb' dn (by omega) h4 k4)
      · rw [eqvAll_other_length (by omega : xs.length ≠ ys.length)]
        exact RcAt.lists_lengths hl hl' (by simpa using hsz) hu0
  | @tuple l o vs m xs as₁ h1 h2 h3 h4 =>
    have hl : s.heap.IsTuple l vs := ⟨_, h1, h2, _, h3⟩
    cases rb with
    | dict => simp [nod] at nb
    | none => exact RcAt.tuple_none hl hu0
    | bool y => exact RcAt.tuple_bool y hl hu0
    | int y u => exact RcAt.tuple_int y u hl hu0
    | str y u => exact RcAt.tuple_str y u hl hu0
    | list k1 k2 k3 k4 => exact RcAt.tuple_list hl ⟨_, k1, k2, _, k3⟩ hu0
    | @tuple l' o' vs' m' ys bs₁ k1 k2 k3 k4 =>
      have hl' : s.heap.IsTuple l' vs' := ⟨_, k1, k2, _, k3⟩
      have n1 : vs.size = xs.length := by simpa using readsAll_len h4
      have n2 : vs'.size = ys.length := by simpa using readsAll_len k4
      have na' : nodAll xs = true := by simpa [nod] using na
      have nb' : nodAll ys = true := by simpa [nod] using nb
      have dn : depAll xs < n := by simp only [dep] at hn; omega
      simp only [dep] at hu
      show RcAt A s (.ref l) (.ref l') (eqD (.tuple xs) (.tuple ys))
      rw [show eqD (.tuple xs) (.tuple ys) = PyData.eqvAll xs ys by simp only [eqD]; exact eqAll_eqv xs ys, ← eqvAll_eq xs ys, ← n1, ← n2]
      exact RcAt.tuples hl hl' hu0 (items xs ys vs vs' _ _ na' nb' dn (by omega) h4 k4)
open SeqAt in
theorem eqAtN : ∀ (n : Nat) (da db : D) (A : Around) (s : Shared) (a b : Value) (as bs : List Addr), dep da < n → Reads s.heap a da as → Reads s.heap b db bs → nod da = true → nod db = true →
    A.units + min (dep da) (dep db) < cLine → EqAt A s a b (eqD da db) := by
  intro n
  induction n with
  | zero => intro da db A s a b as bs h; omega
  | succ n ih =>
    intro da db A s a b as bs hn ra rb na nb hu
    have rc : RcAt A s a b (eqD da db) := rcAtN (n := n) ih da db A s a b as bs (by omega) ra rb na nb hu
    have hu0 : A.units < cLine := by omega
    cases ra with
    | dict => simp [nod] at na
    | none =>
      cases rb with
      | dict => simp [nod] at nb
      | none => exact EqAt.same _
      | bool y => exact EqAt.none_bool y
      | int y u => exact EqAt.none_int y u
      | str y u => exact EqAt.none_str y u
      | list k1 k2 k3 k4 => exact EqAt.none_list ⟨_, k1, k2, _, k3⟩ hu0
      | tuple k1 k2 k3 k4 => exact EqAt.none_tuple ⟨_, k1, k2, _, k3⟩ hu0
    | bool x =>
      cases rb with
      | dict => simp [nod] at nb
      | none => exact EqAt.bool_none x
      | bool y => exact EqAt.bool_bool x y
      | int y u => exact EqAt.bool_int x y u
      | str y u => exact EqAt.bool_str x y u
      | list k1 k2 k3 k4 => exact EqAt.bool_list x ⟨_, k1, k2, _, k3⟩ hu0
      | tuple k1 k2 k3 k4 => exact EqAt.bool_tuple x ⟨_, k1, k2, _, k3⟩ hu0
    | int x t =>
      cases rb with
      | dict => simp [nod] at nb
      | none => exact EqAt.int_none x t
      | bool y => exact EqAt.int_bool x t y
      | int y u => exact EqAt.int_int x t y u
      | str y u => exact EqAt.int_str x t y u
      | list k1 k2 k3 k4 => exact EqAt.int_list x t ⟨_, k1, k2, _, k3⟩ hu0
      | tuple k1 k2 k3 k4 => exact EqAt.int_tuple x t ⟨_, k1, k2, _, k3⟩ hu0
    | str x t =>
      cases rb with
      | dict => simp [nod] at nb
      | none => exact EqAt.str_none x t
      | bool y => exact EqAt.str_bool x t y
      | int y u => exact EqAt.str_int x t y u
      | str y u => exact EqAt.str_str x t y u
      | list k1 k2 k3 k4 => exact EqAt.str_list x t ⟨_, k1, k2, _, k3⟩ hu0
      | tuple k1 k2 k3 k4 => exact EqAt.str_tuple x t ⟨_, k1, k2, _, k3⟩ hu0
    | @list l o vs m xs as₁ h1 h2 h3 h4 =>
      have hl : s.heap.IsList l vs := ⟨_, h1, h2, _, h3⟩
      cases rb with
      | dict => simp [nod] at nb
      | none => exact EqAt.list_none hl hu0
      | bool y => exact EqAt.list_bool y hl hu0
      | int y u => exact EqAt.list_int y u hl hu0
      | str y u => exact EqAt.list_str y u hl hu0
      | tuple k1 k2 k3 k4 => exact EqAt.list_tuple hl ⟨_, k1, k2, _, k3⟩ hu0
      | @list l' o' vs' m' ys bs₁ k1 k2 k3 k4 =>
        by_cases hll : l = l'
        · subst hll
          obtain ⟨e, _⟩ := PyProof.Rows.reads_det (fun _ _ e _ => e) (Reads.list h1 h2 h3 h4) (Reads.list k1 k2 k3 k4)
          rw [e, eqD_refl na]
          exact EqAt.same _
        · exact EqAt.of_refs hll rc
    | @tuple l o vs m xs as₁ h1 h2 h3 h4 =>
      have hl : s.heap.IsTuple l vs := ⟨_, h1, h2, _, h3⟩
      cases rb with
      | dict => simp [nod] at nb
      | none => exact EqAt.tuple_none hl hu0
      | bool y => exact EqAt.tuple_bool y hl hu0
      | int y u => exact EqAt.tuple_int y u hl hu0
      | str y u => exact EqAt.tuple_str y u hl hu0
      | list k1 k2 k3 k4 => exact EqAt.tuple_list hl ⟨_, k1, k2, _, k3⟩ hu0
      | @tuple l' o' vs' m' ys bs₁ k1 k2 k3 k4 =>
        by_cases hll : l = l'
        · subst hll
          obtain ⟨e, _⟩ := PyProof.Rows.reads_det (fun _ _ e _ => e) (Reads.tuple h1 h2 h3 h4) (Reads.tuple k1 k2 k3 k4)
          rw [e, eqD_refl na]
          exact EqAt.same _
        · exact EqAt.of_refs hll rc
open SeqAt in
theorem eqAtD {da db : D} {A : Around} {s : Shared} {a b : Value} {as bs : List Addr} (ra : Reads s.heap a da as) (rb : Reads s.heap b db bs) (na : nod da = true) (nb : nod db = true) (hu : A.units + min (dep da) (dep db) < cLine) : EqAt A s a b (eqD da db) :=
  eqAtN _ da db A s a b as bs (Nat.lt_succ_self _) ra rb na nb hu
open SeqAt in
theorem rcAtD {da db : D} {A : Around} {s : Shared} {a b : Value} {as bs : List Addr} (ra : Reads s.heap a da as) (rb : Reads s.heap b db bs) (na : nod da = true) (nb : nod db = true) (hu : A.units + min (dep da) (dep db) < cLine) : RcAt A s a b (eqD da db) :=
  rcAtN (fun da db A s a b as bs => eqAtN _ da db A s a b as bs) da db A s a b as bs (Nat.le_refl _) ra rb na nb hu
open SeqAt in
/-- != of two values that read as data: the sequences' items are asked by ih -/
theorem rcNeN {n : Nat} (ih : ∀ (da db : D) (A : Around) (s : Shared) (a b : Value) (as bs : List Addr), dep da < n → Reads s.heap a da as → Reads s.heap b db bs → nod da = true → nod db = true → A.units + min (dep da) (dep db) < cLine → EqAt A s a b (eqD da db))
    (da db : D) (A : Around) (s : Shared) (a b : Value) (as bs : List Addr) (hn : dep da ≤ n) (ra : Reads s.heap a da as) (rb : Reads s.heap b db bs) (na : nod da = true) (nb : nod db = true)
    (hu : A.units + min (dep da) (dep db) < cLine) : RcNeAt A s a b (!eqD da db) := by
  have hu0 : A.units < cLine := by omega
  have items : ∀ (xs ys : List D) (vs ws : Array Value) (as bs : List Addr), nodAll xs = true → nodAll ys = true → depAll xs < n → A.units + 1 + min (depAll xs) (depAll ys) < cLine → ReadsAll s.heap vs.toList xs as → ReadsAll s.heap ws.toList ys bs →
      ∀ (j : Nat) (h1 : j < vs.size) (h2 : j < ws.size), EqAt A.in1 s vs[j] ws[j] (pairEq xs ys j) := fun xs ys vs ws as bs na nb hd hu ra rb j h1 h2 => by
    obtain ⟨x, cs, e1, r1⟩ := readsAll_get (j := j) (v := vs[j]) ra (by simp [h1])
    obtain ⟨y, ds, e2, r2⟩ := readsAll_get (j := j) (v := ws[j]) rb (by simp [h2])
    rw [pairEq_eqD e1 e2]
    have d1 := depAll_get e1
    have d2 := depAll_get e2
    have l1 := Nat.min_le_left (dep x) (dep y)
    have l2 := Nat.min_le_right (dep x) (dep y)
    refine ih x y A.in1 s _ _ cs ds (by omega) r1 r2 (nodAll_get na e1) (nodAll_get nb e2) ?_
    show A.units + 1 + min (dep x) (dep y) < cLine
    omega
  cases ra with
  | dict => simp [nod] at na
  | none =>
    cases rb with
    | dict => simp [nod] at nb
    | none => exact RcNeAt.none_none
    | bool y => exact RcNeAt.none_bool y
    | int y u => exact RcNeAt.none_int y u
    | str y u => exact RcNeAt.none_str y u
    | list k1 k2 k3 k4 => exact RcNeAt.none_list ⟨_, k1, k2, _, k3⟩ hu0
    | tuple k1 k2 k3 k4 => exact RcNeAt.none_tuple ⟨_, k1, k2, _, k3⟩ hu0
  | bool x =>
    cases rb with
    | dict => simp [nod] at nb
    | none => exact RcNeAt.bool_none x
    | bool y => exact RcNeAt.bool_bool x y
    | int y u => exact RcNeAt.bool_int x y u
    | str y u => exact RcNeAt.bool_str x y u
    | list k1 k2 k3 k4 => exact RcNeAt.bool_list x ⟨_, k1, k2, _, k3⟩ hu0
    | tuple k1 k2 k3 k4 => exact RcNeAt.bool_tuple x ⟨_, k1, k2, _, k3⟩ hu0
  | int x t =>
    cases rb with
    | dict => simp [nod] at nb
    | none => exact RcNeAt.int_none x t
    | bool y => exact RcNeAt.int_bool x t y
    | int y u => exact RcNeAt.int_int x t y u
    | str y u => exact RcNeAt.int_str x t y u
    | list k1 k2 k3 k4 => exact RcNeAt.int_list x t ⟨_, k1, k2, _, k3⟩ hu0
    | tuple k1 k2 k3 k4 => exact RcNeAt.int_tuple x t ⟨_, k1, k2, _, k3⟩ hu0
  | str x t =>
    cases rb with
    | dict => simp [nod] at nb
    | none => exact RcNeAt.str_none x t
    | bool y => exact RcNeAt.str_bool x t y
    | int y u => exact RcNeAt.str_int x t y u
    | str y u => exact RcNeAt.str_str x t y u
    | list k1 k2 k3 k4 => exact RcNeAt.str_list x t ⟨_, k1, k2, _, k3⟩ hu0
    | tuple k1 k2 k3 k4 => exact RcNeAt.str_tuple x t ⟨_, k1, k2, _, k3⟩ hu0
  | @list l o vs m xs as₁ h1 h2 h3 h4 =>
    have hl : s.heap.IsList l vs := ⟨_, h1, h2, _, h3⟩
    cases rb with
    | dict => simp [nod] at nb
    | none => exact RcNeAt.list_none hl hu0
    | bool y => exact RcNeAt.list_bool y hl hu0
    | int y u => exact RcNeAt.list_int y u hl hu0
    | str y u => exact RcNeAt.list_str y u hl hu0
    | tuple k1 k2 k3 k4 => exact RcNeAt.list_tuple hl ⟨_, k1, k2, _, k3⟩ hu0
    | @list l' o' vs' m' ys bs₁ k1 k2 k3 k4 =>
      have hl' : s.heap.IsList l' vs' := ⟨_, k1, k2, _, k3⟩
      have n1 : vs.size = xs.length := by simpa using readsAll_len h4
      have n2 : vs'.size = ys.length := by simpa using readsAll_len k4
      have na' : nodAll xs = true := by simpa [nod] using na
      have nb' : nodAll ys = true := by simpa [nod] using nb
      have dn : depAll xs < n := by simp only [dep] at hn; omega
      simp only [dep] at hu
      show RcNeAt A s (.ref l) (.ref l') (!eqD (.list xs) (.list ys))
      rw [show eqD (.list xs) (.list ys) = PyData.eqvAll xs ys by simp only [eqD]; exact eqAll_eqv xs ys]
      by_cases hsz : vs.size = vs'.size
      · rw [← eqvAll_same_length (by omega : xs.length = ys.length), ← n1]
        exact RcNeAt.lists hl hl' hsz hu0 (items xs ys vs vs' _ _ na' nb' dn (by omega) h4 k4)
      · rw [eqvAll_other_length (by omega : xs.length ≠ ys.length)]
        exact RcNeAt.lists_lengths hl hl' (by simpa using hsz) hu0
  | @tuple l o vs m xs as₁ h1 h2 h3 h4 =>
    have hl : s.heap.IsTuple l vs := ⟨_, h1, h2, _, h3⟩
    cases rb with
    | dict => simp [nod] at nb
    | none => exact RcNeAt.tuple_none hl hu0
    | bool y => exact RcNeAt.tuple_bool y hl hu0
    | int y u => exact RcNeAt.tuple_int y u hl hu0
    | str y u => exact RcNeAt.tuple_str y u hl hu0
    | list k1 k2 k3 k4 => exact RcNeAt.tuple_list hl ⟨_, k1, k2, _, k3⟩ hu0
    | @tuple l' o' vs' m' ys bs₁ k1 k2 k3 k4 =>
      have hl' : s.heap.IsTuple l' vs' := ⟨_, k1, k2, _, k3⟩
      have n1 : vs.size = xs.length := by simpa using readsAll_len h4
      have n2 : vs'.size = ys.length := by simpa using readsAll_len k4
      have na' : nodAll xs = true := by simpa [nod] using na
      have nb' : nodAll ys = true := by simpa [nod] using nb
      have dn : depAll xs < n := by simp only [dep] at hn; omega
      simp only [dep] at hu
      show RcNeAt A s (.ref l) (.ref l') (!eqD (.tuple xs) (.tuple ys))
      rw [show eqD (.tuple xs) (.tuple ys) = PyData.eqvAll xs ys by simp only [eqD]; exact eqAll_eqv xs ys, ← eqvAll_eq xs ys, ← n1, ← n2]
      exact RcNeAt.tuples hl hl' hu0 (items xs ys vs vs' _ _ na' nb' dn (by omega) h4 k4)
open SeqAt in
theorem rcNeD {da db : D} {A : Around} {s : Shared} {a b : Value} {as bs : List Addr} (ra : Reads s.heap a da as) (rb : Reads s.heap b db bs) (na : nod da = true) (nb : nod db = true) (hu : A.units + min (dep da) (dep db) < cLine) : RcNeAt A s a b (!eqD da db) :=
  rcNeN (fun da db A s a b as bs => eqAtN _ da db A s a b as bs) da db A s a b as bs (Nat.le_refl _) ra rb na nb hu
section
variable {G : Gd} {X : Cx} {pins : List (Addr × Obj)} {σ : L2.St} {s : Shared} {x : Wd}
def rCm (Y : Rt) (op : COp) : R2 := fun v u H Q => ∃ x a b k, x.H = H ∧ SR Y x ∧ WV Y x v a ∧ WV Y x u b ∧ cmpW x.st op a b = some k ∧ Q (.bl k) H
theorem eqOk_room {A : Around} {d e : D} (h : eqOk d e = true) (hu : A.units + 64 < cLine) : nod d = true ∧ nod e = true ∧ A.units + min (dep d) (dep e) < cLine := by
  simp only [eqOk, Bool.and_eq_true, Bool.or_eq_true, decide_eq_true_eq] at h
  obtain ⟨⟨h1, h2⟩, h3⟩ := h
  refine ⟨h1, h2, ?_⟩
  rcases h3 with h3 | h3
  · have := Nat.min_le_left (dep d) (dep e)
    omega
  · have := Nat.min_le_right (dep d) (dep e)
    omega
theorem cmpW_vw {st : Sto} {op : COp} {a b : W} {k : Bool} (h : cmpW st op a b = some k) (h2 : op ≠ .notin) (h3 : op ≠ .is) (h4 : op ≠ .isnot) (h5 : op ≠ .din) (h6 : op ≠ .dnotin) : ∃ d1 d2, vw st a = some d1 ∧ vw st b = some d2 ∧ cmpD op d1 d2 = some k := by
  have key : cmpW st op a b = match vw st a, vw st b with
    | some a, some b => cmpD op a b
    | _, _ => none := by
    cases op <;> first | rfl | contradiction
  rw [key] at h
  cases e1 : vw st a with
  | none => rw [e1] at h; cases h
  | some d1 =>
    cases e2 : vw st b with
    | none => rw [e1, e2] at h; cases h
    | some d2 => rw [e1, e2] at h; exact ⟨d1, d2, rfl, rfl, h⟩
theorem oc_eq (hu : X.A.units + 64 < cLine) : OpR X (compareOp .Eq) (rCm (yof G X) .eq) := by
  intro pins s σ H v u vv uu Q I rv ru ⟨x, a, b, k, hx, S, ha, hb, hk, q⟩
  subst hx
  obtain ⟨d1, d2, e1, e2, e3⟩ := cmpW_vw hk (by simp) (by simp) (by simp) (by simp) (by simp)
  simp only [cmpD] at e3
  split at e3 <;> cases e3
  rename_i ok
  obtain ⟨c1, c2, c3⟩ := eqOk_room ok hu
  obtain ⟨as, r1⟩ := (S.vw ha e1).reads I rv
  obtain ⟨bs, r2⟩ := (S.vw hb e2).reads I ru
  exact rcAtD r1 r2 c1 c2 c3 _ _ _ _ ⟨.bl _, x.H, I, rfl, q⟩
theorem oc_ne (hu : X.A.units + 64 < cLine) : OpR X (compareOp .NotEq) (rCm (yof G X) .ne) := by
  intro pins s σ H v u vv uu Q I rv ru ⟨x, a, b, k, hx, S, ha, hb, hk, q⟩
  subst hx
  obtain ⟨d1, d2, e1, e2, e3⟩ := cmpW_vw hk (by simp) (by simp) (by simp) (by simp) (by simp)
  simp only [cmpD] at e3
  split at e3 <;> cases e3
  rename_i ok
  obtain ⟨c1, c2, c3⟩ := eqOk_room ok hu
  obtain ⟨as, r1⟩ := (S.vw ha e1).reads I rv
  obtain ⟨bs, r2⟩ := (S.vw hb e2).reads I ru
  exact rcNeD r1 r2 c1 c2 c3 _ _ _ _ ⟨.bl _, x.H, I, rfl, q⟩
end

/-! ### order -/
/-- what an order's comparison gives -/
def ordR : CmpOp → D → D → Bool
  | .Lt, x, y => ltD x y
  | .LtE, x, y => !ltD y x
  | .Gt, x, y => ltD y x
  | _, x, y => !ltD x y
def ordZ : CmpOp → Nat → Nat → Bool
  | .Lt, m, n => decide (m < n)
  | .LtE, m, n => decide (m ≤ n)
  | .Gt, m, n => decide (n < m)
  | _, m, n => decide (n ≤ m)
def ordL (op : CmpOp) : List D → List D → Bool
  | x :: xs, y :: ys => if eqD x y then ordL op xs ys else ordR op x y
  | xs, ys => ordZ op xs.length ys.length
def IsOrd (op : CmpOp) : Prop := op = .Lt ∨ op = .LtE ∨ op = .Gt ∨ op = .GtE
theorem ordL_eq {op : CmpOp} (ho : IsOrd op) : ∀ xs ys : List D, ordL op xs ys = ordR op (.tuple xs) (.tuple ys)
  | [], [] => by rcases ho with rfl | rfl | rfl | rfl <;> simp [ordL, ordR, ordZ, ltD, ltAll]
  | [], _ :: _ => by rcases ho with rfl | rfl | rfl | rfl <;> simp [ordL, ordR, ordZ, ltD, ltAll]
  | _ :: _, [] => by rcases ho with rfl | rfl | rfl | rfl <;> simp [ordL, ordR, ordZ, ltD, ltAll]
  | x :: xs, y :: ys => by
    have ih := ordL_eq ho xs ys
    have c := eqD_comm x y
    rcases ho with rfl | rfl | rfl | rfl <;> simp only [ordL, ordR, ltD, ltAll] at * <;> rw [ih] <;> cases h : eqD x y <;> simp_all
def atE (xs ys : List D) (j : Nat) : Bool := match xs[j]?, ys[j]? with
  | some x, some y => eqD x y
  | _, _ => true
def atR (op : CmpOp) (xs ys : List D) (j : Nat) : Bool := match xs[j]?, ys[j]? with
  | some x, some y => ordR op x y
  | _, _ => true
theorem lexAt_ordL {op : CmpOp} (ho : IsOrd op) (xs ys : List D) : ∀ (k i : Nat), k = min xs.length ys.length - i → i ≤ min xs.length ys.length →
    Ob.lexAt (atE xs ys) (atR op xs ys) (ordZ op xs.length ys.length) i k = ordL op (xs.drop i) (ys.drop i)
  | 0, i, hk, hi => by
    rw [Ob.lexAt_zero]
    have h : xs.length = i ∨ ys.length = i := by omega
    have hx : i ≤ xs.length := by omega
    have hy : i ≤ ys.length := by omega
    rcases h with h | h
    · have e : xs.drop i = [] := List.drop_eq_nil_of_le (by omega)
      rw [e]
      cases h2 : ys.drop i with
      | nil =>
        have := congrArg List.length h2
        simp at this
        rcases ho with rfl | rfl | rfl | rfl <;> simp [ordL, ordZ] <;> omega
      | cons y r =>
        have := congrArg List.length h2
        simp at this
        rcases ho with rfl | rfl | rfl | rfl <;> simp [ordL, ordZ] <;> omega
    · have e : ys.drop i = [] := List.drop_eq_nil_of_le (by omega)
      rw [e]
      cases h2 : xs.drop i with
      | nil =>
        have := congrArg List.length h2
        simp at this
        rcases ho with rfl | rfl | rfl | rfl <;> simp [ordL, ordZ] <;> omega
      | cons y r =>
        have := congrArg List.length h2
        simp at this
        rcases ho with rfl | rfl | rfl | rfl <;> simp [ordL, ordZ] <;> omega
  | k + 1, i, hk, hi => by
    have h1 : i < xs.length := by omega
    have h2 : i < ys.length := by omega
    rw [Ob.lexAt_succ, lexAt_ordL ho xs ys k (i + 1) (by omega) (by omega), List.drop_eq_getElem_cons h1, List.drop_eq_getElem_cons h2]
    show (if atE xs ys i = true then ordL op (xs.drop (i + 1)) (ys.drop (i + 1)) else atR op xs ys i) = if eqD xs[i] ys[i] = true then _ else _
    simp only [atE, atR, List.getElem?_eq_getElem h1, List.getElem?_eq_getElem h2]
theorem ordAll_mem : ∀ {xs : List D} {x : D}, ordAll xs = true → x ∈ xs → ordOk x = true
  | y :: ys, x, h, m => by
    simp only [ordAll, Bool.and_eq_true] at h
    rcases List.mem_cons.mp m with rfl | m
    · exact h.1
    · exact ordAll_mem h.2 m
mutual
theorem nod_ord : ∀ {x : D}, ordOk x = true → nod x = true
  | .none, _ => by simp [nod]
  | .int _, _ => by simp [nod]
  | .str _, _ => by simp [nod]
  | .tuple xs, h => by
    simp only [nod]
    exact nodAll_ord (by simpa [ordOk] using h)
  | .bool _, h => by simp [ordOk] at h
  | .list _, h => by simp [ordOk] at h
  | .dict _, h => by simp [ordOk] at h
theorem nodAll_ord : ∀ {xs : List D}, ordAll xs = true → nodAll xs = true
  | [], _ => by simp [nodAll]
  | x :: xs, h => by
    simp only [ordAll, Bool.and_eq_true] at h
    simp [nodAll, nod_ord h.1, nodAll_ord h.2]
end
theorem alkAll_get : ∀ {xs ys : List D} {j : Nat} {x y : D}, alkAll xs ys = true → xs[j]? = some x → ys[j]? = some y → alk x y = true
  | [], _, _, _, _, _, h, _ => by simp at h
  | _ :: _, [], _, _, _, _, _, h => by simp at h
  | c :: xs, d :: ys, 0, x, y, h, h1, h2 => by
    simp only [alkAll, Bool.and_eq_true] at h
    simp at h1 h2
    subst h1; subst h2
    exact h.1
  | c :: xs, d :: ys, j + 1, x, y, h, h1, h2 => by
    simp only [alkAll, Bool.and_eq_true] at h
    exact alkAll_get h.2 (by simpa using h1) (by simpa using h2)
theorem dec_le (i j : Int) : (!decide (j < i)) = decide (i ≤ j) := by
  by_cases h : i ≤ j
  · rw [decide_eq_true h, decide_eq_false (by omega)]; rfl
  · rw [decide_eq_false h, decide_eq_true (by omega)]; rfl
theorem tl_lt (x y : Str) : ltL (tl x) (tl y) = decide (x.cps.toList < y.cps.toList) := ltL_iff _ _
/-- the order of alike data -/
theorem rc_ord {op : CmpOp} (ho : IsOrd op) : ∀ (n : Nat) (da db : D) (A : Around) (s : Shared) (a b : Value) (as bs : List Addr), dep da < n → Reads s.heap a da as → Reads s.heap b db bs → alk da db = true → ordOk da = true → ordOk db = true → isNo da = false →
    A.units + min (dep da) (dep db) < cLine → Ob.RcOp op A s a b (ordR op da db) := by
  intro n
  induction n with
  | zero => intro da db A s a b as bs h; omega
  | succ n ih =>
    intro da db A s a b as bs hn ra rb hal o1 o2 hno hu
    have hu0 : A.units < cLine := by omega
    cases da with
    | none => simp [isNo] at hno
    | bool _ => simp [ordOk] at o1
    | list _ => simp [ordOk] at o1
    | dict _ => simp [ordOk] at o1
    | int i =>
      cases db <;> simp [alk] at hal
      rename_i j
      cases ra
      cases rb
      rename_i t u
      rcases ho with rfl | rfl | rfl | rfl
      · exact Ob.RcOp.lt_int i j t u
      · show Ob.RcOp .LtE A s _ _ (!decide (j < i))
        rw [dec_le]
        exact Ob.RcOp.le_int i j t u
      · exact Ob.RcOp.gt_int i j t u
      · show Ob.RcOp .GtE A s _ _ (!decide (i < j))
        rw [dec_le]
        exact Ob.RcOp.ge_int i j t u
    | str x =>
      cases db <;> simp [alk] at hal
      rename_i y
      cases ra
      cases rb
      rename_i t u
      rcases ho with rfl | rfl | rfl | rfl
      · show Ob.RcOp .Lt A s _ _ (ltL (tl x) (tl y))
        rw [tl_lt]
        exact fun prog w E Q h => PyProof.Rows.lt_str h
      · show Ob.RcOp .LtE A s _ _ (!ltL (tl y) (tl x))
        rw [tl_lt]
        exact fun prog w E Q h => PySem.P.le_str h
      · show Ob.RcOp .Gt A s _ _ (ltL (tl y) (tl x))
        rw [tl_lt]
        exact fun prog w E Q h => PySem.P.gt_str h
      · show Ob.RcOp .GtE A s _ _ (!ltL (tl x) (tl y))
        rw [tl_lt]
        exact fun prog w E Q h => PySem.P.ge_str h
    | tuple xs =>
      cases db <;> simp only [alk] at hal <;> try (cases hal)
      rename_i ys
      rw [← ordL_eq ho xs ys]
      have oa : ordAll xs = true := by simpa [ordOk] using o1
      have ob : ordAll ys = true := by simpa [ordOk] using o2
      cases ra with
      | @tuple l o vs m _ as₁ h1 h2 h3 h4 =>
        cases rb with
        | @tuple l' o' vs' m' _ bs₁ k1 k2 k3 k4 =>
          have hl : s.heap.IsTuple l vs := ⟨_, h1, h2, _, h3⟩
          have hl' : s.heap.IsTuple l' vs' := ⟨_, k1, k2, _, k3⟩
          have n1 : vs.size = xs.length := by simpa using readsAll_len h4
          have n2 : vs'.size = ys.length := by simpa using readsAll_len k4
          simp only [dep] at hn hu
          have item : ∀ (j : Nat) (h1 : j < vs.size) (h2 : j < vs'.size), ∃ x y cs ds, xs[j]? = some x ∧ ys[j]? = some y ∧ Reads s.heap vs[j] x cs ∧ Reads s.heap vs'[j] y ds ∧ alk x y = true ∧ ordOk x = true ∧ ordOk y = true ∧ dep x < n ∧ A.in1.units + min (dep x) (dep y) < cLine := fun j j1 j2 => by
            obtain ⟨x, cs, e1, r1⟩ := readsAll_get (j := j) (v := vs[j]) h4 (by simp [j1])
            obtain ⟨y, ds, e2, r2⟩ := readsAll_get (j := j) (v := vs'[j]) k4 (by simp [j2])
            have d1 := depAll_get e1
            have d2 := depAll_get e2
            have l1 := Nat.min_le_left (dep x) (dep y)
            have l2 := Nat.min_le_right (dep x) (dep y)
            refine ⟨x, y, cs, ds, e1, e2, r1, r2, alkAll_get hal e1 e2, ordAll_mem oa (List.mem_of_getElem? e1), ordAll_mem ob (List.mem_of_getElem? e2), by omega, ?_⟩
            show A.units + 1 + min (dep x) (dep y) < cLine
            omega
          have eqs : ∀ (j : Nat) (h1 : j < vs.size) (h2 : j < vs'.size), SeqAt.EqAt A.in1 s vs[j] vs'[j] (atE xs ys j) := fun j j1 j2 => by
            obtain ⟨x, y, cs, ds, e1, e2, r1, r2, _, q1, q2, _, hu'⟩ := item j j1 j2
            have e : atE xs ys j = eqD x y := by simp [atE, e1, e2]
            rw [e]
            exact eqAtD r1 r2 (nod_ord q1) (nod_ord q2) hu'
          have ors : ∀ (j : Nat) (h1 : j < vs.size) (h2 : j < vs'.size), atE xs ys j = false → Ob.RcOp op A.in1 s vs[j] vs'[j] (atR op xs ys j) := fun j j1 j2 ne => by
            obtain ⟨x, y, cs, ds, e1, e2, r1, r2, q0, q1, q2, q3, hu'⟩ := item j j1 j2
            have e : atR op xs ys j = ordR op x y := by simp [atR, e1, e2]
            rw [e]
            refine ih x y A.in1 s _ _ cs ds q3 r1 r2 q0 q1 q2 ?_ hu'
            cases x <;> simp [isNo]
            cases y <;> simp [alk] at q0
            simp [atE, e1, e2, eqD] at ne
          have fin := lexAt_ordL ho xs ys (min xs.length ys.length) 0 (by omega) (by omega)
          simp only [List.drop_zero] at fin
          rw [← fin, ← n1, ← n2]
          rcases ho with rfl | rfl | rfl | rfl
          · exact Ob.RcOp.tuples_lt hl hl' hu0 eqs ors
          · exact Ob.RcOp.tuples_le hl hl' hu0 eqs ors
          · exact Ob.RcOp.tuples_gt hl hl' hu0 eqs ors
          · exact Ob.RcOp.tuples_ge hl hl' hu0 eqs ors
def cop : COp → CmpOp
  | .eq => .Eq | .ne => .NotEq | .lt => .Lt | .le => .LtE | .gt => .Gt | .ge => .GtE | .isin => .In | .notin => .NotIn | .din => .In | .dnotin => .NotIn | .is => .Is | .isnot => .IsNot
section
variable {G : Gd} {X : Cx} {pins : List (Addr × Obj)} {σ : L2.St} {s : Shared} {x : Wd}
theorem oc_ord {op : COp} (ho : op = .lt ∨ op = .le ∨ op = .gt ∨ op = .ge) (hu : X.A.units + 64 < cLine) : OpR X (compareOp (cop op)) (rCm (yof G X) op) := by
  intro pins s σ H v u vv uu Q I rv ru ⟨x, a, b, k, hx, S, ha, hb, hk, q⟩
  subst hx
  obtain ⟨d1, d2, e1, e2, e3⟩ := cmpW_vw hk (by rcases ho with rfl | rfl | rfl | rfl <;> simp) (by rcases ho with rfl | rfl | rfl | rfl <;> simp) (by rcases ho with rfl | rfl | rfl | rfl <;> simp) (by rcases ho with rfl | rfl | rfl | rfl <;> simp) (by rcases ho with rfl | rfl | rfl | rfl <;> simp)
  have hc : IsOrd (cop op) := by rcases ho with rfl | rfl | rfl | rfl <;> simp [IsOrd, cop]
  have e4 : cmpOk d1 d2 = true ∧ ordR (cop op) d1 d2 = k := by
    rcases ho with rfl | rfl | rfl | rfl <;> (simp only [cmpD] at e3; split at e3 <;> cases e3; rename_i ok; exact ⟨ok, rfl⟩)
  obtain ⟨ok, e5⟩ := e4
  simp only [cmpOk, Bool.and_eq_true, decide_eq_true_eq, Bool.not_eq_true'] at ok
  obtain ⟨c1, c2, c3, c4, c5, c6⟩ := ok
  obtain ⟨as, r1⟩ := (S.vw ha e1).reads I rv
  obtain ⟨bs, r2⟩ := (S.vw hb e2).reads I ru
  have l1 := Nat.min_le_left (dep d1) (dep d2)
  have fin := rc_ord hc _ d1 d2 X.A s vv uu as bs (Nat.lt_succ_self _) r1 r2 c1 c2 c3 c4 (by omega) X.prog X.w X.xe (EP X pins σ Q)
  rw [e5] at fin
  have fin := fin ⟨.bl k, x.H, I, rfl, q⟩
  rcases ho with rfl | rfl | rfl | rfl <;> exact fin
end
end FM
end

section
/-! FM6: is, in; the plain expressions. -/
set_option Elab.async false
set_option linter.all false
set_option maxRecDepth 100000
set_option autoImplicit false
set_option maxHeartbeats 1000000
namespace FM
open PySem PySem.Spec PyProof.Rows L2
section
variable {G : Gd} {X : Cx} {pins : List (Addr × Obj)} {σ : L2.St} {s : Shared} {x : Wd}
/-- what is asks of two values -/
theorem isD_V {Y : Rt} {v u : V} {d1 d2 : D} {k : Bool} (h1 : VD Y x v d1) (h2 : VD Y x u d2) (h : isD d1 d2 = some k) : (u = .non ∧ k = decide (v = .non)) ∨ ∃ a b, v = .bl a ∧ u = .bl b ∧ k = decide (a = b) := by
  cases d1 <;> cases d2 <;> simp only [isD] at h <;> cases h
  · exact .inl ⟨h2.none, by rw [h1.none]; rfl⟩
  · exact .inl ⟨h2.none, by rw [h1.bool]; rfl⟩
  · refine .inr ⟨_, _, h1.bool, h2.bool, ?_⟩
    rw [Bool.beq_eq_decide_eq]
  · exact .inl ⟨h2.none, by rw [h1.int]; rfl⟩
  · exact .inl ⟨h2.none, by rw [h1.str]; rfl⟩
  · obtain ⟨a, vs, rfl, _⟩ := h1.list
    exact .inl ⟨h2.none, rfl⟩
  · obtain ⟨a, vs, rfl, _⟩ := h1.tuple
    exact .inl ⟨h2.none, rfl⟩
  · obtain ⟨a, vs, rfl, _⟩ := h1.dict
    exact .inl ⟨h2.none, rfl⟩
theorem isW_V {Y : Rt} {x : Wd} {v u : V} {a b : W} {k : Bool} (h1 : WV Y x v a) (h2 : WV Y x u b) (h : isW x.st a b = some k) : (u = .non ∧ k = decide (v = .non)) ∨ ∃ a b, v = .bl a ∧ u = .bl b ∧ k = decide (a = b) := by
  cases h1 with
  | d h1 =>
    cases h2 with
    | d h2 => exact isD_V (x := x) (.pv h1) (.pv h2) h
    | ref _ => cases h
    | fn _ => cases h
  | ref h1 =>
    cases h2 with
    | d h2 =>
      rename_i d2
      cases d2 <;> simp only [isW] at h <;> cases h
      cases h2
      exact .inl ⟨rfl, rfl⟩
    | ref _ => cases h
    | fn _ => cases h
  | fn f => cases h
theorem oc_is : OpR X (compareOp .Is) (rCm (yof G X) .is) := by
  intro pins s σ H v u vv uu Q I rv ru ⟨x, a, b, k, hx, S, ha, hb, hk, q⟩
  subst hx
  rcases isW_V ha hb hk with ⟨rfl, rfl⟩ | ⟨i, j, rfl, rfl, rfl⟩
  · exact op_isN pins s σ _ _ _ _ _ _ I rv ru ⟨rfl, q⟩
  · exact op_is_bl pins s σ _ _ _ _ _ _ I rv ru ⟨i, j, rfl, rfl, q⟩
theorem oc_isnot : OpR X (compareOp .IsNot) (rCm (yof G X) .isnot) := by
  intro pins s σ H v u vv uu Q I rv ru ⟨x, a, b, k, hx, S, ha, hb, hk, q⟩
  subst hx
  have hk : (isW x.st a b).map (! ·) = some k := hk
  simp only [Option.map_eq_some_iff] at hk
  obtain ⟨k', hk2, rfl⟩ := hk
  rcases isW_V ha hb hk2 with ⟨rfl, rfl⟩ | ⟨i, j, rfl, rfl, rfl⟩
  · exact op_notN pins s σ _ _ _ _ _ _ I rv ru ⟨rfl, q⟩
  · exact op_isnot_bl pins s σ _ _ _ _ _ _ I rv ru ⟨i, j, rfl, rfl, q⟩

/-! ### in -/
/-- is a value's data equal to d, in the heap h -/
noncomputable def eqIn (h : Heap) (d : D) (v : Value) : Bool := @decide (∃ e as, Reads h v e as ∧ eqD e d = true) (Classical.propDecidable _)
theorem eqIn_of {h : Heap} {d e : D} {v : Value} {as : List Addr} (r : Reads h v e as) : eqIn h d v = eqD e d := by
  unfold eqIn
  by_cases q : eqD e d = true
  · rw [q]
    exact @decide_eq_true _ (Classical.propDecidable _) ⟨e, as, r, q⟩
  · have q0 : eqD e d = false := by simpa using q
    rw [q0]
    refine @decide_eq_false _ (Classical.propDecidable _) ?_
    · rintro ⟨e', as', r', q'⟩
      obtain ⟨z, _⟩ := PyProof.Rows.reads_det (fun _ _ e _ => e) r r'
      subst z
      exact q q'
theorem any_eqIn {h : Heap} {d : D} : ∀ {vs : List Value} {ds : List D} {as : List Addr}, ReadsAll h vs ds as → vs.any (eqIn h d) = ds.any (eqD · d)
  | _, _, _, .nil => rfl
  | _, _, _, .cons r t => by
    rw [List.any_cons, List.any_cons, eqIn_of r, any_eqIn t]
theorem eqAt_items {A : Around} {d : D} {u : Value} {bs : List Addr} (hu : A.units + 65 < cLine) (rd : Reads s.heap u d bs) : ∀ {vs : List Value} {ds : List D} {as : List Addr}, ReadsAll s.heap vs ds as → ds.all (eqOk d) = true → ∀ y ∈ vs, SeqAt.EqAt A.in1 s y u (eqIn s.heap d y)
  | _, _, _, .nil, _, y, h => by simp at h
  | _, _, _, .cons r t, ok, y, h => by
    simp only [List.all_cons, Bool.and_eq_true] at ok
    rcases List.mem_cons.mp h with rfl | h
    · rw [eqIn_of r]
      obtain ⟨c1, c2, c3⟩ := eqOk_room (A := A.in1) ok.1 (by show A.units + 1 + 64 < cLine; omega)
      exact eqAtD r rd c2 c1 (by rw [Nat.min_comm]; exact c3)
    · exact eqAt_items hu rd t ok.2 y h
theorem inStr_some {x y : Str} {k : Bool} (h : inStr x y = some k) : ∃ c, x = ⟨#[c]⟩ ∧ k = decide (c ∈ y.cps.toList) := by
  unfold inStr at h
  split at h
  · rename_i c e
    cases h
    refine ⟨c, ?_, ?_⟩
    · rw [← T_tl x, e]
      rfl
    · show (tl y).contains c = _
      rw [List.contains_eq_mem]
      rfl
  · cases h
/-- in of a list, a tuple, a text -/
theorem oc_in_seq (hu : X.A.units + 65 < cLine) {v u : V} {vv uu : Value} {d1 d2 : D} {k : Bool} (I : Inv X pins σ x.H s) (rv : RelV v vv) (ru : RelV u uu) (h1 : VD (yof G X) x v d1) (h2 : VD (yof G X) x u d2) (h : cmpD .isin d1 d2 = some k) :
    (∀ Q : Value → Shared → Prop, Q (.bool k) s → wpAny (model X.prog X.w) X.A (compareOp .In vv uu) Q X.xe s) ∧ (∀ Q : Value → Shared → Prop, Q (.bool (!k)) s → wpAny (model X.prog X.w) X.A (compareOp .NotIn vv uu) Q X.xe s) := by
  obtain ⟨as, r1⟩ := h1.reads I rv
  have seq : ∀ (ys : List D) (k : Bool), (if ys.all (eqOk d1) = true then some (ys.any (eqD · d1)) else none) = some k → ys.all (eqOk d1) = true ∧ k = ys.any (eqD · d1) := fun ys k h => by
    split at h
    · rename_i q
      cases h
      exact ⟨q, rfl⟩
    · cases h
  cases d2 with
  | none => cases d1 <;> cases h
  | bool _ => cases d1 <;> cases h
  | int _ => cases d1 <;> cases h
  | dict _ => cases d1 <;> cases h
  | str y =>
    cases d1 <;> simp only [cmpD] at h <;> try cases h
    obtain ⟨c, rfl, rfl⟩ := inStr_some h
    obtain rfl := h1.str
    obtain rfl := h2.str
    obtain ⟨t, rfl⟩ := rv
    obtain ⟨t', rfl⟩ := ru
    refine ⟨fun Q q => PyProof.Rows.in_str ?_, fun Q q => PyProof.Rows.notIn_str ?_⟩
    · rw [PySem.StrLaws.found_one]; exact q
    · rw [PySem.StrLaws.found_one]; exact q
  | list ys =>
    have h : (if ys.all (eqOk d1) = true then some (ys.any (eqD · d1)) else none) = some k := by cases d1 <;> exact h
    obtain ⟨ok, rfl⟩ := seq ys k h
    obtain ⟨a, vs, rfl, rd, ps⟩ := h2.list
    cases ru
    obtain ⟨its, n, rl, e, _⟩ := rd_lst I rd
    obtain ⟨bs, ra⟩ := PVs.reads I ps rl
    have hl : s.heap.IsList a its.toArray := ⟨_, e, rfl, _, rfl⟩
    have ea : its.toArray.any (eqIn s.heap d1) = ys.any (eqD · d1) := by rw [← any_eqIn ra]; simp
    refine ⟨fun Q q => SeqAt.in_listAt (eqIn s.heap d1) hl (fun y hy => eqAt_items hu r1 ra ok y (by simpa using hy)) (by rw [ea]; exact q), fun Q q => SeqAt.notIn_listAt (eqIn s.heap d1) hl (fun y hy => eqAt_items hu r1 ra ok y (by simpa using hy)) (by rw [ea]; exact q)⟩
  | tuple ys =>
    have h : (if ys.all (eqOk d1) = true then some (ys.any (eqD · d1)) else none) = some k := by cases d1 <;> exact h
    obtain ⟨ok, rfl⟩ := seq ys k h
    obtain ⟨a, vs, rfl, rd, ps⟩ := h2.tuple
    cases ru
    obtain ⟨its, rl, ⟨o, e, c, n, dd⟩, _⟩ := I.tuple rd.sq
    obtain ⟨bs, ra⟩ := PVs.reads I ps rl
    have hl : s.heap.IsTuple a its.toArray := ⟨o, e, c, n, dd⟩
    have ea : its.toArray.any (eqIn s.heap d1) = ys.any (eqD · d1) := by rw [← any_eqIn ra]; simp
    refine ⟨fun Q q => SeqAt.in_tupleAt (eqIn s.heap d1) hl (fun y hy => eqAt_items hu r1 ra ok y (by simpa using hy)) (by rw [ea]; exact q), fun Q q => SeqAt.notIn_tupleAt (eqIn s.heap d1) hl (fun y hy => eqAt_items hu r1 ra ok y (by simpa using hy)) (by rw [ea]; exact q)⟩
theorem oc_in (hu : X.A.units + 65 < cLine) : OpR X (compareOp .In) (rCm (yof G X) .isin) := by
  intro pins s σ H v u vv uu Q I rv ru ⟨x, a, b, k, hx, S, ha, hb, hk, q⟩
  subst hx
  obtain ⟨d1, d2, e1, e2, e3⟩ := cmpW_vw hk (by simp) (by simp) (by simp) (by simp) (by simp)
  exact (oc_in_seq hu I rv ru (S.vw ha e1) (S.vw hb e2) e3).1 _ ⟨.bl k, x.H, I, rfl, q⟩
theorem oc_notin (hu : X.A.units + 65 < cLine) : OpR X (compareOp .NotIn) (rCm (yof G X) .notin) := by
  intro pins s σ H v u vv uu Q I rv ru ⟨x, a, b, k, hx, S, ha, hb, hk, q⟩
  subst hx
  have hk : (cmpP x.st .isin a b).map (! ·) = some k := hk
  simp only [Option.map_eq_some_iff] at hk
  obtain ⟨k', hk2, rfl⟩ := hk
  obtain ⟨d1, d2, e1, e2, e3⟩ := cmpW_vw (op := .isin) hk2 (by simp) (by simp) (by simp) (by simp) (by simp)
  exact (oc_in_seq hu I rv ru (S.vw ha e1) (S.vw hb e2) e3).2 _ ⟨.bl (!k'), x.H, I, rfl, q⟩
end
end FM
end

section
/-! FM7: the plain expressions, by the evaluator. -/
set_option Elab.async false
set_option linter.all false
set_option maxRecDepth 100000
set_option autoImplicit false
set_option maxHeartbeats 1000000
namespace FM
open PySem PySem.Spec PyProof.Rows L2
section
variable {G : Gd} {X : Cx} {Wx : WX} {P : Prog} {R : Fun1} {Φ : Call} {pos : Pos}
abbrev FV (G : Gd) (X : Cx) (Wx : WX) (P : Prog) (R : Fun1) (Φ : Call) (e : Expr) (a : E) : Prop := FE G X Wx e (evE P R Φ a)
abbrev FC (G : Gd) (X : Cx) (Wx : WX) (P : Prog) (R : Fun1) (Φ : Call) (e : Expr) (c : C) : Prop := FT G X Wx e (evC P R Φ c)
abbrev FL (G : Gd) (X : Cx) (Wx : WX) (P : Prog) (R : Fun1) (Φ : Call) (es : List Expr) (a : Es) : Prop := FA G X Wx es (evEs P R Φ a)
variable {e e1 e2 e3 : Expr} {a b c : E}

theorem fe_bad : FV G X Wx P R Φ e .bad := ⟨fun pins s σ H Q I ⟨ρ, x, hx, S, En, h⟩ => by rw [evE] at h; exact h.elim⟩
theorem fe_var {i : Nat} {n : Str} (hN : X.N[i]? = some n := by rfl) (hv : Vis X.env.scope n := by first | exact Or.inl rfl | exact Or.inr (Or.inl rfl) | exact Or.inr (Or.inr rfl)) (hd : (n == ("__debug__" : Str)) = false := by decide)
    (hcd : (n == ("__classdict__" : Str)) = false := by decide) : FV G X Wx P R Φ (.Name n pos) (.var i) := (pe_var hN hv hd hcd).imp fun σ H Q ⟨ρ, x, hx, S, En, h⟩ => by
  rw [evE] at h
  obtain ⟨w, e1, k⟩ := rpost_of h
  obtain ⟨v, e2, hv⟩ := En.var e1
  subst hx
  exact ⟨v, e2, k v x (Ext.refl x) S rfl hv⟩
theorem fe_int {i : Int} {j} : FV G X Wx P R Φ (.Constant (.int i) j pos) (.int i) := pe_int.imp fun σ H Q ⟨ρ, x, hx, S, En, h⟩ => by
  rw [evE] at h; subst hx; exact h _ x (Ext.refl x) S rfl (.d (.int i))
theorem fe_bl {i : Bool} {j} : FV G X Wx P R Φ (.Constant (.bool i) j pos) (.bl i) := pe_bl.imp fun σ H Q ⟨ρ, x, hx, S, En, h⟩ => by
  rw [evE] at h; subst hx; exact h _ x (Ext.refl x) S rfl (.d (.bool i))
theorem fe_none {j} : FV G X Wx P R Φ (.Constant .none j pos) .none := pe_non.imp fun σ H Q ⟨ρ, x, hx, S, En, h⟩ => by
  rw [evE] at h; subst hx; exact h _ x (Ext.refl x) S rfl (.d .none)
theorem fe_str {z : Str} {l : List Nat} {j} (hz : z = T l := by rfl) : FV G X Wx P R Φ (.Constant (.str z) j pos) (.str l) := pe_str.imp fun σ H Q ⟨ρ, x, hx, S, En, h⟩ => by
  rw [evE] at h; subst hx; subst hz; exact h _ x (Ext.refl x) S rfl (.d (.str _))
/-- a name of the module: an int, a text -/
theorem fe_glob {n : Str} {f : String} {v : V} {u : Value} {w : W} (hg : Gl X n) (hm : X.mg n = some u) (r : RelV v u) (hP : P.glob f = some w) (hw : ∀ x : Wd, SR (yof G X) x → WV (yof G X) x v w) (hd : (n == ("__debug__" : Str)) = false := by decide) :
    FV G X Wx P R Φ (.Name n pos) (.glob f) := (pe_glob hg hm r hd).imp fun σ H Q ⟨ρ, x, hx, S, En, h⟩ => by
  rw [evE, hP] at h; subst hx; exact h _ x (Ext.refl x) S rfl (hw x S)

/-! two values, then an operation that leaves the store -/
theorem rd2 {α β : Env → Sto → Res W} {f : Sto → W → W → Option W} {σ : L2.St} {H : Hp} {Q : VK}
    (h : rd (yof G X) Wx (fun y v w => WV (yof G X) y v w) (fun ρ st => (α ρ st).bind fun x st => (β ρ st).bind fun y st => Res.of (f st x y) st) σ H Q) :
    tOp (rOp (yof G X) f) (rd (yof G X) Wx (fun y v w => WV (yof G X) y v w) α) (rd (yof G X) Wx (fun y v w => WV (yof G X) y v w) β) σ H Q := by
  obtain ⟨ρ, x, hx, S, En, h⟩ := h
  refine ⟨ρ, x, hx, S, En, rpost_bind h fun v y a e1 Sy r h2 => ⟨ρ, y, rfl, Sy, En.ext e1, rpost_bind h2 fun u z b e2 Sz r2 h3 => ?_⟩⟩
  obtain ⟨w, hw, k⟩ := rpost_of h3
  exact ⟨z, a, b, w, rfl, Sz, e2.wv r, r2, hw, k⟩
def bop : BOp → Operator
  | .add => .Add | .sub => .Sub | .mul => .Mult | .fdiv => .FloorDiv | .mod => .Mod | .pow => .Pow
theorem fe_bin {op : BOp} (hu : X.A.units + 66 < cLine) (ha : FV G X Wx P R Φ e1 a) (hb : FV G X Wx P R Φ e2 b) : FV G X Wx P R Φ (.BinOp e1 (bop op) e2 pos) (.bin op a b) := by
  have ho : OpR X (binaryOp (bop op)) (rOp (yof G X) fun st => binW st op) := by
    cases op
    · exact ofn_add
    · exact ofn_sub
    · exact ofn_mul
    · exact ofn_fdiv
    · exact ofn_mod
    · exact ofn_pow
  refine (pe_op ho ha hb).imp fun σ H Q ⟨ρ, x, hx, S, En, h⟩ => ?_
  rw [evE] at h
  exact rd2 ⟨ρ, x, hx, S, En, h⟩
theorem fe_neg (ha : FV G X Wx P R Φ e a) : FV G X Wx P R Φ (.UnaryOp .USub e pos) (.neg a) := by
  refine (pe_un un_neg ha).imp fun σ H Q ⟨ρ, x, hx, S, En, h⟩ => ?_
  rw [evE] at h
  refine ⟨ρ, x, hx, S, En, rpost_bind h fun v y w e1 Sy r h2 => ?_⟩
  obtain ⟨w', hw, k⟩ := rpost_of h2
  cases w with
  | d d =>
    cases d <;> simp [int?] at hw
    subst hw
    cases r with
    | d r =>
      cases r
      exact ⟨_, rfl, k _ y (Ext.refl y) Sy rfl (.d (.int _))⟩
  | ref _ => simp [int?] at hw
  | fn _ => simp [int?] at hw
theorem bool_of {Y : Rt} {x : Wd} {v : V} {b : Bool} (h : WV Y x v (.d (.bool b))) : v = .bl b := by
  cases h with
  | d h => cases h; rfl
theorem fe_not (ha : FV G X Wx P R Φ e a) : FV G X Wx P R Φ (.UnaryOp .Not e pos) (.not a) := by
  refine (pe_not ha).imp fun σ H Q ⟨ρ, x, hx, S, En, h⟩ => ?_
  rw [evE] at h
  refine ⟨ρ, x, hx, S, En, rpost_bind h fun v y w e1 Sy r h2 => ?_⟩
  split at h2
  · have := bool_of r
    subst this
    exact ⟨_, rfl, h2 _ y (Ext.refl y) Sy rfl (.d (.bool _))⟩
  · exact h2.elim
/-! ### comparisons -/
/-- a test of two values by f -/
def rTb (Y : Rt) (f : Sto → W → W → Option Bool) : R2 := fun v u H Q => ∃ x a b k, x.H = H ∧ SR Y x ∧ WV Y x v a ∧ WV Y x u b ∧ f x.st a b = some k ∧ Q (.bl k) H
theorem rdC {op : COp} {σ : L2.St} {H : Hp} {Q Q' : VK} (h : rd (yof G X) Wx (fun y v w => WV (yof G X) y v w) (evE P R Φ (.cmp op a b)) σ H Q) (hQ : ∀ k H, Q (.bl k) H → Q' (.bl k) H) :
    tOp (rCm (yof G X) op) (rd (yof G X) Wx (fun y v w => WV (yof G X) y v w) (evE P R Φ a)) (rd (yof G X) Wx (fun y v w => WV (yof G X) y v w) (evE P R Φ b)) σ H Q' := by
  obtain ⟨ρ, x, hx, S, En, h⟩ := h
  rw [evE] at h
  refine ⟨ρ, x, hx, S, En, rpost_bind h fun v y a e1 Sy r h2 => ⟨ρ, y, rfl, Sy, En.ext e1, rpost_bind h2 fun u z b e2 Sz r2 h3 => ?_⟩⟩
  obtain ⟨w, hw, k⟩ := rpost_of h3
  simp only [Option.map_eq_some_iff] at hw
  obtain ⟨k', e3, rfl⟩ := hw
  exact ⟨z, a, b, k', rfl, Sz, e2.wv r, r2, e3, hQ _ _ (k _ z (Ext.refl z) Sz rfl (.d (.bool _)))⟩
/-- a test by a value that is known to be a bool -/
def KB (Q : Bool → Hp → Prop) : VK := fun v H => ∀ k, v = .bl k → Q k H
theorem rdB {σ : L2.St} {H : Hp} {Q : Bool → Hp → Prop} (h : rd (yof G X) Wx (fun _ v w => v = w) (evC P R Φ (.e a)) σ H Q) : rd (yof G X) Wx (fun y v w => WV (yof G X) y v w) (evE P R Φ a) σ H (KB Q) := by
  obtain ⟨ρ, x, hx, S, En, h⟩ := h
  rw [evC] at h
  refine ⟨ρ, x, hx, S, En, rpost_bind h fun v y w e1 Sy r h2 k hv => ?_⟩
  subst hv
  cases r with
  | d r =>
    cases r
    exact h2 _ y (Ext.refl y) Sy rfl rfl
/-- the comparisons that need no dict -/
def cSeq : COp → Bool
  | .din | .dnotin => false
  | _ => true
theorem oc_all (hu : X.A.units + 66 < cLine) : ∀ {op : COp}, cSeq op = true → OpR X (compareOp (cop op)) (rCm (yof G X) op)
  | .eq, _ => oc_eq (by omega)
  | .ne, _ => oc_ne (by omega)
  | .lt, _ => oc_ord (by simp) (by omega)
  | .le, _ => oc_ord (by simp) (by omega)
  | .gt, _ => oc_ord (by simp) (by omega)
  | .ge, _ => oc_ord (by simp) (by omega)
  | .isin, _ => oc_in (by omega)
  | .notin, _ => oc_notin (by omega)
  | .is, _ => oc_is
  | .isnot, _ => oc_isnot
theorem fe_cmp {op : COp} (hu : X.A.units + 66 < cLine) (ha : FV G X Wx P R Φ e1 a) (hb : FV G X Wx P R Φ e2 b) (hm : behindInMarks (cop op) e2 = false := by with_unfolding_all rfl) (hs : cSeq op = true := by rfl) :
    FV G X Wx P R Φ (.Compare e1 [cop op] [e2] pos) (.cmp op a b) := (pe_cmpR (oc_all hu hs) ha hb hm).imp fun σ H Q h => rdC h fun _ _ q => q
theorem fc_cmp {op : COp} (hu : X.A.units + 66 < cLine) (ha : FV G X Wx P R Φ e1 a) (hb : FV G X Wx P R Φ e2 b) (hm : behindInMarks (cop op) e2 = false := by with_unfolding_all rfl) (hs : cSeq op = true := by rfl) :
    FC G X Wx P R Φ (.Compare e1 [cop op] [e2] pos) (.e (.cmp op a b)) := (pt_cmpR (oc_all hu hs) ha hb hm).imp fun σ H Q h => rdC (rdB h) fun k H q => ⟨k, rfl, q k rfl⟩
theorem rdCh {o1 o2 : COp} {σ : L2.St} {H : Hp} {Q Q' : VK} (h : rd (yof G X) Wx (fun y v w => WV (yof G X) y v w) (evE P R Φ (.chain o1 o2 a b c)) σ H Q) (hQ : ∀ k H, Q (.bl k) H → Q' (.bl k) H) :
    tChain (rCm (yof G X) o1) (rCm (yof G X) o2) (rd (yof G X) Wx (fun y v w => WV (yof G X) y v w) (evE P R Φ a)) (rd (yof G X) Wx (fun y v w => WV (yof G X) y v w) (evE P R Φ b)) (rd (yof G X) Wx (fun y v w => WV (yof G X) y v w) (evE P R Φ c)) σ H Q' := by
  obtain ⟨ρ, x, hx, S, En, h⟩ := h
  rw [evE] at h
  refine ⟨ρ, x, hx, S, En, rpost_bind h fun v y wa e1 Sy r h2 => ⟨ρ, y, rfl, Sy, En.ext e1, rpost_bind h2 fun u z wb e2 Sz r2 h3 => ?_⟩⟩
  have Ez : EnvOk (yof G X) z ρ σ := (En.ext e1).ext e2
  cases hk : cmpW z.st o1 wa wb with
  | none => rw [hk] at h3; exact h3.elim
  | some k =>
    rw [hk] at h3
    refine ⟨z, wa, wb, k, rfl, Sz, e2.wv r, r2, hk, k, rfl, ?_⟩
    have h3 : rpost (yof G X) Wx σ z (fun y v w => WV (yof G X) y v w) Q (if k = true then _ else _) := h3
    cases k with
    | false => exact hQ _ _ (h3 _ z (Ext.refl z) Sz rfl (.d (.bool _)))
    | true =>
      refine ⟨ρ, z, rfl, Sz, Ez, rpost_bind h3 fun t x4 wc e4 S4 r4 h4 => ?_⟩
      obtain ⟨w, hw, q⟩ := rpost_of h4
      simp only [Option.map_eq_some_iff] at hw
      obtain ⟨k', e5, rfl⟩ := hw
      exact ⟨x4, wb, wc, k', rfl, S4, e4.wv r2, r4, e5, hQ _ _ (q _ x4 (Ext.refl x4) S4 rfl (.d (.bool _)))⟩
theorem fe_chain {o1 o2 : COp} (hu : X.A.units + 66 < cLine) (ha : FV G X Wx P R Φ e1 a) (hb : FV G X Wx P R Φ e2 b) (hc : FV G X Wx P R Φ e3 c) (hm : lastMarks [cop o1, cop o2] [e2, e3] = false := by with_unfolding_all rfl) (hs : cSeq o1 = true := by rfl) (hs2 : cSeq o2 = true := by rfl) :
    FV G X Wx P R Φ (.Compare e1 [cop o1, cop o2] [e2, e3] pos) (.chain o1 o2 a b c) := (pe_chain (oc_all hu hs) (oc_all hu hs2) ha hb hc hm).imp fun σ H Q h => rdCh h fun _ _ q => q
theorem fc_chain {o1 o2 : COp} (hu : X.A.units + 66 < cLine) (ha : FV G X Wx P R Φ e1 a) (hb : FV G X Wx P R Φ e2 b) (hc : FV G X Wx P R Φ e3 c) (hm : lastMarks [cop o1, cop o2] [e2, e3] = false := by with_unfolding_all rfl) (hs : cSeq o1 = true := by rfl) (hs2 : cSeq o2 = true := by rfl) :
    FC G X Wx P R Φ (.Compare e1 [cop o1, cop o2] [e2, e3] pos) (.e (.chain o1 o2 a b c)) := (pt_chain (oc_all hu hs) (oc_all hu hs2) ha hb hc hm).imp fun σ H Q h => rdCh (rdB h) fun k H q => ⟨k, rfl, q k rfl⟩
/-! ### truth -/
theorem tru_of {x : Wd} (S : SR (yof G X) x) {v : V} {w : W} {k : Bool} (r : WV (yof G X) x v w) (h : truW x.st w = some k) : TruV X.K v x.H k := by
  cases r with
  | @d _ d r =>
    cases d <;> simp only [truW, truD] at h
    · cases h; cases r; rfl
    · cases h; cases r; rfl
    · cases h; cases r; show decide _ = _; exact (Bool.eq_iff_iff.mpr (by simp))
    · split at h <;> cases h
      cases r
      rename_i z hz
      refine ⟨by rw [len_eq, ← SZ_eq]; exact hz, ?_⟩
      rw [len_eq]
      cases tl z <;> simp
      omega
    · cases h
      cases r with
      | lst h1 h2 => exact .inl ⟨_, h1.sq, by cases h2 <;> rfl⟩
    · cases h
      cases r with
      | tup h1 h2 => exact .inr (.inl ⟨_, h1.sq, by cases h2 <;> rfl⟩)
    · cases h
  | @ref n p hn =>
    simp only [truW] at h
    split at h
    · rename_i ws hc
      cases h
      obtain ⟨vs, hH, rs⟩ := S.cell _ _ _ hn hc
      exact .inl ⟨vs, .inl (.inl hH), by cases rs <;> rfl⟩
    · cases h
  | fn f => cases h
theorem fc_val (ha : FV G X Wx P R Φ e a) (he : ∀ whole, isTrue e X.env whole = (do let v ← whole; standAt e.pos; holding [v] (truthy v)) := by exact fun _ => rfl) : FC G X Wx P R Φ e (.e a) := by
  refine (pt_truth ha he).imp fun σ H Q ⟨ρ, x, hx, S, En, h⟩ => ?_
  rw [evC] at h
  refine ⟨ρ, x, hx, S, En, rpost_bind h fun v y w e1 Sy r h2 => ?_⟩
  obtain ⟨k, hk, q⟩ := rpost_of h2
  exact ⟨k, tru_of Sy r hk, q _ y (Ext.refl y) Sy rfl rfl⟩
/-! ### and, or, not -/
abbrev FW (G : Gd) (X : Cx) (Wx : WX) (P : Prog) (R : Fun1) (Φ : Call) (e : Expr) (c : C) : Prop := L2.PW X e (rd (yof G X) Wx (fun _ v w => v = w) (evC P R Φ c))
theorem _root_.L2.PW.imp {X : Cx} {e : Expr} {t t' : TT} (h : L2.PW X e t) (k : ∀ σ H Q, t' σ H Q → t σ H Q) : L2.PW X e t' := ⟨fun wh pins s σ H Q I hq => h.run wh pins s σ H Q I (k σ H Q hq)⟩
variable {c1 c2 : C} {rest : List Expr}
theorem fw_and1 (h : FC G X Wx P R Φ e c1) : FW G X Wx P R Φ (.BoolOp .And [e] pos) c1 := pw_and1 h
theorem fw_or1 (h : FC G X Wx P R Φ e c1) : FW G X Wx P R Φ (.BoolOp .Or [e] pos) c1 := pw_or1 h
theorem fw_and (h1 : FC G X Wx P R Φ e1 c1) (h2 : FW G X Wx P R Φ (.BoolOp .And (e2 :: rest) pos) c2) : FW G X Wx P R Φ (.BoolOp .And (e1 :: e2 :: rest) pos) (.and c1 c2) := by
  refine (pw_and h1 h2).imp fun σ H Q ⟨ρ, x, hx, S, En, h⟩ => ?_
  rw [evC] at h
  refine ⟨ρ, x, hx, S, En, rpost_bind h fun k y w e1 Sy r h2 => ?_⟩
  subst r
  cases k with
  | true => exact ⟨ρ, y, rfl, Sy, En.ext e1, h2⟩
  | false => exact h2 _ y (Ext.refl y) Sy rfl rfl
theorem fw_or (h1 : FC G X Wx P R Φ e1 c1) (h2 : FW G X Wx P R Φ (.BoolOp .Or (e2 :: rest) pos) c2) : FW G X Wx P R Φ (.BoolOp .Or (e1 :: e2 :: rest) pos) (.or c1 c2) := by
  refine (pw_or h1 h2).imp fun σ H Q ⟨ρ, x, hx, S, En, h⟩ => ?_
  rw [evC] at h
  refine ⟨ρ, x, hx, S, En, rpost_bind h fun k y w e1 Sy r h2 => ?_⟩
  subst r
  cases k with
  | false => exact ⟨ρ, y, rfl, Sy, En.ext e1, h2⟩
  | true => exact h2 _ y (Ext.refl y) Sy rfl rfl
theorem fc_w (h : FW G X Wx P R Φ e c1) : FC G X Wx P R Φ e c1 := h.pt
theorem fc_not (h1 : FC G X Wx P R Φ e1 c1) : FC G X Wx P R Φ (.UnaryOp .Not e1 pos) (.not c1) := by
  refine (pt_not h1).imp fun σ H Q ⟨ρ, x, hx, S, En, h⟩ => ?_
  rw [evC] at h
  refine ⟨ρ, x, hx, S, En, rpost_bind h fun k y w e1 Sy r h2 => ?_⟩
  subst r
  exact h2 _ y (Ext.refl y) Sy rfl rfl
theorem fe_one {op} (h : FV G X Wx P R Φ e a) : FV G X Wx P R Φ (.BoolOp op [e] pos) a := pe_one h
theorem fe_and (h1 : FV G X Wx P R Φ e1 a) (h2 : FV G X Wx P R Φ (.BoolOp .And (e2 :: rest) pos) b) : FV G X Wx P R Φ (.BoolOp .And (e1 :: e2 :: rest) pos) (.and a b) := by
  refine (pe_and h1 h2).imp fun σ H Q ⟨ρ, x, hx, S, En, h⟩ => ?_
  rw [evE] at h
  refine ⟨ρ, x, hx, S, En, rpost_bind h fun v y w e1 Sy r h2 => ?_⟩
  split at h2
  · obtain rfl := bool_of r
    exact ⟨true, rfl, ρ, y, rfl, Sy, En.ext e1, h2⟩
  · obtain rfl := bool_of r
    exact ⟨false, rfl, h2 _ y (Ext.refl y) Sy rfl (.d (.bool _))⟩
  · exact h2.elim
theorem fe_or (h1 : FV G X Wx P R Φ e1 a) (h2 : FV G X Wx P R Φ (.BoolOp .Or (e2 :: rest) pos) b) : FV G X Wx P R Φ (.BoolOp .Or (e1 :: e2 :: rest) pos) (.or a b) := by
  refine (pe_or h1 h2).imp fun σ H Q ⟨ρ, x, hx, S, En, h⟩ => ?_
  rw [evE] at h
  refine ⟨ρ, x, hx, S, En, rpost_bind h fun v y w e1 Sy r h2 => ?_⟩
  split at h2
  · obtain rfl := bool_of r
    exact ⟨false, rfl, ρ, y, rfl, Sy, En.ext e1, h2⟩
  · obtain rfl := bool_of r
    exact ⟨true, rfl, h2 _ y (Ext.refl y) Sy rfl (.d (.bool _))⟩
  · exact h2.elim
theorem fe_ife (h0 : FC G X Wx P R Φ e1 c1) (h1 : FV G X Wx P R Φ e2 a) (h2 : FV G X Wx P R Φ e3 b) : FV G X Wx P R Φ (.IfExp e1 e2 e3 pos) (.ife c1 a b) := by
  refine (pe_ifExp h0 h1 h2).imp fun σ H Q ⟨ρ, x, hx, S, En, h⟩ => ?_
  rw [evE] at h
  refine ⟨ρ, x, hx, S, En, rpost_bind h fun k y w e1 Sy r h2 => ?_⟩
  subst r
  cases k with
  | false => exact ⟨ρ, y, rfl, Sy, En.ext e1, h2⟩
  | true => exact ⟨ρ, y, rfl, Sy, En.ext e1, h2⟩
end
end FM
end

section
/-! FM8: rows of expressions, displays, places, cuts. -/
set_option Elab.async false
set_option linter.all false
set_option maxRecDepth 100000
set_option autoImplicit false
set_option maxHeartbeats 1000000
namespace FM
open PySem PySem.Spec PyProof.Rows L2
section
variable {G : Gd} {X : Cx} {Wx : WX} {P : Prog} {R : Fun1} {Φ : Call} {pos : Pos} {e e1 e2 e3 : Expr} {a b c : E} {es : List Expr} {as : Es}
/-! ### a row as it is read -/
theorem seq_of {x : Wd} (S : SR (yof G X) x) {v : V} {w : W} {ws : List W} (r : WV (yof G X) x v w) (h : seqW x.st w = some ws) : ∃ p vs, v = .ref p ∧ (SqL X.K x.H p vs ∨ SqT X.K x.H p vs) ∧ WVs (yof G X) x vs ws := by
  cases r with
  | @d _ d r =>
    cases d <;> simp only [seqW] at h <;> cases h
    · cases r with
      | lst h1 h2 => exact ⟨_, _, rfl, .inl h1.sq, h2.wvs⟩
    · cases r with
      | tup h1 h2 => exact ⟨_, _, rfl, .inr h1.sq, h2.wvs⟩
  | @ref n p hn =>
    simp only [seqW] at h
    split at h
    · rename_i l hc
      cases h
      obtain ⟨vs, hH, rs⟩ := S.cell _ _ _ hn hc
      exact ⟨p, vs, rfl, .inl (.inl (.inl hH)), rs⟩
    · cases h
  | fn f => cases h
/-! ### rows of expressions -/
theorem fl_nil : FL G X Wx P R Φ [] .nil := pa_nil.imp fun σ H Q ⟨ρ, x, hx, S, En, h⟩ => by
  rw [evEs] at h
  subst hx
  exact h [] x (Ext.refl x) S rfl .nil
theorem fl_cons (ha : FV G X Wx P R Φ e a) (hr : FL G X Wx P R Φ es as) (hs : starEach (e :: es) X.env = (false, eval e X.env) :: starEach es X.env := by rfl) : FL G X Wx P R Φ (e :: es) (.cons a as) := by
  refine (pa_cons ha hr hs).imp fun σ H Q ⟨ρ, x, hx, S, En, h⟩ => ?_
  rw [evEs] at h
  refine ⟨ρ, x, hx, S, En, rpost_bind h fun v y w e1 Sy r h2 => ⟨ρ, y, rfl, Sy, En.ext e1, rpost_bind h2 fun vs z ws e2 Sz r2 h3 => ?_⟩⟩
  exact h3 _ z (Ext.refl z) Sz rfl (.cons (e2.wv r) r2)
/-- the signs of a text -/
def signs (z : Str) : List V := z.cps.toList.map fun c => .str ⟨#[c]⟩
theorem shared_eta {s s' : Shared} (h1 : s'.gens = s.gens) (h2 : s'.drawn = s.drawn) (h3 : s'.os = s.os) : s' = { s with heap := s'.heap, toks := s'.toks } := by
  cases s; cases s'; subst h1 h2 h3; rfl
theorem vals_of_get : ∀ {vs : List V} {us : List Value}, vs.length = us.length → (∀ (i : Nat) (v : V) (u : Value), vs[i]? = some v → us[i]? = some u → RelV v u) → Vals vs us
  | [], [], _, _ => .nil
  | [], _ :: _, h, _ => by simp at h
  | _ :: _, [], h, _ => by simp at h
  | v :: vs, u :: us, h, k => .cons (k 0 v u rfl rfl) (vals_of_get (by simpa using h) fun i v u h1 h2 => k (i + 1) v u (by simpa using h1) (by simpa using h2))
theorem signs_vals {z : Str} {acc : Array Value} (h : ItemsOf (SignAt z) acc z.cps.size) : Vals (signs z) acc.toList := by
  refine vals_of_get (by simp [signs, h.1]) fun i v u h1 h2 => ?_
  obtain ⟨c, t, h3, h4⟩ := h.2 i u (by simpa using h2)
  subst h4
  simp only [signs, List.getElem?_map, Option.map_eq_some_iff] at h1
  obtain ⟨c', h5, h6⟩ := h1
  have : c' = c := by
    rw [Array.getElem?_toList, h3] at h5
    cases h5; rfl
  subst this
  subst h6
  exact ⟨t, rfl⟩
theorem star_str {pins : List (Addr × Obj)} {σ : L2.St} {H : Hp} {s : Shared} {z : Str} {t : Tok} {E : Value → Shared → Prop} {Q : List Value → Shared → Prop} (hc : X.calm = true) (I : Inv X pins σ H s) (hz : z.length ≤ sizeLine) (hQ : ∀ us s', Inv X pins σ H s' → Vals (signs z) us → Q us s') :
    PySem.W.StarOf (model X.prog X.w) X.A E (.str z t) Q s := by
  have k : wpAny (model X.prog X.w) X.A (collect (.str z t)) Q E s := by
    refine wpAny_collect_str (I.ok.hd hc) z t (fun s' acc hk h1 h2 h3 it => ?_) hz
    refine hQ _ _ ?_ (signs_vals it)
    rw [shared_eta h1 h2 h3]
    exact I.kept (t' := s'.toks) hk
  unfold PySem.W.StarOf notIterableAtAll
  exact wpAny_bind (wpAny_specialOf (typeIs_str s z t) PySem.F.slot_str_iter.lookup (wpAny_pure ⟨rfl, k⟩))
theorem signs_wvs {Y : Rt} {x : Wd} (z : Str) : WVs Y x (signs z) (chars z) := by
  unfold signs chars tl
  induction z.cps.toList with
  | nil => exact .nil
  | cons c r ih => exact .cons (.d (.str _)) ih
theorem fl_star {sp : Pos} (hc : X.calm = true) (ha : FV G X Wx P R Φ e a) (hr : FL G X Wx P R Φ es as) (hs : starEach (.Starred e sp :: es) X.env = (true, eval e X.env) :: starEach es X.env := by rfl) : FL G X Wx P R Φ (.Starred e sp :: es) (.star a as) := by
  refine ⟨fun pos pins s σ H Q I ⟨ρ, x, hx, S, En, h⟩ => ?_⟩
  rw [evEs] at h
  refine PySem.W.items_star (thn (ha.run pins s σ H _ I ⟨ρ, x, hx, S, En, rpost_bind (K := fun v H1 => ∃ y w src, y.H = H1 ∧ SR (yof G X) y ∧ EnvOk (yof G X) y ρ σ ∧ WV (yof G X) y v w ∧ srcW y.st w = some src ∧ rpost (yof G X) Wx σ y (fun y v w => WVs (yof G X) y v w) Q ((evEs P R Φ as ρ y.st).bind fun ws st => .ok (src.1 ++ ws) st)) h fun v y w e1 Sy r h2 => ?_⟩) fun v s1 ⟨u, H1, I1, ru, y, w, src, hy, Sy, Ey, r, hsrc, h3⟩ => ?_) hs
  · cases hw : srcW y.st w with
    | none => rw [hw] at h2; exact h2.elim
    | some src =>
      rw [hw] at h2
      exact ⟨y, w, src, rfl, Sy, En.ext e1, r, hw, h2⟩
  · subst hy
    have go : ∀ (vs : List V), WVs (yof G X) y vs src.1 → ∀ us s2, Inv X pins σ y.H s2 → Vals vs us → wpAny (model X.prog X.w) X.A (spliced (backTo pos (starEach es X.env))) (fun ws s3 => AP X pins σ Q (us ++ ws) s3) X.xe s2 := fun vs hv us s2 I2 rv => by
      refine thn (hr.run pos pins s2 σ y.H (fun ws H3 => Q (vs ++ ws) H3) I2 ⟨ρ, y, rfl, Sy, Ey, rpost_bind h3 fun xs z ws e2 Sz r2 h4 => h4 _ z (Ext.refl z) Sz rfl ((e2.wvs hv).append r2)⟩) fun ws s3 ⟨xs, H3, I3, r3, q3⟩ => ⟨vs ++ xs, H3, I3, rv.append r3, q3⟩
    cases r with
    | @d _ d r =>
      cases d <;> simp only [srcW] at hsrc <;> try cases hsrc
      · rename_i z
        split at hsrc <;> cases hsrc
        rename_i hz
        cases r
        obtain ⟨t, rfl⟩ := ru
        exact star_str hc I1 (by rw [len_eq, ← SZ_eq]; exact hz) fun us s2 I2 rv => go _ (signs_wvs z) us s2 I2 rv
      · cases r with
        | lst h1 h2 =>
          cases ru
          exact StX.star_any I1 (.inr h1.sq) fun us s2 I2 rv => go _ h2.wvs us s2 I2 rv
      · cases r with
        | tup h1 h2 =>
          cases ru
          exact StX.star_any I1 (.inl h1.sq) fun us s2 I2 rv => go _ h2.wvs us s2 I2 rv
    | @ref n p hn =>
      simp only [srcW] at hsrc
      split at hsrc
      · rename_i l hcl
        cases hsrc
        obtain ⟨vs, hH, rs⟩ := Sy.cell _ _ _ hn hcl
        cases ru
        exact StX.star_any I1 (.inr (.inl (.inl hH))) fun us s2 I2 rv => go _ rs us s2 I2 rv
      · cases hsrc
    | fn f => cases hsrc
/-! ### tuples -/
theorem fe_tup {x1} (h : FL G X Wx P R Φ es as) : FV G X Wx P R Φ (.Tuple es x1 pos) (.tup as) := by
  refine (pe_tup h).imp fun σ H Q ⟨ρ, x, hx, S, En, h⟩ => ?_
  rw [evE] at h
  refine ⟨ρ, x, hx, S, En, rpost_bind h fun vs y ws e1 Sy r h2 => ?_⟩
  split at h2
  · rename_i xs hxs
    split at h2
    · rename_i hz
      have p := r.pvs hxs
      refine ⟨by rw [p.length, ← SZ_eq]; exact hz, fun q hq => ?_⟩
      obtain ⟨e2, S2, n⟩ := Ext.new (o := .tup vs) Sy hq (fun _ z => by cases z)
      exact h2 _ _ e2 S2 rfl (.d (.tup (.inl ⟨.inl upd_same, n⟩) (Ext.pvs e2 p)))
    · exact h2.elim
  · exact h2.elim
/-! ### fresh lists -/
def hoOf (p : Addr) : (List V ⊕ List DictEntry) → HO
  | .inl vs => .lst vs
  | .inr es => DctO p es
theorem hoOf_tbl {p : Addr} {u : List V ⊕ List DictEntry} : ∀ ps, hoOf p u ≠ .tbl ps := by
  intro ps
  cases u with
  | inl vs => exact fun z => by cases z
  | inr es => exact fun z => by cases z
theorem hoOf_code {p : Addr} {u : List V ⊕ List DictEntry} : ∀ q, hoOf p u ≠ LamX.CodeO p q := by
  intro q
  cases u with
  | inl vs => exact fun z => by unfold LamX.CodeO hoOf at z; cases z
  | inr es => exact dct_code
def FrR (Y : Rt) (y : Wd) (p : Addr) : (List V ⊕ List DictEntry) → Fr → Prop
  | .inl vs, .l ws => WVs Y y vs ws
  | .inr es, .m kvs => (p == sysModules) = false ∧ es.length ≤ sizeLine ∧ WEs Y y es kvs ∧ (kvs.map fun p => nk p.1).Nodup
  | _, _ => False
def rpostF (Y : Rt) (Wx : WX) (σ : L2.St) (x : Wd) (Q : VK) : Res Fr → Prop
  | .ok fr st' => ∀ y p u, Ext ⟨p :: x.R, x.μ, x.st, x.H⟩ y → SR Y y → y.st = st' → NT x p → y.H p = some (hoOf p u) → p ∉ x.R → FrR Y y p u fr → Q (.ref p) y.H
  | .exn e st' => ∀ cls d y, Ext x y → SR Y y → y.st = st' → ExR Y y cls d e → Wx cls d σ y.H
  | .bad => False
abbrev FF (G : Gd) (X : Cx) (Wx : WX) (P : Prog) (R : Fun1) (Φ : Call) (e : Expr) (f : F) : Prop := PE X e fun σ H Q => ∃ ρ x, x.H = H ∧ SR (yof G X) x ∧ EnvOk (yof G X) x ρ σ ∧ rpostF (yof G X) Wx σ x Q (evF P R Φ f ρ x.st)
theorem Ext.res {x y : Wd} (e : Ext x y) (p : Addr) : Ext ⟨p :: x.R, x.μ, x.st, x.H⟩ ⟨p :: y.R, y.μ, y.st, y.H⟩ := ⟨by show p :: y.R = p :: x.R; rw [e.R], e.pre, e.keep, e.dom⟩
theorem rpostF_ext {Y : Rt} {σ : L2.St} {x y : Wd} {Q : VK} {r : Res Fr} (e : Ext x y) (h : rpostF Y Wx σ x Q r) : rpostF Y Wx σ y Q r := by
  cases r with
  | ok a st' => exact fun z p u e' s h1 h2 h3 h4 => h z p u ((e.res p).trans e') s h1 (e.nt h2) h3 (by rw [← e.R]; exact h4)
  | exn a st' => exact fun c d z e' => h c d z (e.trans e')
  | bad => exact h
theorem rpostF_bind {Y : Rt} {σ : L2.St} {x : Wd} {α β : Type} {rel : Wd → β → α → Prop} {Q : VK} {K : β → Hp → Prop} {r : Res α} {f : α → Sto → Res Fr} (h : rpostF Y Wx σ x Q (r.bind f))
    (k : ∀ v y a, Ext x y → SR Y y → rel y v a → rpostF Y Wx σ y Q (f a y.st) → K v y.H) : rpost Y Wx σ x rel K r := by
  cases r with
  | ok a st' =>
    intro v y e s hy hr
    subst hy
    exact k v y a e s hr (rpostF_ext e h)
  | exn a st' => exact h
  | bad => exact h
/-- a fresh address is nobody's -/
theorem SR.fresh {Y : Rt} {x : Wd} (S : SR Y x) {p : Addr} (h : x.H p = none) : p ∉ x.R := fun z => by
  obtain ⟨_, o, h2, _⟩ := S.res p z
  rw [h] at h2; cases h2
theorem ff_lst (h : FL G X Wx P R Φ es as) : FF G X Wx P R Φ (.List es pos) (.lst as) := by
  refine (pe_lst h).imp fun σ H Q ⟨ρ, x, hx, S, En, h⟩ => ?_
  rw [evF] at h
  refine ⟨ρ, x, hx, S, En, rpostF_bind h fun vs y ws e1 Sy r h2 => ?_⟩
  split at h2
  · rename_i hz
    refine ⟨by rw [r.length, ← SZ_eq]; exact hz, fun q hq => ?_⟩
    obtain ⟨e2, m2, S2⟩ := new_res (o := .lst vs) Sy hq (fun _ z => by cases z)
    exact h2 _ q (.inl vs) e2 S2 rfl (NT.of hq) upd_same (Sy.fresh hq) (m2.wvs r)
  · exact h2.elim
theorem pur_read {f : F} {σ : L2.St} {H : Hp} {Q : VK} (h : rd (yof G X) Wx (fun y v w => WV (yof G X) y v w) (evE P R Φ (.pur f)) σ H Q) : ∃ ρ x, x.H = H ∧ SR (yof G X) x ∧ EnvOk (yof G X) x ρ σ ∧ rpostF (yof G X) Wx σ x Q (evF P R Φ f ρ x.st) := by
  obtain ⟨ρ, x, hx, S, En, h⟩ := h
  refine ⟨ρ, x, hx, S, En, ?_⟩
  rw [evE] at h
  cases hf : evF P R Φ f ρ x.st with
  | ok fr st' =>
    rw [hf] at h
    intro y p u e1 Sy hy hn hp hR rf
    obtain ⟨e2, m2, S2⟩ := res_still e1 Sy
    have nl : Wd.nl ⟨x.R, y.μ, y.st, y.H⟩ p := ⟨hR, fun ⟨n, c, h1, _⟩ => (Sy.res p (by rw [e1.R]; exact List.mem_cons_self)).1 (List.mem_of_getElem? h1)⟩
    cases hw : fr.pur with
    | none => rw [Res.bind_ok, hw] at h; exact h.elim
    | some w =>
      rw [Res.bind_ok, hw] at h
      refine h _ ⟨x.R, y.μ, y.st, y.H⟩ e2 S2 hy ?_
      cases u with
      | inl vs =>
        cases fr with
        | l ws =>
          simp only [Fr.pur, Option.map_eq_some_iff] at hw
          obtain ⟨xs, e3, rfl⟩ := hw
          exact .d (.lst ⟨.inl hp, nl⟩ (WVs.pvs (m2.wvs rf) e3))
        | m kvs => exact rf.elim
      | inr es =>
        cases fr with
        | l ws => exact rf.elim
        | m kvs =>
          simp only [Fr.pur, Option.map_eq_some_iff] at hw
          obtain ⟨xs, e3, rfl⟩ := hw
          obtain ⟨r1, r2, r3, r4⟩ := rf
          have e4 : (xs.map fun p => nk p.1) = (kvs.map fun p => nk p.1) := by
            have := congrArg (List.map nk) (allDK_keys e3)
            simpa [List.map_map, Function.comp_def] using this.symm
          exact .d (.dct (.inl ⟨hp, nl⟩) r1 r2 ((m2.wes r3).pes e3) (by rw [e4]; exact r4))
  | exn a st' => rw [hf] at h; exact h
  | bad => rw [hf] at h; exact h
theorem fe_pur {f : F} (h : FF G X Wx P R Φ e f) : FV G X Wx P R Φ e (.pur f) := h.imp fun σ H Q h => pur_read h
theorem new_read {f : F} {σ : L2.St} {H : Hp} {Q : VK} (h : rd (yof G X) Wx (fun y v w => WV (yof G X) y v w) (evE P R Φ (.new f)) σ H Q) : ∃ ρ x, x.H = H ∧ SR (yof G X) x ∧ EnvOk (yof G X) x ρ σ ∧ rpostF (yof G X) Wx σ x Q (evF P R Φ f ρ x.st) := by
  obtain ⟨ρ, x, hx, S, En, h⟩ := h
  refine ⟨ρ, x, hx, S, En, ?_⟩
  rw [evE] at h
  cases hf : evF P R Φ f ρ x.st with
  | ok fr st' =>
    rw [hf] at h
    intro y p u e1 Sy hy hn hp hR rf
    have hc : CellOk (yof G X) y p fr.cell := by
      cases u with
      | inl vs =>
        cases fr with
        | l ws => exact ⟨vs, hp, rf⟩
        | m kvs => exact rf.elim
      | inr es =>
        cases fr with
        | l ws => exact rf.elim
        | m kvs =>
          obtain ⟨r1, r2, r3, r4⟩ := rf
          exact ⟨es, hp, r1, r2, r3, r4⟩
    obtain ⟨e2, m2, S2, r2⟩ := res_cell e1 Sy hn ⟨_, hp, hoOf_tbl, hoOf_code⟩ hR hc
    subst hy
    exact h (.ref p) ⟨x.R, y.μ ++ [p], y.st ++ [fr.cell], y.H⟩ e2 S2 rfl r2
  | exn a st' => rw [hf] at h; exact h
  | bad => rw [hf] at h; exact h
theorem fe_new {f : F} (h : FF G X Wx P R Φ e f) : FV G X Wx P R Φ e (.new f) := h.imp fun σ H Q h => new_read h
end
end FM
end

section
/-! FM9: places, cuts, builtins. -/
set_option Elab.async false
set_option linter.all false
set_option maxRecDepth 100000
set_option autoImplicit false
set_option maxHeartbeats 1000000
namespace FM
open PySem PySem.Spec PyProof.Rows L2
theorem atI_eq {α : Type} (xs : List α) (i : Int) : L2.atI xs i = FM.atI xs i := by
  unfold L2.atI L2.ixN FM.atI
  by_cases h : 0 ≤ i
  · rw [if_pos h, if_pos h]
    by_cases h2 : i < xs.length
    · rw [if_pos h2]; rfl
    · rw [if_neg h2, List.getElem?_eq_none (by omega)]; rfl
  · rw [if_neg h, if_neg h]
    by_cases h2 : -(xs.length : Int) ≤ i
    · rw [if_pos h2, if_pos (by omega), Int.add_comm]; rfl
    · rw [if_neg h2, if_neg (by omega)]; rfl
theorem atI_map {α β : Type} (f : α → β) (xs : List α) (i : Int) : FM.atI (xs.map f) i = (FM.atI xs i).map f := by
  unfold FM.atI
  simp only [List.length_map, List.getElem?_map]
  split
  · rfl
  · split <;> rfl
section
variable {G : Gd} {X : Cx} {Wx : WX} {P : Prog} {R : Fun1} {Φ : Call} {pos : Pos} {e e1 e2 e3 : Expr} {a b c : E} {es : List Expr} {as : Es}
theorem wvs_at {Y : Rt} {x : Wd} {vs : List V} {ws : List W} (h : WVs Y x vs ws) {i : Int} {w : W} (e : FM.atI ws i = some w) : ∃ v, L2.atI vs i = some v ∧ WV Y x v w := by
  rw [atI_eq]
  unfold FM.atI at e ⊢
  rw [h.length]
  split at e
  · obtain ⟨v, h1, h2⟩ := h.get e
    rename_i h0
    rw [if_pos h0]
    exact ⟨v, h1, h2⟩
  · rename_i h0
    rw [if_neg h0]
    split at e
    · rename_i h1
      rw [if_pos h1]
      exact h.get e
    · cases e
theorem ix_rop : IxR X (rOp (yof G X) idxW) := by
  intro value slice pins s σ H v u vv uu Q I rv ru ⟨x, wa, wb, w, hx, S, ha, hb, hw, q⟩ hs
  subst hx
  unfold idxW at hw
  split at hw
  · rename_i i
    cases hb with
    | d hb =>
      cases hb
      split at hw
      · rename_i z
        split at hw
        · rename_i hz
          simp only [Option.map_eq_some_iff] at hw
          obtain ⟨c, e1, rfl⟩ := hw
          cases ha with
          | d ha =>
            cases ha
            exact ix_seq value slice pins s σ _ _ _ _ _ _ I rv ru (.inr (.inr ⟨z, i, c, rfl, rfl, by rw [len_eq, ← SZ_eq]; exact hz, by rw [atI_eq]; exact e1, q.d S (.str _)⟩)) hs
        · cases hw
      · split at hw
        · rename_i ws hws
          obtain ⟨p, vs, rfl, hp, rs⟩ := seq_of S ha hws
          obtain ⟨v', e1, r1⟩ := wvs_at rs hw
          rcases hp with hp | hp
          · exact ix_seq value slice pins s σ _ _ _ _ _ _ I rv ru (.inl ⟨p, vs, i, v', rfl, rfl, hp, e1, q.w S r1⟩) hs
          · exact ix_seq value slice pins s σ _ _ _ _ _ _ I rv ru (.inr (.inl ⟨p, vs, i, v', rfl, rfl, hp, e1, q.w S r1⟩)) hs
        · cases hw
  · cases hw
theorem fe_idx (ha : FV G X Wx P R Φ e1 a) (hb : FV G X Wx P R Φ e2 b) (hs : PlainIx e2 := by exact fun _ _ => rfl) : FV G X Wx P R Φ (.Subscript e1 e2 pos) (.idx a b) := by
  refine (pe_ix (ix_rop (G := G)) ha hb hs).imp fun σ H Q ⟨ρ, x, hx, S, En, h⟩ => ?_
  rw [evE] at h
  exact rd2 ⟨ρ, x, hx, S, En, h⟩
/-! ### cuts -/
abbrev FO (G : Gd) (X : Cx) (Wx : WX) (P : Prog) (R : Fun1) (Φ : Call) (e : Option Expr) (o : O) : Prop := PO X e (rd (yof G X) Wx (fun _ v w => v = w) (evO P R Φ o))
theorem _root_.L2.PO.imp {X : Cx} {e : Option Expr} {t t' : TO} (h : PO X e t) (k : ∀ σ H Q, t' σ H Q → t σ H Q) : PO X e t' := ⟨fun pins s σ H Q I hq => h.run pins s σ H Q I (k σ H Q hq)⟩
theorem fo_no : FO G X Wx P R Φ none .no := po_none.imp fun σ H Q ⟨ρ, x, hx, S, En, h⟩ => by
  rw [evO] at h
  subst hx
  exact h none x (Ext.refl x) S rfl rfl
theorem int_of {Y : Rt} {x : Wd} {v : V} {w : W} {i : Int} (r : WV Y x v w) (h : int? w = some i) : v = .int i ∧ w = .d (.int i) := by
  cases r with
  | @d _ d r =>
    cases d <;> simp [int?] at h
    subst h
    cases r
    exact ⟨rfl, rfl⟩
  | ref _ => simp [int?] at h
  | fn _ => simp [int?] at h
theorem fo_e (h : FV G X Wx P R Φ e a) : FO G X Wx P R Φ (some e) (.e a) := by
  refine (po_some h).imp fun σ H Q ⟨ρ, x, hx, S, En, h⟩ => ?_
  rw [evO] at h
  refine ⟨ρ, x, hx, S, En, rpost_bind h fun v y w e1 Sy r h2 => ?_⟩
  obtain ⟨o, ho, k⟩ := rpost_of h2
  simp only [Option.map_eq_some_iff] at ho
  obtain ⟨i, hi, rfl⟩ := ho
  obtain ⟨rfl, _⟩ := int_of r hi
  exact ⟨i, rfl, k _ y (Ext.refl y) Sy rfl rfl⟩
def rSlW (Y : Rt) : V → Option Int → Option Int → Hp → VK → Prop := fun v lo hi H Q => ∃ x a w, x.H = H ∧ SR Y x ∧ WV Y x v a ∧ slW x.st a lo hi = some w ∧ After Y x w Q
theorem cut_eq {α : Type} (xs : List α) (lo hi : Option Int) : cut xs lo hi = (xs.drop (HT.sIx xs.length 0 lo)).take (HT.sIx xs.length xs.length hi - HT.sIx xs.length 0 lo) := by
  unfold cut
  cases lo <;> cases hi <;> simp [HT.sIx, sIdx, Int.add_comm]
theorem PVs.drop {Y : Rt} {H : Hp} {nl : Addr → Prop} : ∀ {vs : List V} {ds : List D}, PVs Y H nl vs ds → ∀ n : Nat, PVs Y H nl (vs.drop n) (ds.drop n)
  | _, _, .nil, n => by simp; exact .nil
  | _, _, .cons h t, 0 => .cons h t
  | _, _, .cons h t, n + 1 => PVs.drop t n
theorem PVs.take {Y : Rt} {H : Hp} {nl : Addr → Prop} : ∀ {vs : List V} {ds : List D}, PVs Y H nl vs ds → ∀ n : Nat, PVs Y H nl (vs.take n) (ds.take n)
  | _, _, .nil, n => by simp; exact .nil
  | _, _, .cons h t, 0 => .nil
  | _, _, .cons h t, n + 1 => .cons h (PVs.take t n)
theorem PVs.reverse {Y : Rt} {H : Hp} {nl : Addr → Prop} : ∀ {vs : List V} {ds : List D}, PVs Y H nl vs ds → PVs Y H nl vs.reverse ds.reverse
  | _, _, .nil => .nil
  | _, _, .cons h t => by
    rw [List.reverse_cons, List.reverse_cons]
    exact (PVs.reverse t).append (.cons h .nil)
theorem PVs.cut {Y : Rt} {H : Hp} {nl : Addr → Prop} {vs : List V} {ds : List D} (h : PVs Y H nl vs ds) (lo hi : Option Int) : PVs Y H nl (cutV vs lo hi) (cut ds lo hi) := by
  rw [cut_eq, ← h.length]
  exact (h.drop _).take _
theorem sl_rop : SlR X (rSlW (yof G X)) := by
  intro pins s σ H v vv vl vu lo hi sl Q I rv hs pl pu ⟨x, wa, w, hx, S, ha, hw, q⟩
  subst hx
  unfold slW at hw
  split at hw
  · rename_i d hd
    simp only [Option.map_eq_some_iff] at hw
    obtain ⟨d', e1, rfl⟩ := hw
    have h1 := S.vw ha hd
    cases d <;> simp only [slD] at e1 <;> try cases e1
    · split at e1 <;> cases e1
      rename_i z hz
      obtain rfl := h1.str
      refine sl_str pins s σ _ _ _ _ _ _ _ _ _ I rv hs pl pu ⟨z, rfl, by rw [len_eq, ← SZ_eq]; exact hz, ?_⟩
      have e2 : cutS z lo hi = T (cut (tl z) lo hi) := by
        rw [cut_eq]
        unfold cutS
        rw [len_eq]
        rfl
      rw [e2]
      exact q.d S (.str _)
    · obtain ⟨p, vs, rfl, hp, ps⟩ := h1.list
      exact sl_list pins s σ _ _ _ _ _ _ _ _ _ I rv hs pl pu ⟨p, vs, rfl, .inl hp, fun n hn => q.lst S (ps.cut lo hi) hn⟩
    · split at e1 <;> cases e1
      rename_i xs hcw
      obtain ⟨p, vs, rfl, hp, ps⟩ := h1.tuple
      refine sl_tup pins s σ _ _ _ _ _ _ _ _ _ I rv hs pl pu ⟨p, vs, rfl, hp.sq, ?_, fun n hn => q.tup S (ps.cut lo hi) hn⟩
      rintro ⟨h2, h3⟩
      rw [ps.length] at h2 h3
      refine hcw ?_
      unfold cutWhole
      simp only [Bool.and_eq_true, decide_eq_true_eq]
      refine ⟨?_, ?_⟩
      · cases lo <;> simp_all [HT.sIx, sIdx, Int.add_comm]
      · cases hi <;> simp_all [HT.sIx, sIdx, Int.add_comm]
  · cases hw
variable {lo hi : Option Expr} {ol oh : O} {p2 : Pos}
theorem fe_sl (ha : FV G X Wx P R Φ e a) (hl : FO G X Wx P R Φ lo ol) (hh : FO G X Wx P R Φ hi oh) : FV G X Wx P R Φ (.Subscript e (.Slice lo hi none p2) pos) (.sl a ol oh) := by
  refine (pe_slice (p2 := p2) (sl_rop (G := G)) ha hl hh).imp fun σ H Q ⟨ρ, x, hx, S, En, h⟩ => ?_
  rw [evE] at h
  refine ⟨ρ, x, hx, S, En, rpost_bind h fun v y w e1 Sy r h2 => ⟨ρ, y, rfl, Sy, En.ext e1, rpost_bind h2 fun l z l' e2 Sz r2 h3 => ⟨ρ, z, rfl, Sz, (En.ext e1).ext e2, rpost_bind h3 fun h' z4 h'' e4 S4 r4 h5 => ?_⟩⟩⟩
  subst r2 r4
  obtain ⟨w', hw, k⟩ := rpost_of h5
  exact ⟨z4, w, w', rfl, S4, e4.wv (e2.wv r), hw, k⟩
theorem fe_rev {k : Nat} {p1 p2 p3 : Pos} (ha : FV G X Wx P R Φ e a) : FV G X Wx P R Φ (.Subscript e (.Slice none none (some (.UnaryOp .USub (.Constant (.int 1) k p1) p2)) p3) pos) (.rev a) := by
  refine (pe_revL ha).imp fun σ H Q ⟨ρ, x, hx, S, En, h⟩ => ?_
  rw [evE] at h
  refine ⟨ρ, x, hx, S, En, rpost_bind h fun v y w e1 Sy r h2 => ?_⟩
  obtain ⟨w', hw, k⟩ := rpost_of h2
  cases hd : vw y.st w with
  | none => rw [hd] at hw; cases hw
  | some d =>
    rw [hd] at hw
    simp only [Option.bind_some, Option.map_eq_some_iff] at hw
    obtain ⟨d', e2, rfl⟩ := hw
    have h1 := Sy.vw r hd
    cases d <;> simp only [revD] at e2 <;> cases e2
    obtain ⟨p, vs, rfl, hp, ps⟩ := h1.list
    exact ⟨p, vs, rfl, .inl hp, fun n hn => After.lst (Y := yof G X) k Sy ps.reverse hn⟩
/-! ### builtins -/
def rB (Y : Rt) (f : Sto → W → Option W) : List V → Hp → VK → Prop := fun vs H Q => ∃ x v a w, vs = [v] ∧ x.H = H ∧ SR Y x ∧ WV Y x v a ∧ f x.st a = some w ∧ After Y x w Q
theorem rdB1 {f : Sto → W → Option W} {α : Env → Sto → Res W} {σ : L2.St} {H : Hp} {Q : VK} (h : rd (yof G X) Wx (fun y v w => WV (yof G X) y v w) (fun ρ st => (α ρ st).bind fun x st => Res.of (f st x) st) σ H Q) :
    tCB (rB (yof G X) f) (tCons (rd (yof G X) Wx (fun y v w => WV (yof G X) y v w) α) tNil) σ H Q := by
  obtain ⟨ρ, x, hx, S, En, h⟩ := h
  refine ⟨ρ, x, hx, S, En, rpost_bind h fun v y w e1 Sy r h2 => ?_⟩
  obtain ⟨w', hw, k⟩ := rpost_of h2
  exact ⟨y, v, w, w', rfl, rfl, Sy, r, hw, k⟩
/-- the builtins' names are nobody else's -/
def bnames : List Str := ["len", "int", "str", "ord", "isinstance", "list", "tuple", "dict", "bool", "range", "enumerate", "zip", "sorted", "repr", "sum", "all", "any", "max", "min", "abs", "ValueError"]
structure BltN (mg : Str → Option Value) : Prop where
  no : ∀ n ∈ bnames, mg n = none
variable {n : Str} {p : Pos}
theorem fe_bb {b : B1} {id : String} (hc : CallR X (.builtin id) (rB (yof G X) fun st => b1W R st b)) (hv : bootBuiltins n = some (.builtin id)) (hm : X.mg n = none) (hg : Gl X n) (hn : n ≠ "__name__") (hd : (n == ("__debug__" : Str)) = false) (ha : FV G X Wx P R Φ e a)
    (hs : starEach [e] X.env = [(false, eval e X.env)]) : FV G X Wx P R Φ (.Call (.Name n p) [e] [] pos) (.b1 b a) := by
  refine (pe_callB hc hg hm hv (pa_cons ha pa_nil hs) hn hd hs rfl).imp fun σ H Q ⟨ρ, x, hx, S, En, h⟩ => ?_
  rw [evE] at h
  exact rdB1 ⟨ρ, x, hx, S, En, h⟩
theorem fe_bt {b : B1} {id : String} (hc : CallR X (.type id) (rB (yof G X) fun st => b1W R st b)) (hv : bootBuiltins n = some (.type id)) (hm : X.mg n = none) (hg : Gl X n) (hn : n ≠ "__name__") (hd : (n == ("__debug__" : Str)) = false) (ha : FV G X Wx P R Φ e a)
    (hs : starEach [e] X.env = [(false, eval e X.env)]) : FV G X Wx P R Φ (.Call (.Name n p) [e] [] pos) (.b1 b a) := by
  refine (pe_callTy hc hg hm hv (pa_cons ha pa_nil hs) hn hd hs rfl).imp fun σ H Q ⟨ρ, x, hx, S, En, h⟩ => ?_
  rw [evE] at h
  exact rdB1 ⟨ρ, x, hx, S, En, h⟩
theorem cb_len : CallR X (.builtin "len") (rB (yof G X) fun st => b1W R st .len) := by
  intro pins s σ H vs us Q I rv ⟨x, v, wa, w, hv, hx, S, ha, hw, q⟩
  subst hx hv
  simp only [b1W, Option.map_eq_some_iff] at hw
  obtain ⟨i, hi, rfl⟩ := hw
  unfold lenW at hi
  split at hi
  · rename_i z
    split at hi <;> cases hi
    rename_i hz
    cases ha with
    | d ha =>
      cases ha
      refine call_len pins s σ _ _ _ _ I rv ⟨_, (tl z).length, rfl, ⟨by rw [len_eq, ← SZ_eq]; exact hz, (len_eq z).symm⟩, q.d S (.int _)⟩
  · simp only [Option.map_eq_some_iff] at hi
    obtain ⟨ws, hws, rfl⟩ := hi
    obtain ⟨p, vs, rfl, hp, rs⟩ := seq_of S ha hws
    refine call_len pins s σ _ _ _ _ I rv ⟨_, ws.length, rfl, ?_, q.d S (.int _)⟩
    rcases hp with hp | hp
    · exact .inl ⟨vs, hp, rs.length.symm⟩
    · exact .inr ⟨vs, hp, rs.length.symm⟩
theorem cb_int : CallR X (.type "int") (rB (yof G X) fun st => b1W R st .int) := by
  intro pins s σ H vs us Q I rv ⟨x, v, wa, w, hv, hx, S, ha, hw, q⟩
  subst hx hv
  simp only [b1W] at hw
  split at hw
  · cases hw
    cases ha with
    | d ha =>
      cases ha
      exact call_int1 pins s σ _ _ _ _ I rv (.inl ⟨_, rfl, q.d S (.int _)⟩)
  · cases hw
  · cases hw
theorem cb_ord : CallR X (.builtin "ord") (rB (yof G X) fun st => b1W R st .ord) := by
  intro pins s σ H vs us Q I rv ⟨x, v, wa, w, hv, hx, S, ha, hw, q⟩
  subst hx hv
  simp only [b1W] at hw
  split at hw
  · rename_i z
    split at hw
    · rename_i c hz
      cases hw
      cases ha with
      | d ha =>
        cases ha
        refine call_ord pins s σ _ _ _ _ I rv ⟨z, rfl, by rw [len_eq, hz]; rfl, ?_⟩
        have e2 : z.cps.getD 0 0 = c := by
          have e3 : z.cps.toList = [c] := hz
          rw [Array.getD_eq_getD_getElem?, ← Array.getElem?_toList, e3]
          rfl
        rw [e2]
        exact q.d S (.int _)
    · cases hw
  · cases hw
theorem cb_abs : CallR X (.builtin "abs") (rB (yof G X) fun st => b1W R st .abs) := by
  intro pins s σ H vs us Q I rv ⟨x, v, wa, w, hv, hx, S, ha, hw, q⟩
  subst hx hv
  simp only [b1W] at hw
  split at hw
  · cases hw
    cases ha with
    | d ha =>
      cases ha
      exact call_abs pins s σ _ _ _ _ I rv ⟨_, rfl, q.d S (.int _)⟩
  · cases hw
theorem bools_of {Y : Rt} {H : Hp} {nl : Addr → Prop} : ∀ {vs : List V} {ds : List D} {bs : List Bool}, PVs Y H nl vs ds → boolsD ds = some bs → vs = bs.map V.bl
  | _, _, _, .nil, h => by cases h; rfl
  | _, d :: ds, bs, .cons r t, h => by
    cases d <;> simp only [boolsD, Option.map_eq_some_iff, reduceCtorEq] at h
    obtain ⟨l, e1, e2⟩ := h
    cases r
    rw [bools_of t e1, ← e2]
    rfl
theorem cb_all (hc : X.calm = true) : CallR X (.builtin "all") (rB (yof G X) fun st => b1W R st .all) := by
  intro pins s σ H vs us Q I rv ⟨x, v, wa, w, hv, hx, S, ha, hw, q⟩
  subst hx hv
  simp only [b1W] at hw
  split at hw
  · rename_i xs hxs
    simp only [Option.map_eq_some_iff] at hw
    obtain ⟨bs, e1, rfl⟩ := hw
    obtain ⟨p, ws, rfl, hp, ps⟩ := (S.vw ha hxs).list
    have := bools_of ps e1
    subst this
    exact cr_all hc pins s σ _ _ _ _ I rv ⟨p, bs, rfl, .inl hp, q.d S (.bool _)⟩
  · cases hw
theorem cb_any (hc : X.calm = true) : CallR X (.builtin "any") (rB (yof G X) fun st => b1W R st .any) := by
  intro pins s σ H vs us Q I rv ⟨x, v, wa, w, hv, hx, S, ha, hw, q⟩
  subst hx hv
  simp only [b1W] at hw
  split at hw
  · rename_i xs hxs
    simp only [Option.map_eq_some_iff] at hw
    obtain ⟨bs, e1, rfl⟩ := hw
    obtain ⟨p, ws, rfl, hp, ps⟩ := (S.vw ha hxs).list
    have := bools_of ps e1
    subst this
    exact cr_any hc pins s σ _ _ _ _ I rv ⟨p, bs, rfl, .inl hp, q.d S (.bool _)⟩
  · cases hw
theorem ints_of {Y : Rt} {H : Hp} {nl : Addr → Prop} : ∀ {vs : List V} {ds : List D} {i : Int}, PVs Y H nl vs ds → sumI ds = some i → ∃ ns : List Int, vs = ns.map V.int ∧ ns.sum = i
  | _, _, _, .nil, h => by cases h; exact ⟨[], rfl, rfl⟩
  | _, d :: ds, i, .cons r t, h => by
    cases d <;> simp only [sumI, Option.map_eq_some_iff, reduceCtorEq] at h
    rename_i k
    obtain ⟨l, e1, e2⟩ := h
    cases r
    obtain ⟨ns, e3, e4⟩ := ints_of t e1
    exact ⟨k :: ns, by rw [e3]; rfl, by rw [List.sum_cons, e4, e2]⟩
theorem cb_sum (hc : X.calm = true) : CallR X (.builtin "sum") (rB (yof G X) fun st => b1W R st .sum) := by
  intro pins s σ H vs us Q I rv ⟨x, v, wa, w, hv, hx, S, ha, hw, q⟩
  subst hx hv
  simp only [b1W] at hw
  split at hw
  · rename_i xs hxs
    simp only [Option.map_eq_some_iff] at hw
    obtain ⟨i, e1, rfl⟩ := hw
    obtain ⟨p, ws, rfl, hp, ps⟩ := (S.vw ha hxs).list
    obtain ⟨ns, rfl, rfl⟩ := ints_of ps e1
    exact cr_sum hc pins s σ _ _ _ _ I rv ⟨p, ns, rfl, .inl hp, q.d S (.int _)⟩
  · cases hw
theorem cb_tuple : CallR X (.type "tuple") (rB (yof G X) fun st => b1W R st .tuple) := by
  intro pins s σ H vs us Q I rv ⟨x, v, wa, w, hv, hx, S, ha, hw, q⟩
  subst hx hv
  simp only [b1W] at hw
  split at hw
  · rename_i xs hxs
    cases hw
    obtain ⟨p, ws, rfl, hp, ps⟩ := (S.vw ha hxs).list
    exact call_tuple_of pins s σ _ _ _ _ I rv ⟨p, ws, rfl, .inl ⟨.inl hp, fun l hl => q.tup S ps hl⟩⟩
  · rename_i xs hxs
    cases hw
    obtain ⟨p, ws, rfl, hp, ps⟩ := (S.vw ha hxs).tuple
    exact call_tuple_of pins s σ _ _ _ _ I rv ⟨p, ws, rfl, .inr ⟨hp.sq, q.d S (.tup hp ps)⟩⟩
  · cases hw
end
end FM
end

section
/-! FM10: isinstance, repr, methods. -/
set_option Elab.async false
set_option linter.all false
set_option maxRecDepth 100000
set_option autoImplicit false
set_option maxHeartbeats 1000000
namespace FM
open PySem PySem.Spec PyProof.Rows L2
def R0 : Fun1 where
  repr d := tl d.shown
  showI i := tl (toString i : Str)
  ok d := d.showable && decide (d.shown.length ≤ SZ)
mutual
theorem hasDict_nod : ∀ {d : D}, nod d = true → d.hasDict = false
  | .none, _ => rfl
  | .bool _, _ => rfl
  | .int _, _ => rfl
  | .str _, _ => rfl
  | .list xs, h => by
    simp only [PyData.hasDict]
    exact hasDict_nodAll (by simpa [nod] using h)
  | .tuple xs, h => by
    simp only [PyData.hasDict]
    exact hasDict_nodAll (by simpa [nod] using h)
  | .dict _, h => by simp [nod] at h
theorem hasDict_nodAll : ∀ {xs : List D}, nodAll xs = true → PyData.hasDictAll xs = false
  | [], _ => rfl
  | x :: xs, h => by
    simp only [nodAll, Bool.and_eq_true] at h
    simp only [PyData.hasDictAll, hasDict_nod h.1, hasDict_nodAll h.2, Bool.or_self]
end
section
variable {G : Gd} {X : Cx} {Wx : WX} {P : Prog} {R : Fun1} {Φ : Call} {pos : Pos} {e e1 e2 e3 : Expr} {a b c : E} {es : List Expr} {as : Es} {n : Str} {p : Pos}
theorem cb_repr (hg : X.A.guards = some []) (hu : X.A.units + 66 < cLine) : CallR X (.builtin "repr") (rB (yof G X) fun st => b1W R0 st .repr) := by
  intro pins s σ H vs us Q I rv ⟨x, v, wa, w, hv, hx, S, ha, hw, q⟩
  subst hx hv
  simp only [b1W] at hw
  split at hw
  · rename_i d hd
    split at hw
    · rename_i ok
      cases hw
      have h1 := S.vw ha hd
      cases rv with
      | cons r1 r2 =>
        cases r2
        obtain ⟨as, rd⟩ := h1.reads I r1
        cases d <;> simp only [reprOk] at ok <;> try cases ok
        rename_i xs
        simp only [Bool.and_eq_true, decide_eq_true_eq, R0] at ok
        obtain ⟨o1, o2, o3, o4⟩ := ok
        obtain ⟨p, ws, rfl, hp, ps⟩ := h1.tuple
        cases r1
        rw [dep_depth] at o2
        refine repr_of_reads' rd o3 (fun h => by rw [hasDict_nod o1] at h; cases h) hg (by omega) (fun _ _ e => e) (fun h' u tk hk => ?_) (by rw [← SZ_eq]; exact o4)
        refine ⟨.str (PyData.shown (.tuple xs)), x.H, I.kept hk, ⟨u, rfl⟩, ?_⟩
        have e2 : dStr (R0.repr (.tuple xs)) = .str (PyData.shown (.tuple xs)) := by simp [R0]
        rw [e2] at q
        exact q.d S (.str _)
    · cases hw
  · cases hw
/-! ### isinstance -/
def tyN : Ty → String
  | .int => "int" | .str => "str" | .bool => "bool" | .list => "list" | .tuple => "tuple" | .dict => "dict"
def tyO : Option Ty → String
  | none => "NoneType"
  | some t => tyN t
theorem kit_tab {K : PySem.W.Frag} (t : Option Ty) (u : Ty) : PySem.W.kitOne K (.type (tyO t)) (.type (tyN u)) = some (isTy t u) := by
  cases t with
  | none => cases u <;> exact kit_ty (by decide +kernel)
  | some t => cases t <;> cases u <;> exact kit_ty (by decide +kernel)
theorem tyx_of {x : Wd} (S : SR (yof G X) x) {v : V} {w : W} (r : WV (yof G X) x v w) (k : kindOk x.st w = true) : TyX X.K x.H v (.type (tyO (tyOf x.st w))) := by
  cases r with
  | @d _ d r =>
    cases r with
    | none => exact .base .non
    | bool b => exact .base (.bl b)
    | int b => exact .base (.int b)
    | str b => exact .base (.str b)
    | tup h _ =>
      rcases h with ⟨h | ⟨o, h⟩, _⟩ | ⟨o, its, n, h1, h2, _⟩
      · exact .base (.tup h)
      · exact .fTuple h
      · exact .kTuple h1 h2
    | lst h _ =>
      rcases h with ⟨h | ⟨o, h⟩, _⟩
      · exact .base (.lst h)
      · exact .base (.frz h)
    | dct _ _ _ _ _ => simp [kindOk] at k
  | @ref n p hn =>
    simp only [kindOk] at k
    split at k
    · rename_i l hc
      obtain ⟨vs, hH, rs⟩ := S.cell _ _ _ hn hc
      simp only [tyOf, hc]
      exact .base (.lst hH)
    · cases k
  | fn f => simp [kindOk] at k
theorem kit_any {K : PySem.W.Frag} (t : Option Ty) : ∀ ts : List Ty, PySem.W.kitAny K (.type (tyO t)) (ts.map fun u => .type (tyN u)) = some (ts.any (isTy t))
  | [] => kitAny_nil
  | u :: us => by
    refine kitAny_cons (kit_tab t u) (fun h => ?_) (fun h => ?_)
    · rw [List.any_cons, h, Bool.false_or]
      exact kit_any t us
    · rw [List.any_cons, h, Bool.true_or]
/-- a built-in type's name -/
structure TyNm (X : Cx) (e : Expr) (t : Ty) : Prop where
  run : PE X e (tC (.ty (tyN t)))
  plain : ∀ es, starEach (e :: es) X.env = (false, eval e X.env) :: starEach es X.env
theorem tyNm {t : Ty} (hg : Gl X n) (hm : X.mg n = none) (hv : bootBuiltins n = some (.type (tyN t))) (hn : n ≠ "__name__" := by decide) (hd : (n == ("__debug__" : Str)) = false := by decide) : TyNm X (.Name n p) t :=
  ⟨pe_bltn hg hm hv rfl hn hd, fun _ => rfl⟩
theorem isi_done {ts : List Ty} {x : Wd} {w : W} {Q : VK} {σ : L2.St} {k : Bool} (S : SR (yof G X) x) (h : rpost (yof G X) Wx σ x (fun y v w => WV (yof G X) y v w) Q (Res.of ((isiW x.st w ts).map fun b => W.d (.bool b)) x.st)) : kindOk x.st w = true ∧ ∀ y, Ext x y → SR (yof G X) y → y.st = x.st → Q (.bl (ts.any (isTy (tyOf x.st w)))) y.H := by
  obtain ⟨w', hw, q⟩ := rpost_of h
  simp only [Option.map_eq_some_iff] at hw
  obtain ⟨k', e3, rfl⟩ := hw
  unfold isiW at e3
  split at e3
  · rename_i hk
    cases e3
    exact ⟨hk, fun y ey Sy hy => q _ y ey Sy hy (.d (.bool _))⟩
  · cases e3
theorem fe_isi1 {t : Ty} (hg : Gl X "isinstance") (hm : X.mg "isinstance" = none) (ha : FV G X Wx P R Φ e a) (ht : TyNm X e2 t) (hs : starEach [e, e2] X.env = (false, eval e X.env) :: starEach [e2] X.env := by rfl) (hs2 : (backTo pos (starEach [e2] X.env)).any (·.1) = false := by rfl) :
    FV G X Wx P R Φ (.Call (.Name "isinstance" p) [e, e2] [] pos) (.isi a [t]) := by
  refine (pe_callB call_isi hg hm boot_isinstance (pa_cons ha (pa_cons ht.run pa_nil (ht.plain [])) hs) (by decide) (by decide) hs hs2).imp fun σ H Q ⟨ρ, x, hx, S, En, h⟩ => ?_
  rw [evE] at h
  refine ⟨ρ, x, hx, S, En, rpost_bind h fun v y w e1 Sy r h2 => ?_⟩
  obtain ⟨hk, q⟩ := isi_done (k := true) Sy h2
  exact ⟨v, .ty (tyN t), _, .type (tyN t), _, rfl, .ty _, tyx_of Sy r hk, kit_tab _ t, by have := q y (Ext.refl y) Sy rfl; simpa using this⟩
theorem fe_isi2 {t u : Ty} {e3 : Expr} {x1 : Nat} {tp : Pos} (hg : Gl X "isinstance") (hm : X.mg "isinstance" = none) (ha : FV G X Wx P R Φ e a) (ht : TyNm X e2 t) (hu : TyNm X e3 u) (hs : starEach [e, .Tuple [e2, e3] x1 tp] X.env = (false, eval e X.env) :: starEach [.Tuple [e2, e3] x1 tp] X.env := by rfl) :
    FV G X Wx P R Φ (.Call (.Name "isinstance" p) [e, .Tuple [e2, e3] x1 tp] [] pos) (.isi a [t, u]) := by
  refine (pe_callB call_isiT hg hm boot_isinstance (pa_cons ha (pa_cons (pe_tup (pa_cons ht.run (pa_cons hu.run pa_nil (hu.plain [])) (ht.plain _))) pa_nil) hs) (by decide) (by decide) hs).imp fun σ H Q ⟨ρ, x, hx, S, En, h⟩ => ?_
  rw [evE] at h
  refine ⟨ρ, x, hx, S, En, rpost_bind h fun v y w e1 Sy r h2 => ?_⟩
  refine ⟨by show 2 ≤ sizeLine; decide, fun q hq => ?_⟩
  obtain ⟨hk, k⟩ := isi_done (k := true) Sy h2
  obtain ⟨e2, S2, n⟩ := Ext.new (o := .tup [.ty (tyN t), .ty (tyN u)]) Sy hq (fun _ z => by cases z)
  refine ⟨v, q, [.ty (tyN t), .ty (tyN u)], _, [.type (tyN t), .type (tyN u)], _, rfl, upd_same, .cons (.ty _) (.cons (.ty _) .nil), tyx_of S2 (e2.wv r) hk, kit_any _ [t, u], k _ e2 S2 rfl⟩
end
end FM
end

section
/-! FM11: methods. -/
set_option Elab.async false
set_option linter.all false
set_option maxRecDepth 100000
set_option autoImplicit false
set_option maxHeartbeats 1000000
namespace FM
open PySem PySem.Spec PyProof.Rows L2
section
variable {G : Gd} {X : Cx} {Wx : WX} {P : Prog} {R : Fun1} {Φ : Call} {pos : Pos} {e e1 e2 e3 : Expr} {a b c : E} {es : List Expr} {as : Es} {n : Str} {p apos cpos : Pos}
/-- a cell is written -/
theorem cell_set {Y : Rt} {x : Wd} (S : SR Y x) {n : Nat} {a : Addr} {c c' : Cell} {o : HO} (hn : x.μ[n]? = some a) (hc : x.st[n]? = some c) (hd : c ≠ .dead) (hd' : c' ≠ .dead) (ho : ∀ ps, o ≠ .tbl ps) (hq : ∀ q, o ≠ LamX.CodeO a q)
    (h : ∀ z, Mv x z → z.H a = some o → CellOk Y z a c') :
    Ext x ⟨x.R, x.μ, x.st.set n c', upd x.H a o⟩ ∧ SR Y ⟨x.R, x.μ, x.st.set n c', upd x.H a o⟩ := by
  have la : x.live a := ⟨n, c, hn, hc, hd⟩
  have hmem : a ∈ x.μ := List.mem_of_getElem? hn
  obtain ⟨oa, ha, hat, hac⟩ := S.dom a hmem
  have lv : ∀ {b : Addr}, Wd.live ⟨x.R, x.μ, x.st.set n c', upd x.H a o⟩ b → x.live b := fun {b} ⟨m, d, h1, h2, h3⟩ => by
    have h1 : x.μ[m]? = some b := h1
    by_cases e : m = n
    · rw [e, hn] at h1
      cases h1
      exact la
    · have h2 : (x.st.set n c')[m]? = some d := h2
      rw [List.getElem?_set_ne (Ne.symm e)] at h2
      exact ⟨m, d, h1, h2, h3⟩
  have nd : ∀ {b : Addr} {m : Nat}, x.μ[m]? = some b → m ≠ n → b ≠ a := fun {b m} h1 h2 z => by
    rw [z] at h1
    exact h2 (nodup_at S.nd h1 hn)
  have mv : Mv x ⟨x.R, x.μ, x.st.set n c', upd x.H a o⟩ := ⟨List.prefix_refl _, fun b u h1 t n1 => ⟨by show upd x.H a o b = _; rw [upd_ne (fun z => n1.2 (by rw [z]; exact la))]; exact h1, n1.1, fun z => n1.2 (lv z)⟩⟩
  refine ⟨⟨rfl, List.prefix_refl _, fun b u h1 t n1 => ⟨by show upd x.H a o b = _; rw [upd_ne (fun z => n1 (by rw [z]; exact la))]; exact h1, fun z => n1 (lv z)⟩, fun b u h1 t => ?_⟩,
    ⟨by simp [S.len], S.nd, fun b hb => ?_, fun b hb => ?_, fun m b d h1 h2 => ?_, ?_⟩⟩
  · by_cases z : b = a
    · exact ⟨o, by rw [z]; exact upd_same, ho⟩
    · exact ⟨u, by show upd x.H a o b = _; rw [upd_ne z]; exact h1, t⟩
  · by_cases z : b = a
    · exact ⟨o, by rw [z]; exact upd_same, ho, by rw [z]; exact hq⟩
    · obtain ⟨u, h1, t⟩ := S.dom b hb
      exact ⟨u, by show upd x.H a o b = _; rw [upd_ne z]; exact h1, t⟩
  · obtain ⟨h1, u, h2, t⟩ := S.res b hb
    have z : b ≠ a := fun z => h1 (by rw [z]; exact hmem)
    exact ⟨h1, u, by show upd x.H a o b = _; rw [upd_ne z]; exact h2, t⟩
  · have h1 : x.μ[m]? = some b := h1
    have h2 : (x.st.set n c')[m]? = some d := h2
    by_cases e : m = n
    · rw [e] at h1 h2
      rw [hn] at h1
      cases h1
      rw [List.getElem?_set_self (List.getElem?_eq_some_iff.mp hc).1] at h2
      cases h2
      exact h _ mv upd_same
    · rw [List.getElem?_set_ne (Ne.symm e)] at h2
      exact (S.cell m b d h1 h2).mv mv fun u h3 _ => by show upd x.H a o b = _; rw [upd_ne (nd h1 e)]; exact h3
  · intro q hq
    obtain ⟨ps, h1, h2, h3⟩ := S.tabs q hq
    have z : q.1 ≠ a := fun z => hat ps (by rw [z, ha] at h1; exact Option.some.inj h1)
    refine ⟨ps, by show upd x.H a o q.1 = _; rw [upd_ne z]; exact h1, h2, fun pos cv hcv => ?_⟩
    obtain ⟨c0, k1, k2⟩ := h3 pos cv hcv
    refine ⟨c0, k1, ?_⟩
    show upd x.H a o c0 = _
    rw [upd_ne (fun z => hac q.2 (by rw [z, ha] at k2; exact Option.some.inj k2))]
    exact k2
theorem lst_code {a : Addr} {vs : List V} : ∀ q, HO.lst vs ≠ LamX.CodeO a q := fun q z => by unfold LamX.CodeO at z; cases z
/-- a cell that is a list -/
theorem lst_set {Y : Rt} {x : Wd} (S : SR Y x) {n : Nat} {a : Addr} {ws ws' : List W} {vs' : List V} (hn : x.μ[n]? = some a) (hc : x.st[n]? = some (.lst ws)) (h : ∀ z, Mv x z → WVs Y z vs' ws') :
    Ext x ⟨x.R, x.μ, x.st.set n (.lst ws'), upd x.H a (.lst vs')⟩ ∧ SR Y ⟨x.R, x.μ, x.st.set n (.lst ws'), upd x.H a (.lst vs')⟩ :=
  cell_set S hn hc (by simp) (by simp) (fun _ z => by cases z) lst_code fun z m hz => ⟨vs', hz, h z m⟩
def rM1 (Y : Rt) (f : Sto → W → W → Option (W × Sto)) : V → List V → Hp → VK → Prop := fun v vs H Q => ∃ x u wa wb w st', vs = [u] ∧ x.H = H ∧ SR Y x ∧ WV Y x v wa ∧ WV Y x u wb ∧ f x.st wa wb = some (w, st') ∧ ∀ v' z, Ext x z → SR Y z → z.st = st' → WV Y z v' w → Q v' z.H
theorem tyv_of {x : Wd} (S : SR (yof G X) x) {v : V} {w : W} (r : WV (yof G X) x v w) : (tyOf x.st w = some .list → tyV X.K "list" v x.H) ∧ (tyOf x.st w = some .str → tyV X.K "str" v x.H) := by
  cases r with
  | @d _ d r =>
    cases r with
    | lst h _ => exact ⟨fun _ => .inl ⟨rfl, _, h.sq⟩, fun z => by simp [tyOf] at z⟩
    | str z => exact ⟨fun z => by simp [tyOf] at z, fun _ => rfl⟩
    | _ => exact ⟨fun z => by simp [tyOf] at z, fun z => by simp [tyOf] at z⟩
  | @ref n p hn =>
    refine ⟨fun z => ?_, fun z => ?_⟩
    · simp only [tyOf] at z
      split at z
      · rename_i l hc
        obtain ⟨vs, hH, rs⟩ := S.cell _ _ _ hn hc
        exact .inl ⟨rfl, vs, .inl (.inl hH)⟩
      · cases z
      · cases z
    · simp only [tyOf] at z
      split at z <;> cases z
  | fn f => exact ⟨fun z => by simp [tyOf] at z, fun z => by simp [tyOf] at z⟩
theorem fe_m1 {m : M1} {ty id : String} (pa : PlainAttrs ty) (slot : Slot ty n id) (hty : typeOf (.builtin id) = pure (.type "method_descriptor")) (hm : MtR X id (rM1 (yof G X) fun st => m1W st m))
    (hk : ∀ (x : Wd) (v : V) (w : W), SR (yof G X) x → WV (yof G X) x v w → rcv1 x.st m w = true → tyV X.K ty v x.H) (ha : FV G X Wx P R Φ e1 a) (hb : FV G X Wx P R Φ e2 b)
    (hbase : attributeBase e1 n X.env (eval e1 X.env) = eval e1 X.env) (hline : (apos.endLine == cpos.line) = true) (hs : starEach [e2] X.env = [(false, eval e2 X.env)]) : FV G X Wx P R Φ (.Call (.Attribute e1 n apos) [e2] [] cpos) (.m1 m a b) := by
  have hfew : ((backTo cpos (starEach [e2] X.env)).all (fun x => !x.1) && (backToKw cpos (keywordEach [] X.env)).all (fun x => x.1.isSome) && decide (([e2] : List Expr).length + ([] : List Keyword).length + (if ([] : List Keyword).isEmpty then 0 else 1) < 30)) = true := by
    rw [hs]
    rfl
  refine (pe_bm pa slot hty hm ha (pa_cons hb pa_nil hs) hbase hfew hline hs rfl).imp fun σ H Q ⟨ρ, x, hx, S, En, h⟩ => ?_
  rw [evE] at h
  refine ⟨ρ, x, hx, S, En, rpost_bind h fun v y w e1 Sy r h2 => ?_⟩
  split at h2
  · rename_i hr
    refine ⟨hk y v w Sy r hr, ρ, y, rfl, Sy, En.ext e1, rpost_bind h2 fun u z w2 e2 Sz r2 h3 => ?_⟩
    cases hf : m1W z.st m w w2 with
    | none => rw [hf] at h3; exact h3.elim
    | some q =>
      rw [hf] at h3
      exact ⟨z, u, w, w2, q.1, q.2, rfl, rfl, Sz, e2.wv r, r2, hf, h3⟩
  · exact h2.elim
theorem km_append : MtR X "list.append" (rM1 (yof G X) fun st => m1W st .append) := by
  intro pins s σ H v vs vv us Q I rv rvs ⟨x, u, wa, wb, w, st', hv, hx, S, ha, hb, hw, q⟩
  subst hx hv
  simp only [m1W] at hw
  split at hw
  · split at hw
    · split at hw
      · rename_i n ws hc hz
        cases hw
        cases ha with
        | ref hn =>
          obtain ⟨vs, hH, rs⟩ := S.cell _ _ _ hn hc
          obtain ⟨e2, S2⟩ := lst_set (vs' := vs ++ [u]) (ws' := ws ++ [wb]) S hn hc fun z m => (m.wvs rs).append (.cons (m.wv hb) .nil)
          exact mt_append pins s σ _ _ _ _ _ _ I rv rvs ⟨_, vs, u, rfl, rfl, hH, by rw [rs.length, ← SZ_eq]; exact hz, q _ _ e2 S2 rfl (.d .none)⟩
      · cases hw
    · cases hw
  · cases hw
theorem fe_append (ha : FV G X Wx P R Φ e1 a) (hb : FV G X Wx P R Φ e2 b) (hbase : attributeBase e1 "append" X.env (eval e1 X.env) = eval e1 X.env := by rfl) (hline : (apos.endLine == cpos.line) = true := by rfl) (hs : starEach [e2] X.env = [(false, eval e2 X.env)] := by rfl) :
    FV G X Wx P R Φ (.Call (.Attribute e1 "append" apos) [e2] [] cpos) (.m1 .append a b) :=
  fe_m1 F.plainAttrs_list F.slot_list_append F.type_list_append km_append (fun x v w S r h => (tyv_of S r).1 (by simpa [rcv1] using h)) ha hb hbase hline hs
/-! join, split, partition -/
theorem strs_of {Y : Rt} {H : Hp} {nl : Addr → Prop} : ∀ {vs : List V} {ds : List D} {ls : List (List Nat)}, PVs Y H nl vs ds → strsD ds = some ls → ∃ ys : List Str, vs = ys.map V.str ∧ ys.map tl = ls
  | _, _, _, .nil, h => by cases h; exact ⟨[], rfl, rfl⟩
  | _, d :: ds, ls, .cons r t, h => by
    cases d <;> simp only [strsD, Option.map_eq_some_iff, reduceCtorEq] at h
    obtain ⟨l, e1, e2⟩ := h
    cases r
    obtain ⟨ys, e3, e4⟩ := strs_of t e1
    exact ⟨_ :: ys, by rw [e3]; rfl, by rw [← e2, ← e4]; rfl⟩
theorem joinT_eq (sep : List Nat) : ∀ l : List (List Nat), TL.joinL sep l = joinT sep l
  | [] => rfl
  | [x] => rfl
  | x :: y :: r => by
    show x ++ (sep ++ TL.joinL sep (y :: r)) = x ++ sep ++ joinT sep (y :: r)
    rw [joinT_eq sep (y :: r), List.append_assoc]
theorem km_join : MtR X "str.join" (rM1 (yof G X) fun st => m1W st .join) := by
  intro pins s σ H v vs vv us Q I rv rvs ⟨x, u, wa, wb, w, st', hv, hx, S, ha, hb, hw, q⟩
  subst hx hv
  simp only [m1W] at hw
  split at hw
  · rename_i z xs hxs
    split at hw
    · rename_i ls hls
      split at hw
      · rename_i hz
        cases hw
        obtain ⟨d, hd, hr⟩ := Option.bind_eq_some_iff.mp hxs
        have hrow : ∃ (p : Addr) (ws : List V), u = .ref p ∧ (SqL X.K x.H p ws ∨ SqT X.K x.H p ws) ∧ PVs (yof G X) x.H x.nl ws xs := by
          cases d <;> simp [rowD] at hr
          · subst hr
            obtain ⟨p, ws, rfl, hp, ps⟩ := (S.vw hb hd).list
            exact ⟨p, ws, rfl, .inl (.inl hp), ps⟩
          · subst hr
            obtain ⟨p, ws, rfl, hp, ps⟩ := (S.vw hb hd).tuple
            exact ⟨p, ws, rfl, .inr hp.sq, ps⟩
        obtain ⟨p, ws, rfl, hp, ps⟩ := hrow
        obtain ⟨ys, rfl, rfl⟩ := strs_of ps hls
        cases ha with
        | d ha =>
          cases ha
          refine mt_join pins s σ _ _ _ _ _ _ I rv rvs ⟨z, p, ys, rfl, rfl, hp, ?_, ?_⟩
          · have e1 : (ys.map (·.length)) = (ys.map tl).map List.length := by
              rw [List.map_map]
              exact List.map_congr_left fun y _ => len_eq y
            rw [e1, len_eq]
            rw [List.length_map] at hz
            exact hz
          · have e2 : Txt.join z ys = T (joinT (tl z) (ys.map tl)) := by
              rw [TL.join_eq]
              have e3 : tl (Str.join z ys) = joinT (tl z) (ys.map tl) := (TL.tl_join z ys).trans (joinT_eq _ _)
              rw [← e3, T_tl]
            rw [e2]
            exact q _ x (Ext.refl x) S rfl (.d (.str _))
      · cases hw
    · cases hw
  · cases hw
theorem fe_join (ha : FV G X Wx P R Φ e1 a) (hb : FV G X Wx P R Φ e2 b) (hbase : attributeBase e1 "join" X.env (eval e1 X.env) = eval e1 X.env := by rfl) (hline : (apos.endLine == cpos.line) = true := by rfl) (hs : starEach [e2] X.env = [(false, eval e2 X.env)] := by rfl) :
    FV G X Wx P R Φ (.Call (.Attribute e1 "join" apos) [e2] [] cpos) (.m1 .join a b) :=
  fe_m1 F.plainAttrs_str F.slot_str_join F.type_str_join km_join (fun x v w S r h => (tyv_of S r).2 (by simpa [rcv1] using h)) ha hb hbase hline hs
theorem spl_one (c : Nat) : ∀ (l acc : List Nat), TL.spl [c] 0 acc l = (match splitC c l with | [] => [acc] | y :: r => (acc ++ y) :: r)
  | [], acc => by simp [TL.spl_nil, splitC]
  | a :: l, acc => by
    have ne : ∀ l : List Nat, splitC c l ≠ [] := fun l => by
      cases l with
      | nil => simp [splitC]
      | cons b l =>
        simp only [splitC]
        split
        · simp
        · split <;> simp
    by_cases h : a = c
    · subst h
      rw [TL.spl_hit (by simp [TL.pre])]
      show acc :: TL.spl [a] 0 [] l = _
      rw [spl_one a l []]
      simp only [splitC, if_true]
      cases hs : splitC a l with
      | nil => exact absurd hs (ne l)
      | cons y r => simp
    · rw [TL.spl_miss (by simp [TL.pre, h]), spl_one c l (acc ++ [a])]
      simp only [splitC, if_neg h]
      cases hs : splitC c l with
      | nil => exact absurd hs (ne l)
      | cons y r => simp
theorem split_eq (z : Str) (c : Nat) (hc : c < 256) : (Txt.split z ⟨#[c]⟩).map tl = splitC c (tl z) := by
  have h := TL.split_spl z ⟨#[c]⟩ (by simp) (TL.kind_ok (by simp [hc]))
  have e : TL.tl (⟨#[c]⟩ : Str) = [c] := rfl
  rw [e, spl_one] at h
  refine h.trans ?_
  show (match splitC c (tl z) with | [] => [[]] | y :: r => ([] ++ y) :: r) = _
  cases hs : splitC c (tl z) with
  | nil =>
    exfalso
    revert hs
    cases tl z with
    | nil => simp [splitC]
    | cons b l =>
      simp only [splitC]
      split
      · simp
      · split <;> simp
  | cons y r => simp
theorem strs_pv {Y : Rt} {H : Hp} {nl : Addr → Prop} : ∀ ys : List Str, PVs Y H nl (ys.map V.str) ((ys.map tl).map dStr)
  | [] => .nil
  | y :: ys => .cons (by rw [dStr, T_tl]; exact .str y) (strs_pv ys)
theorem one_of {z : Str} {c : Nat} (h : tl z = [c]) : z = ⟨#[c]⟩ := by
  rw [← T_tl z, h]
  rfl
theorem km_split : MtR X "str.split" (rM1 (yof G X) fun st => m1W st .split) := by
  intro pins s σ H v vs vv us Q I rv rvs ⟨x, u, wa, wb, w, st', hv, hx, S, ha, hb, hw, q⟩
  subst hx hv
  simp only [m1W] at hw
  split at hw
  · rename_i z y
    split at hw
    · rename_i c hy
      split at hw
      · rename_i hz
        cases hw
        have := one_of hy
        subst this
        cases ha with
        | d ha =>
          cases ha
          cases hb with
          | d hb =>
            cases hb
            refine mt_split pins s σ _ _ _ _ _ _ I rv rvs ⟨z, ⟨#[c]⟩, rfl, rfl, rfl, by rw [len_eq, ← SZ_eq]; exact hz.1, fun n hn => ?_⟩
            rw [← split_eq z c hz.2] at q
            exact After.lst q S (strs_pv _) hn
      · cases hw
    · cases hw
  · cases hw
theorem fe_split (ha : FV G X Wx P R Φ e1 a) (hb : FV G X Wx P R Φ e2 b) (hbase : attributeBase e1 "split" X.env (eval e1 X.env) = eval e1 X.env := by rfl) (hline : (apos.endLine == cpos.line) = true := by rfl) (hs : starEach [e2] X.env = [(false, eval e2 X.env)] := by rfl) :
    FV G X Wx P R Φ (.Call (.Attribute e1 "split" apos) [e2] [] cpos) (.m1 .split a b) :=
  fe_m1 F.plainAttrs_str F.slot_str_split F.type_str_split km_split (fun x v w S r h => (tyv_of S r).2 (by simpa [rcv1] using h)) ha hb hbase hline hs
theorem low_eq {z : Str} (h : (tl z).all (fun c => decide (c < 128)) = true) : Txt.lower z = T ((tl z).map lower1) := by
  rw [PyProof.Rows.lower_ascii (x := z) (fun c hc => of_decide_eq_true (List.all_eq_true.mp h c hc))]
  have e : tl (⟨z.cps.map PyProof.Rows.lo1⟩ : Str) = (tl z).map lower1 := by
    show (z.cps.map PyProof.Rows.lo1).toList = _
    rw [Array.toList_map]
    rfl
  rw [← e, T_tl]
theorem fe_lower (ha : FV G X Wx P R Φ e1 a) (hbase : attributeBase e1 "lower" X.env (eval e1 X.env) = eval e1 X.env := by rfl) (hline : (apos.endLine == cpos.line) = true := by rfl) : FV G X Wx P R Φ (.Call (.Attribute e1 "lower" apos) [] [] cpos) (.m0 .lower a) := by
  refine (pe_m0 F.slot_str_lower F.type_str_lower mt_lower ha hbase hline).imp fun σ H Q ⟨ρ, x, hx, S, En, h⟩ => ?_
  rw [evE] at h
  refine ⟨ρ, x, hx, S, En, rpost_bind h fun v y w e1 Sy r h2 => ?_⟩
  obtain ⟨w', hw, k⟩ := rpost_of h2
  unfold m0W at hw
  split at hw
  · rename_i z _
    split at hw
    · rename_i hz
      cases hw
      simp only [Bool.and_eq_true, decide_eq_true_eq] at hz
      cases r with
      | d r =>
        cases r
        refine ⟨⟨z, rfl⟩, z, rfl, rfl, by rw [len_eq]; omega, ?_⟩
        rw [low_eq hz.1]
        exact k _ y (Ext.refl y) Sy rfl (.d (.str _))
    · cases hw
  · rename_i hm
    cases hm
  · cases hw
end
end FM
end

section
/-! FM12: statements. -/
set_option Elab.async false
set_option linter.all false
set_option maxRecDepth 100000
set_option autoImplicit false
set_option maxHeartbeats 1000000
namespace FM
open PySem PySem.Spec PyProof.Rows L2
section
variable {G : Gd} {X : Cx} {Wx : WX} {P : Prog} {R : Fun1} {Φ : Call} {pos : Pos} {e e1 e2 e3 : Expr} {a b c : E} {es : List Expr} {as : Es} {n : Str} {p apos cpos : Pos}
def rpostS (Y : Rt) (Wx : WX) (D : Ends) (x : Wd) : Out → Prop
  | .nx ρ st' => ∀ y σ', Ext x y → SR Y y → y.st = st' → EnvOk Y y ρ σ' → D.nx σ' y.H
  | .rt w st' => ∀ v y, Ext x y → SR Y y → y.st = st' → WV Y y v w → D.rt v y.H
  | .bk ρ st' => ∀ y σ', Ext x y → SR Y y → y.st = st' → EnvOk Y y ρ σ' → D.bk σ' y.H
  | .ct ρ st' => ∀ y σ', Ext x y → SR Y y → y.st = st' → EnvOk Y y ρ σ' → D.ct σ' y.H
  | .exn e st' => ∀ cls d y σ', Ext x y → SR Y y → y.st = st' → ExR Y y cls d e → Wx cls d σ' y.H
  | .bad => False
def rdS (Y : Rt) (Wx : WX) (t : Env → Sto → Out) : TS := fun D σ H => ∃ ρ x, x.H = H ∧ SR Y x ∧ EnvOk Y x ρ σ ∧ rpostS Y Wx D x (t ρ x.st)
theorem rpostS_ext {Y : Rt} {D : Ends} {x y : Wd} {o : Out} (e : Ext x y) (h : rpostS Y Wx D x o) : rpostS Y Wx D y o := by
  cases o with
  | nx ρ st' => exact fun z σ' e' => h z σ' (e.trans e')
  | rt w st' => exact fun v z e' => h v z (e.trans e')
  | bk ρ st' => exact fun z σ' e' => h z σ' (e.trans e')
  | ct ρ st' => exact fun z σ' e' => h z σ' (e.trans e')
  | exn x st' => exact fun c d z σ' e' => h c d z σ' (e.trans e')
  | bad => exact h
theorem rpostS_out {Y : Rt} {D : Ends} {x : Wd} {α β : Type} {rel : Wd → β → α → Prop} {K : β → Hp → Prop} {σ : L2.St} {r : Res α} {f : α → Sto → Out} (h : rpostS Y Wx D x (r.out f))
    (k : ∀ v y a, Ext x y → SR Y y → rel y v a → rpostS Y Wx D y (f a y.st) → K v y.H) : rpost Y Wx σ x rel K r := by
  cases r with
  | ok a st' =>
    intro v y e s hy hr
    subst hy
    exact k v y a e s hr (rpostS_ext e h)
  | exn a st' => exact fun c d y e s hy hr => h c d y σ e s hy hr
  | bad => exact h
abbrev FS (G : Gd) (X : Cx) (Wx : WX) (P : Prog) (R : Fun1) (Φ : Call) (st : Stmt) (s : S) : Prop := PS X st (rdS (yof G X) Wx (evS P R Φ s))
abbrev FSs (G : Gd) (X : Cx) (Wx : WX) (P : Prog) (R : Fun1) (Φ : Call) (st : List Stmt) (s : Ss) : Prop := PSs X st (rdS (yof G X) Wx (evSs P R Φ s))
variable {st : Stmt} {sts sts2 : List Stmt} {s : S} {ss ss2 : Ss}
theorem fss_nil : FSs G X Wx P R Φ [] .nil := pss_nil.imp fun D σ H ⟨ρ, x, hx, S, En, h⟩ => by
  rw [evSs] at h
  subst hx
  exact h x σ (Ext.refl x) S rfl En
theorem rdS_next {D : Ends} {σ : L2.St} {H : Hp} (h : rdS (yof G X) Wx (evSs P R Φ (.cons s ss)) D σ H) : rdS (yof G X) Wx (evS P R Φ s) { D with nx := rdS (yof G X) Wx (evSs P R Φ ss) D } σ H := by
  obtain ⟨ρ, x, hx, S, En, h⟩ := h
  rw [evSs] at h
  refine ⟨ρ, x, hx, S, En, ?_⟩
  cases ho : evS P R Φ s ρ x.st with
  | nx ρ' st' =>
    rw [ho] at h
    intro y σ' e1 Sy hy Ey
    subst hy
    exact ⟨ρ', y, rfl, Sy, Ey, rpostS_ext e1 h⟩
  | rt w st' => rw [ho] at h; exact h
  | bk ρ st' => rw [ho] at h; exact h
  | ct ρ st' => rw [ho] at h; exact h
  | exn x st' => rw [ho] at h; exact h
  | bad => rw [ho] at h; exact h
theorem fss_cons (h1 : FS G X Wx P R Φ st s) (h2 : FSs G X Wx P R Φ sts ss) : FSs G X Wx P R Φ (st :: sts) (.cons s ss) := (pss_cons h1 h2).imp fun D σ H h => rdS_next h
theorem fss_one (h1 : FS G X Wx P R Φ st s) : FSs G X Wx P R Φ [st] (.cons s .nil) := fss_cons h1 fss_nil
theorem fs_bad : FS G X Wx P R Φ st .bad := ps_never.imp fun D σ H ⟨ρ, x, hx, S, En, h⟩ => by rw [evS] at h; exact h
theorem fs_pass : FS G X Wx P R Φ (.Pass pos) .pass := ps_pass.imp fun D σ H ⟨ρ, x, hx, S, En, h⟩ => by
  rw [evS] at h; subst hx; exact h x σ (Ext.refl x) S rfl En
theorem fs_brk : FS G X Wx P R Φ (.Break pos) .brk := ps_break.imp fun D σ H ⟨ρ, x, hx, S, En, h⟩ => by
  rw [evS] at h; subst hx; exact h x σ (Ext.refl x) S rfl En
theorem fs_cont : FS G X Wx P R Φ (.Continue pos) .cont := ps_continue.imp fun D σ H ⟨ρ, x, hx, S, En, h⟩ => by
  rw [evS] at h; subst hx; exact h x σ (Ext.refl x) S rfl En
theorem fs_ret (ha : FV G X Wx P R Φ e a) : FS G X Wx P R Φ (.Return (some e) pos) (.ret a) := (ps_ret ha).imp fun D σ H ⟨ρ, x, hx, S, En, h⟩ => by
  rw [evS] at h
  exact ⟨ρ, x, hx, S, En, rpostS_out h fun v y w e1 Sy r h2 => h2 v y (Ext.refl y) Sy rfl r⟩
theorem fs_retN : FS G X Wx P R Φ (.Return none pos) .retN := ps_retN.imp fun D σ H ⟨ρ, x, hx, S, En, h⟩ => by
  rw [evS] at h; subst hx; exact h .non x (Ext.refl x) S rfl (.d .none)
theorem fs_ex (ha : FV G X Wx P R Φ e a) (hs : swapsWith e none pos.line X.env = pure false := by rfl) : FS G X Wx P R Φ (.Expr e pos) (.ex a) := (ps_expr ha hs).imp fun D σ H ⟨ρ, x, hx, S, En, h⟩ => by
  rw [evS] at h
  exact ⟨ρ, x, hx, S, En, rpostS_out h fun v y w e1 Sy r h2 => h2 y σ (Ext.refl y) Sy rfl (En.ext e1)⟩
theorem fs_if {c : C} (h0 : FC G X Wx P R Φ e c) (h1 : FSs G X Wx P R Φ sts ss) (h2 : FSs G X Wx P R Φ sts2 ss2) : FS G X Wx P R Φ (.If e sts sts2 pos) (.ife c ss ss2) := (ps_if h0 h1 h2).imp fun D σ H ⟨ρ, x, hx, S, En, h⟩ => by
  rw [evS] at h
  refine ⟨ρ, x, hx, S, En, rpostS_out h fun k y w e1 Sy r h2 => ?_⟩
  subst r
  cases k with
  | true => exact ⟨ρ, y, rfl, Sy, En.ext e1, h2⟩
  | false => exact ⟨ρ, y, rfl, Sy, En.ext e1, h2⟩
/-! ### targets -/
mutual
def Tg.ix : Tg → List Nat
  | .v i => [i]
  | .t ts => Tg.ixs ts
def Tg.ixs : List Tg → List Nat
  | [] => []
  | u :: us => u.ix ++ Tg.ixs us
end
/-- the slots but those of l are as they were -/
def SameBut (l : List Nat) (σ σ' : L2.St) : Prop := σ'.length = σ.length ∧ ∀ i, i ∉ l → σ'[i]? = σ[i]?
def rdG (Y : Rt) (t : Tg) : TG := fun v σ H Q => ∃ z w ρ ρ', z.H = H ∧ SR Y z ∧ EnvOk Y z ρ σ ∧ WV Y z v w ∧ asgT t w ρ = some ρ' ∧ ∀ σ', EnvOk Y z ρ' σ' → SameBut t.ix σ σ' → Q σ' H
theorem _root_.L2.PG.imp {X : Cx} {e : Expr} {t t' : TG} (h : PG X e t) (k : ∀ v σ H Q, t' v σ H Q → t v σ H Q) : PG X e t' := ⟨fun pins s σ H v u Q I r hq => h.run pins s σ H v u Q I r (k v σ H Q hq)⟩
theorem _root_.L2.PGs.imp {X : Cx} {e : List Expr} {t t' : TGs} (h : PGs X e t) (k : ∀ v σ H Q, t' v σ H Q → t v σ H Q) : PGs X e t' := ⟨fun pins s σ H v u Q I r hq => h.run pins s σ H v u Q I r (k v σ H Q hq)⟩
abbrev FG (G : Gd) (X : Cx) (e : Expr) (t : Tg) : Prop := PG X e (rdG (yof G X) t)
theorem SameBut.set {σ : L2.St} {i : Nat} {v : V} : SameBut [i] σ (σ.set i (some v)) := ⟨by simp, fun j hj => List.getElem?_set_ne (fun z => hj (by simp [z]))⟩
theorem fg_v {i : Nat} (hN : X.N.Nodup) (hi : X.N[i]? = some n := by rfl) (hx : Loc X.env.scope n := by first | exact Or.inl rfl | exact Or.inr rfl) (hf : X.fn n = true ∨ X.env.scope.names.lookup n = some .local := by first | exact .inl rfl | exact .inr rfl) :
    FG G X (.Name n pos) (.v i) := (pg_name hN hi hx hf).imp fun v σ H Q ⟨z, w, ρ, ρ', hz, S, En, r, ha, k⟩ => by
  simp only [asgT, Option.some.injEq] at ha
  subst ha hz
  exact k _ (En.set r) .set
def rdGs (Y : Rt) (ts : List Tg) : TGs := fun vs σ H Q => ∃ z ds ρ ρ', z.H = H ∧ SR Y z ∧ EnvOk Y z ρ σ ∧ PVs Y z.H z.nl vs ds ∧ asgTs ts ds ρ = some ρ' ∧ ∀ σ', EnvOk Y z ρ' σ' → SameBut (Tg.ixs ts) σ σ' → Q σ' H
theorem fgs_nil : PGs X [] (rdGs (yof G X) []) := pgs_nil.imp fun vs σ H Q ⟨z, ds, ρ, ρ', hz, S, En, r, ha, k⟩ => by
  cases r with
  | nil =>
    simp only [asgTs, Option.some.injEq] at ha
    subst ha
    exact ⟨rfl, k _ En ⟨rfl, fun _ _ => rfl⟩⟩
  | cons _ _ => simp [asgTs] at ha
theorem fgs_cons {t : Tg} {ts : List Tg} (h1 : FG G X e t) (h2 : PGs X es (rdGs (yof G X) ts)) (hs : (assignEach (e :: es) X.env).map (·.2) = assign e X.env :: (assignEach es X.env).map (·.2) := by rfl) : PGs X (e :: es) (rdGs (yof G X) (t :: ts)) := by
  refine (pgs_cons h1 h2 hs).imp fun vs σ H Q ⟨z, ds, ρ, ρ', hz, S, En, r, ha, k⟩ => ?_
  cases r with
  | nil => simp [asgTs] at ha
  | cons r rs =>
    simp only [asgTs, Option.bind_eq_some_iff] at ha
    obtain ⟨ρ1, e1, e2⟩ := ha
    subst hz
    refine ⟨_, _, rfl, z, _, ρ, ρ1, rfl, S, En, .d r, e1, fun σ1 E1 s1 => ⟨z, _, ρ1, ρ', rfl, S, E1, rs, e2, fun σ2 E2 s2 => k σ2 E2 ⟨s2.1.trans s1.1, fun i hi => ?_⟩⟩⟩
    simp only [Tg.ixs, List.mem_append, not_or] at hi
    rw [s2.2 i hi.2, s1.2 i hi.1]
theorem fg_t {ts : List Tg} {k : Nat} {m : Nat} (hc : X.calm = true) (h : PGs X es (rdGs (yof G X) ts)) (hm : ts.length = m := by rfl) (hn : (assignEach es X.env).length = m := by rfl) (hst : (assignEach es X.env).findIdx? (·.1) = none := by rfl) : FG G X (.Tuple es k pos) (.t ts) := by
  refine (pg_tup hc h hn hst).imp fun v σ H Q ⟨z, w, ρ, ρ', hz, S, En, r, ha, q⟩ => ?_
  cases r with
  | @d _ d r =>
    cases d <;> simp only [asgT, reduceCtorEq] at ha
    cases r with
    | tup h1 h2 =>
      subst hz
      refine ⟨_, _, rfl, h1.sq, ?_, z, _, ρ, ρ', rfl, S, En, h2, ha, fun σ' E' s' => q σ' E' s'⟩
      rw [h2.length, ← hm]
      clear q h2
      rename_i ds _ _ _
      have : ∀ (ts : List Tg) (ds : List D) (ρ ρ' : Env), asgTs ts ds ρ = some ρ' → ds.length = ts.length := by
        intro ts
        induction ts with
        | nil => intro ds ρ ρ' h; cases ds <;> simp [asgTs] at h ⊢
        | cons t ts ih =>
          intro ds ρ ρ' h
          cases ds with
          | nil => simp [asgTs] at h
          | cons d ds =>
            simp only [asgTs, Option.bind_eq_some_iff] at h
            obtain ⟨ρ1, _, e2⟩ := h
            simp [ih ds ρ1 ρ' e2]
      exact this ts ds ρ ρ' ha
  | ref _ => simp [asgT] at ha
  | fn _ => simp [asgT] at ha
theorem fs_set {t : Tg} {tg : Expr} (ha : FV G X Wx P R Φ e a) (hg : FG G X tg t) (hs : swapsWithSole [tg] e pos.line X.env = pure false := by rfl) (hw : swappedStores [tg] e X.env = pure none := by rfl)
    (h1 : (assignEach [tg] X.env).map (·.2) = [assign tg X.env] := by rfl) : FS G X Wx P R Φ (.Assign [tg] e pos) (.set t a) := (ps_asg ha hg hs hw h1).imp fun D σ H ⟨ρ, x, hx, S, En, h⟩ => by
  rw [evS] at h
  refine ⟨ρ, x, hx, S, En, rpostS_out h fun v y w e1 Sy r h2 => ?_⟩
  split at h2
  · rename_i ρ' hr
    exact ⟨y, w, ρ, ρ', rfl, Sy, En.ext e1, r, hr, fun σ' E' _ => h2 y σ' (Ext.refl y) Sy rfl E'⟩
  · exact h2.elim
theorem fs_par {i j : Nat} {x y : Str} {px py pt : Pos} {kt k2 pt2} (hc : X.calm = true) (hN : X.N.Nodup) (ha : FV G X Wx P R Φ e1 a) (hb : FV G X Wx P R Φ e2 b) (hi : X.N[i]? = some x := by rfl) (hj : X.N[j]? = some y := by rfl) (hij : i ≠ j := by decide)
    (hx : X.env.scope.names.lookup x = some .local := by rfl) (hy : X.env.scope.names.lookup y = some .local := by rfl) (hs : starEach [e1, e2] X.env = (false, eval e1 X.env) :: starEach [e2] X.env := by rfl) (hs2 : starEach [e2] X.env = [(false, eval e2 X.env)] := by rfl) (hw : swappedStores [.Tuple [.Name x px, .Name y py] kt pt] (.Tuple [e1, e2] k2 pt2) X.env = pure (some [x, y]) := by rfl) (hw2 : swapsWithSole [.Tuple [.Name x px, .Name y py] kt pt] (.Tuple [e1, e2] k2 pt2) pos.line X.env = pure false := by rfl) :
    FS G X Wx P R Φ (.Assign [.Tuple [.Name x px, .Name y py] kt pt] (.Tuple [e1, e2] k2 pt2) pos) (.par i j a b) := (ps_par hc hN hi hj hij hx hy (pa_cons ha (pa_cons hb pa_nil hs2) hs) hw hw2).imp fun D σ H ⟨ρ, x, hx, S, En, h⟩ => by
  rw [evS] at h
  refine ⟨ρ, x, hx, S, En, rpostS_out h fun v y w e1 Sy r h2 => ⟨ρ, y, rfl, Sy, En.ext e1, rpostS_out h2 fun u z w2 e2 Sz r2 h3 => ⟨v, u, rfl, ?_⟩⟩⟩
  exact h3 z _ (Ext.refl z) Sz rfl ((((En.ext e1).ext e2).set (e2.wv r)).set r2)
theorem setIx_ok : PSet X (fun o i v H Q => ∃ x wo wi wv st', x.H = H ∧ SR (yof G X) x ∧ WV (yof G X) x o wo ∧ WV (yof G X) x i wi ∧ WV (yof G X) x v wv ∧ (∃ n ws, wo = .ref n ∧ x.st[n]? = some (.lst ws)) ∧ setIxW x.st wo wi wv = some st' ∧ ∀ z, Ext x z → SR (yof G X) z → z.st = st' → Q z.H) := by
  intro pins s σ H o i v ov iv u Q I ro ri rv ⟨x, wo, wi, wv, st', hx, S, ho, hi, hv, ⟨n, ws, hwo, hc⟩, hw, q⟩
  subst hx hwo
  cases wi with
  | d k =>
    simp only [setIxW, hc] at hw
    split at hw
    · rename_i i0
      split at hw
      · rename_i j hj
        cases hw
        cases hi with
        | d hi =>
          cases hi
          cases ho with
          | ref hn =>
            obtain ⟨vs, hH, rs⟩ := S.cell _ _ _ hn hc
            obtain ⟨e2, S2⟩ := lst_set (vs' := vs.set j v) (ws' := ws.set j wv) S hn hc fun z m => WVs.set (m.wv hv) (m.wvs rs) j
            refine set_list pins s σ _ _ _ _ _ _ _ _ I ro ri rv ⟨_, vs, i0, j, rfl, rfl, hH, ?_, q _ e2 S2 rfl⟩
            rw [rs.length]
            unfold atIx at hj
            unfold ixN
            split at hj
            · rename_i h0
              rw [if_pos h0]
              split at hj
              · rename_i h1
                rw [if_pos (by omega)]
                exact hj
              · cases hj
            · rename_i h0
              rw [if_neg h0]
              split at hj
              · rename_i h1
                rw [if_pos (by omega), Int.add_comm]
                exact hj
              · cases hj
      · cases hw
    · cases hw
  | ref _ => simp [setIxW] at hw
  | fn _ => simp [setIxW] at hw
theorem fs_setIx {p2 : Pos} (he : FV G X Wx P R Φ e1 a) (ho : FV G X Wx P R Φ e2 b) (hi : FV G X Wx P R Φ e3 c)
    (hs : swapsWithSole [.Subscript e2 e3 p2] e1 pos.line X.env = pure false := by rfl) (hw : swappedStores [.Subscript e2 e3 p2] e1 X.env = pure none := by rfl)
    (h1 : (assignEach [.Subscript e2 e3 p2] X.env).map (·.2) = [assign (.Subscript e2 e3 p2) X.env] := by rfl)
    (ha : ∀ v, assign (.Subscript e2 e3 p2) X.env v = (do
      let ov ← holding [v] (eval e2 X.env)
      let iv ← holding [v, ov] (eval e3 X.env)
      standAt p2
      holding [v, ov, iv] (setItem ov iv v)
      release [v, ov, iv] []) := by intro _; rfl) :
    FS G X Wx P R Φ (.Assign [.Subscript e2 e3 p2] e1 pos) (.setIx b c a) := (ps_asg he (pg_sub ho hi setIx_ok ha) hs hw h1).imp fun D σ H ⟨ρ, x, hx, S, En, h⟩ => by
  rw [evS] at h
  refine ⟨ρ, x, hx, S, En, rpostS_out h fun v y w e1 Sy r h2 => ⟨ρ, y, rfl, Sy, En.ext e1, rpostS_out h2 fun o z wo e2 Sz r2 h3 => ⟨ρ, z, rfl, Sz, (En.ext e1).ext e2, rpostS_out h3 fun i z4 wi e4 S4 r4 h5 => ?_⟩⟩⟩
  cases hf : setIxW z4.st wo wi w with
  | none => rw [hf] at h5; exact h5.elim
  | some st' =>
    rw [hf] at h5
    refine ⟨z4, wo, wi, w, st', rfl, S4, e4.wv r2, r4, e4.wv (e2.wv r), ?_, hf, fun z5 e5 S5 hst => h5 z5 σ e5 S5 hst ((((En.ext e1).ext e2).ext e4).ext e5)⟩
    unfold setIxW at hf
    split at hf
    · rename_i n k
      split at hf
      · rename_i ws hc
        exact ⟨n, ws, rfl, hc⟩
      · cases hf
    · cases hf
theorem ip_aug {op : BOp} : PIp X (bop op) (fun v u H Q => ∃ x a b w, x.H = H ∧ SR (yof G X) x ∧ WV (yof G X) x v a ∧ WV (yof G X) x u b ∧ augW op a b = some w ∧ After (yof G X) x w Q) := by
  intro pins s σ H v u vv uu Q I rv ru ⟨x, a, b, w, hx, S, ha, hb, hw, q⟩
  subst hx
  unfold augW at hw
  split at hw
  · rename_i z y
    split at hw
    · simp only [binD, Option.map_eq_some_iff] at hw
      obtain ⟨d, e1, rfl⟩ := hw
      split at e1 <;> cases e1
      rename_i hz
      cases ha with
      | d ha =>
        cases ha
        cases hb with
        | d hb =>
          cases hb
          refine iop_add_str pins s σ _ _ _ _ _ _ I rv ru ⟨z, y, rfl, rfl, by rw [len_eq, len_eq, ← SZ_eq]; exact hz, ?_⟩
          rw [str_app]
          exact q.d S (.str _)
    · cases hw
  · rename_i i j
    split at hw
    rotate_left
    · cases hw
    rename_i hop
    cases ha with
    | d ha =>
      cases ha
      cases hb with
      | d hb =>
        cases hb
        cases op <;> simp only [binD, Option.map_eq_some_iff] at hw
        · obtain ⟨d, e1, rfl⟩ := hw
          cases e1
          exact iop_add pins s σ _ _ _ _ _ _ I rv ru ⟨i, j, rfl, rfl, q.d S (.int _)⟩
        · obtain ⟨d, e1, rfl⟩ := hw
          cases e1
          exact iop_sub pins s σ _ _ _ _ _ _ I rv ru ⟨i, j, rfl, rfl, q.d S (.int _)⟩
        · obtain ⟨d, e1, rfl⟩ := hw
          split at e1 <;> cases e1
          rename_i hz
          exact iop_mul pins s σ _ _ _ _ _ _ I rv ru ⟨i, j, rfl, rfl, CMulB_ok hz, q.d S (.int _)⟩
        · obtain ⟨d, e1, rfl⟩ := hw
          split at e1 <;> cases e1
          rename_i hz
          exact iop_fdiv pins s σ _ _ _ _ _ _ I rv ru ⟨i, j, rfl, rfl, hz, q.d S (.int _)⟩
        · obtain ⟨d, e1, rfl⟩ := hw
          split at e1 <;> cases e1
          rename_i hz
          exact iop_mod pins s σ _ _ _ _ _ _ I rv ru ⟨i, j, rfl, rfl, hz, q.d S (.int _)⟩
        · simp [noPow] at hop
  · cases hw
theorem fs_aug {op : BOp} {i : Nat} {pos' : Pos} (hN : X.N.Nodup) (ha : FV G X Wx P R Φ e a) (hi : X.N[i]? = some n := by rfl) (hx : Loc X.env.scope n := by first | exact Or.inl rfl | exact Or.inr rfl)
    (hf : X.fn n = true ∨ X.env.scope.names.lookup n = some .local := by first | exact .inl rfl | exact .inr rfl) : FS G X Wx P R Φ (.AugAssign (.Name n pos') (bop op) e pos) (.aug i op a) := (ps_aug hN hi hx ha (ip_aug (G := G)) hf).imp fun D σ H ⟨ρ, x, hx, S, En, h⟩ => by
  rw [evS] at h
  split at h
  · rename_i w hw
    obtain ⟨v, e1, r⟩ := En.var hw
    refine ⟨v, e1, ρ, x, hx, S, En, rpostS_out h fun u y w2 e2 Sy r2 h2 => ?_⟩
    cases hb : augW op w w2 with
    | none => rw [hb] at h2; exact h2.elim
    | some z =>
      rw [hb] at h2
      exact ⟨y, w, w2, z, rfl, Sy, e2.wv r, r2, hb, fun v' y' e3 S3 hst r3 => h2 y' _ e3 S3 hst (((En.ext e2).ext e3).set r3)⟩
  · exact h.elim
/-- a list that is written no more -/
theorem fss_freeze {i : Nat} (h : FSs G X Wx P R Φ sts ss) : FSs G X Wx P R Φ sts (.cons (.freeze i) ss) := h.imp fun D σ H ⟨ρ, x, hx, S, En, h⟩ => by
  subst hx
  rw [evSs, evS] at h
  unfold frzS at h
  split at h
  · rename_i n hv
    obtain ⟨v, e1, r⟩ := En.var hv
    cases r with
    | @ref _ q hn =>
      split at h
      · rename_i d hd
        have nlv : ∀ {b : Addr}, Wd.live ⟨x.R, x.μ, x.st.set n .dead, x.H⟩ b → x.live b ∧ b ≠ q := fun {b} ⟨m, c, h1, h2, h3⟩ => by
          have h1 : x.μ[m]? = some b := h1
          have h2 : (x.st.set n .dead)[m]? = some c := h2
          by_cases e : m = n
          · subst e
            have hl : m < x.st.length := by rw [← S.len]; exact (List.getElem?_eq_some_iff.mp h1).1
            rw [List.getElem?_set_self hl] at h2
            cases h2
            exact absurd rfl h3
          · rw [List.getElem?_set_ne (Ne.symm e)] at h2
            exact ⟨⟨m, c, h1, h2, h3⟩, fun z => e (nodup_at S.nd (by rw [z] at h1; exact h1) hn)⟩
        have mv : Mv x ⟨x.R, x.μ, x.st.set n .dead, x.H⟩ := ⟨List.prefix_refl _, fun b u h1 t n1 => ⟨h1, n1.1, fun z => n1.2 (nlv z).1⟩⟩
        have ex : Ext x ⟨x.R, x.μ, x.st.set n .dead, x.H⟩ := ⟨rfl, List.prefix_refl _, fun b u h1 t n1 => ⟨h1, fun z => n1 (nlv z).1⟩, fun b u h1 t => ⟨u, h1, t⟩⟩
        have S2 : SR (yof G X) ⟨x.R, x.μ, x.st.set n .dead, x.H⟩ := ⟨by simp [S.len], S.nd, S.dom, S.res, fun m b c h1 h2 => by
          have h1 : x.μ[m]? = some b := h1
          have h2 : (x.st.set n .dead)[m]? = some c := h2
          by_cases e : m = n
          · subst e
            have hl : m < x.st.length := by rw [← S.len]; exact (List.getElem?_eq_some_iff.mp h1).1
            rw [List.getElem?_set_self hl] at h2
            cases h2
            exact True.intro
          · rw [List.getElem?_set_ne (Ne.symm e)] at h2
            exact (S.cell m b c h1 h2).mv mv fun u h3 _ => h3, S.tabs⟩
        have nq : Wd.nl ⟨x.R, x.μ, x.st.set n .dead, x.H⟩ q := ⟨fun z => (S.res q z).1 (List.mem_of_getElem? hn), fun z => (nlv z).2 rfl⟩
        have r2 : WV (yof G X) ⟨x.R, x.μ, x.st.set n .dead, x.H⟩ (.ref q) (.d d) := by
          have hvw := S.vw (.ref hn) hd
          cases hvw with
          | pv h => 
            simp only [vw] at hd
            exact .d (mv.pv h)
          | lst h1 h2 => exact .d (.lst ⟨.inl h1, nq⟩ (mv.pvs h2))
          | dct h1 h2 h3 h4 h5 => exact .d (.dct (.inl ⟨h1, nq⟩) h2 h3 (mv.pes h4) h5)
        refine ⟨ρ.set i (some (.d d)), ⟨x.R, x.μ, x.st.set n .dead, x.H⟩, rfl, S2, ?_, rpostS_ext ex h⟩
        have E2 := (En.ext ex)
        refine ⟨by simp [En.len], fun j w hj => ?_⟩
        by_cases e : i = j
        · subst e
          by_cases hl : i < ρ.length
          · rw [List.getElem?_set_self hl] at hj
            cases hj
            exact ⟨_, e1, r2⟩
          · rw [List.getElem?_eq_none (by simpa using hl)] at hj
            cases hj
        · rw [List.getElem?_set_ne e] at hj
          exact E2.at_ j w hj
      · exact h.elim
  · exact ⟨ρ, x, rfl, S, En, h⟩
  · exact h.elim
/-! ### loops -/
def SrcOk (Y : Rt) (x : Wd) (J : It) (ws : List W) (g : Option Nat) : Prop := ∀ z, Mv x z → SR Y z → (∀ n, g = some n → z.st[n]? = x.st[n]?) →
  J.stop ws.length z.H ∧ ∀ i, i < ws.length → J.go i z.H ∧ ∀ v H', J.yld i z.H v H' → ∃ z' w, ws[i]? = some w ∧ Ext z z' ∧ SR Y z' ∧ z'.st = z.st ∧ z'.H = H' ∧ WV Y z' v w
def rpostI (Y : Rt) (Wx : WX) (σ : L2.St) (x : Wd) (Q : It → Hp → Prop) : Res Src → Prop
  | .ok s st' => ∀ J y, Ext x y → SR Y y → y.st = st' → SrcOk Y y J s.1 s.2 → Q J y.H
  | .exn e st' => ∀ cls d y, Ext x y → SR Y y → y.st = st' → ExR Y y cls d e → Wx cls d σ y.H
  | .bad => False
abbrev FI (G : Gd) (X : Cx) (Wx : WX) (P : Prog) (R : Fun1) (Φ : Call) (tg e : Expr) (it : I) : Prop := PI X tg e fun σ H Q => ∃ ρ x, x.H = H ∧ SR (yof G X) x ∧ EnvOk (yof G X) x ρ σ ∧ rpostI (yof G X) Wx σ x Q (evI P R Φ it ρ x.st)
theorem still_of {g : Option Nat} {st st' : Sto} (h : still g st st' = true) : ∀ n, g = some n → st'[n]? = st[n]? := fun n hn => by
  subst hn
  simpa [still] using h
theorem fs_for {t : Tg} {tg it : Expr} {i : I} {k : Nat} (hp : PassesOwn (model X.prog X.w) X.A X.env X.xe) (hc : X.calm = true) (hi : FI G X Wx P R Φ tg it i) (hg : FG G X tg t) (hb : FSs G X Wx P R Φ sts ss) (hs : ∀ x, foldedSetIterable it X.env x = pure x := by intro _; rfl) :
    FS G X Wx P R Φ (.For tg it sts [] pos) (.for t i ss) := (ps_for hp hc hi hg hb hs).imp fun D σ H ⟨ρ, x, hx, S, En, h⟩ => by
  rw [evS] at h
  refine ⟨ρ, x, hx, S, En, ?_⟩
  cases hI : evI P R Φ i ρ x.st with
  | exn a st' => rw [hI] at h; exact fun c d y e s hy hr => h c d y σ e s hy hr
  | bad => rw [hI] at h; exact h
  | ok s st' =>
    rw [hI] at h
    intro J x1 ex S1 hst so
    subst hst
    have h : rpostS (yof G X) Wx D x (forL s.2 (fun w ρ st => match asgT t w ρ with | some ρ' => evSs P R Φ ss ρ' st | none => .bad) s.1 ρ x1.st) := h
    refine ⟨fun i m σ H => m = s.1.length - i ∧ i ≤ s.1.length ∧ ∃ y ρ, y.H = H ∧ Ext x1 y ∧ SR (yof G X) y ∧ EnvOk (yof G X) y ρ σ ∧ (∀ n, s.2 = some n → y.st[n]? = x1.st[n]?) ∧ rpostS (yof G X) Wx D y (forL s.2 (fun w ρ st => match asgT t w ρ with | some ρ' => evSs P R Φ ss ρ' st | none => .bad) (s.1.drop i) ρ y.st),
      ⟨s.1.length, by simp, Nat.zero_le _, x1, ρ, rfl, Ext.refl _, S1, En.ext ex, fun _ _ => rfl, rpostS_ext ex h⟩, ?_⟩
    rintro i m σ H ⟨rfl, hi, y, ρ, rfl, ey, Sy, Ey, hst, hq⟩
    obtain ⟨stp, tn⟩ := so y ey.mv Sy hst
    by_cases hlt : i < s.1.length
    · obtain ⟨go, yld⟩ := tn i hlt
      refine .inr ⟨go, fun σ' H' => (i + 1 ≤ s.1.length ∧ ∃ y ρ, y.H = H' ∧ Ext x1 y ∧ SR (yof G X) y ∧ EnvOk (yof G X) y ρ σ' ∧ (∀ n, s.2 = some n → y.st[n]? = x1.st[n]?) ∧ rpostS (yof G X) Wx D y (forL s.2 (fun w ρ st => match asgT t w ρ with | some ρ' => evSs P R Φ ss ρ' st | none => .bad) (s.1.drop (i + 1)) ρ y.st)), fun σ' H' hn => ⟨s.1.length - (i + 1), by omega, rfl, hn⟩, fun v H' hy => ?_⟩
      obtain ⟨z', w, hw, ez, Sz, hzs, hzH, rw'⟩ := yld v H' hy
      obtain ⟨hl2, hget⟩ := List.getElem?_eq_some_iff.mp hw
      rw [List.drop_eq_getElem_cons hlt, hget] at hq
      simp only [forL] at hq
      cases ha : asgT t w ρ with
      | none => rw [ha] at hq; exact hq.elim
      | some ρ' =>
        rw [ha] at hq
        refine ⟨z', w, ρ, ρ', hzH, Sz, Ey.ext ez, rw', ha, fun σ2 E2 _ => ⟨ρ', z', hzH, Sz, E2, ?_⟩⟩
        rw [hzs]
        cases ho : evSs P R Φ ss ρ' y.st with
        | nx ρ1 st1 =>
          simp only [ho] at hq
          split at hq
          · rename_i hstl
            intro y2 σ3 e3 S3 hy2 E3
            subst hy2
            exact ⟨hlt, y2, ρ1, rfl, ey.trans (ez.trans e3), S3, E3, fun n hn => (still_of hstl n hn).trans (hst n hn), rpostS_ext (ez.trans e3) hq⟩
          · exact hq.elim
        | ct ρ1 st1 =>
          simp only [ho] at hq
          split at hq
          · rename_i hstl
            intro y2 σ3 e3 S3 hy2 E3
            subst hy2
            exact ⟨hlt, y2, ρ1, rfl, ey.trans (ez.trans e3), S3, E3, fun n hn => (still_of hstl n hn).trans (hst n hn), rpostS_ext (ez.trans e3) hq⟩
          · exact hq.elim
        | bk ρ1 st1 =>
          simp only [ho] at hq
          exact fun y2 σ3 e3 S3 hy2 E3 => hq y2 σ3 (ez.trans e3) S3 hy2 E3
        | rt w1 st1 =>
          simp only [ho] at hq
          exact fun v2 y2 e3 S3 hy2 r3 => hq v2 y2 (ez.trans e3) S3 hy2 r3
        | exn x1 st1 =>
          simp only [ho] at hq
          exact fun c d y2 σ3 e3 S3 hy2 r3 => hq c d y2 σ3 (ez.trans e3) S3 hy2 r3
        | bad => simp only [ho] at hq; exact hq
    · have e : i = s.1.length := by omega
      subst e
      rw [List.drop_length] at hq
      exact .inl ⟨stp, hq y σ (Ext.refl y) Sy rfl Ey⟩
end
end FM
end

section
/-! FM13: what loops run over; comprehensions. -/
set_option Elab.async false
set_option linter.all false
set_option maxRecDepth 100000
set_option autoImplicit false
set_option maxHeartbeats 1000000
namespace FM
open PySem PySem.Spec PyProof.Rows L2
section
variable {G : Gd} {X : Cx} {Wx : WX} {P : Prog} {R : Fun1} {Φ : Call} {pos : Pos} {e e1 e2 e3 : Expr} {a b c : E} {es : List Expr} {as : Es} {n : Str} {p apos cpos : Pos} {tg : Expr}
theorem src_lst {Y : Rt} {y : Wd} {q : Addr} {ws : List W} {g : Option Nat} (h : ∀ z, Mv y z → SR Y z → (∀ n, g = some n → z.st[n]? = y.st[n]?) → ∃ vs, SqL Y.K z.H q vs ∧ WVs Y z vs ws) : SrcOk Y y (Itl Y.K q) ws g := fun z ez Sz hg => by
  obtain ⟨vs, h1, h2⟩ := h z ez Sz hg
  have hl := h2.length
  refine ⟨⟨vs, h1, by rw [hl]; exact Nat.le_refl _⟩, fun i hi => ⟨⟨vs, vs[i]'(by rw [hl]; exact hi), h1, List.getElem?_eq_getElem _⟩, fun v H' ⟨e1, e2⟩ => ?_⟩⟩
  subst e1
  obtain ⟨w, e3, r⟩ := h2.getV (e2 vs h1)
  exact ⟨z, w, e3, Ext.refl z, Sz, rfl, rfl, r⟩
theorem src_tup {Y : Rt} {y : Wd} {q : Addr} {ws : List W} {g : Option Nat} (h : ∀ z, Mv y z → SR Y z → (∀ n, g = some n → z.st[n]? = y.st[n]?) → ∃ vs, SqT Y.K z.H q vs ∧ WVs Y z vs ws) : SrcOk Y y (Itt Y.K q) ws g := fun z ez Sz hg => by
  obtain ⟨vs, h1, h2⟩ := h z ez Sz hg
  have hl := h2.length
  refine ⟨⟨vs, h1, by rw [hl]; exact Nat.le_refl _⟩, fun i hi => ⟨⟨vs, vs[i]'(by rw [hl]; exact hi), h1, List.getElem?_eq_getElem _⟩, fun v H' ⟨e1, e2⟩ => ?_⟩⟩
  subst e1
  obtain ⟨w, e3, r⟩ := h2.getV (e2 vs h1)
  exact ⟨z, w, e3, Ext.refl z, Sz, rfl, rfl, r⟩
theorem src_str {Y : Rt} {y : Wd} {x : Str} {g : Option Nat} : SrcOk Y y (Its x) (chars x) g := fun z ez Sz hg => by
  have hl : (chars x).length = x.cps.size := by simp [chars, tl]
  refine ⟨by show x.cps.size ≤ _; rw [hl]; exact Nat.le_refl _, fun i hi => ⟨by show i < x.cps.size; rw [← hl]; exact hi, fun v H' ⟨e1, c, e2, e3⟩ => ?_⟩⟩
  subst e1 e3
  refine ⟨z, .d (dStr [c]), ?_, Ext.refl z, Sz, rfl, rfl, .d (.str _)⟩
  simp only [chars, tl, List.getElem?_map, Array.getElem?_toList, e2]
  rfl
theorem src_rng {Y : Rt} {y : Wd} {lo : Int} {m : Nat} {g : Option Nat} : SrcOk Y y (Itr lo m) (rngL lo m) g := fun z ez Sz hg => by
  have hl : (rngL lo m).length = m := by simp [rngL]
  refine ⟨by show m ≤ _; rw [hl]; exact Nat.le_refl _, fun i hi => ⟨by show i < m; rw [← hl]; exact hi, fun v H' ⟨e1, e2⟩ => ?_⟩⟩
  subst e1 e2
  refine ⟨z, .d (.int (lo + i)), ?_, Ext.refl z, Sz, rfl, rfl, .d (.int _)⟩
  rw [hl] at hi
  simp [rngL, List.getElem?_range hi]
theorem fi_e (ha : FV G X Wx P R Φ e a) : FI G X Wx P R Φ tg e (.e a) := by
  have p1 := pi_list (tg := tg) ha
  have p2 := pi_tup (tg := tg) ha
  have p3 := pi_str (tg := tg) ha
  refine ⟨fun pins s σ H Q I ⟨ρ, x, hx, S, En, h⟩ => ?_⟩
  rw [evI] at h
  cases hr : evE P R Φ a ρ x.st with
  | exn ex st' => 
    rw [hr] at h
    exact p1.run pins s σ H Q I ⟨ρ, x, hx, S, En, by rw [hr]; exact h⟩
  | bad => rw [hr] at h; exact h.elim
  | ok w st' =>
    rw [hr] at h
    have h : rpostI (yof G X) Wx σ x Q (Res.of (srcW st' w) st') := h
    cases hw : srcW st' w with
    | none => rw [hw] at h; exact h.elim
    | some sr =>
      rw [hw] at h
      cases w with
      | d d =>
        cases d <;> simp only [srcW, reduceCtorEq] at hw
        · split at hw <;> cases hw
          refine p3.run pins s σ H Q I ⟨ρ, x, hx, S, En, ?_⟩
          rw [hr]
          intro v y ey Sy hy r
          cases r with
          | d r =>
            cases r
            exact ⟨_, rfl, h _ y ey Sy hy src_str⟩
        · cases hw
          refine p1.run pins s σ H Q I ⟨ρ, x, hx, S, En, ?_⟩
          rw [hr]
          intro v y ey Sy hy r
          cases r with
          | d r =>
            cases r with
            | lst h1 h2 => exact ⟨_, rfl, ⟨_, h1.sq⟩, h _ y ey Sy hy (src_lst fun z ez Sz _ => ⟨_, (ez.lstC h1).sq, (ez.pvs h2).wvs⟩)⟩
        · cases hw
          refine p2.run pins s σ H Q I ⟨ρ, x, hx, S, En, ?_⟩
          rw [hr]
          intro v y ey Sy hy r
          cases r with
          | d r =>
            cases r with
            | tup h1 h2 => exact ⟨_, rfl, ⟨_, h1.sq⟩, h _ y ey Sy hy (src_tup fun z ez Sz _ => ⟨_, (ez.tupC h1).sq, (ez.pvs h2).wvs⟩)⟩
      | ref n =>
        simp only [srcW] at hw
        split at hw
        · rename_i ws hc
          cases hw
          refine p1.run pins s σ H Q I ⟨ρ, x, hx, S, En, ?_⟩
          rw [hr]
          intro v y ey Sy hy r
          subst hy
          cases r with
          | ref hn =>
            obtain ⟨vs, hH, rs⟩ := Sy.cell _ _ _ hn hc
            refine ⟨_, rfl, ⟨vs, .inl (.inl hH)⟩, h _ y ey Sy rfl (src_lst fun z ez Sz hg => ?_)⟩
            obtain ⟨vs2, hH2, rs2⟩ := Sz.cell _ _ _ (ez.get hn) ((hg n rfl).trans hc)
            exact ⟨vs2, .inl (.inl hH2), rs2⟩
        · cases hw
      | fn f => simp [srcW] at hw
theorem fi_rng1 (hg : Gl X "range") (hm : X.mg "range" = none) (ha : FV G X Wx P R Φ e a) (hs : starEach [e] X.env = [(false, eval e X.env)] := by rfl) : FI G X Wx P R Φ tg (.Call (.Name "range" p) [e] [] pos) (.rng1 a) := by
  refine ⟨fun pins s σ H Q I ⟨ρ, x, hx, S, En, h⟩ => (pi_range1 (tg := tg) hg hm (pa_cons ha pa_nil hs) hs).run pins s σ H Q I ?_⟩
  rw [evI] at h
  refine ⟨ρ, x, hx, S, En, ?_⟩
  cases hr : evE P R Φ a ρ x.st with
  | exn ex st' => rw [hr] at h; exact h
  | bad => rw [hr] at h; exact h
  | ok w st' =>
    rw [hr] at h
    intro v y ey Sy hy r
    have h : rpostI (yof G X) Wx σ x Q (match int? w with | some i => if rngOk i then .ok (rngL 0 i.toNat, none) st' else .bad | none => .bad) := h
    cases hi : int? w with
    | none => rw [hi] at h; exact h.elim
    | some i =>
      rw [hi] at h
      obtain ⟨rfl, _⟩ := int_of r hi
      by_cases ho : rngOk i = true
      · simp only [ho, if_true] at h
        simp only [rngOk, Bool.and_eq_true, decide_eq_true_eq] at ho
        exact ⟨i, rfl, ho.1, ho.2, h _ y ey Sy hy src_rng⟩
      · simp only [ho] at h
        exact h.elim
theorem fi_rng2 (hg : Gl X "range") (hm : X.mg "range" = none) (ha : FV G X Wx P R Φ e1 a) (hb : FV G X Wx P R Φ e2 b) (hs : starEach [e1, e2] X.env = [(false, eval e1 X.env), (false, eval e2 X.env)] := by rfl) (hs2 : starEach [e2] X.env = [(false, eval e2 X.env)] := by rfl) :
    FI G X Wx P R Φ tg (.Call (.Name "range" p) [e1, e2] [] pos) (.rng2 a b) := by
  refine ⟨fun pins s σ H Q I ⟨ρ, x, hx, S, En, h⟩ => (pi_range2 (tg := tg) hg hm (pa_cons ha (pa_cons hb pa_nil hs2) (by rw [hs, hs2])) hs hs2).run pins s σ H Q I ?_⟩
  rw [evI] at h
  refine ⟨ρ, x, hx, S, En, ?_⟩
  cases hr : evE P R Φ a ρ x.st with
  | exn ex st' => rw [hr] at h; exact h
  | bad => rw [hr] at h; exact h
  | ok w st' =>
    rw [hr] at h
    intro v y ey Sy hy r
    subst hy
    refine ⟨ρ, y, rfl, Sy, En.ext ey, ?_⟩
    rw [Res.bind_ok] at h
    cases hr2 : evE P R Φ b ρ y.st with
    | exn ex st' =>
      rw [hr2] at h
      exact fun c d z ez => h c d z (ey.trans ez)
    | bad => rw [hr2] at h; exact h
    | ok w2 st2 =>
      rw [hr2, Res.bind_ok] at h
      intro u z ez Sz hz r2
      cases hi : int? w with
      | none => rw [hi] at h; exact h.elim
      | some i =>
        cases hj : int? w2 with
        | none => rw [hi, hj] at h; exact h.elim
        | some j =>
          rw [hi, hj] at h
          obtain ⟨rfl, _⟩ := int_of r hi
          obtain ⟨rfl, _⟩ := int_of r2 hj
          by_cases ho : (rngOk i && rngOk j) = true
          · simp only [ho, if_true] at h
            simp only [rngOk, Bool.and_eq_true, decide_eq_true_eq] at ho
            exact ⟨i, j, rfl, ⟨ho.1.1, ho.1.2, ho.2.1, ho.2.2⟩, h _ z (ey.trans ez) Sz hz src_rng⟩
          · simp only [ho] at h
            exact h.elim
/-! ### comprehensions -/
abbrev FP (G : Gd) (X : Cx) (Wx : WX) (P : Prog) (R : Fun1) (Φ : Call) (ifs : List Expr) (c : Cs) : Prop := PTs X ifs (rd (yof G X) Wx (fun _ v w => v = w) (evCs P R Φ c))
theorem _root_.L2.PTs.imp {X : Cx} {e : List Expr} {t t' : TT} (h : PTs X e t) (k : ∀ σ H Q, t' σ H Q → t σ H Q) : PTs X e t' := ⟨fun pins s σ H Q I hq => h.run pins s σ H Q I (k σ H Q hq)⟩
theorem fp_no : FP G X Wx P R Φ [] .no := pts_nil.imp fun σ H Q ⟨ρ, x, hx, S, En, h⟩ => by
  rw [evCs] at h
  subst hx
  exact h true x (Ext.refl x) S rfl rfl
theorem fp_c {c : C} (h : FC G X Wx P R Φ e c) : FP G X Wx P R Φ [e] (.c c) := (pts_one h).imp fun σ H Q ⟨ρ, x, hx, S, En, h⟩ => by
  rw [evCs] at h
  exact ⟨ρ, x, hx, S, En, h⟩
abbrev WF : WX := fun _ _ _ _ => False
/-- the list under way grows -/
theorem res_set {Y : Rt} {x y : Wd} {D : Addr} {o : HO} (e : Ext ⟨D :: x.R, x.μ, x.st, x.H⟩ y) (S : SR Y y) (hn : x.H D = none) (ho : ∀ ps, o ≠ .tbl ps) (hc : ∃ o', y.H D = some o' ∧ (∀ ps, o' ≠ .tbl ps) ∧ ∀ q, o' ≠ LamX.CodeO D q) :
    Ext ⟨D :: x.R, x.μ, x.st, x.H⟩ ⟨y.R, y.μ, y.st, upd y.H D o⟩ ∧ Mv y ⟨y.R, y.μ, y.st, upd y.H D o⟩ ∧ SR Y ⟨y.R, y.μ, y.st, upd y.H D o⟩ := by
  have hR : D ∈ y.R := by rw [e.R]; exact List.mem_cons_self
  have hμ : D ∉ y.μ := (S.res D hR).1
  have mv : Mv y ⟨y.R, y.μ, y.st, upd y.H D o⟩ := ⟨List.prefix_refl _, fun b u h t n => ⟨by show upd y.H D o b = _; rw [upd_ne (fun z => n.1 (by rw [z]; exact hR))]; exact h, n⟩⟩
  refine ⟨⟨e.R, e.pre, fun b u h t n => ?_, fun b u h t => ?_⟩, mv, ⟨S.len, S.nd, fun b hb => ?_, fun b hb => ?_, fun m b d h1 h2 => (S.cell m b d h1 h2).mv mv fun u h3 _ => by show upd y.H D o b = _; rw [upd_ne (fun z => hμ (by rw [← z]; exact List.mem_of_getElem? h1))]; exact h3, ?_⟩⟩
  · obtain ⟨h1, n1⟩ := e.keep b u h t n
    exact ⟨by show upd y.H D o b = _; rw [upd_ne (fun z => by rw [z] at h; have h : x.H D = some u := h; rw [hn] at h; cases h)]; exact h1, n1⟩
  · obtain ⟨o', h1, t1⟩ := e.dom b u h t
    by_cases z : b = D
    · exact ⟨o, by rw [z]; exact upd_same, ho⟩
    · exact ⟨o', by show upd y.H D o b = _; rw [upd_ne z]; exact h1, t1⟩
  · obtain ⟨u, h1, t⟩ := S.dom b hb
    exact ⟨u, by show upd y.H D o b = _; rw [upd_ne (fun z => hμ (by rw [← z]; exact hb))]; exact h1, t⟩
  · obtain ⟨h1, u, h2, t⟩ := S.res b hb
    by_cases z : b = D
    · exact ⟨h1, o, by rw [z]; exact upd_same, ho⟩
    · exact ⟨h1, u, by show upd y.H D o b = _; rw [upd_ne z]; exact h2, t⟩
  · obtain ⟨o', hD, hT, hC⟩ := hc
    intro q hq
    obtain ⟨ps, h1, h2, h3⟩ := S.tabs q hq
    have z : q.1 ≠ D := fun z => hT ps (by rw [z, hD] at h1; exact Option.some.inj h1)
    refine ⟨ps, by show upd y.H D o q.1 = _; rw [upd_ne z]; exact h1, h2, fun pos cv hcv => ?_⟩
    obtain ⟨c0, k1, k2⟩ := h3 pos cv hcv
    refine ⟨c0, k1, ?_⟩
    show upd y.H D o c0 = _
    rw [upd_ne (fun z => hC q.2 (by rw [z, hD] at k2; exact Option.some.inj k2))]
    exact k2
theorem wipe_same {l : List Nat} {σ σ' : L2.St} : ∀ {vs : List Nat}, (∀ i ∈ l, i ∈ vs) → SameBut l (wipe σ vs) σ' → wipe σ' vs = wipe σ vs := fun {vs} hl hs => by
  have len : σ'.length = σ.length := hs.1.trans (wipe_length σ vs)
  refine List.ext_getElem? fun i => ?_
  have key : ∀ (τ : L2.St) (vs : List Nat) (i : Nat), (wipe τ vs)[i]? = if i ∈ vs then (if i < τ.length then some none else none) else τ[i]? := by
    intro τ vs
    induction vs with
    | nil => intro i; simp [wipe]
    | cons v vs ih =>
      intro i
      show ((wipe τ vs).set v none)[i]? = _
      by_cases e : v = i
      · subst e
        simp only [List.mem_cons, true_or, if_true]
        by_cases hl : v < τ.length
        · rw [List.getElem?_set_self (by rw [wipe_length]; exact hl), if_pos hl]
        · rw [List.getElem?_eq_none (by rw [List.length_set, wipe_length]; omega), if_neg hl]
      · rw [List.getElem?_set_ne e, ih i]
        simp [Ne.symm e]
  rw [key σ' vs i, key σ vs i]
  by_cases hi : i ∈ vs
  · rw [if_pos hi, if_pos hi, len]
  · rw [if_neg hi, if_neg hi, hs.2 i (fun z => hi (hl i z)), key σ vs i, if_neg hi]
theorem rpost_ok {Y : Rt} {σ : L2.St} {x : Wd} {α β : Type} {rel : Wd → β → α → Prop} {K : β → Hp → Prop} {r : Res α} {o : α} {st' : Sto} (hr : r = .ok o st') (k : ∀ v y, Ext x y → SR Y y → y.st = st' → rel y v o → K v y.H) : rpost Y WF σ x rel K r := by
  rw [hr]
  exact k
/-- the reading of a list comprehension -/
theorem lc_read {i : I} {t : Tg} {cs : Cs} {own : List Nat} {wi : TI} {σ : L2.St} {H : Hp} {Q : VK} (hin : ∀ j ∈ t.ix, j ∈ own) (hwi : wi = fun σ H Q => ∃ ρ x, x.H = H ∧ SR (yof G X) x ∧ EnvOk (yof G X) x ρ σ ∧ rpostI (yof G X) Wx σ x Q (evI P R Φ i ρ x.st))
    (h : ∃ ρ x, x.H = H ∧ SR (yof G X) x ∧ EnvOk (yof G X) x ρ σ ∧ rpostF (yof G X) Wx σ x Q (evF P R Φ (.lc own t i cs a) ρ x.st)) :
    tLc wi (rdG (yof G X) t) (rd (yof G X) WF (fun _ v w => v = w) (evCs P R Φ cs)) (rd (yof G X) WF (fun y v w => WV (yof G X) y v w) (evE P R Φ a)) own σ H Q := by
  subst hwi
  obtain ⟨ρ, x, hx, S, En, h⟩ := h
  rw [evF] at h
  refine ⟨ρ, x, hx, S, En, ?_⟩
  cases hI : evI P R Φ i ρ x.st with
  | exn a st' => rw [hI] at h; exact h
  | bad => rw [hI] at h; exact h
  | ok s st' =>
    rw [hI, Res.bind_ok] at h
    intro J x1 ex S1 hst so D hD
    subst hst
    split at h
    · exact h.elim
    rename_i hsz
    have hsz : s.1.length ≤ SZ := by omega
    generalize hstep : (fun (w : W) (st : Sto) => match asgT t w (wip ρ own) with
      | some ρ' => (evCs P R Φ cs ρ' st).bind fun k st => if k then (evE P R Φ a ρ' st).bind fun y st => .ok (some y) st else .ok none st
      | none => .bad) = step at h
    cases hl : lcL s.2 step s.1 x1.st with
    | exn _ _ => 
      exfalso
      revert hl
      have : ∀ (ws : List W) (st : Sto) (e : Exn) (st' : Sto), lcL s.2 step ws st ≠ .exn e st' := by
        intro ws
        induction ws with
        | nil => intro st e st' h; simp [lcL] at h
        | cons w ws ih =>
          intro st e st' h
          simp only [lcL] at h
          split at h
          · split at h
            · split at h <;> cases h
            · cases h
          · cases h
      exact this _ _ _ _
    | bad => rw [hl] at h; exact h.elim
    | ok ys st2 =>
      rw [hl, Res.bind_ok] at h
      have ex1 : Ext ⟨D :: x.R, x.μ, x.st, x.H⟩ ⟨D :: x1.R, x1.μ, x1.st, x1.H⟩ := ex.res D
      obtain ⟨en, mn, Sn⟩ := new_res (o := .lst []) S1 hD (fun _ z => by cases z)
      have hnx : NT x D := ex.nt (NT.of hD)
      have En1 := En.ext ex
      refine ⟨fun i m H => m = s.1.length - i ∧ i ≤ s.1.length ∧ ∃ y acc done rest, y.H = H ∧ Ext ⟨D :: x1.R, x1.μ, x1.st, x1.H⟩ y ∧ Mv x1 y ∧ SR (yof G X) y ∧ y.H D = some (.lst acc) ∧ WVs (yof G X) y acc done ∧ acc.length ≤ i ∧ (∀ n, s.2 = some n → y.st[n]? = x1.st[n]?) ∧ lcL s.2 step (s.1.drop i) y.st = .ok rest st2 ∧ ys = done ++ rest,
        ⟨s.1.length, by simp, Nat.zero_le _, _, [], [], ys, rfl, en, mn, Sn, upd_same, .nil, Nat.le_refl _, fun _ _ => rfl, hl, rfl⟩, ?_⟩
      rintro i m H ⟨rfl, hi, y, acc, done, rest, rfl, ey, my, Sy, hyD, racc, hacc, hgs, hlc, hys⟩
      have nlD : ¬ y.live D := fun ⟨k, d, h1, _, _⟩ => (Sy.res D (by rw [ey.R]; exact List.mem_cons_self)).1 (List.mem_of_getElem? h1)
      obtain ⟨stp, tn⟩ := so y my Sy hgs
      by_cases hlt : i < s.1.length
      · obtain ⟨go, yld⟩ := tn i hlt
        refine .inr ⟨go, fun H' => (i + 1 ≤ s.1.length ∧ ∃ y acc done rest, y.H = H' ∧ Ext ⟨D :: x1.R, x1.μ, x1.st, x1.H⟩ y ∧ Mv x1 y ∧ SR (yof G X) y ∧ y.H D = some (.lst acc) ∧ WVs (yof G X) y acc done ∧ acc.length ≤ i + 1 ∧ (∀ n, s.2 = some n → y.st[n]? = x1.st[n]?) ∧ lcL s.2 step (s.1.drop (i + 1)) y.st = .ok rest st2 ∧ ys = done ++ rest), fun H' hn => ⟨s.1.length - (i + 1), by omega, rfl, hn⟩, fun v H' hy => ?_⟩
        obtain ⟨z', w, hw, ez, Sz, hzs, hzH, rw'⟩ := yld v H' hy
        obtain ⟨hl2, hget⟩ := List.getElem?_eq_some_iff.mp hw
        rw [List.drop_eq_getElem_cons hlt, hget] at hlc
        simp only [lcL] at hlc
        have hs2 : step w y.st = (match asgT t w (wip ρ own) with
          | some ρ' => (evCs P R Φ cs ρ' y.st).bind fun k st => if k then (evE P R Φ a ρ' st).bind fun y st => .ok (some y) st else .ok none st
          | none => .bad) := by rw [← hstep]
        cases ha : asgT t w (wip ρ own) with
        | none =>
          rw [ha] at hs2
          rw [hs2] at hlc
          cases hlc
        | some ρ' =>
          rw [ha] at hs2
          have hs2 : step w y.st = (evCs P R Φ cs ρ' y.st).bind fun k st => if k then (evE P R Φ a ρ' st).bind fun y st => .ok (some y) st else .ok none st := hs2
          refine ⟨z', w, wip ρ own, ρ', hzH, Sz, ((En1.mv my).ext ez).wip own, rw', ha, fun σ2 E2 sb => ⟨wipe_same hin sb, ρ', z', hzH, Sz, E2, ?_⟩⟩
          rw [hzs]
          cases hc : evCs P R Φ cs ρ' y.st with
          | exn e st => rw [hc] at hs2; rw [hs2] at hlc; cases hlc
          | bad => rw [hc] at hs2; rw [hs2] at hlc; cases hlc
          | ok k st1 =>
            rw [hc] at hs2
            have hs2 : step w y.st = if k then (evE P R Φ a ρ' st1).bind fun y st => .ok (some y) st else .ok none st1 := hs2
            intro k' y2 e2 S2 hy2 hk
            subst hy2
            have hk : k' = k := hk
            subst hk
            cases k' with
            | false =>
              have hs3 : step w y.st = .ok none y2.st := hs2
              rw [hs3] at hlc
              simp only at hlc
              split at hlc
              · rename_i hstl
                split at hlc
                · rename_i ys' st'' hrec
                  cases hlc
                  have et := ez.trans e2
                  exact ⟨hlt, y2, acc, done, rest, rfl, ey.trans et, my.trans et.mv, S2, (et.keep D _ hyD (fun _ z => by cases z) nlD).1, et.wvs racc, Nat.le_succ_of_le hacc, fun n hn => (still_of hstl n hn).trans (hgs n hn), hrec, hys⟩
                · cases hlc
              · cases hlc
            | true =>
              have hs3 : step w y.st = (evE P R Φ a ρ' y2.st).bind fun y st => .ok (some y) st := hs2
              show rd (yof G X) WF (fun y v w => WV (yof G X) y v w) (evE P R Φ a) σ2 y2.H _
              refine ⟨ρ', y2, rfl, S2, E2.ext e2, ?_⟩
              cases he : evE P R Φ a ρ' y2.st with
              | exn e st => rw [he] at hs3; rw [hs3] at hlc; cases hlc
              | bad => rw [he] at hs3; rw [hs3] at hlc; cases hlc
              | ok wv st3 =>
                rw [he] at hs3
                have hs3 : step w y.st = .ok (some wv) st3 := hs3
                rw [hs3] at hlc
                simp only at hlc
                split at hlc
                · rename_i hstl
                  split at hlc
                  · rename_i ys' st'' hrec
                    cases hlc
                    intro u y3 e3 S3 hy3 r3
                    subst hy3
                    have et := (ez.trans e2).trans e3
                    have kD := (et.keep D _ hyD (fun _ z => by cases z) nlD).1
                    obtain ⟨e5, m5, S5⟩ := res_set (o := .lst (acc ++ [u])) (ey.trans et) S3 hD (fun _ z => by cases z) ⟨_, kD, (fun _ z => by cases z), lst_code⟩
                    refine ⟨acc, kD, by rw [← SZ_eq]; omega, hlt, _, acc ++ [u], done ++ [wv], ys', rfl, e5, (my.trans et.mv).trans m5, S5, upd_same, (m5.wvs (et.wvs racc)).append (.cons (m5.wv r3) .nil), by rw [List.length_append]; exact Nat.succ_le_succ hacc, fun n hn => (still_of hstl n hn).trans (hgs n hn), hrec, by rw [hys, List.append_assoc]; rfl⟩
                  · cases hlc
                · cases hlc
      · have e : i = s.1.length := by omega
        subst e
        rw [List.drop_length] at hlc
        simp only [lcL, Res.ok.injEq] at hlc
        obtain ⟨h1, h2⟩ := hlc
        subst h1
        rw [List.append_nil] at hys
        subst hys
        exact .inl ⟨stp, h y D (.inl acc) (ex1.trans ey) Sy h2 hnx hyD (by rw [← ex.R]; exact S1.fresh hD) racc⟩
/-- [a for t in i if cs] -/
theorem ff_lc {t : Tg} {i : I} {cs : Cs} {elt iter : Expr} {ifs : List Expr} {scope : Scope} {own : List (Str × Nat)} (hc : X.calm = true) (hN : X.N.Nodup) (hi : FI G X Wx P R Φ tg iter i) (ok : BlkOk X.N X.env.scope scope own) (hin : ∀ j ∈ t.ix, j ∈ own.map (·.2))
    (hg : ∀ (s : Shared) (H : Hp) (C : Addr) (cl : List (Str × Addr)) (fp : List Addr), FG G (X.blk s H scope (compEnvC scope cl C X.env) fp) tg t) (ht : ∀ (s : Shared) (H : Hp) (C : Addr) (cl : List (Str × Addr)) (fp : List Addr), FP G (X.blk s H scope (compEnvC scope cl C X.env) fp) WF P R Φ ifs cs)
    (he : ∀ (s : Shared) (H : Hp) (C : Addr) (cl : List (Str × Addr)) (fp : List Addr), FV G (X.blk s H scope (compEnvC scope cl C X.env) fp) WF P R Φ elt a) (hs : ∀ x, foldedSetIterable iter X.env x = pure x := by intro _; rfl) :
    FF G X Wx P R Φ (.ListComp elt [⟨tg, iter, ifs, 0⟩] scope pos) (.lc (own.map (·.2)) t i cs a) :=
  (pe_lc hc hN hi ok hg ht he hs).imp fun σ H Q h => lc_read hin rfl h
/-- name = [a for t in i if cs], on one line, the name a local -/
theorem set_read {i : Nat} {D : Ends} {σ : L2.St} {H : Hp} (h : rdS (yof G X) Wx (evS P R Φ (.set (.v i) a)) D σ H) : rd (yof G X) Wx (fun y v w => WV (yof G X) y v w) (evE P R Φ a) σ H (fun v H1 => D.nx (σ.set i (some v)) H1) := by
  obtain ⟨ρ, x, hx, S, En, h⟩ := h
  rw [evS] at h
  refine ⟨ρ, x, hx, S, En, rpostS_out h fun v y w e1 Sy r h2 => ?_⟩
  simp only [asgT] at h2
  exact h2 y _ (Ext.refl y) Sy rfl ((En.ext e1).set r)
variable {t : Tg} {i : I} {cs : Cs} {elt iter : Expr} {ifs : List Expr} {scope : Scope} {own : List (Str × Nat)}
theorem fs_setLcP {j : Nat} {y : Str} {py spos : Pos} (hc : X.calm = true) (hN : X.N.Nodup) (hi : FI G X Wx P R Φ tg iter i) (ok : BlkOk X.N X.env.scope scope own) (hin : ∀ j ∈ t.ix, j ∈ own.map (·.2))
    (hg : ∀ (s : Shared) (H : Hp) (C : Addr) (cl : List (Str × Addr)) (fp : List Addr), FG G (X.blk s H scope (compEnvC scope cl C X.env) fp) tg t) (ht : ∀ (s : Shared) (H : Hp) (C : Addr) (cl : List (Str × Addr)) (fp : List Addr), FP G (X.blk s H scope (compEnvC scope cl C X.env) fp) WF P R Φ ifs cs)
    (he : ∀ (s : Shared) (H : Hp) (C : Addr) (cl : List (Str × Addr)) (fp : List Addr), FV G (X.blk s H scope (compEnvC scope cl C X.env) fp) WF P R Φ elt a) (hy : X.N[j]? = some y := by rfl) (hyl : X.env.scope.names.lookup y = some .local := by rfl)
    (hsw : swapsWith (.ListComp elt [⟨tg, iter, ifs, 0⟩] scope pos) (some (.Name y py)) spos.line X.env = pure true := by first | exact sw_true rfl rfl rfl rfl | exact sw_true rfl rfl rfl (by decide +kernel)) (hs : ∀ x, foldedSetIterable iter X.env x = pure x := by intro _; rfl) :
    FS G X Wx P R Φ (.Assign [.Name y py] (.ListComp elt [⟨tg, iter, ifs, 0⟩] scope pos) spos) (.set (.v j) (.pur (.lc (own.map (·.2)) t i cs a))) :=
  (ps_setLc hc hN hy hyl hsw hi ok hg ht he hs).imp fun D σ H h => lc_read hin rfl (pur_read (set_read h))
theorem fs_setLcN {j : Nat} {y : Str} {py spos : Pos} (hc : X.calm = true) (hN : X.N.Nodup) (hi : FI G X Wx P R Φ tg iter i) (ok : BlkOk X.N X.env.scope scope own) (hin : ∀ j ∈ t.ix, j ∈ own.map (·.2))
    (hg : ∀ (s : Shared) (H : Hp) (C : Addr) (cl : List (Str × Addr)) (fp : List Addr), FG G (X.blk s H scope (compEnvC scope cl C X.env) fp) tg t) (ht : ∀ (s : Shared) (H : Hp) (C : Addr) (cl : List (Str × Addr)) (fp : List Addr), FP G (X.blk s H scope (compEnvC scope cl C X.env) fp) WF P R Φ ifs cs)
    (he : ∀ (s : Shared) (H : Hp) (C : Addr) (cl : List (Str × Addr)) (fp : List Addr), FV G (X.blk s H scope (compEnvC scope cl C X.env) fp) WF P R Φ elt a) (hy : X.N[j]? = some y := by rfl) (hyl : X.env.scope.names.lookup y = some .local := by rfl)
    (hsw : swapsWith (.ListComp elt [⟨tg, iter, ifs, 0⟩] scope pos) (some (.Name y py)) spos.line X.env = pure true := by first | exact sw_true rfl rfl rfl rfl | exact sw_true rfl rfl rfl (by decide +kernel)) (hs : ∀ x, foldedSetIterable iter X.env x = pure x := by intro _; rfl) :
    FS G X Wx P R Φ (.Assign [.Name y py] (.ListComp elt [⟨tg, iter, ifs, 0⟩] scope pos) spos) (.set (.v j) (.new (.lc (own.map (·.2)) t i cs a))) :=
  (ps_setLc hc hN hy hyl hsw hi ok hg ht he hs).imp fun D σ H h => lc_read hin rfl (new_read (set_read h))
end
end FM
end

section
/-! FM14: the end of a def, its promise, its call. -/
set_option Elab.async false
set_option linter.all false
set_option maxRecDepth 100000
set_option autoImplicit false
set_option maxHeartbeats 1000000
namespace FM
open PySem PySem.Spec PyProof.Rows L2
section
variable {Y : Rt} {x y : Wd}
theorem wv_below {v : V} {w : W} (S : SR Y x) (h : WV Y x v w) : w.below x.st.length = true := by
  cases h with
  | d _ => rfl
  | ref h =>
    simp only [W.below, decide_eq_true_eq]
    rw [← S.len]
    exact (List.getElem?_eq_some_iff.mp h).1
  | fn _ => rfl
theorem wvs_below {vs : List V} {ws : List W} (S : SR Y x) (h : WVs Y x vs ws) : ws.all (W.below x.st.length) = true := by
  induction h with
  | nil => rfl
  | cons h _ ih => simp [wv_below S h, ih]
theorem wes_below {es : List DictEntry} {ws : List (D × W)} (S : SR Y x) (h : WEs Y x es ws) : (ws.all fun p => p.2.below x.st.length) = true := by
  induction h with
  | nil => rfl
  | cons _ _ _ _ _ h6 _ ih => simp [wv_below S h6, ih]
theorem wfs_below {es : List (Str × V)} {ws : List (String × W)} (S : SR Y x) (h : WFs Y x es ws) : (ws.all fun p => p.2.below x.st.length) = true := by
  induction h with
  | nil => rfl
  | cons h _ ih => simp [wv_below S h, ih]
theorem cell_below {a : Addr} {c : Cell} (S : SR Y x) (h : CellOk Y x a c) : c.below x.st.length = true := by
  cases c with
  | lst ws =>
    obtain ⟨vs, _, r⟩ := h
    exact wvs_below S r
  | dct kvs =>
    obtain ⟨es, _, _, _, r, _⟩ := h
    exact wes_below S r
  | ins cc fs =>
    obtain ⟨dx, vs, _, r, _⟩ := h
    exact wfs_below S r
  | dead => rfl
/-- behind a call: the caller's cells alone -/
def back (x y : Wd) : Wd := ⟨y.R, x.μ, y.st.take x.st.length, y.H⟩
theorem back_st (hl : x.st.length ≤ y.st.length) {n : Nat} {c : Cell} (h : (back x y).st[n]? = some c) : n < x.st.length ∧ y.st[n]? = some c := by
  have h : (y.st.take x.st.length)[n]? = some c := h
  rw [List.getElem?_take] at h
  split at h
  · exact ⟨by assumption, h⟩
  · cases h
theorem back_live (e : Ext x y) (hl : x.st.length ≤ y.st.length) {a : Addr} (h : (back x y).live a) : y.live a := by
  obtain ⟨n, c, h1, h2, h3⟩ := h
  exact ⟨n, c, e.get h1, (back_st hl h2).2, h3⟩
theorem back_nl (e : Ext x y) (hl : x.st.length ≤ y.st.length) {a : Addr} (h : y.nl a) : (back x y).nl a := ⟨h.1, fun z => h.2 (back_live e hl z)⟩
mutual
theorem PV.mono {H : Hp} {nl nl' : Addr → Prop} (k : ∀ a, nl a → nl' a) : ∀ {v : V} {d : D}, PV Y H nl v d → PV Y H nl' v d
  | _, _, .none => .none
  | _, _, .bool b => .bool b
  | _, _, .int i => .int i
  | _, _, .str s => .str s
  | _, _, .tup h1 h2 => .tup (h1.imp (fun q => ⟨q.1, k _ q.2⟩) id) (PVs.mono k h2)
  | _, _, .lst h1 h2 => .lst ⟨h1.1, k _ h1.2⟩ (PVs.mono k h2)
  | _, _, .dct h1 h2 h3 h4 h5 => .dct (h1.imp (fun q => ⟨q.1, k _ q.2⟩) id) h2 h3 (PEs.mono k h4) h5
theorem PVs.mono {H : Hp} {nl nl' : Addr → Prop} (k : ∀ a, nl a → nl' a) : ∀ {vs : List V} {ds : List D}, PVs Y H nl vs ds → PVs Y H nl' vs ds
  | _, _, .nil => .nil
  | _, _, .cons h1 h2 => .cons (PV.mono k h1) (PVs.mono k h2)
theorem PEs.mono {H : Hp} {nl nl' : Addr → Prop} (k : ∀ a, nl a → nl' a) : ∀ {es : List DictEntry} {kvs : List (D × D)}, PEs Y H nl es kvs → PEs Y H nl' es kvs
  | _, _, .nil => .nil
  | _, _, .cons h1 h2 h3 h4 h5 h6 h7 => .cons h1 (PV.mono k h2) h3 h4 h5 (PV.mono k h6) (PEs.mono k h7)
end
theorem back_wv (e : Ext x y) (Sx : SR Y x) (hl : x.st.length ≤ y.st.length) {v : V} {w : W} (h : WV Y y v w) (hb : w.below x.st.length = true) : WV Y (back x y) v w := by
  cases h with
  | d h => exact .d (h.mono fun a => back_nl e hl)
  | @ref n a h =>
    simp only [W.below, decide_eq_true_eq] at hb
    obtain ⟨l, hp⟩ := e.pre
    rw [← hp, List.getElem?_append_left (by rw [Sx.len]; exact hb)] at h
    exact .ref h
  | fn f => exact .fn f
theorem back_wvs (e : Ext x y) (Sx : SR Y x) (hl : x.st.length ≤ y.st.length) {vs : List V} {ws : List W} (h : WVs Y y vs ws) (hb : ws.all (W.below x.st.length) = true) : WVs Y (back x y) vs ws := by
  induction h with
  | nil => exact .nil
  | cons h _ ih =>
    simp only [List.all_cons, Bool.and_eq_true] at hb
    exact .cons (back_wv e Sx hl h hb.1) (ih hb.2)
theorem back_cell (e : Ext x y) (Sx : SR Y x) (hl : x.st.length ≤ y.st.length) {a : Addr} {c : Cell} (h : CellOk Y y a c) (hb : c.below x.st.length = true) : CellOk Y (back x y) a c := by
  cases c with
  | lst ws =>
    obtain ⟨vs, h1, r⟩ := h
    exact ⟨vs, h1, back_wvs e Sx hl r hb⟩
  | dct kvs =>
    obtain ⟨es, h1, h2, h3, r, nd⟩ := h
    refine ⟨es, h1, h2, h3, ?_, nd⟩
    simp only [Cell.below] at hb
    clear nd h1 h2 h3 a
    induction r with
    | nil => exact .nil
    | cons a1 a2 a3 a4 a5 a6 _ ih =>
      simp only [List.all_cons, Bool.and_eq_true] at hb
      exact .cons a1 (a2.mono fun a => back_nl e hl) a3 a4 a5 (back_wv e Sx hl a6 hb.1) (ih hb.2)
  | ins cc fs =>
    obtain ⟨dx, vs, h1, r, nd⟩ := h
    refine ⟨dx, vs, h1, ?_, nd⟩
    simp only [Cell.below] at hb
    clear nd h1 a
    induction r with
    | nil => exact .nil
    | cons a1 _ ih =>
      simp only [List.all_cons, Bool.and_eq_true] at hb
      exact .cons (back_wv e Sx hl a1 hb.1) (ih hb.2)
  | dead => exact True.intro
theorem back_ok (e : Ext x y) (Sx : SR Y x) (Sy : SR Y y) (hl : x.st.length ≤ y.st.length) (hc : ∀ (n : Nat) (c : Cell), n < x.st.length → y.st[n]? = some c → c.below x.st.length = true) : Ext x (back x y) ∧ SR Y (back x y) := by
  have sub : ∀ a ∈ x.μ, a ∈ y.μ := fun a ha => e.pre.subset ha
  refine ⟨⟨e.R, List.prefix_refl _, fun a o h t n => ?_, e.dom⟩, ⟨?_, Sx.nd, fun a ha => Sy.dom a (sub a ha), fun a ha => ?_, fun n a c h1 h2 => ?_, Sy.tabs⟩⟩
  · obtain ⟨h1, n1⟩ := e.keep a o h t n
    exact ⟨h1, fun z => n1 (back_live e hl z)⟩
  · show x.μ.length = (y.st.take x.st.length).length
    rw [List.length_take, Nat.min_eq_left hl, Sx.len]
  · obtain ⟨h1, o, h2⟩ := Sy.res a ha
    exact ⟨fun z => h1 (sub a z), o, h2⟩
  · obtain ⟨h3, h4⟩ := back_st hl h2
    exact back_cell e Sx hl (Sy.cell n a c (e.get h1) h4) (hc n c h3 h4)
/-- a value as the caller has it -/
theorem back_frz (e : Ext x y) (Sx : SR Y x) (Sy : SR Y y) (hl : x.st.length ≤ y.st.length) {v : V} {w w' : W} (h : WV Y y v w) (hf : frzW x.st.length y.st w = some w') : WV Y (back x y) v w' := by
  cases h with
  | d h => cases hf; exact .d (h.mono fun a => back_nl e hl)
  | fn f => cases hf; exact .fn f
  | @ref n a hn =>
    simp only [frzW] at hf
    split at hf
    · rename_i hk
      cases hf
      exact back_wv e Sx hl (.ref hn) (by simpa [W.below] using hk)
    · rename_i hk
      simp only [Option.map_eq_some_iff] at hf
      obtain ⟨d, hd, rfl⟩ := hf
      have na : (back x y).nl a := ⟨fun z => (Sy.res a z).1 (List.mem_of_getElem? hn), fun ⟨m, c, h1, _⟩ => by
        have h1 : x.μ[m]? = some a := h1
        have := nodup_at Sy.nd (e.get h1) hn
        have h2 := (List.getElem?_eq_some_iff.mp h1).1
        rw [Sx.len] at h2
        omega⟩
      have hv := Sy.vw (.ref hn) hd
      cases hv with
      | pv h => exact .d (h.mono fun a => back_nl e hl)
      | lst h1 h2 => exact .d (.lst ⟨.inl h1, na⟩ (h2.mono fun a => back_nl e hl))
      | dct h1 h2 h3 h4 h5 => exact .d (.dct (.inl ⟨h1, na⟩) h2 h3 (h4.mono fun a => back_nl e hl) h5)
theorem back_frzF (e : Ext x y) (Sx : SR Y x) (Sy : SR Y y) (hl : x.st.length ≤ y.st.length) : ∀ {fs : List (Str × V)} {ws ws' : List (String × W)}, WFs Y y fs ws → frzF x.st.length y.st ws = some ws' → WFs Y (back x y) fs ws'
  | _, _, _, .nil, hf => by cases hf; exact .nil
  | _, _, _, .cons h t, hf => by
    simp only [frzF, Option.bind_eq_some_iff, Option.map_eq_some_iff] at hf
    obtain ⟨w, e1, r, e2, e3⟩ := hf
    subst e3
    exact .cons (back_frz e Sx Sy hl h e1) (back_frzF e Sx Sy hl t e2)
/-- what a def wants of exceptions -/
def wE (E : XK) : WX := fun c d _ H => E c d H
abbrev relW (Y : Rt) : Wd → V → W → Prop := fun y v w => WV Y y v w
theorem old_below (Sx : SR Y x) (ho : okOld x.st y.st) : ∀ (n : Nat) (c : Cell), n < x.st.length → y.st[n]? = some c → c.below x.st.length = true := fun n c hn hc => by
  rcases ho n hn with h | ⟨c', h, hb⟩
  · rw [hc] at h
    obtain ⟨a, ha⟩ : ∃ a, x.μ[n]? = some a := ⟨_, List.getElem?_eq_getElem (by rw [Sx.len]; exact hn)⟩
    exact cell_below Sx (Sx.cell n a c ha h.symm)
  · rw [hc] at h
    cases h
    exact hb

open Classical in
theorem exit_ok {E : XK} {σ : L2.St} {m : Mode} {Q : VK} {o : Out} (Sx : SR Y x) (hm : m ≠ .obj) (h : rpost Y (wE E) σ x (relW Y) Q (exitR m x.st o)) : rpostS Y (wE E) { nx := fun _ H' => Q .non H', rt := Q } x o := by
  have val : ∀ (w : W) (st' : Sto) (v : V) (y : Wd), rpost Y (wE E) σ x (relW Y) Q (exitOk m x.st w st') → Ext x y → SR Y y → y.st = st' → WV Y y v w → Q v y.H := by
    intro w st' v y h ey Sy hy r
    subst hy
    cases m with
    | obj => exact absurd rfl hm
    | keep => exact h v y ey Sy rfl r
    | pure =>
      simp only [exitOk] at h
      split at h
      · rename_i ht
        have hl : x.st.length ≤ y.st.length := by
          have := congrArg List.length ht
          rw [List.length_take] at this
          omega
        have ho : okOld x.st y.st := fun n hn => .inl (by rw [← ht, List.getElem?_take, if_pos hn])
        obtain ⟨eb, Sb⟩ := back_ok ey Sx Sy hl (old_below Sx ho)
        cases hf : frzW x.st.length y.st w with
        | none => rw [hf] at h; exact h.elim
        | some w' =>
          rw [hf] at h
          exact h v (back x y) eb Sb ht (back_frz ey Sx Sy hl r hf)
      · exact h.elim
    | eff =>
      simp only [exitOk] at h
      split at h
      · rename_i ht
        obtain ⟨hl, ho⟩ := ht
        obtain ⟨eb, Sb⟩ := back_ok ey Sx Sy hl (old_below Sx ho)
        cases hf : frzW x.st.length y.st w with
        | none => rw [hf] at h; exact h.elim
        | some w' =>
          rw [hf] at h
          exact h v (back x y) eb Sb rfl (back_frz ey Sx Sy hl r hf)
      · exact h.elim
  cases o with
  | nx ρ st' => exact fun y σ' ey Sy hy _ => val noneW st' .non y h ey Sy hy (.d .none)
  | rt w st' => exact fun v y ey Sy hy r => val w st' v y h ey Sy hy r
  | bk ρ st' => exact h.elim
  | ct ρ st' => exact h.elim
  | bad => exact h.elim
  | exn e st' =>
    intro cls d y σ' ey Sy hy r
    have h : rpost Y (wE E) σ x (relW Y) Q (exitExn m x.st e st') := h
    subst hy
    have go : rpost Y (wE E) σ x (relW Y) Q (if x.st.length ≤ y.st.length ∧ okOld x.st y.st then (match frzF x.st.length y.st e.fs with
      | some fs => .exn ⟨e.c, fs⟩ (y.st.take x.st.length)
      | none => .bad) else .bad) → E cls d y.H := by
      intro h
      split at h
      · rename_i ht
        obtain ⟨hl, ho⟩ := ht
        obtain ⟨eb, Sb⟩ := back_ok ey Sx Sy hl (old_below Sx ho)
        cases hf : frzF x.st.length y.st e.fs with
        | none => rw [hf] at h; exact h.elim
        | some fs =>
          rw [hf] at h
          obtain ⟨r1, dx, vs, r2, r3, r4, r5⟩ := r
          exact h cls d (back x y) eb Sb rfl ⟨r1, dx, vs, r2, r3, back_nl ey hl r4, back_frzF ey Sx Sy hl r5 hf⟩
      · exact h.elim
    cases m with
    | obj => exact absurd rfl hm
    | keep => exact h cls d y ey Sy rfl r
    | pure => exact go h
    | eff => exact go h
end
end FM
end

section
/-! FM15: promises of defs, calls, raise. -/
set_option Elab.async false
set_option linter.all false
set_option maxRecDepth 100000
set_option autoImplicit false
set_option maxHeartbeats 1000000
namespace FM
open PySem PySem.Spec PyProof.Rows L2
/-- a def's promise where nothing is guarded -/
structure FnG (P : Program) (w : World) (K : PySem.W.Frag) (mg : Str → Option Value) (base : Heap) (k : Nat) (f : Addr) (fd : FuncData) (ps : List Str) (sp : Sp) : Prop where
  len : ∀ vs H Q E, sp vs H Q E → vs.length = ps.length
  run : ∀ (A : Around) (outer : List PySem.Env) (s : Shared) (H : Hp) (args : Args) (us : List Value) (vs : List V) (Q : VK) (E : XK), Room k A → A.guards = some [] → Env0 P w K mg base A outer s H →
    BindsTo s fd args (ps.zip us) → Vals vs us → sp vs H Q E → codeAny (model P w) A (.call (.ref f) args) (CR (L2.CX P w) outer P w H s Q E) s
theorem FnG.mono {P : Program} {w : World} {K : PySem.W.Frag} {mg : Str → Option Value} {base : Heap} {j k : Nat} {f : Addr} {fd : FuncData} {ps : List Str} {sp : Sp} (F : FnG P w K mg base j f fd ps sp) (h : j ≤ k) : FnG P w K mg base k f fd ps sp :=
  ⟨F.len, fun A outer s H args us vs Q E hr => F.run A outer s H args us vs Q E (hr.mono h)⟩
theorem guards_deeper {A : Around} {env : PySem.Env} (h : A.guards = some []) : (A.deeper env).guards = some [] := h
/-- a def by its body -/
theorem fnG_of {P : Program} {w : World} {K : PySem.W.Frag} {mg : Str → Option Value} {base : Heap} {x qual : Str} {pr : Arguments} {body : List Stmt} {scope : Scope} {dvs : List V} {kws : List (Str × V)} {f : Addr} {fd : FuncData} {k : Nat} {N ps : List Str} {sp : Sp}
    (F : FunD K x qual pr body scope dvs kws f fd) (S : FnScope N ps scope) (len : ∀ vs H Q E, sp vs H Q E → vs.length = ps.length)
    (hbody : ∀ (cdv : Value) (A : Around) (outer : List PySem.Env) (s : Shared) (H : Hp) (vs : List V) (Q : VK) (E : XK), Room k (A.deeper (envOfC qual scope s.heap.objs.size f cdv)) → A.guards = some [] → fd.code = cdv → sp vs H Q E →
      ∃ t, PSs (cxOf (L2.CX P w) P w K mg base N qual scope f cdv A outer s H E) body t ∧ t { nx := fun _ H' => Q .non H', rt := Q } (start N vs) H) : FnG P w K mg base (k + 1) f fd ps sp := by
  obtain ⟨oc, od, dV, kV, doc, pm, an, cdv, ct, osl, rfl, lk, hcd, _, _⟩ := F.ex
  exact ⟨len, fun A outer s H args us vs Q E hr hg e0 hb r h => LamX.run_ofS lk hcd S hr e0 hb r (len _ _ _ _ h) fun hr' => hbody cdv A outer s H vs Q E hr' hg rfl h⟩
section
variable {X : Cx} {k : Nat} {f C : Addr} {fd : FuncData} {ps : List Str} {sp : Sp} {E : XK} {n : Str} {p pos : Pos} {e : Expr} {es : List Expr} {t : TA}
theorem run_g {pins : List (Addr × Obj)} {σ : L2.St} {H : Hp} {s : Shared} {Q : VK} {us : List Value} {vs : List V} (F : FnG X.prog X.w X.K X.mg X.base k f fd ps sp) (hr : Room k X.A) (hgd : X.A.guards = some []) (hb : Binds X.K fd ps []) (tk : Takes X (wE E))
    (I : Inv X pins σ H s) (r : Vals vs us) (h : sp vs H Q E) : wpAny (model X.prog X.w) X.A (call (.ref f) us) (EP X pins σ Q) X.xe s := by
  have hl : us.length = ps.length := by
    rw [← r.length]
    exact F.len _ _ _ _ h
  have hb2 : BindsTo s fd ⟨us, []⟩ (ps.zip us) := by
    have q := hb s us I.kIn (by rw [List.append_nil]; exact hl)
    rwa [List.append_nil] at q
  have hx := passes_call (E := E) tk fun _ _ _ _ z => z
  refine wpAny_call (codeAny_mono (F.run X.A X.stack s H ⟨us, []⟩ us vs Q E hr hgd I.env0 hb2 r h) fun res s' hq => ?_)
  cases res with
  | error er => exact hx pins σ H s er s' I hq
  | ok fl =>
    cases fl with
    | ret u => exact I.after hq
    | next => exact hq.elim
    | brk => exact hq.elim
    | cont => exact hq.elim
theorem pe_callg (F : FnG X.prog X.w X.K X.mg X.base k f fd ps sp) (hr : Room k X.A) (hgd : X.A.guards = some []) (hb : Binds X.K fd ps []) (tk : Takes X (wE E)) (hg : Gl X n) (hm : X.mg n = some (.ref f)) (hk : PySem.W.keepIn X.K (.ref f) = true) (ha : PA X (e :: es) t)
    (hdb : (n == ("__debug__" : Str)) = false) (he : starEach (e :: es) X.env = (false, eval e X.env) :: starEach es X.env) (hpl : (backTo pos (starEach es X.env)).any (·.1) = false) : PE X (.Call (.Name n p) (e :: es) [] pos) (fun σ H Q => t σ H fun vs H1 => sp vs H1 Q E) := by
  refine ⟨fun pins s σ H Q I h => wpAny_Call_Name_kw (ld_glob I hg hm ?_ hdb)⟩
  exact PySem.W.callWith_K (h₀ := X.base) I.ok.mod.kin hk (thn (ha.run pos pins s σ H _ I h) fun us s1 ⟨vs, H1, I1, r, q⟩ => ⟨I1.kIn, run_g F hr hgd hb tk I1 r q⟩) he hpl
theorem pe_callg0 (F : FnG X.prog X.w X.K X.mg X.base k f fd ps sp) (hr : Room k X.A) (hgd : X.A.guards = some []) (hb : Binds X.K fd ps []) (tk : Takes X (wE E)) (hg : Gl X n) (hm : X.mg n = some (.ref f)) (hk : PySem.W.keepIn X.K (.ref f) = true)
    (hdb : (n == ("__debug__" : Str)) = false) : PE X (.Call (.Name n p) [] [] pos) (fun σ H Q => sp [] H Q E) := by
  refine ⟨fun pins s σ H Q I h => wpAny_Call_Name_kw (ld_glob I hg hm ?_ hdb)⟩
  exact PySem.W.callWith_K0 I.kIn hk (run_g (us := []) F hr hgd hb tk I .nil h)
end
/-- what the evaluator promises of a def -/
def spF (Y : Rt) (Φ : Call) (f : String) (m : Nat) : Sp := fun vs H Q E => vs.length = m ∧ ∃ x ws, x.H = H ∧ SR Y x ∧ WVs Y x vs ws ∧ rpost Y (wE E) [] x (relW Y) Q (Φ f ws x.st)
/-- what is known of a def f with m parameters that stands in the module under the name n -/
structure FnK (G : Gd) (X : Cx) (Φ : Call) (k : Nat) (n : Str) (f : String) (m : Nat) : Prop where
  mg : X.mg n = some (.ref (G.fa f))
  kp : PySem.W.keepIn X.K (.ref (G.fa f)) = true
  ok : ∃ fd ps, ps.length = m ∧ FnG X.prog X.w X.K X.mg X.base k (G.fa f) fd ps (spF (yof G X) Φ f m) ∧ Binds X.K fd ps []
  ar : ∀ ws st, ws.length ≠ m → Φ f ws st = .bad
section
variable {G : Gd} {X : Cx} {E : XK} {P : Prog} {R : Fun1} {Φ : Call} {pos : Pos} {e : Expr} {es : List Expr} {as : Es} {n : Str} {p : Pos} {k m : Nat} {f : String}
theorem rpost_wE {Y : Rt} {σ σ' : L2.St} {x : Wd} {α β : Type} {rel : Wd → β → α → Prop} {Q : β → Hp → Prop} {r : Res α} (h : rpost Y (wE E) σ x rel Q r) : rpost Y (wE E) σ' x rel Q r := by
  cases r with
  | ok a st' => exact h
  | exn a st' => exact h
  | bad => exact h
/-- a call by name -/
theorem fe_call {e1 : Expr} {a1 : FM.E} (F : FnK G X Φ k n f m) (hr : Room k X.A) (hgd : X.A.guards = some []) (tk : Takes X (wE E)) (ha : FL G X (wE E) P R Φ (e1 :: es) (.cons a1 as)) (hg : Gl X n := by rfl) (hdb : (n == ("__debug__" : Str)) = false := by decide)
    (he : starEach (e1 :: es) X.env = (false, eval e1 X.env) :: starEach es X.env := by rfl) (hpl : (backTo pos (starEach es X.env)).any (·.1) = false := by rfl) : FV G X (wE E) P R Φ (.Call (.Name n p) (e1 :: es) [] pos) (.call f (.cons a1 as)) := by
  obtain ⟨fd, ps, hps, FG, hb⟩ := F.ok
  refine (pe_callg FG hr hgd hb tk hg F.mg F.kp ha hdb he hpl).imp fun σ H Q ⟨ρ, x, hx, S, En, h⟩ => ?_
  rw [evE] at h
  refine ⟨ρ, x, hx, S, En, rpost_bind h fun vs y ws e1 Sy r h2 => ?_⟩
  by_cases hl : ws.length = m
  · exact ⟨by rw [r.length, hl], y, ws, rfl, Sy, r, rpost_wE h2⟩
  · rw [F.ar ws y.st hl] at h2
    exact h2.elim
theorem fe_call0 (F : FnK G X Φ k n f m) (hr : Room k X.A) (hgd : X.A.guards = some []) (tk : Takes X (wE E)) (hg : Gl X n := by rfl) (hdb : (n == ("__debug__" : Str)) = false := by decide) : FV G X (wE E) P R Φ (.Call (.Name n p) [] [] pos) (.call f .nil) := by
  obtain ⟨fd, ps, hps, FG, hb⟩ := F.ok
  refine (pe_callg0 FG hr hgd hb tk hg F.mg F.kp hdb).imp fun σ H Q ⟨ρ, x, hx, S, En, h⟩ => ?_
  rw [evE, evEs] at h
  have h : rpost (yof G X) (wE E) σ x (relW (yof G X)) Q (Φ f [] x.st) := h
  subst hx
  by_cases hl : ([] : List W).length = m
  · exact ⟨hl, x, [], rfl, S, .nil, rpost_wE h⟩
  · rw [F.ar [] x.st hl] at h
    exact h.elim
end
/-! ### a def's promise by the evaluator -/
section
variable {G : Gd} {P : Program} {w : World} {K : PySem.W.Frag} {mg : Str → Option Value} {base : Heap}
theorem env_start {Y : Rt} {x : Wd} {vs : List V} {ws : List W} {N : List Str} {fn : Fn} (r : WVs Y x vs ws) (hN : N.length = fn.slots) (hl : ws.length = fn.params) : EnvOk Y x (entry fn ws) (L2.start N vs) := by
  have e := r.length
  refine ⟨?_, fun i u hi => ?_⟩
  · simp only [entry, L2.start, List.length_append, List.length_map, List.length_replicate]
    omega
  · unfold entry at hi
    unfold L2.start
    by_cases hlt : i < ws.length
    · rw [List.getElem?_append_left (by simpa using hlt)] at hi
      rw [List.getElem?_append_left (by simp; omega)]
      simp only [List.getElem?_map, Option.map_eq_some_iff] at hi ⊢
      obtain ⟨u', h1, h2⟩ := hi
      cases h2
      obtain ⟨v, h3, h4⟩ := r.get h1
      exact ⟨v, ⟨v, h3, rfl⟩, h4⟩
    · rw [List.getElem?_append_right (by simpa using hlt), List.getElem?_replicate] at hi
      split at hi <;> cases hi
/-- fn's promise at the next level -/
theorem fn_ok {EP : Prog} {R : Fun1} {Φ : Call} {x qual : Str} {pr : Arguments} {body : List Stmt} {scope : Scope} {dvs : List V} {kws : List (Str × V)} {f : String} {fd : FuncData} {k : Nat} {N ps : List Str} {fn : Fn}
    (F : FunD K x qual pr body scope dvs kws (G.fa f) fd) (S : FnScope N ps scope) (hN : N.length = fn.slots) (hp : ps.length = fn.params) (hm : fn.mode ≠ .obj)
    (hbody : ∀ (cdv : Value) (A : Around) (outer : List PySem.Env) (s : Shared) (H : Hp) (E : XK), Room k (A.deeper (envOfC qual scope s.heap.objs.size (G.fa f) cdv)) → A.guards = some [] → fd.code = cdv →
      FSs G (cxOf (L2.CX P w) P w K mg base N qual scope (G.fa f) cdv A outer s H E) (wE E) EP R Φ body fn.body) : FnG P w K mg base (k + 1) (G.fa f) fd ps (spF ⟨P, w, K, G.fa, G.ca, G.tabs⟩ (fun g => if g = f then runFn EP R Φ fn else fun _ _ => .bad) f fn.params) := by
  refine fnG_of F S (fun vs H Q E h => h.1.trans hp.symm) fun cdv A outer s H vs Q E hr hg hcd ⟨hl, x, ws, hx, Sx, r, h⟩ => ⟨_, hbody cdv A outer s H E hr hg hcd, ?_⟩
  simp only [if_true] at h
  have hwl : ws.length = fn.params := by rw [← r.length]; exact hl
  unfold runFn at h
  rw [if_pos hwl] at h
  exact ⟨entry fn ws, x, hx, Sx, env_start r hN hwl, exit_ok Sx hm h⟩
theorem spF_congr {Y : Rt} {Φ Φ' : Call} {f : String} {m : Nat} (h : Φ f = Φ' f) : spF Y Φ f m = spF Y Φ' f m := by
  unfold spF
  rw [h]
end
end FM
end

section
/-! FM16: try with several clauses that name what they catch; exceptions made. -/
set_option Elab.async false
set_option linter.all false
set_option maxRecDepth 100000
set_option autoImplicit false
set_option maxHeartbeats 1000000
namespace FM
open PySem PySem.Spec PyProof.Rows L2
abbrev TSu := Addr → Value → Option Addr → TS
/-- the ends of a suite whose name in slot i goes -/
def goneD (D : Ends) (i : Nat) : Ends := ⟨fun σ H => D.nx (σ.set i none) H, D.rt, fun σ H => D.bk (σ.set i none) H, fun σ H => D.ct (σ.set i none) H⟩
def wMA (K : PySem.W.Frag) (Wo : WX) (D : Ends) : List (Value × Nat × TSu) → WX
  | [] => Wo
  | (c, i, ts) :: r => fun cls d σ H => ∃ b, PySem.W.exmOne K cls c = some b ∧ (b = true → ∀ a, H a = none → ts a cls d (goneD D i) (σ.set i (some (.ref a))) H) ∧ (b = false → wMA K Wo D r cls d σ H)
inductive HdA (X : Cx) : List ExceptHandler → List (Value × Nat × TSu) → Prop
  | nil : HdA X [] []
  | cons {x nm : Str} {c : Value} {i : Nat} {ts : TSu} {b : Stmt} {bs : List Stmt} {q1 q2 : Pos} {hs : List ExceptHandler} {l : List (Value × Nat × TSu)} (hi : X.N[i]? = some nm) (hl : X.env.kindOf nm = some .local) (hc : Names X x c)
      (hb : ∀ (a : Addr) (oe : Obj) (cls : Value) (d : Option Addr) (pn : List (Addr × Obj)), Zc cls d oe → (∃ vs, oe.data = .fields vs) → PSs (X.suite a ((a, oe) :: pn)) (b :: bs) (ts a cls d)) (r : HdA X hs l) :
      HdA X (.ExceptHandler (some (.Name x q1)) (some nm) (b :: bs) q2 :: hs) ((c, i, ts) :: l)
section
variable {X : Cx} {body : List Stmt} {h0 : ExceptHandler} {hs : List ExceptHandler} {l : List (Value × Nat × TSu)} {pos : Pos} {tb : WX → TS} {Wo : WX}
/-- the clauses in a row, an exception having landed -/
theorem clauses_ok {pins : List (Addr × Obj)} {σ : L2.St} {H : Hp} {sI s : Shared} {D : Ends} {a : Addr} {B h3 : Heap} {cls : Value} {d : Option Addr} (hk : X.stack = X.env :: X.outer) (hf : X.env.frame = some X.env.locals) (hN : X.N.Nodup) (tk : Takes X Wo) (ok : X.Ok)
    (J : Inv X pins σ H sI) (nb : ∀ b o, sI.heap.get? b = some o → b ∉ frs X.stack → B.get? b = some o) (up : sI.heap.UpToSlots h3) (fl : HandSPX.FlyingZ B (X.env :: X.outer) a (Zc cls d) h3) (na : H a = none) (hos : s.os = sI.os) (hag : AllBare s.gens)
    (nL : a ≠ X.env.locals) (nF : a ∉ X.fs) (K3 : Inv X pins σ H { s with heap := h3 }) : ∀ {hs : List ExceptHandler} {l : List (Value × Nat × TSu)}, HdA X hs l → wMA X.K Wo D l cls d σ H → wpAny (model X.prog X.w) X.A (handleBy (.ref a) X.env hs) (SP X pins D) X.xe { s with heap := h3 } := by
  intro hs l hh
  obtain ⟨o3, v3, he3, hz3, hd3⟩ := fl.there
  have S3 := K3.suite he3 hd3 na nL nF
  induction hh with
  | nil =>
    intro w
    refine wpAny_handleBy_nil ?_
    obtain ⟨k1, k2, k3, oe, vs, T, oT, ts', he, hz, hd, h1, hr⟩ := id fl
    have fin : wpAny (model X.prog X.w) X.A (setFlight (.ref a) X.env.frame) (fun _ s4 => wpAny (model X.prog X.w) X.A (throw (.ref a) : Sem Flow) (SP X pins D) X.xe s4) X.xe { s with heap := h3 } := by
      rw [hf]
      exact HandSPX.setFlight_upZ fl fun h4 hh4 up4 => wpAny_throw (tk _ _ ⟨a, B, sI, pins, σ, H, cls, d, rfl, J, nb, up.trans up4, .inr (.inr (by rw [hk]; exact hh4)), na, hos, hag, w⟩)
    unfold PySem.passOn
    refine wpAny_bind (wpAny_field he hd h1 ?_)
    rw [if_neg (show ¬ ((Value.ref T == Value.none) = true) from by simp)]
    first | exact wpAny_bind (wpAny_pure (wpAny_bind fin)) | exact wpAny_bind fin
  | @cons x nm c i ts b bs q1 q2 hs2 l2 hi hl hc hb r ih =>
    intro ⟨b', hb1, hyes, hno⟩
    refine wpAny_handleBy_cons (codeAny_handlers_test ?_) (by intro q; cases q)
    have lt : PySem.W.Looks (model X.prog X.w) h3 (typeOf (.ref a)) cls := fun A Q E s k q => wpAny_typeOf_ref (k _ _ he3) (by rw [hz3.1]; exact q)
    have lm := PySem.W.exm_one (M := model X.prog X.w) K3.kIn lt hb1
    have test : ∀ {Q : Value → Shared → Prop} {E : Value → Shared → Prop}, Q c { s with heap := h3 } → wpAny (model X.prog X.w) (X.A.mark (some (.ref a))) (eval (.Name x q1) X.env) Q E { s with heap := h3 } := by
      intro Q E q
      obtain ⟨hg, hdb, hm | ⟨hm, hv, hnn⟩⟩ := hc
      · exact ld_glob (X := X.suite a ((a, o3) :: (X.pn ++ pins))) S3 hg hm q hdb
      · exact ld_blt (X := X.suite a ((a, o3) :: (X.pn ++ pins))) S3 hg hm hv q hnn hdb
    refine test (lm.here ?_)
    cases b' with
    | false => exact ih (hno rfl)
    | true =>
      refine codeAny_handlers_suite_as (HandSPX.lands_againZ fl fun h4 fl4 up4 => ?_)
      have J4 : Inv X pins σ H { s with heap := h4 } := J.landed nb fl4.1 (up.trans up4) hos hag
      obtain ⟨o4, v4, he4, hz4, hd4⟩ := fl4.there
      have S4 := J4.suite he4 hd4 na nL nF
      refine store_ok (X := X.suite a ((a, o4) :: (X.pn ++ pins))) (v := .ref a) S4 hN hi (.inl hl) rfl (fun s5 S5 => ?_) (.inr hl)
      refine wpAny_mono ((hb a o4 cls d (X.pn ++ pins) hz4 ⟨_, hd4⟩).run [] s5 _ H _ S5 (hyes rfl a na)) (fun f s6 hsp => ?_) (fun _ _ z => z.elim)
      have gone : ∀ {τ : L2.St} {H6 : Hp} {Q : Shared → Prop}, Inv (X.suite a ((a, o4) :: (X.pn ++ pins))) [] τ H6 s6 → (∀ s7, Inv X pins (τ.set i none) H6 s7 → Q s7) →
          wpAny (model X.prog X.w) X.A (do bindName X.env nm .none; unbindBehindTheSuite X.env nm q2) (fun _ s7 => Q s7) X.xe s6 := fun {τ H6 Q} S6 hq => gone_ok (S6.unsuite ok) hN hi hl hq
      cases f with
      | ret u => obtain ⟨v6, τ, H6, S6, r6, q6⟩ := hsp; exact gone S6 fun s7 J7 => ⟨_, _, _, J7, r6, q6⟩
      | next => obtain ⟨τ, H6, S6, q6⟩ := hsp; exact gone S6 fun s7 J7 => ⟨_, _, J7, q6⟩
      | brk => obtain ⟨τ, H6, S6, q6⟩ := hsp; exact gone S6 fun s7 J7 => ⟨_, _, J7, q6⟩
      | cont => obtain ⟨τ, H6, S6, q6⟩ := hsp; exact gone S6 fun s7 J7 => ⟨_, _, J7, q6⟩
theorem ps_try_ma (hk : X.stack = X.env :: X.outer) (hf : X.env.frame = some X.env.locals) (hN : X.N.Nodup) (tk : Takes X Wo)
    (hb : ∀ (W : WX) (pn : List (Addr × Obj)) (xe : Value → Shared → Prop), Takes (X.tr pn xe) W → PassesOwn (model X.prog X.w) X.A X.env xe → PSs (X.tr pn xe) body (tb W)) (hh : HdA X (h0 :: hs) l) :
    PS X (.Try body (h0 :: hs) [] [] pos) (fun D σ H => tb (wMA X.K Wo D l) D σ H) := by
  refine ⟨fun pins s σ H D I h => ?_⟩
  have ok := I.ok
  have hfr : X.A.frames = some (X.env :: X.outer) := by rw [ok.frames, hk]
  refine wpAny_Try_except (wpAny_mono ((hb (wMA X.K Wo D l) (X.pn ++ pins) (fun e s₁ => wpAny (model X.prog X.w) X.A (noteFrame e X.env) (fun _ s₂ => wpAny (model X.prog X.w) X.A (setFlight e none)
    (fun _ s₃ => wpAny (model X.prog X.w) X.A (handleBy e X.env (h0 :: hs)) (SP X pins D) X.xe s₃) X.xe s₂) X.xe s₁) (fun u s' xx => ?_) PassesOwn.looking).run [] s σ H D (I.toTry _) h) (fun f s1 hsp => ?_) (fun e s1 he => he))
  · obtain ⟨a, B, sI, pins', τ, H', cls, d, rfl, J', nb, up, sky, na, hos, hag, w⟩ := xx
    have J : Inv X pins τ H' sI := J'.ofTry ok
    rw [hk] at sky
    show wpAny (model X.prog X.w) X.A (noteFrame (.ref a) X.env) _ _ _
    refine Sky.land Zc.steady hfr hf sky fun h3 fl3 up3 => ?_
    have K3 : Inv X pins τ H' { s' with heap := h3 } := J.landed nb fl3.1 (up.trans up3) hos hag
    obtain ⟨o3, v3, he3, hz3, hd3⟩ := fl3.there
    have nfr : a ∉ frs (X.env :: X.outer) := fun hm => by
      obtain ⟨_, o', e', hnf⟩ := fl3.2.2.1.mem hm
      rw [he3] at e'
      cases e'
      exact hnf _ hd3
    refine clauses_ok hk hf hN tk ok J nb (up.trans up3) fl3 na hos hag (fun z => nfr (List.mem_filterMap.mpr ⟨X.env, List.mem_cons_self, by rw [hf, z]⟩)) (fun hm => ?_) K3 hh w
    obtain ⟨e, he, q⟩ := List.mem_filterMap.mp hm
    exact nfr (List.mem_filterMap.mpr ⟨e, List.mem_cons_of_mem _ he, q⟩)
  · cases f with
    | ret u => obtain ⟨v, τ, H', J', r, q⟩ := hsp; exact ⟨v, τ, H', J'.ofTry ok, r, q⟩
    | next => obtain ⟨τ, H', J', q⟩ := hsp; exact wpAny_execs_nil ⟨τ, H', J'.ofTry ok, q⟩
    | brk => obtain ⟨τ, H', J', q⟩ := hsp; exact ⟨τ, H', J'.ofTry ok, q⟩
    | cont => obtain ⟨τ, H', J', q⟩ := hsp; exact ⟨τ, H', J'.ofTry ok, q⟩
end
/-! ### exceptions are made -/
/-- __init__ of an exception that keeps its one argument -/
def spI (K : PySem.W.Frag) : Sp := fun vs H Q E => ∃ (a C : Addr) (v : V), vs = [.ref a, v] ∧ OexC K C ∧ PySem.W.findIn K (.ref C) "value" = some none ∧ H a = some (exo a C none) ∧ ∀ dx, H dx = none → dx ≠ a → Q .non (upd (upd H dx (exd dx [("value", v)])) a (exo a C (some dx)))
/-- the class c, raised with a value, under the name n -/
structure ExK (G : Gd) (X : Cx) (n : Str) (c : String) : Prop where
  T : OexC X.K (G.ca c)
  no : PySem.W.findIn X.K (.ref (G.ca c)) "value" = some none
  mg : X.mg n = some (.ref (G.ca c))
  init : ∃ fI fd ps, PySem.W.findIn X.K (.ref (G.ca c)) "__init__" = some (some (.ref fI)) ∧ PySem.W.typeIn X.K (.ref fI) = some (.type "function") ∧ FnOk X.prog X.w X.K X.mg X.base CX0 1 fI fd ps (spI X.K) ∧ Binds X.K fd ps []
section
variable {G : Gd} {X : Cx} {E : XK} {P : Prog} {R : Fun1} {Φ : Call} {pos cpos : Pos} {e : Expr} {n : Str} {p : Pos} {c : String} {a : FM.E}
theorem fs_raise (K : ExK G X n c) (hP : P.exc c = some 1) (hr : Room 2 X.A) (hc : X.calm = true) (tk : Takes X (wE E)) (ha : FV G X (wE E) P R Φ e a) (hg : Gl X n := by rfl) (hdb : (n == ("__debug__" : Str)) = false := by decide) (hs : starEach [e] X.env = [(false, eval e X.env)] := by rfl) :
    FS G X (wE E) P R Φ (.Raise (some (.Call (.Name n p) [e] [] cpos)) none pos) (.raise c (.cons a .nil)) := by
  obtain ⟨fI, fd, ps, h1, h2, F, hb⟩ := K.init
  refine (ps_raise (pos := pos) hc tk (pmk_oex (p := p) (pos := cpos) K.T h1 h2 F hr hb .nil pass0 hg K.mg (pa_cons ha pa_nil hs) hdb hs rfl)).imp fun D σ H ⟨ρ, x, hx, S, En, h⟩ => ?_
  rw [evS, evEs] at h
  refine ⟨ρ, x, hx, S, En, ?_⟩
  cases ho : evE P R Φ a ρ x.st with
  | exn ex st' => rw [ho] at h; exact fun cl d y ey Sy hy r => h cl d y σ ey Sy hy r
  | bad => rw [ho] at h; exact h
  | ok w st' =>
    rw [ho] at h
    intro v y ey Sy hy r
    simp only [evEs, Res.bind_ok, Res.out_ok] at h
    have hx1 : excFs P c [w] = some [("value", w)] := by simp [excFs, hP]
    rw [hx1] at h
    refine ⟨by show 1 ≤ 1000; decide, fun b hb0 => ⟨b, G.ca c, v, rfl, K.T, K.no, upd_same, fun dx hdx hne => ?_⟩⟩
    have hdx0 : y.H dx = none := by rwa [upd_ne hne] at hdx
    refine ⟨rfl, dx, [("value", v)], upd_same, by rw [upd_ne hne]; exact upd_same, hdx0, ?_⟩
    have hH : upd (del (upd (upd (upd y.H b (exo b (G.ca c) none)) dx (exd dx [("value", v)])) b (exo b (G.ca c) (some dx))) b) dx (.xd [("value", v)]) = upd y.H dx (.xd [("value", v)]) := by
      funext q
      by_cases q1 : q = dx
      · rw [q1, upd_same, upd_same]
      · rw [upd_ne q1, upd_ne q1]
        by_cases q2 : q = b
        · rw [q2, del_same, hb0]
        · rw [del_ne q2, upd_ne q2, upd_ne q1, upd_ne q2]
    rw [hH]
    obtain ⟨e2, S2, n2⟩ := Ext.new (o := .xd [("value", v)]) Sy hdx0 (fun _ z => by cases z)
    exact h (.ref (G.ca c)) (some dx) _ σ (ey.trans e2) S2 hy ⟨rfl, dx, _, rfl, upd_same, n2, .cons (f := "value") (e2.wv r) .nil⟩
end
end FM
end

section
/-! FM17: a call that may be refused. -/
set_option Elab.async false
set_option linter.all false
set_option maxRecDepth 100000
set_option autoImplicit false
set_option maxHeartbeats 1000000
namespace FM
open PySem PySem.Spec PyProof.Rows L2
theorem takes_len {X : Cx} {W : WX} (tk : Takes X W) : Takes X (fun c d σ H => σ.length = X.N.length → W c d σ H) := fun u s' ⟨a, B, sI, pins, σ, H, cls, d, e, I, nb, up, sky, na, os, ag, w⟩ =>
  tk u s' ⟨a, B, sI, pins, σ, H, cls, d, e, I, nb, up, sky, na, os, ag, w I.len⟩
section
variable {X : Cx} {pins : List (Addr × Obj)} {σ : L2.St} {H : Hp} {s : Shared}
/-- x(), where x holds the lambda -/
theorem act_g {Ng : List Str} {qg : Str} {sg : Scope} {g f c' : Addr} {cdg pm ctv : Value} {params : Arguments} {body : Expr} {scope : Scope} {k i : Nat} {a : Str} {pn : List (Addr × Obj)} {xe : Value → Shared → Prop} {W : WX} {E : XK} {tb : TE} {p1 p2 : Pos}
    (I : Inv X pins σ H s) (L : LamX.LamS X.env.scope scope) (hf : s.heap.get? f = some (PySem.W.kla_obj "<lambda>" (X.env.qual ++ "<lambda>") params body scope (cloFrom X.env.cells scope.names []) pm c' ctv)) (hfn : H f = none) (hfr : f ∉ frs X.stack)
    (hbind : bindArgs (PySem.W.kla_fn "<lambda>" (X.env.qual ++ "<lambda>") params body scope (cloFrom X.env.cells scope.names []) pm (.ref c') ctv) ⟨[], []⟩ = pure [])
    (tk : Takes ((cxOf CX0 X.prog X.w X.K X.mg X.base Ng qg sg g cdg X.A X.stack s H E0).tr pn xe) W) (hW : ∀ cls d σ' H', E cls d H' → σ'.length = Ng.length → W cls d σ' H') (hr : Room (k + 1) (X.A.deeper (envOfC qg sg s.heap.objs.size g cdg))) (hgd : X.A.guards = some [])
    (hbody : ∀ (A : Around) (outer : List PySem.Env) (s : Shared) (H : Hp), Room k (A.deeper (LamX.lamEnv X scope s.heap.objs.size f c')) → A.guards = some [] → PE (LamX.lamCx X A outer s H E scope f c') body tb)
    (hN : Ng[i]? = some a) (hv : Vis sg a) (hd : (a == ("__debug__" : Str)) = false) (hcd : (a == ("__classdict__" : Str)) = false) :
    PE ((cxOf CX0 X.prog X.w X.K X.mg X.base Ng qg sg g cdg X.A X.stack s H E0).tr pn xe) (.Call (.Name a p1) [] [] p2) (fun τ HZ Q => τ[i]? = some (some (.ref f)) ∧ HZ c' = some (LamX.CodeO c' (X.env.qual ++ "<lambda>")) ∧ tb σ HZ Q) := by
  refine ⟨fun pz sz τ HZ Q IZ ⟨hs, hc, ht⟩ => wpAny_Call_Name_kw (thn ((pe_var (pos := p1) (i := i) hN hv hd hcd).run pz sz τ HZ (fun v H1 => v = .ref f ∧ H1 = HZ) IZ ⟨.ref f, hs, rfl, rfl⟩) fun u s1 ⟨v, H1, I1, r1, ev, eH⟩ => ?_)⟩
  subst ev eH
  obtain rfl : u = Value.ref f := r1
  have at1 := I1.base.keep f _ hf hfn hfr (fun z => nomatch (show f ∈ ([] : List Addr) from z))
  refine PySem.W.callWith_F0 ⟨_, _, _, _, at1⟩ ?_
  have un : Un (frs X.stack) [] H H1 s.heap s1.heap := I1.base
  obtain ⟨⟨oc, vs, t, hoc, hdc, hvc⟩, _, _⟩ := I1.hok c' _ hc
  have hx : Passes (L2.CX X.prog X.w) ((cxOf CX0 X.prog X.w X.K X.mg X.base Ng qg sg g cdg X.A X.stack s H E0).tr pn xe) E := passes_call (takes_len tk) fun cls d σ' H' h => fun hl => hW cls d σ' H' h hl
  have rc : codeAny (model X.prog X.w) (X.A.deeper (envOfC qg sg s.heap.objs.size g cdg)) (.call (.ref f) ⟨[], []⟩) (CR (L2.CX X.prog X.w) (envOfC qg sg s.heap.objs.size g cdg :: X.stack) X.prog X.w H1 s1 Q E) s1 := by
    refine PySem.W.kla_callFunE hr.depth at1 rfl L.co L.gen rfl ⟨c', oc, vs, t, rfl, hoc, hdc, hvc⟩ ?_
    rw [hbind]
    refine wpAny_pure (wpAny_newFunctionEnv (fun y hy => (L.own y hy).2) (fun y hy => absurd hy (by simp)) (fun h₁ hns hsb => ⟨I1.nolimit.fresh _ hsb, ?_⟩) L.kind)
    have kp : ∀ b o, s1.heap.get? b = some o → h₁.get? b = some o := fun b o e => hsb.extBut b o (Nat.ne_of_lt (Heap.lt_size e)) (Heap.get?_push_of_some _ e)
    have J : Inv (LamX.lamCx X (X.A.deeper (envOfC qg sg s.heap.objs.size g cdg)) (envOfC qg sg s.heap.objs.size g cdg :: X.stack) s1 H1 E scope f c') [] σ H1 { s1 with heap := h₁, toks := s1.toks + ([] : List (Str × Value)).length } :=
      LamX.lam_start2 I L I1.env0 hr.hd un hns kp
    show codeAny _ _ (.expr body (LamX.lamEnv X scope s1.heap.objs.size f c')) _ _
    refine PySem.W.kla_codeExpr (wpAny_mono ((hbody _ _ s1 H1 (hr.deeper _) hgd).run [] _ _ H1 Q J ht) (fun v s' ⟨w', H', J', rv, q⟩ => ⟨w', H', J'.os, J'.bare, J'.base, J'.hok, rv, q⟩) fun e s' hq => hq)
  refine wpAny_call (codeAny_mono rc fun r s' hq => ?_)
  cases r with
  | error e => exact hx pz τ H1 s1 e s' I1 hq
  | ok fl =>
    cases fl with
    | ret u => exact I1.after hq
    | next => exact hq.elim
    | brk => exact hq.elim
    | cont => exact hq.elim
end
theorem ofString_inj {f g : String} (h : Str.ofString f = Str.ofString g) : f = g := by
  have e := congrArg TL.tl h
  rw [TL.tl_ofString, TL.tl_ofString] at e
  have inj : ∀ {l m : List Char}, l.map Char.toNat = m.map Char.toNat → l = m := by
    intro l
    induction l with
    | nil => intro m h; cases m <;> simp at h ⊢
    | cons a l ih =>
      intro m h
      cases m with
      | nil => simp at h
      | cons b m =>
        simp only [List.map_cons, List.cons.injEq] at h
        rw [ih h.2]
        have : a = b := Char.ext (UInt32.toNat_inj.mp h.1)
        rw [this]
  exact String.toList_inj.mp (inj e)
theorem wfs_look {Y : Rt} {x : Wd} {fs : List (Str × V)} {ws : List (String × W)} (r : WFs Y x fs ws) {f : String} {w : W} (h : ws.lookup f = some w) : ∃ v, fs.lookup (Str.ofString f) = some v ∧ WV Y x v w := by
  induction r with
  | nil => simp at h
  | @cons g v u fs ws r _ ih =>
    rw [List.lookup_cons] at h ⊢
    by_cases e : f = g
    · subst e
      simp only [beq_self_eq_true] at h ⊢
      cases h
      exact ⟨v, rfl, r⟩
    · have e2 : (f == g) = false := by simpa using e
      have e3 : (Str.ofString f == Str.ofString g) = false := by
        simp only [beq_eq_false_iff_ne, ne_eq]
        exact fun z => e (ofString_inj z)
      rw [e2] at h
      rw [e3]
      exact ih h
/-- what a clause 'except c as e: return (word, e.value)' does -/
def tsVal (C : Addr) (word : List Nat) : TSu := fun a cls d => tRet (tTup (tCons (tC (.str (T word))) (tCons (tXf a cls d C "value" (tVar 1)) tNil)))
def hdsOf (G : Gd) (hs : List (String × List Nat × List String)) : List (Value × Nat × TSu) := hs.map fun q => (.ref (G.ca q.1), 1, tsVal (G.ca q.1) q.2.1)
def tEnd : TS := tRet (tTup (tCons (tC (.str (T []))) (tCons (tC .non) tNil)))
/-- the clauses' text -/
inductive HdT (G : Gd) (mg : Str → Option Value) (K : PySem.W.Frag) (sg : Scope) (Ng : List Str) : List ExceptHandler → List (String × List Nat × List String) → Prop
  | nil : HdT G mg K sg Ng [] []
  | cons {x nm z : Str} {c : String} {word : List Nat} {j1 k1 : Nat} {q1 q2 p1 p2 p3 p4 p5 : Pos} {hs : List ExceptHandler} {l : List (String × List Nat × List String)} (hx : sg.names.lookup x = some .globalImplicit) (dx : (x == ("__debug__" : Str)) = false) (hm : mg x = some (.ref (G.ca c)))
      (hn : sg.names.lookup nm = some .local) (h1 : Ng[1]? = some nm) (d1 : (nm == ("__debug__" : Str)) = false) (d2 : (nm == ("__classdict__" : Str)) = false) (hz : z = T word) (xf : XfC K (G.ca c)) (no : PySem.W.findIn K (.ref (G.ca c)) "value" = some none) (r : HdT G mg K sg Ng hs l) :
      HdT G mg K sg Ng (.ExceptHandler (some (.Name x q1)) (some nm) [.Return (some (.Tuple [.Constant (.str z) j1 p1, .Attribute (.Name nm p2) "value" p3] k1 p4)) p5] q2 :: hs) ((c, word, ["value"]) :: l)
theorem HdT.ok {G : Gd} {Z : Cx} : ∀ {hs : List ExceptHandler} {l : List (String × List Nat × List String)}, HdT G Z.mg Z.K Z.env.scope Z.N hs l → HdA Z hs (hdsOf G l)
  | _, _, .nil => .nil
  | _, _, .cons hx dx hm hn h1 d1 d2 hz xf no r => .cons h1 hn ⟨hx, dx, .inl hm⟩ (fun a oe cls d pn h2 h3 => by
      subst hz
      exact pss_one (ps_ret (pe_tup (pa_cons pe_str (pa_cons (pe_xf xf no h2 h3 (pe_var h1 (.inl hn) d1 d2)) pa_nil))))) (HdT.ok r)
/-- the def that tries a call, by its text -/
structure RefK (G : Gd) (X : Cx) (n : Str) (hs : List (String × List Nat × List String)) where
  g : Addr
  pg : Arguments
  sg : Scope
  Ng : List Str
  a : Str
  h0 : ExceptHandler
  hr : List ExceptHandler
  p1 : Pos
  p2 : Pos
  p3 : Pos
  p4 : Pos
  p5 : Pos
  p6 : Pos
  p7 : Pos
  p8 : Pos
  j1 : Nat
  j2 : Nat
  k1 : Nat
  mg : X.mg n = some (.ref g)
  kp : PySem.W.keepIn X.K (.ref g) = true
  fn : ∃ (oc : Value) (od : Option Addr) (dV kV doc pm : Value) (an : Option Addr) (cdv ct : Value) (osl : Array (Option Value)),
    X.K.lookup g = some ⟨oc, od, .func (PySem.W.fnOf n n pg [.Try [.Expr (.Call (.Name a p1) [] [] p2) p3] (h0 :: hr) [] [] p4, .Return (some (.Tuple [.Constant (.str (T [])) j1 p5, .Constant .none j2 p6] k1 p7)) p8] sg dV kV doc pm an cdv ct), osl⟩ ∧
      PySem.W.codeIn X.K cdv n = true ∧ L2.Binds X.K (PySem.W.fnOf n n pg [.Try [.Expr (.Call (.Name a p1) [] [] p2) p3] (h0 :: hr) [] [] p4, .Return (some (.Tuple [.Constant (.str (T [])) j1 p5, .Constant .none j2 p6] k1 p7)) p8] sg dV kV doc pm an cdv ct) [a] []
  sc : FnScope Ng [a] sg
  n0 : Ng[0]? = some a
  n2 : 1 < Ng.length
  va : Vis sg a
  d1 : (a == ("__debug__" : Str)) = false
  d2 : (a == ("__classdict__" : Str)) = false
  tx : HdT G X.mg X.K sg Ng (h0 :: hr) hs
  exm : ∀ q ∈ hs, ∀ r ∈ hs, PySem.W.exmOne X.K (.ref (G.ca q.1)) (.ref (G.ca r.1)) = some (decide (q.1 = r.1))
section
variable {G : Gd} {X : Cx} {Wx : WX} {P : Prog} {R : Fun1} {Φ : Call}
theorem handled_in {hs : List (String × List Nat × List String)} {e : Exn} {st : Sto} {w : W} (h : handled hs e st = some w) : ∃ q ∈ hs, q.1 = e.c := by
  induction hs with
  | nil => cases h
  | cons q r ih =>
    obtain ⟨c, word, fs⟩ := q
    by_cases hc : c = e.c
    · exact ⟨_, List.mem_cons_self, hc⟩
    · simp only [handled, if_neg hc] at h
      obtain ⟨q, h1, h2⟩ := ih h
      exact ⟨q, List.mem_cons_of_mem _ h1, h2⟩
theorem clauses_read {all : List (String × List Nat × List String)} {D : Ends} {Q : VK} {τ : L2.St} {yb : Wd} {cls : Value} {d : Option Addr} {e : Exn} {w : W} (hrt : D.rt = Q) (hlen : 1 < τ.length) (ex : ∀ q ∈ all, ∀ r ∈ all, PySem.W.exmOne X.K (.ref (G.ca q.1)) (.ref (G.ca r.1)) = some (decide (q.1 = r.1)))
    (S : SR (yof G X) yb) (r : ExR (yof G X) yb cls d e) (hin : ∃ q ∈ all, q.1 = e.c) (hone : ∀ q ∈ all, q.2.2 = ["value"]) (hQ : ∀ v y, Ext yb y → SR (yof G X) y → y.st = yb.st → WV (yof G X) y v w → Q v y.H) :
    ∀ hs : List (String × List Nat × List String), (∀ q ∈ hs, q ∈ all) → handled hs e yb.st = some w → wMA X.K (fun _ _ _ _ => False) D (hdsOf G hs) cls d τ yb.H
  | [], _, h => by cases h
  | (c, word, fs) :: rs, hsub, h => by
    obtain ⟨q0, hq0, hqc⟩ := hin
    obtain ⟨r1, dx, vs, r2, r3, r4, r5⟩ := r
    have hm := hsub _ List.mem_cons_self
    have hf : fs = ["value"] := hone _ hm
    have hx := ex q0 hq0 _ hm
    rw [hqc] at hx
    rw [← r1] at hx
    refine ⟨decide (e.c = c), hx, fun hb a ha => ?_, fun hb => ?_⟩
    · have hc : e.c = c := of_decide_eq_true hb
      subst hf
      simp only [handled, if_pos hc.symm] at h
      split at h
      · rename_i dv hl
        cases h
        obtain ⟨v, hv, rv⟩ := wfs_look r5 hl
        refine ⟨.ref a, by rw [List.getElem?_set_self hlen], rfl, by rw [r1, hc], dx, vs, v, r2, r3, hv, (by show 2 ≤ sizeLine; decide), fun p hp => ?_⟩
        obtain ⟨e2, S2, n2⟩ := Ext.new (o := .tup [.str (T word), v]) S hp (fun _ z => by cases z)
        show D.rt _ _
        rw [hrt]
        cases rv with
        | d rv => exact hQ _ _ e2 S2 rfl (.d (.tup (.inl ⟨.inl upd_same, n2⟩) (.cons (.str _) (.cons (e2.pv rv) .nil))))
      · cases h
    · have hc : ¬ c = e.c := fun z => by rw [z] at hb; simp at hb
      simp only [handled, if_neg hc] at h
      exact clauses_read hrt hlen ex S ⟨r1, dx, vs, r2, r3, r4, r5⟩ ⟨q0, hq0, hqc⟩ hone hQ rs (fun q hq => hsub q (List.mem_cons_of_mem _ hq)) h
theorem HdT.one {mg : Str → Option Value} {K : PySem.W.Frag} {sg : Scope} {Ng : List Str} {hs : List ExceptHandler} {l : List (String × List Nat × List String)} (h : HdT G mg K sg Ng hs l) : ∀ q ∈ l, q.2.2 = ["value"] := by
  induction h with
  | nil => intro q hq; cases hq
  | cons _ _ _ _ _ _ _ _ _ _ _ ih =>
    intro q hq
    rcases List.mem_cons.mp hq with z | z
    · rw [z]
    · exact ih q z
open Classical in
theorem fe_refused {k : Nat} {n : Str} {f : String} {hs : List (String × List Nat × List String)} {b : FM.E} {c P0 : Addr} {params : Arguments} {body : Expr} {scope : Scope} {p lpos pos : Pos} (F : RefK G X n hs) (hP : P.refused f = some hs) (hr : Room (k + 2) X.A) (hgd : X.A.guards = some [])
    (TB : LamX.TabB X.base X.mg c P0) (hcode : X.env.code = .ref c) (hmT : (P0, X.env.qual ++ "<lambda>") ∈ G.tabs) (hu : ∀ p ∈ G.tabs, p.1 = P0 → p.2 = X.env.qual ++ "<lambda>") (L : LamX.LamS X.env.scope scope)
    (hbody : ∀ (A : Around) (outer : List PySem.Env) (s : Shared) (H : Hp) (E : XK) (fl c' : Addr), Room k (A.deeper (LamX.lamEnv X scope s.heap.objs.size fl c')) → A.guards = some [] → FV G (LamX.lamCx X A outer s H E scope fl c') (wE E) P R Φ body b)
    (hbind : ∀ (q : Str) (cl : List (Str × Addr)) (pm cv ctv : Value), bindArgs (PySem.W.kla_fn "<lambda>" q params body scope cl pm cv ctv) ⟨[], []⟩ = pure [] := by intros; rfl) (hdef : defaultsOf params X.env = ([], []) := by rfl) (hg : Gl X n := by rfl) (hdb : (n == ("__debug__" : Str)) = false := by decide) :
    FV G X Wx P R Φ (.Call (.Name n p) [.Lambda params body scope lpos] [] pos) (.refused f b) := by
  refine ⟨fun pins s σ H Q I ⟨ρ, x, hx, S, En, h⟩ => ?_⟩
  subst hx
  rw [evE, hP] at h
  obtain ⟨oc, od, dV, kV, doc, pm, an, cdv, ct, osl, lk, hcg, hb⟩ := F.fn
  refine wpAny_Call_Name_kw (ld_glob I hg F.mg ?_ hdb)
  refine PySem.W.callWith_K (h₀ := X.base) I.ok.mod.kin F.kp ?_ (by rfl) (by rfl)
  show wpAny _ _ (spliced ((false, eval (.Lambda params body scope lpos) X.env) :: backTo pos (starEach [] X.env))) _ _ s
  refine Calls.spliced_cons (LamX.lam_make2 I TB hcode hmT hu S.tabs hdef (L.has I.ok) fun fl c' pm' ctv H1 s' I1 eN T1 hf hfn hfr hco => Calls.spliced_nil ⟨I1.kIn, ?_⟩)
  have ex : Ext x ⟨x.R, x.μ, x.st, H1⟩ := ⟨rfl, List.prefix_refl _, fun a o h t n => ⟨eN a o h t, n⟩, fun a o h t => ⟨o, eN a o h t, t⟩⟩
  have mv : Mv x ⟨x.R, x.μ, x.st, H1⟩ := ⟨List.prefix_refl _, fun a o h t n => ⟨eN a o h t, n⟩⟩
  have S1 : SR (yof G X) ⟨x.R, x.μ, x.st, H1⟩ := ⟨S.len, S.nd, fun a ha => by
      obtain ⟨o, h1, h2, h3⟩ := S.dom a ha
      exact ⟨o, eN a o h1 h2, h2, h3⟩, fun a ha => by
      obtain ⟨h0, o, h1, h2⟩ := S.res a ha
      exact ⟨h0, o, eN a o h1 h2, h2⟩, fun m a c h1 h2 => (S.cell m a c h1 h2).mv mv (fun o h t => eN a o h t), T1⟩
  have rc : codeAny (model X.prog X.w) X.A (.call (.ref F.g) ⟨[.ref fl], []⟩) (CR CX0 X.stack X.prog X.w H1 s' Q E0) s' := by
    refine LamX.run_ofS (N := F.Ng) (ps := [F.a]) (us := [.ref fl]) (vs := [.ref fl]) lk hcg F.sc hr I1.env0 (hb s' [.ref fl] I1.kIn rfl) (.cons rfl .nil) rfl fun hr' => ?_
    refine ⟨_, pss_cons (ps_try_ma (tb := fun W D τ HZ => ∃ Ech : XK, (∀ cls d σ' H', Ech cls d H' → σ'.length = F.Ng.length → W cls d σ' H') ∧ τ[0]? = some (some (.ref fl)) ∧ HZ c' = some (LamX.CodeO c' (X.env.qual ++ "<lambda>")) ∧ rd (yof G X) (wE Ech) (relW (yof G X)) (evE P R Φ b) σ HZ (fun _ H2 => D.nx τ H2)) rfl rfl F.sc.nd takes_none5
      (fun W pn xe tk hp => ⟨fun pz sz τ HZ D IZ ⟨Ech, hW, h1, h2, h3⟩ => ?_⟩) F.tx.ok) (pss_one (ps_ret (pe_tup (pa_cons pe_str (pa_cons pe_non pa_nil))))), ?_⟩
    · exact (pss_one (ps_expr (pos := F.p3) (act_g (i := 0) (p1 := F.p1) (p2 := F.p2) I1 L hf hfn hfr (hbind _ _ _ _ _) tk hW hr' hgd (fun A outer s H hr2 hg2 => hbody A outer s H Ech fl c' hr2 hg2) F.n0 F.va F.d1 F.d2) rfl)).run pz sz τ HZ D IZ ⟨h1, h2, h3⟩
    · have l0 : (L2.start F.Ng [V.ref fl])[0]? = some (some (V.ref fl)) := by simp [L2.start]
      refine ⟨fun cls d H' => ∀ σ' : L2.St, σ'.length = F.Ng.length → wMA X.K (fun _ _ _ _ => False) _ (hdsOf G hs) cls d σ' H', fun cls d σ' H' h hl => h σ' hl, l0, hco, ρ, ⟨x.R, x.μ, x.st, H1⟩, rfl, S1, En.ext ex, ?_⟩
      show rpost _ _ _ _ _ _ (evE P R Φ b ρ x.st)
      cases hr2 : evE P R Φ b ρ x.st with
      | bad => rw [hr2] at h; exact h
      | ok w st' =>
        rw [hr2] at h
        intro v y ey Sy hy rv
        subst hy
        have h : rpost (yof G X) Wx σ x (relW (yof G X)) Q (match some hs, (if x.st.length ≤ y.st.length ∧ okOld x.st y.st then Res.ok noneW (y.st.take x.st.length) else .bad : Res W) with
          | some _, .ok _ st' => .ok (.d (.tuple [dStr [], .none])) st'
          | some hs, .exn x st' => Res.of (handled hs x st') st'
          | _, _ => .bad) := h
        split at h
        · rename_i heq
          split at heq
          · rename_i ht
            cases heq
            obtain ⟨hl, ho⟩ := ht
            obtain ⟨eb, Sb⟩ := back_ok ey S1 Sy hl (old_below S1 ho)
            refine ⟨by show 2 ≤ sizeLine; decide, fun p hp => ?_⟩
            obtain ⟨e2, S2, n2⟩ := Ext.new (o := .tup [.str (T []), .non]) Sb hp (fun _ z => by cases z)
            exact h (.ref p) _ (ex.trans (eb.trans e2)) S2 rfl (.d (.tup (.inl ⟨.inl upd_same, n2⟩) (.cons (.str _) (.cons .none .nil))))
          · cases heq
        · rename_i heq
          split at heq <;> cases heq
        · exact h.elim
      | exn e st' =>
        rw [hr2] at h
        intro cls d y ey Sy hy rx σ' hl'
        subst hy
        have h : rpost (yof G X) Wx σ x (relW (yof G X)) Q (match some hs, (if x.st.length ≤ y.st.length ∧ okOld x.st y.st then (match frzF x.st.length y.st e.fs with
            | some fs => .exn ⟨e.c, fs⟩ (y.st.take x.st.length)
            | none => .bad) else .bad : Res W) with
          | some _, .ok _ st' => .ok (.d (.tuple [dStr [], .none])) st'
          | some hs, .exn x st' => Res.of (handled hs x st') st'
          | _, _ => .bad) := h
        by_cases ht : x.st.length ≤ y.st.length ∧ okOld x.st y.st
        · rw [if_pos ht] at h
          obtain ⟨hl, ho⟩ := ht
          obtain ⟨eb, Sb⟩ := back_ok ey S1 Sy hl (old_below S1 ho)
          cases hz : frzF x.st.length y.st e.fs with
          | none => rw [hz] at h; exact h.elim
          | some fs =>
            rw [hz] at h
            have h : rpost (yof G X) Wx σ x (relW (yof G X)) Q (Res.of (handled hs ⟨e.c, fs⟩ (y.st.take x.st.length)) (y.st.take x.st.length)) := h
            cases hh : handled hs ⟨e.c, fs⟩ (y.st.take x.st.length) with
            | none => rw [hh] at h; exact h.elim
            | some w =>
              rw [hh] at h
              obtain ⟨r1, dx, vs, r2, r3, r4, r5⟩ := rx
              exact clauses_read (e := ⟨e.c, fs⟩) (yb := back ⟨x.R, x.μ, x.st, H1⟩ y) (Q := Q) rfl (by rw [hl']; exact F.n2) F.exm Sb ⟨r1, dx, vs, r2, r3, back_nl ey hl r4, back_frzF ey S1 Sy hl r5 hz⟩ (handled_in hh) F.tx.one (fun v z ez Sz hzs rv => h v z (ex.trans (eb.trans ez)) Sz hzs rv) hs (fun q hq => hq) hh
        · rw [if_neg ht] at h
          exact h.elim
  refine wpAny_call (codeAny_mono rc fun r s2 hq => ?_)
  cases r with
  | error e => exact (show False from hq).elim
  | ok fl =>
    cases fl with
    | ret u => exact I1.after hq
    | next => exact hq.elim
    | brk => exact hq.elim
    | cont => exact hq.elim
end
end FM
end

section
/-! FM18: what a derivation of a def's text leans on. -/
set_option Elab.async false
set_option linter.all false
set_option maxRecDepth 100000
set_option autoImplicit false
set_option maxHeartbeats 1000000
namespace FM
open PySem PySem.Spec PyProof.Rows L2
structure Cxt (G : Gd) (X : Cx) (P : Prog) (Φ : Call) (k : Nat) (tb : List (Str × String × Nat)) (ci : List (Str × Int)) (cs : List (Str × List Nat)) (ex : List (Str × String)) : Prop where
  hr : Room k X.A
  k2 : 2 ≤ k
  hgd : X.A.guards = some []
  hc : X.calm = true
  nd : X.N.Nodup
  B : BltN X.mg
  fns : ∀ (i : Nat) (q : Str × String × Nat), tb[i]? = some q → FnK G X Φ k q.1 q.2.1 q.2.2
  nI : ∀ (i : Nat) (q : Str × Int), ci[i]? = some q → ∃ t, X.mg q.1 = some (.int q.2 t)
  nS : ∀ (i : Nat) (q : Str × List Nat), cs[i]? = some q → ∃ t, X.mg q.1 = some (.str (T q.2) t)
  exs : ∀ (i : Nat) (q : Str × String), ex[i]? = some q → ExK G X q.1 q.2 ∧ P.exc q.2 = some 1
section
variable {G : Gd} {X : Cx} {E : XK} {Wx : WX} {P : Prog} {R : Fun1} {Φ : Call} {k : Nat} {tb : List (Str × String × Nat)} {ci : List (Str × Int)} {cs : List (Str × List Nat)} {ex : List (Str × String)}
theorem Cxt.blk {s : Shared} {H : Hp} {scope : Scope} {env : PySem.Env} {fp : List Addr} (C : Cxt G X P Φ k tb ci cs ex) : Cxt G (X.blk s H scope env fp) P Φ k tb ci cs ex :=
  ⟨C.hr, C.k2, C.hgd, C.hc, C.nd, C.B, fun i q h => let F := C.fns i q h; ⟨F.mg, F.kp, F.ok, F.ar⟩, C.nI, C.nS, fun i q h => let ⟨K, h2⟩ := C.exs i q h; ⟨⟨K.T, K.no, K.mg, K.init⟩, h2⟩⟩
theorem Cxt.lam {A : Around} {outer : List PySem.Env} {s : Shared} {H : Hp} {scope : Scope} {fl c' : Addr} (C : Cxt G X P Φ k tb ci cs ex) (hr : Room k (A.deeper (LamX.lamEnv X scope s.heap.objs.size fl c'))) (hg : A.guards = some []) : Cxt G (LamX.lamCx X A outer s H E scope fl c') P Φ k tb ci cs ex :=
  ⟨hr, C.k2, hg, rfl, C.nd, C.B, fun i q h => let F := C.fns i q h; ⟨F.mg, F.kp, F.ok, F.ar⟩, C.nI, C.nS, fun i q h => let ⟨K, h2⟩ := C.exs i q h; ⟨⟨K.T, K.no, K.mg, K.init⟩, h2⟩⟩
theorem Cxt.hu (C : Cxt G X P Φ k tb ci cs ex) : X.A.units + 66 < cLine := by
  have := C.hr.un
  omega
variable {e e1 e2 e3 : Expr} {a b c : FM.E} {es : List Expr} {as : Es} {n : Str} {p pos : Pos}
theorem fe_gi {f : String} {i : Nat} {j : Int} (C : Cxt G X P Φ k tb ci cs ex) (hi : ci[i]? = some (n, j)) (hP : P.glob f = some (.d (.int j))) (hg : Gl X n := by rfl) (hd : (n == ("__debug__" : Str)) = false := by decide) : FV G X Wx P R Φ (.Name n pos) (.glob f) := by
  obtain ⟨t, ht⟩ := C.nI i _ hi
  exact fe_glob (v := .int j) hg ht ⟨t, rfl⟩ hP (fun x _ => .d (.int j)) hd
theorem fe_gs {f : String} {i : Nat} {j : List Nat} (C : Cxt G X P Φ k tb ci cs ex) (hi : cs[i]? = some (n, j)) (hP : P.glob f = some (.d (dStr j))) (hg : Gl X n := by rfl) (hd : (n == ("__debug__" : Str)) = false := by decide) : FV G X Wx P R Φ (.Name n pos) (.glob f) := by
  obtain ⟨t, ht⟩ := C.nS i _ hi
  exact fe_glob (v := .str (T j)) hg ht ⟨t, rfl⟩ hP (fun x _ => .d (.str (T j))) hd
theorem xe_call {f : String} {m : Nat} {a1 : FM.E} (i : Nat) (C : Cxt G X P Φ k tb ci cs ex) (tk : Takes X (wE E)) (ha : FL G X (wE E) P R Φ (e1 :: es) (.cons a1 as)) (hi : tb[i]? = some (n, f, m) := by rfl) (hg : Gl X n := by rfl) (hdb : (n == ("__debug__" : Str)) = false := by decide)
    (he : starEach (e1 :: es) X.env = (false, eval e1 X.env) :: starEach es X.env := by rfl) (hpl : (backTo pos (starEach es X.env)).any (·.1) = false := by rfl) : FV G X (wE E) P R Φ (.Call (.Name n p) (e1 :: es) [] pos) (.call f (.cons a1 as)) := fe_call (C.fns i _ hi) C.hr C.hgd tk ha hg hdb he hpl
theorem xs_raise {cc : String} (i : Nat) {cpos : Pos} (C : Cxt G X P Φ k tb ci cs ex) (tk : Takes X (wE E)) (ha : FV G X (wE E) P R Φ e a) (hi : ex[i]? = some (n, cc) := by rfl) (hg : Gl X n := by rfl) (hdb : (n == ("__debug__" : Str)) = false := by decide) (hs : starEach [e] X.env = [(false, eval e X.env)] := by rfl) :
    FS G X (wE E) P R Φ (.Raise (some (.Call (.Name n p) [e] [] cpos)) none pos) (.raise cc (.cons a .nil)) := fs_raise (C.exs i _ hi).1 (C.exs i _ hi).2 (C.hr.mono C.k2) C.hc tk ha hg hdb hs
/-! builtins -/
theorem xe_len (B : BltN X.mg) (ha : FV G X Wx P R Φ e a) (hg : Gl X "len" := by rfl) (hs : starEach [e] X.env = [(false, eval e X.env)] := by rfl) : FV G X Wx P R Φ (.Call (.Name "len" p) [e] [] pos) (.b1 .len a) := fe_bb cb_len boot_len (B.no _ (by decide)) hg (by decide) (by decide) ha hs
theorem xe_int (B : BltN X.mg) (ha : FV G X Wx P R Φ e a) (hg : Gl X "int" := by rfl) (hs : starEach [e] X.env = [(false, eval e X.env)] := by rfl) : FV G X Wx P R Φ (.Call (.Name "int" p) [e] [] pos) (.b1 .int a) := fe_bt cb_int PyProof.Rows.boot_int (B.no _ (by decide)) hg (by decide) (by decide) ha hs
theorem xe_tuple (B : BltN X.mg) (ha : FV G X Wx P R Φ e a) (hg : Gl X "tuple" := by rfl) (hs : starEach [e] X.env = [(false, eval e X.env)] := by rfl) : FV G X Wx P R Φ (.Call (.Name "tuple" p) [e] [] pos) (.b1 .tuple a) := fe_bt cb_tuple boot_tuple (B.no _ (by decide)) hg (by decide) (by decide) ha hs
theorem xe_ord (B : BltN X.mg) (ha : FV G X Wx P R Φ e a) (hg : Gl X "ord" := by rfl) (hs : starEach [e] X.env = [(false, eval e X.env)] := by rfl) : FV G X Wx P R Φ (.Call (.Name "ord" p) [e] [] pos) (.b1 .ord a) := fe_bb cb_ord boot_ord (B.no _ (by decide)) hg (by decide) (by decide) ha hs
theorem xe_abs (B : BltN X.mg) (ha : FV G X Wx P R Φ e a) (hg : Gl X "abs" := by rfl) (hs : starEach [e] X.env = [(false, eval e X.env)] := by rfl) : FV G X Wx P R Φ (.Call (.Name "abs" p) [e] [] pos) (.b1 .abs a) := fe_bb cb_abs boot_abs (B.no _ (by decide)) hg (by decide) (by decide) ha hs
theorem xe_all (B : BltN X.mg) (hc : X.calm = true) (ha : FV G X Wx P R Φ e a) (hg : Gl X "all" := by rfl) (hs : starEach [e] X.env = [(false, eval e X.env)] := by rfl) : FV G X Wx P R Φ (.Call (.Name "all" p) [e] [] pos) (.b1 .all a) := fe_bb (cb_all hc) boot_all (B.no _ (by decide)) hg (by decide) (by decide) ha hs
theorem xe_any (B : BltN X.mg) (hc : X.calm = true) (ha : FV G X Wx P R Φ e a) (hg : Gl X "any" := by rfl) (hs : starEach [e] X.env = [(false, eval e X.env)] := by rfl) : FV G X Wx P R Φ (.Call (.Name "any" p) [e] [] pos) (.b1 .any a) := fe_bb (cb_any hc) boot_any (B.no _ (by decide)) hg (by decide) (by decide) ha hs
theorem xe_sum (B : BltN X.mg) (hc : X.calm = true) (ha : FV G X Wx P R Φ e a) (hg : Gl X "sum" := by rfl) (hs : starEach [e] X.env = [(false, eval e X.env)] := by rfl) : FV G X Wx P R Φ (.Call (.Name "sum" p) [e] [] pos) (.b1 .sum a) := fe_bb (cb_sum hc) boot_sum (B.no _ (by decide)) hg (by decide) (by decide) ha hs
theorem xe_repr (B : BltN X.mg) (hgd : X.A.guards = some []) (hu : X.A.units + 66 < cLine) (ha : FV G X Wx P R0 Φ e a) (hg : Gl X "repr" := by rfl) (hs : starEach [e] X.env = [(false, eval e X.env)] := by rfl) : FV G X Wx P R0 Φ (.Call (.Name "repr" p) [e] [] pos) (.b1 .repr a) := fe_bb (cb_repr hgd hu) boot_repr (B.no _ (by decide)) hg (by decide) (by decide) ha hs
theorem ty_int (B : BltN X.mg) (hg : Gl X "int" := by rfl) : TyNm X (.Name "int" p) .int := tyNm hg (B.no _ (by decide)) PyProof.Rows.boot_int
theorem ty_str (B : BltN X.mg) (hg : Gl X "str" := by rfl) : TyNm X (.Name "str" p) .str := tyNm hg (B.no _ (by decide)) boot_str
theorem ty_bool (B : BltN X.mg) (hg : Gl X "bool" := by rfl) : TyNm X (.Name "bool" p) .bool := tyNm hg (B.no _ (by decide)) boot_bool
theorem ty_list (B : BltN X.mg) (hg : Gl X "list" := by rfl) : TyNm X (.Name "list" p) .list := tyNm hg (B.no _ (by decide)) boot_list
theorem ty_tuple (B : BltN X.mg) (hg : Gl X "tuple" := by rfl) : TyNm X (.Name "tuple" p) .tuple := tyNm hg (B.no _ (by decide)) boot_tuple
theorem ty_dict (B : BltN X.mg) (hg : Gl X "dict" := by rfl) : TyNm X (.Name "dict" p) .dict := tyNm hg (B.no _ (by decide)) boot_dict
theorem xe_isi1 {t : Ty} (B : BltN X.mg) (ha : FV G X Wx P R Φ e a) (ht : TyNm X e2 t) (hg : Gl X "isinstance" := by rfl) (hs : starEach [e, e2] X.env = (false, eval e X.env) :: starEach [e2] X.env := by rfl) (hs2 : (backTo pos (starEach [e2] X.env)).any (·.1) = false := by rfl) :
    FV G X Wx P R Φ (.Call (.Name "isinstance" p) [e, e2] [] pos) (.isi a [t]) := fe_isi1 hg (B.no _ (by decide)) ha ht hs hs2
theorem xe_isi2 {t u : Ty} {x1 : Nat} {tp : Pos} (B : BltN X.mg) (ha : FV G X Wx P R Φ e a) (ht : TyNm X e2 t) (hu : TyNm X e3 u) (hg : Gl X "isinstance" := by rfl) (hs : starEach [e, .Tuple [e2, e3] x1 tp] X.env = (false, eval e X.env) :: starEach [.Tuple [e2, e3] x1 tp] X.env := by rfl) :
    FV G X Wx P R Φ (.Call (.Name "isinstance" p) [e, .Tuple [e2, e3] x1 tp] [] pos) (.isi a [t, u]) := fe_isi2 hg (B.no _ (by decide)) ha ht hu hs
theorem xi_rng1 {tg : Expr} (B : BltN X.mg) (ha : FV G X Wx P R Φ e a) (hg : Gl X "range" := by rfl) (hs : starEach [e] X.env = [(false, eval e X.env)] := by rfl) : FI G X Wx P R Φ tg (.Call (.Name "range" p) [e] [] pos) (.rng1 a) := fi_rng1 hg (B.no _ (by decide)) ha hs
theorem xi_rng2 {tg : Expr} (B : BltN X.mg) (ha : FV G X Wx P R Φ e1 a) (hb : FV G X Wx P R Φ e2 b) (hg : Gl X "range" := by rfl) (hs : starEach [e1, e2] X.env = [(false, eval e1 X.env), (false, eval e2 X.env)] := by rfl) (hs2 : starEach [e2] X.env = [(false, eval e2 X.env)] := by rfl) :
    FI G X Wx P R Φ tg (.Call (.Name "range" p) [e1, e2] [] pos) (.rng2 a b) := fi_rng2 hg (B.no _ (by decide)) ha hb hs hs2
/-! a + b, a new list -/
theorem lst_of {x : Wd} (S : SR (yof G X) x) {v : V} {w : W} {ws : List W} (r : WV (yof G X) x v w) (h : lstW x.st w = some ws) : ∃ p vs, v = .ref p ∧ Rd x.H p (.lst vs) ∧ WVs (yof G X) x vs ws := by
  cases r with
  | @d _ d r =>
    cases d <;> simp only [lstW, reduceCtorEq] at h
    cases h
    cases r with
    | lst h1 h2 => exact ⟨_, _, rfl, h1.1, h2.wvs⟩
  | @ref n p hn =>
    simp only [lstW] at h
    split at h
    · rename_i l hc
      cases h
      obtain ⟨vs, hH, rs⟩ := S.cell _ _ _ hn hc
      exact ⟨p, vs, rfl, .inl hH, rs⟩
    · cases h
  | fn f => cases h
theorem ff_cat (ha : FV G X Wx P R Φ e1 a) (hb : FV G X Wx P R Φ e2 b) : FF G X Wx P R Φ (.BinOp e1 .Add e2 pos) (.cat a b) := by
  refine (pe_op op_catR ha hb).imp fun σ H Q ⟨ρ, x, hx, S, En, h⟩ => ?_
  rw [evF] at h
  refine ⟨ρ, x, hx, S, En, rpostF_bind h fun v y w e1 Sy r h2 => ⟨ρ, y, rfl, Sy, En.ext e1, rpostF_bind h2 fun u z w2 e2 Sz r2 h3 => ?_⟩⟩
  split at h3
  · rename_i us vs h4 h5
    split at h3
    · rename_i hz
      obtain ⟨p1, v1, rfl, hp1, rs1⟩ := lst_of Sz (e2.wv r) h4
      obtain ⟨p2, v2, rfl, hp2, rs2⟩ := lst_of Sz r2 h5
      refine ⟨p1, p2, v1, v2, rfl, rfl, hp1, hp2, by rw [rs1.length, rs2.length, ← SZ_eq]; exact hz, fun q hq => ?_⟩
      obtain ⟨e4, m4, S4⟩ := new_res (o := .lst (v1 ++ v2)) Sz hq (fun _ z => by cases z)
      exact h3 _ q (.inl (v1 ++ v2)) e4 S4 rfl (NT.of hq) upd_same (Sz.fresh hq) ((m4.wvs rs1).append (m4.wvs rs2))
    · exact h3.elim
  · exact h3.elim
end
/-! ### the base class of the exceptions -/
theorem folk_init {P : Program} {w : World} {K : PySem.W.Frag} {mg : Str → Option Value} {base : Heap} {qual : Str} {pr : Arguments} {scope : Scope} {dvs : List V} {kws : List (Str × V)} {f : Addr} {fd : FuncData} {p1 p2 p3 p4 : Pos}
    (F : FunD K "__init__" qual pr [.Assign [.Attribute (.Name "self" p1) "value" p2] (.Name "value" p3) p4] scope dvs kws f fd) (S : FnScope ["self", "value"] ["self", "value"] scope) (h1 : scope.names.lookup ("self" : Str) = some .local) (h2 : scope.names.lookup ("value" : Str) = some .local) : FnOk P w K mg base CX0 1 f fd ["self", "value"] (spI K) := by
  refine F.ok S (fun vs H Q E ⟨a, C, v, h, _⟩ => by rw [h]; rfl) fun cdv A outer s H vs Q E hr ⟨a, C, v, hvs, T, no, ha, k⟩ => ⟨_, pss_one (ps_ost (pe_var (i := 0) rfl (.inl h1) (by decide) (by decide)) (pe_var (i := 1) rfl (.inl h2) (by decide) (by decide))), ?_⟩
  subst hvs
  exact ⟨v, rfl, .ref a, rfl, a, C, rfl, T, no, .inl ⟨ha, k⟩⟩
end FM
end

section
/-! FM19: from the head's facts to the law's end. -/
set_option Elab.async false
set_option linter.all false
set_option maxRecDepth 100000
set_option autoImplicit false
set_option maxHeartbeats 1000000
namespace FM
open PySem PySem.Spec PyProof.Rows L2
/-- what is known of a def by its text's place alone -/
structure FnB (G : Gd) (K : PySem.W.Frag) (mg : Str → Option Value) (n : Str) (f : String) (fd : FuncData) (ps : List Str) : Prop where
  gl : mg n = some (.ref (G.fa f))
  kp : PySem.W.keepIn K (.ref (G.fa f)) = true
  b : L2.Binds K fd ps []
/-- .. and what it promises -/
structure FnT (G : Gd) (P : Program) (w : World) (K : PySem.W.Frag) (mg : Str → Option Value) (base : Heap) (Φ : Call) (k : Nat) (n : Str) (f : String) (m : Nat) : Prop where
  gl : mg n = some (.ref (G.fa f))
  kp : PySem.W.keepIn K (.ref (G.fa f)) = true
  ok : ∃ fd ps, ps.length = m ∧ FnG P w K mg base k (G.fa f) fd ps (spF ⟨P, w, K, G.fa, G.ca, G.tabs⟩ Φ f m) ∧ L2.Binds K fd ps []
  ar : ∀ ws st, ws.length ≠ m → Φ f ws st = .bad
section
variable {G : Gd} {P : Program} {w : World} {K : PySem.W.Frag} {mg : Str → Option Value} {base : Heap}
theorem FnT.zero {EP : Prog} {R : Fun1} {k : Nat} {n : Str} {f : String} {fd : FuncData} {ps : List Str} (B : FnB G K mg n f fd ps) : FnT G P w K mg base (callD EP R 0) k n f ps.length :=
  ⟨B.gl, B.kp, ⟨fd, ps, rfl, ⟨fun vs H Q E h => h.1, fun A outer s H args us vs Q E _ _ _ _ _ ⟨_, x, ws, _, _, _, h⟩ => h.elim⟩, B.b⟩, fun ws st _ => rfl⟩
theorem FnG.succ {EP : Prog} {R : Fun1} {j : Nat} {x qual : Str} {pr : Arguments} {body : List Stmt} {scope : Scope} {dvs : List V} {kws : List (Str × V)} {f : String} {fd : FuncData} {k : Nat} {N ps : List Str} {fn : Fn}
    (F : FunD K x qual pr body scope dvs kws (G.fa f) fd) (S : FnScope N ps scope) (hN : N.length = fn.slots) (hp : ps.length = fn.params) (hm : fn.mode ≠ .obj) (hf : EP.fn f = some fn)
    (hbody : ∀ (cdv : Value) (A : Around) (outer : List PySem.Env) (s : Shared) (H : Hp) (E : XK), Room k (A.deeper (envOfC qual scope s.heap.objs.size (G.fa f) cdv)) → A.guards = some [] → fd.code = cdv →
      FSs G (cxOf (L2.CX P w) P w K mg base N qual scope (G.fa f) cdv A outer s H E) (wE E) EP R (callD EP R j) body fn.body) : FnG P w K mg base (k + 1) (G.fa f) fd ps (spF ⟨P, w, K, G.fa, G.ca, G.tabs⟩ (callD EP R (j + 1)) f fn.params) := by
  have hΦ : callD EP R (j + 1) f = runFn EP R (callD EP R j) fn := by
    funext ws st
    simp [callD, hf]
  have q := fn_ok (P := P) (w := w) (mg := mg) (base := base) F S hN hp hm hbody
  rwa [spF_congr (Φ' := callD EP R (j + 1)) (by rw [hΦ]; simp)] at q
theorem FnT.succ {EP : Prog} {R : Fun1} {j : Nat} {n x qual : Str} {pr : Arguments} {body : List Stmt} {scope : Scope} {dvs : List V} {kws : List (Str × V)} {f : String} {fd : FuncData} {k : Nat} {N ps : List Str} {fn : Fn}
    (B : FnB G K mg n f fd ps) (F : FunD K x qual pr body scope dvs kws (G.fa f) fd) (S : FnScope N ps scope) (hN : N.length = fn.slots) (hp : ps.length = fn.params) (hm : fn.mode ≠ .obj) (hf : EP.fn f = some fn)
    (hbody : ∀ (cdv : Value) (A : Around) (outer : List PySem.Env) (s : Shared) (H : Hp) (E : XK), Room k (A.deeper (envOfC qual scope s.heap.objs.size (G.fa f) cdv)) → A.guards = some [] → fd.code = cdv →
      FSs G (cxOf (L2.CX P w) P w K mg base N qual scope (G.fa f) cdv A outer s H E) (wE E) EP R (callD EP R j) body fn.body) : FnT G P w K mg base (callD EP R (j + 1)) (k + 1) n f fn.params :=
  ⟨B.gl, B.kp, ⟨fd, ps, hp, FnG.succ F S hN hp hm hf hbody, B.b⟩, fun ws st h => by
    have hΦ : callD EP R (j + 1) f = runFn EP R (callD EP R j) fn := by
      funext ws st
      simp [callD, hf]
    rw [hΦ]
    unfold runFn
    rw [if_neg h]⟩
end
/-! ### what the head says of the exceptions -/
def cK (K : PySem.W.Frag) (c : String) : Addr := He.ga K (Str.ofString c)
def oexB (K : PySem.W.Frag) (C : Addr) : Bool := match K.lookup C with
  | some ⟨.type "type", _, .cls cd, sl⟩ => (match cd.mro, sl.toList with
    | .ref C' :: bm, [_, _, _, _, some (.builtin nn), _] => decide (C' = C) && (decide (nn = "ValueError.__new__") && (!cd.hasDel && (cd.hasDict && PySem.HandSPX.refsVE bm)))
    | _, _ => false)
  | _ => false
theorem oexB_ok {K : PySem.W.Frag} {C : Addr} (h : oexB K C = true) : ∃ nm q N bs bm sn sub ab col dd k0 k1 k2 k3 k5, K.lookup C = some (excClassObj nm q C N bs bm true sn sub ab col dd k0 k1 k2 k3 k5 "ValueError.__new__") ∧ PySem.HandSPX.refsVE bm = true := by
  unfold oexB at h
  split at h
  · rename_i dd cd sl ho
    split at h
    · rename_i C' bm k0 k1 k2 k3 nn k5 hm hs
      simp only [Bool.and_eq_true, decide_eq_true_eq, Bool.not_eq_true'] at h
      obtain ⟨rfl, rfl, h3, h4, h5⟩ := h
      obtain ⟨nm, bs, mro, ns, qn, hd, sn, sub, ab, col, del⟩ := cd
      dsimp only at hm h3 h4
      subst hm h3 h4
      obtain ⟨l⟩ := sl
      simp only at hs
      subst hs
      exact ⟨nm, qn, ns, bs, bm, sn, sub, ab, col, dd, k0, k1, k2, k3, k5, ho, h5⟩
    · cases h
  · cases h
def ex1B (K : PySem.W.Frag) (C : Addr) : Bool := oexB K C && (xfB K C && (decide (PySem.W.findIn K (.ref C) "__setattr__" = some (some (.builtin "object.__setattr__"))) && (decide (PySem.W.typeIn K (.ref C) = some (.type "type")) && (PySem.W.keepIn K (.ref C) &&
  (decide (PySem.W.findIn K (.ref C) "value" = some none) && (decide (PySem.W.findIn K (.ref C) "__init__" = some (some (.ref (He.ma K (He.ga K "FolkError") "__init__")))) && decide (PySem.W.typeIn K (.ref (He.ma K (He.ga K "FolkError") "__init__")) = some (.type "function"))))))))
structure Ex1 (K : PySem.W.Frag) (C : Addr) : Prop where
  T : OexC K C
  xf : XfC K C
  no : PySem.W.findIn K (.ref C) "value" = some none
  i1 : PySem.W.findIn K (.ref C) "__init__" = some (some (.ref (He.ma K (He.ga K "FolkError") "__init__")))
  i2 : PySem.W.typeIn K (.ref (He.ma K (He.ga K "FolkError") "__init__")) = some (.type "function")
theorem ex1B_ok {K : PySem.W.Frag} {C : Addr} (h : ex1B K C = true) : Ex1 K C := by
  simp only [ex1B, Bool.and_eq_true, decide_eq_true_eq] at h
  obtain ⟨h1, h2, h3, h4, h5, h6, h7, h8⟩ := h
  have x := xfB_ok h2
  exact ⟨⟨oexB_ok h1, h3, x.exC, h4, h5⟩, x, h6, h7, h8⟩
def excB (K : PySem.W.Frag) (l : List (Str × String)) : Bool := (l.all fun q => ex1B K (cK K q.2)) && l.all fun q => l.all fun r => decide (PySem.W.exmOne K (.ref (cK K q.2)) (.ref (cK K r.2)) = some (decide (q.2 = r.2)))
theorem excB_1 {K : PySem.W.Frag} {l : List (Str × String)} (h : excB K l = true) {q : Str × String} (hq : q ∈ l) : Ex1 K (cK K q.2) := by
  simp only [excB, Bool.and_eq_true, List.all_eq_true] at h
  exact ex1B_ok (h.1 q hq)
theorem excB_2 {K : PySem.W.Frag} {l : List (Str × String)} (h : excB K l = true) {q r : Str × String} (hq : q ∈ l) (hr : r ∈ l) : PySem.W.exmOne K (.ref (cK K q.2)) (.ref (cK K r.2)) = some (decide (q.2 = r.2)) := by
  simp only [excB, Bool.and_eq_true, List.all_eq_true, decide_eq_true_eq] at h
  exact h.2 q hq r hr
/-- the head's facts of a law of this kind -/
def faOf (glo : List Str) (ci : List (Str × Int)) (cs : List (Str × List Nat)) : List He.Fa := glo.map .glo ++ (bnames.map .free ++ (ci.map (fun q => .int q.1 q.2) ++ cs.map fun q => .str q.1 (T q.2)))
section
variable {glo : List Str} {ci : List (Str × Int)} {cs : List (Str × List Nat)} {fn : List He.DefD} {K : PySem.W.Frag} {h : Heap} {mg : Str → Option Value}
theorem head_glo (c : He.SaysD (faOf glo ci cs) fn K) (X : K.In h) (Gn : h.Ns mainGlobals mg) {x : Str} (hx : x ∈ glo) : mg x = some (.ref (He.ga K x)) := He.glo_ok X Gn (c.facts (List.mem_append_left _ (List.mem_map_of_mem hx)))
theorem head_blt (c : He.SaysD (faOf glo ci cs) fn K) (X : K.In h) (Gn : h.Ns mainGlobals mg) : BltN mg := ⟨fun n hn => He.free_ok X Gn (c.facts (List.mem_append_right _ (List.mem_append_left _ (List.mem_map_of_mem hn))))⟩
theorem head_int (c : He.SaysD (faOf glo ci cs) fn K) (X : K.In h) (Gn : h.Ns mainGlobals mg) (i : Nat) (q : Str × Int) (hq : ci[i]? = some q) : ∃ t, mg q.1 = some (.int q.2 t) :=
  He.int_ok X Gn (c.facts (List.mem_append_right _ (List.mem_append_right _ (List.mem_append_left _ (List.mem_map.mpr ⟨q, List.mem_of_getElem? hq, rfl⟩)))))
theorem head_str (c : He.SaysD (faOf glo ci cs) fn K) (X : K.In h) (Gn : h.Ns mainGlobals mg) (i : Nat) (q : Str × List Nat) (hq : cs[i]? = some q) : ∃ t, mg q.1 = some (.str (T q.2) t) :=
  He.str_ok X Gn (c.facts (List.mem_append_right _ (List.mem_append_right _ (List.mem_append_right _ (List.mem_map.mpr ⟨q, List.mem_of_getElem? hq, rfl⟩)))))
end
/-! ### the law's end -/
/-- the script alone is known -/
theorem sr_start {Y : Rt} {H : Hp} (hT : LamX.Tabs Y.tabs H) : SR Y ⟨[], [], [], H⟩ := ⟨rfl, List.nodup_nil, (fun a h => nomatch h), (fun a h => nomatch h), (fun n a c h _ => by simp at h), hT⟩
def noLst (K : PySem.W.Frag) : Bool := K.all fun q => !decide (q.2.cls = .type "list")
theorem noLst_ok {K : PySem.W.Frag} (h : noLst K = true) {a : Addr} {o : Obj} (e : K.lookup a = some o) : o.cls ≠ .type "list" := by
  have := He.lookup_mem e
  simp only [noLst, List.all_eq_true, Bool.not_eq_true', decide_eq_false_iff_not] at h
  exact h _ this
theorem ints_pv {Y : Rt} {H : Hp} {nl : Addr → Prop} : ∀ ns : List Int, PVs Y H nl (ns.map V.int) (ns.map .int)
  | [] => .nil
  | n :: ns => .cons (.int n) (ints_pv ns)
theorem law_sp {Y : Rt} {Φ : Call} {H : Hp} {a : Addr} {ns : List Int} {E : XK} (hK : noLst Y.K = true) (hT : LamX.Tabs Y.tabs H) (hS : SqL Y.K H a (ns.map V.int)) (h : ∃ st, Φ "law" [.d (.list (ns.map .int))] [] = .ok (.d (.bool true)) st) :
    spF Y Φ "law" 1 [.ref a] H (fun v _ => v = .bl true) E := by
  obtain ⟨st, h⟩ := h
  have hR : Rd H a (.lst (ns.map V.int)) := by
    rcases hS with h | ⟨o, its, n, h1, h2, _⟩
    · exact h
    · exact absurd h2 (noLst_ok hK h1)
  refine ⟨rfl, ⟨[], [], [], H⟩, [.d (.list (ns.map .int))], rfl, sr_start hT, .cons (.d (.lst ⟨hR, (fun z => nomatch z), fun ⟨n, c, h1, _⟩ => by simp at h1⟩ (ints_pv ns))) .nil, ?_⟩
  show rpost _ _ _ _ _ _ (Φ "law" [.d (.list (ns.map .int))] [])
  rw [h]
  intro v y _ _ _ r
  exact bool_of r
theorem cx_none {P : Program} {w : World} {outer : List PySem.Env} {H : Hp} {s : Shared} {u : Value} {s' : Shared} (h : L2.CX P w outer H s (fun _ _ _ => False) u s') : False := by
  unfold L2.CX at h
  obtain ⟨_, h⟩ := h
  repeat (first | exact h | (obtain ⟨_, h⟩ := h))
/-- the row's call of the law, by a promise where nothing is guarded -/
theorem law_callG {P : Program} {w : World} {K : PySem.W.Frag} {mg mb : Str → Option Value} {k : Nat} {fa a : Addr} {cs : List (Addr × Addr)} {fd : FuncData} {x : Str} {sp : Sp} {s : Shared} {vs : List Value} {ns : List Int}
    (KX : K.In s.heap) (hns : s.heap.Ns mainGlobals mg) (hb : s.heap.Ns builtinsNs mb) (hbb : ∀ x : Str, x ≠ "__name__" → mb x = bootBuiltins x) (hlim : s.heap.NoLimit) (hg : s.gens = #[])
    (hT : ∀ p ∈ cs, s.heap.get? p.2 = some { cls := .none, data := .fields #[] }) (nT : ∀ p ∈ cs, K.lookup p.2 = none) (hC : ∀ p ∈ cs, PySem.W.CodeHd s.heap p.1 p.2)
    (hbm : ∃ (bm : Addr) (ob : Obj), mg "__builtins__" = some (.ref bm) ∧ bm ≠ builtinsNs ∧ s.heap.get? bm = some ob ∧ ob.cls = .type "module" ∧ ob.dict = some builtinsNs ∧ ob.data = .plain)
    (ha : s.heap.get? a = some { cls := .type "list", data := .seq vs.toArray }) (hi : IntsAre vs ns) (hl : ns.length ≤ sizeLine) (hr : Room k callerA) (hK : K.lookup a = none)
    (F : ∀ base : Heap, K.In base → base.Ns mainGlobals mg → (∀ p ∈ cs, LamX.TabB base mg p.1 p.2) → FnG P w K mg base k fa fd [x] sp) (hbind : ∀ (s : Shared) (u : Value), BindsTo s fd ⟨[u], []⟩ [(x, u)])
    (hsp : ∀ H : Hp, (∀ p ∈ cs, H p.2 = some (.tbl #[])) → SqL K H a (ns.map V.int) → sp [.ref a] H (fun v _ => v = .bl true) fun _ _ _ => False) :
    codeAny (model P w) callerA (.call (.ref fa) ⟨[.ref a], []⟩) (fun r s' => r = .ok (.ret (.bool true)) ∧ OldK s.heap s'.heap ∧ s'.os = s.os ∧ AllBare s'.gens) s := by
  have rv := vals_of_ints hi
  let tabs := cs.map (·.2)
  have isT : ∀ b ∈ tabs, s.heap.get? b = some { cls := .none, data := .fields #[] } := fun b hb => by
    obtain ⟨q, hq, e⟩ := List.mem_map.mp hb
    exact e ▸ hT q hq
  have aT : a ∉ tabs := fun z => by
    have q := isT a z
    rw [ha] at q
    cases q
  have mT : ∀ q ∈ cs, q.2 ∈ tabs := fun q hq => List.mem_map.mpr ⟨q, hq, rfl⟩
  let H0 : Hp := fun b => if b = a then some (.frz { cls := .type "list", data := .seq vs.toArray } (.lst (ns.map V.int))) else if b ∈ tabs then some (.tbl #[]) else none
  have Ha : H0 a = some (.frz { cls := .type "list", data := .seq vs.toArray } (.lst (ns.map V.int))) := if_pos rfl
  have Ht : ∀ b ∈ tabs, H0 b = some (.tbl #[]) := fun b hb => (if_neg (show ¬ b = a from fun z => aT (by rw [← z]; exact hb))).trans (if_pos hb)
  have Hn : ∀ b, b ≠ a → b ∉ tabs → H0 b = none := fun b h1 h2 => (if_neg h1).trans (if_neg h2)
  have cases3 : ∀ b, b = a ∨ b ∈ tabs ∨ (b ≠ a ∧ b ∉ tabs) := fun b => by
    by_cases h1 : b = a
    · exact .inl h1
    · by_cases h2 : b ∈ tabs
      · exact .inr (.inl h2)
      · exact .inr (.inr ⟨h1, h2⟩)
  have hok : HOk P w H0 s.heap := fun b u e => by
    rcases cases3 b with h | h | ⟨h1, h2⟩
    · subst h
      rw [Ha] at e
      cases e
      exact ⟨ha, by rw [List.length_map]; exact hl, vs, _, rv, ha⟩
    · rw [Ht b h] at e
      cases e
      exact isT b h
    · rw [Hn b h1 h2] at e
      cases e
  -- what is neither the script nor a table is hidden from nobody
  have plain : ∀ {b : Addr} {o : Obj}, s.heap.get? b = some o → (∀ us n, o.data ≠ .seq us n) → o.data ≠ .fields #[] → H0 b = none := fun {b o} e h1 h2 => by
    rcases cases3 b with h | h | ⟨h3, h4⟩
    · subst h
      rw [ha] at e
      cases e
      exact (h1 _ _ rfl).elim
    · rw [isT b h] at e
      cases e
      exact (h2 rfl).elim
    · exact Hn b h3 h4
  have to0 : ∀ {b : Addr} {o : Obj}, s.heap.get? b = some o → H0 b = none → (hidT s.heap H0).get? b = some o := fun e n => hidT_get e n
  have nsOf : ∀ {b : Addr} {m : Str → Option Value}, s.heap.Ns b m → (hidT s.heap H0).Ns b m := fun {b m} ⟨o, es, ep, e, d, r⟩ => ⟨o, es, ep, to0 e (plain e (fun us n z => by rw [d] at z; cases z) fun z => by rw [d] at z; cases z), d, r⟩
  have K0 : K.In (hidT s.heap H0) := fun b o e => to0 (KX b o e) (by
    rcases cases3 b with h | h | ⟨h3, h4⟩
    · rw [h, hK] at e
      cases e
    · obtain ⟨q, hq, eq⟩ := List.mem_map.mp h
      rw [← eq, nT q hq] at e
      cases e
    · exact Hn b h3 h4)
  have M0 : L2.Mod K mg (hidT s.heap H0) := ⟨K0, nsOf hns, ⟨mb, nsOf hb, hbb⟩, let ⟨mc, h1, h2⟩ := hlim; ⟨mc, nsOf h1, h2⟩⟩
  have TB : ∀ q ∈ cs, LamX.TabB (hidT s.heap H0) mg q.1 q.2 := fun q hq => by
    have tq := hT q hq
    refine ⟨?_, ?_, fun z => ?_⟩
    · obtain ⟨o, us, file, tf, flags, tg, inF, text, tt, e1, r1, r2, r3, r⟩ := hC q hq
      refine ⟨o, us, file, tf, flags, tg, inF, text, tt, to0 e1 (plain e1 (fun us n z => by rw [r2] at z; cases z) fun z => ?_), r1, r2, r3, r⟩
      rw [r2] at z
      cases z
      simp at r3
    · obtain ⟨bm, ob, b1, b2, b3, b4, b5, b6⟩ := hbm
      refine ⟨bm, ob, b1, b2, fun z => ?_, fun z => ?_, to0 b3 (plain b3 (fun us n z => by rw [b6] at z; cases z) fun z => by rw [b6] at z; cases z), b4, b5, b6⟩
      · obtain ⟨o, es, ep, e, hd, _⟩ := hns
        rw [z, e] at b3
        cases b3
        rw [hd] at b6
        cases b6
      · rw [z, tq] at b3
        cases b3
        cases b6
    · obtain ⟨o, es, ep, e, hd, _⟩ := hns
      rw [z, tq] at e
      cases e
      cases hd
  have e0 : Env0 P w K mg (hidT s.heap H0) callerA [] s H0 := ⟨rfl, M0, fun b o e => of_hidT e, Nat.le_of_eq (hidT_size _ _), trivial, (fun b hb => nomatch hb), hok, .of_eq hg⟩
  refine codeAny_mono ((F _ K0 (nsOf hns) TB).run callerA [] s H0 ⟨[.ref a], []⟩ [.ref a] [.ref a] _ _ hr rfl e0 (hbind s (.ref a)) (.cons rfl .nil) (hsp H0 (fun q hq => Ht _ (mT q hq)) (.inl (.inr ⟨_, Ha⟩)))) fun r s' h => ?_
  cases r with
  | error e => exact (cx_none h).elim
  | ok fl =>
    cases fl with
    | next => exact h.elim
    | brk => exact h.elim
    | cont => exact h.elim
    | ret u =>
      obtain ⟨v, H', os, bare, un, hok', r', q⟩ := h
      have q : v = .bl true := q
      subst q
      obtain rfl : u = Value.bool true := r'
      have stay : ∀ b o, b ∉ tabs → s.heap.get? b = some o → s'.heap.get? b = some o := fun b o nb e => by
        rcases cases3 b with h | h | ⟨h3, h4⟩
        · subst h
          have z2 := un.frzs b _ _ Ha
          obtain ⟨e2, _⟩ := hok' b _ z2
          rw [ha] at e
          cases e
          exact e2
        · exact absurd h nb
        · exact un.keep b o e (Hn b h3 h4) (by intro z; cases z) (by simp)
      have grown : ∀ q ∈ cs, ∃ more : Array Value, s'.heap.get? q.2 = some { cls := .none, data := .fields more } := fun q hq => by
        obtain ⟨more, z⟩ := un.tbls q.2 #[] (Ht _ (mT q hq))
        exact ⟨_, hok' q.2 _ z⟩
      refine ⟨rfl, ⟨fun b o e => ?_, fun b o e => ?_⟩, os, bare⟩
      · by_cases hb : b ∈ tabs
        · obtain ⟨q, hq, eq⟩ := List.mem_map.mp hb
          subst eq
          obtain ⟨more, hm⟩ := grown q hq
          have tq := hT q hq
          rw [tq] at e
          cases e
          exact .inr (.inl ⟨((hC q hq).tab tq).isCodeTable, rfl, #[], more, rfl, by rw [Array.empty_append]; exact hm⟩)
        · exact .inl (stay b o hb e)
      · by_cases hb : b ∈ tabs
        · obtain ⟨q, hq, eq⟩ := List.mem_map.mp hb
          subst eq
          exact ⟨_, (grown q hq).choose_spec⟩
        · exact ⟨o, stay b o hb e⟩
/-- the walk of the law's row -/
theorem walkG {l : PySem.W.OpenLaw} {n k N : Nat} {q : Program} {loose : List Str} {XP : (Str → Option Value) → Heap → Prop} {YP : World → Heap → Prop} {d : DefRec} {EP : Prog}
    (hn : l.most = some n) (hn2 : n ≤ sizeLine) (hdf : d.params.defaults = []) (hr : Room k callerA)
    (F : ∀ (w : World) (mg : Str → Option Value) (fa : Addr) (h : Heap), YP w h → h.Ns mainGlobals mg → mg d.name = some (.ref fa) → ∃ (K : PySem.W.Frag) (G : Gd) (fd : FuncData) (cs : List (Addr × Addr)) (x : Str), K.In h ∧ noLst K = true ∧
      (∀ p ∈ cs, h.get? p.2 = some { cls := .none, data := .fields #[] }) ∧ (∀ p ∈ cs, K.lookup p.2 = none) ∧ (∀ p ∈ cs, PySem.W.CodeHd h p.1 p.2) ∧ (∀ (s : Shared) (u : Value), BindsTo s fd ⟨[u], []⟩ [(x, u)]) ∧
      (∀ H : Hp, (∀ p ∈ cs, H p.2 = some (.tbl #[])) → LamX.Tabs G.tabs H) ∧
      ∀ base : Heap, K.In base → base.Ns mainGlobals mg → (∀ p ∈ cs, LamX.TabB base mg p.1 p.2) → FnG l.prog w K mg base k fa fd [x] (spF ⟨l.prog, w, K, G.fa, G.ca, G.tabs⟩ (callD EP R0 N) "law" 1))
    (hlaw : ∀ ns : List Int, ns.length ≤ n → (∀ z ∈ ns, Builtin.Int.intBits z ≤ 1048576) → ∃ st, callD EP R0 N "law" [.d (.list (ns.map .int))] [] = .ok (.d (.bool true)) st) : PySem.W.WalkO q loose XP YP l.row.toRowW d [] (fun f vs => PySem.call f vs) := by
  refine Att.attach_callB hn hdf fun w s₀ s₁ mg mb fa o pm cd doc a vs ns Gr Y ho hd hcd hmg hobj hints hlen hbits hg => ?_
  obtain ⟨K, G, fd, cs, x, KX, hnl, hT, nT, hC, hb, hTab, hF⟩ := F w mg fa _ Y Gr.T.g hmg
  have hK : K.lookup a = none := by
    cases e : K.lookup a with
    | none => rfl
    | some o =>
      have e2 := KX a o e
      rw [hobj] at e2
      cases e2
      exact absurd rfl (noLst_ok hnl e)
  exact law_callG KX Gr.T.g Gr.T.b Gr.T.builtins Gr.T.nolimit hg hT nT hC Gr.T.bmain hobj hints (Nat.le_trans hlen hn2) hr hK hF hb fun H hH hS => law_sp (Y := ⟨l.prog, w, K, G.fa, G.ca, G.tabs⟩) hnl (hTab H hH) hS (hlaw ns hlen hbits)
def RefK.of {G : Gd} {X : Cx} {n : Str} {hs : List (String × List Nat × List String)} {g : Addr} {pg : Arguments} {sg : Scope} {Ng : List Str} {a : Str} {h0 : ExceptHandler} {hr : List ExceptHandler} {p1 p2 p3 p4 p5 p6 p7 p8 : Pos} {j1 j2 k1 : Nat} {fd : FuncData}
    (F : FunD X.K n n pg [.Try [.Expr (.Call (.Name a p1) [] [] p2) p3] (h0 :: hr) [] [] p4, .Return (some (.Tuple [.Constant (.str (T [])) j1 p5, .Constant .none j2 p6] k1 p7)) p8] sg [] [] g fd) (mg : X.mg n = some (.ref g)) (hb : L2.Binds X.K fd [a] []) (sc : FnScope Ng [a] sg) (n0 : Ng[0]? = some a) (n2 : 1 < Ng.length)
    (va : Vis sg a) (d1 : (a == ("__debug__" : Str)) = false) (d2 : (a == ("__classdict__" : Str)) = false) (tx : HdT G X.mg X.K sg Ng (h0 :: hr) hs) (exm : ∀ q ∈ hs, ∀ r ∈ hs, PySem.W.exmOne X.K (.ref (G.ca q.1)) (.ref (G.ca r.1)) = some (decide (q.1 = r.1))) : RefK G X n hs where
  g := g
  pg := pg
  sg := sg
  Ng := Ng
  a := a
  h0 := h0
  hr := hr
  p1 := p1
  p2 := p2
  p3 := p3
  p4 := p4
  p5 := p5
  p6 := p6
  p7 := p7
  p8 := p8
  j1 := j1
  j2 := j2
  k1 := k1
  mg := mg
  kp := F.kp
  fn := by
    obtain ⟨oc, od, dV, kV, doc, pm, an, cdv, ct, osl, rfl, lk, hcd, _, _⟩ := F.ex
    exact ⟨oc, od, dV, kV, doc, pm, an, cdv, ct, osl, lk, hcd, hb⟩
  sc := sc
  n0 := n0
  n2 := n2
  va := va
  d1 := d1
  d2 := d2
  tx := tx
  exm := exm
/-- the bits that a def's context asks for -/
theorem mkC {G : Gd} {P : Program} {w : World} {K : PySem.W.Frag} {mg : Str → Option Value} {base : Heap} {EP : Prog} {Φ : Call} {k : Nat} {tb : List (Str × String × Nat)} {ci : List (Str × Int)} {cs : List (Str × List Nat)} {ex : List (Str × String)} (ih : ∀ (i : Nat) (q : Str × String × Nat), tb[i]? = some q → FnT G P w K mg base Φ k q.1 q.2.1 q.2.2)
    (k2 : 2 ≤ k) (B : BltN mg) (nI : ∀ (i : Nat) (q : Str × Int), ci[i]? = some q → ∃ t, mg q.1 = some (.int q.2 t)) (nS : ∀ (i : Nat) (q : Str × List Nat), cs[i]? = some q → ∃ t, mg q.1 = some (.str (T q.2) t))
    (he : ∀ q ∈ ex, Ex1 K (G.ca q.2) ∧ mg q.1 = some (.ref (G.ca q.2)) ∧ EP.exc q.2 = some 1) (hi : ∃ fd ps, FnOk P w K mg base CX0 1 (He.ma K (He.ga K "FolkError") "__init__") fd ps (spI K) ∧ L2.Binds K fd ps [])
    {N : List Str} {qual : Str} {scope : Scope} {f : Addr} {cdv : Value} {A : Around} {outer : List PySem.Env} {s : Shared} {H : Hp} {E : XK} (hr : Room (k + 2) (A.deeper (envOfC qual scope s.heap.objs.size f cdv))) (hg : A.guards = some []) (nd : N.Nodup) :
    Cxt G (cxOf (L2.CX P w) P w K mg base N qual scope f cdv A outer s H E) EP Φ k tb ci cs ex :=
  ⟨hr.mono (by omega), k2, hg, rfl, nd, B, fun i q h => let F := ih i q h; ⟨F.gl, F.kp, F.ok, F.ar⟩, nI, nS, fun i q h => by
    obtain ⟨e1, e2, e3⟩ := he q (List.mem_of_getElem? h)
    obtain ⟨fd, ps, h1, h2⟩ := hi
    exact ⟨⟨e1.T, e1.no, e2, _, fd, ps, e1.i1, e1.i2, h1, h2⟩, e3⟩⟩
end FM
end

section
/-! FM20: order of data, sorted, min, max, list, upper, functions as values, enumerate. -/
set_option Elab.async false
set_option linter.all false
set_option maxRecDepth 100000
set_option autoImplicit false
set_option maxHeartbeats 1000000
namespace FM
open PySem PySem.Spec PyProof.Rows L2
/-! ### the order is the library's -/
mutual
theorem alk_alike : ∀ x y : D, alk x y = PySem.W.alike x y
  | .none, y => by cases y <;> simp [alk, PySem.W.alike]
  | .bool _, y => by cases y <;> simp [alk, PySem.W.alike]
  | .int _, y => by cases y <;> simp [alk, PySem.W.alike]
  | .str _, y => by cases y <;> simp [alk, PySem.W.alike]
  | .list xs, y => by cases y <;> simp [alk, PySem.W.alike, alkAll_alike]
  | .tuple xs, y => by cases y <;> simp [alk, PySem.W.alike, alkAll_alike]
  | .dict _, y => by cases y <;> simp [alk, PySem.W.alike]
theorem alkAll_alike : ∀ xs ys : List D, alkAll xs ys = PySem.W.alikeAll xs ys
  | [], _ => by simp [alkAll, PySem.W.alikeAll]
  | _ :: _, [] => by simp [alkAll, PySem.W.alikeAll]
  | x :: xs, y :: ys => by simp [alkAll, PySem.W.alikeAll, alk_alike x y, alkAll_alike xs ys]
end
mutual
theorem ltD_data : ∀ x y : D, alk x y = true → ltD x y = PySem.W.dataLt x y
  | .none, y, h => by
    cases y <;> simp [alk] at h
    rfl
  | .bool a, y, h => by
    cases y <;> simp [alk] at h
    rename_i b
    rw [PySem.W.dataLt_bool]
    cases a <;> cases b <;> rfl
  | .int i, y, h => by
    cases y <;> simp [alk] at h
    rw [PySem.W.dataLt_int]
    rfl
  | .str x, y, h => by
    cases y <;> simp [alk] at h
    rw [PySem.W.dataLt_str]
    exact tl_lt _ _
  | .list xs, y, h => by
    cases y <;> simp [alk] at h
    rw [PySem.W.dataLt_list]
    exact ltAll_data xs _ h
  | .tuple xs, y, h => by
    cases y <;> simp [alk] at h
    rw [PySem.W.dataLt_tuple]
    exact ltAll_data xs _ h
  | .dict _, y, h => by cases y <;> simp [alk] at h
theorem ltAll_data : ∀ xs ys : List D, alkAll xs ys = true → ltAll xs ys = PyProof.Rows.lexLt itemOrd (PySem.W.keyToksAll xs) (PySem.W.keyToksAll ys)
  | [], [], _ => rfl
  | [], y :: ys, _ => rfl
  | x :: xs, [], _ => rfl
  | x :: xs, y :: ys, h => by
    simp only [alkAll, Bool.and_eq_true] at h
    obtain ⟨h1, h2⟩ := h
    have h3 := h1
    rw [alk_alike] at h3
    simp only [ltAll]
    rw [eqD_eqv]
    cases he : PyData.eqv x y with
    | true =>
      rw [PySem.W.dataLt_all_yes h3 he]
      exact ltAll_data xs ys h2
    | false =>
      rw [PySem.W.dataLt_all_no h3 he]
      exact ltD_data x y h1
end
theorem alkAllB_of {xs : List D} (h : alkAllB xs = true) : ∀ x ∈ xs, ∀ y ∈ xs, alk x y = true := by
  intro x hx y hy
  unfold alkAllB at h
  exact List.all_eq_true.mp (List.all_eq_true.mp h x hx) y hy
theorem minL_mem : ∀ (xs : List D) (m : D), minL m xs = m ∨ minL m xs ∈ xs
  | [], m => .inl rfl
  | x :: r, m => by
    simp only [minL]
    rcases minL_mem r (if ltD x m then x else m) with h | h
    · rw [h]
      split
      · exact .inr List.mem_cons_self
      · exact .inl rfl
    · exact .inr (List.mem_cons_of_mem _ h)
theorem maxL_mem : ∀ (xs : List D) (m : D), maxL m xs = m ∨ maxL m xs ∈ xs
  | [], m => .inl rfl
  | x :: r, m => by
    simp only [maxL]
    rcases maxL_mem r (if ltD m x then x else m) with h | h
    · rw [h]
      split
      · exact .inr List.mem_cons_self
      · exact .inl rfl
    · exact .inr (List.mem_cons_of_mem _ h)
theorem minL_data (all : List D) (ha : ∀ x ∈ all, ∀ y ∈ all, alk x y = true) : ∀ (xs : List D) (m : D), m ∈ all → (∀ x ∈ xs, x ∈ all) → minL m xs = PySem.W.minD m xs
  | [], m, _, _ => rfl
  | x :: r, m, hm, hx => by
    simp only [minL]
    have h1 := ltD_data x m (ha x (hx x List.mem_cons_self) m hm)
    rw [minL_data all ha r _ (by split; exact hx x List.mem_cons_self; exact hm) fun y hy => hx y (List.mem_cons_of_mem _ hy), h1]
    rfl
theorem maxL_data (all : List D) (ha : ∀ x ∈ all, ∀ y ∈ all, alk x y = true) : ∀ (xs : List D) (m : D), m ∈ all → (∀ x ∈ xs, x ∈ all) → maxL m xs = PySem.W.maxD m xs
  | [], m, _, _ => rfl
  | x :: r, m, hm, hx => by
    simp only [maxL]
    have h1 := ltD_data m x (ha m hm x (hx x List.mem_cons_self))
    rw [maxL_data all ha r _ (by split; exact hx x List.mem_cons_self; exact hm) fun y hy => hx y (List.mem_cons_of_mem _ hy), h1]
    rfl
theorem depOk_of {xs : List D} (h : depOk xs = true) : PyData.depthAll xs ≤ 64 := by
  induction xs with
  | nil => simp [PyData.depthAll]
  | cons x xs ih =>
    simp only [depOk, List.all_cons, Bool.and_eq_true, decide_eq_true_eq] at h
    have := ih h.2
    rw [PyData.depthAll, ← dep_depth]
    omega
theorem PVs.mem {Y : Rt} {H : Hp} {nl : Addr → Prop} : ∀ {ds : List D} {vs : List V} {i : Nat} {v : V}, PVs Y H nl vs ds → vs[i]? = some v → ∃ d, ds[i]? = some d ∧ PV Y H nl v d := by
  intro ds
  induction ds with
  | nil =>
    intro vs i v h e
    cases h
    simp at e
  | cons d ds ih =>
    intro vs i v h e
    cases h with
    | cons h t =>
      cases i with
      | zero =>
        simp at e
        subst e
        exact ⟨_, rfl, h⟩
      | succ i => exact ih t (by simpa using e)
section
variable {G : Gd} {X : Cx} {Wx : WX} {P : Prog} {R : Fun1} {Φ : Call} {pos : Pos} {e e1 e2 e3 : Expr} {a b c : FM.E} {es : List Expr} {as : Es} {n : Str} {p apos cpos : Pos}
/-! ### min, max of a list -/
theorem reads_mem {h : Heap} : ∀ {us : List Value} {ds : List D} {as : List Addr} {i : Nat} {u : Value} {d : D}, ReadsAll h us ds as → us[i]? = some u → ds[i]? = some d → ∃ bs, Reads h u d bs
  | _, _, _, _, _, _, .nil, h, _ => by simp at h
  | _, _, _, 0, _, _, .cons r rs, h1, h2 => by
    simp at h1 h2
    subst h1 h2
    exact ⟨_, r⟩
  | _, _, _, i + 1, _, _, .cons r rs, h1, h2 => reads_mem rs (by simpa using h1) (by simpa using h2)
theorem vals_at : ∀ {us : List Value} {vs : List V} {i : Nat} {u : Value}, Vals vs us → us[i]? = some u → ∃ v, vs[i]? = some v ∧ RelV v u := by
  intro us
  induction us with
  | nil => intro vs i u h e; simp at e
  | cons w us ih =>
    intro vs i u h e
    cases h with
    | cons r rs =>
      cases i with
      | zero =>
        simp at e
        subst e
        exact ⟨_, rfl, r⟩
      | succ i =>
        obtain ⟨v, h1, h2⟩ := ih rs (by simpa using e)
        exact ⟨v, by simpa using h1, h2⟩
theorem alikeAll_of {x : D} {xs : List D} (h1 : alkAllB (x :: xs) = true) (h2 : (x :: xs).all (fun y => !isNo y) = true) : PySem.W.AlikeAll (x :: xs) := by
  refine ⟨fun y hy z hz => ?_, fun y hy e => ?_⟩
  · rw [← alk_alike]
    exact alkAllB_of h1 y hy z hz
  · have := List.all_eq_true.mp h2 y hy
    rw [e] at this
    simp [isNo] at this
theorem cb_min (hc : X.calm = true) (hu : X.A.units + 66 < cLine) : CallR X (.builtin "min") (rB (yof G X) fun st => b1W R st .min) := by
  intro pins s σ H vs us Q I rv ⟨x, v, wa, w, hv, hx, S, ha, hw, q⟩
  subst hx hv
  simp only [b1W] at hw
  split at hw
  · rename_i d ds hxs
    split at hw
    · rename_i hk
      cases hw
      simp only [Bool.and_eq_true] at hk
      obtain ⟨⟨k1, k2⟩, k3⟩ := hk
      obtain ⟨p, ws, rfl, hp, ps⟩ := (S.vw ha hxs).list
      obtain ⟨its, rv2, hl, hz⟩ := I.list (.inl hp)
      rw [Vals.ref1 rv]
      obtain ⟨as, ra⟩ := PVs.reads (G := G) I ps rv2
      refine PySem.W.min_list_data (I.ok.hd hc) hl.isList ra (alikeAll_of k1 k3) (by have := depOk_of k2; omega) fun i u h' tk bs hi hr hk => ?_
      obtain ⟨v', hv', rv'⟩ := vals_at rv2 (by simpa using hi)
      obtain ⟨d', hd', pv'⟩ := PVs.mem ps hv'
      obtain ⟨cs, rc⟩ := reads_mem ra (by simpa using hi) hd'
      have em : minL d ds = PySem.W.minD d ds := minL_data (d :: ds) (alkAllB_of k1) ds d List.mem_cons_self fun y hy => List.mem_cons_of_mem _ hy
      have hm : minL d ds ∈ d :: ds := by
        rcases minL_mem ds d with h | h
        · rw [h]; exact List.mem_cons_self
        · exact List.mem_cons_of_mem _ h
      have ed : d' = minL d ds := by
        rw [em] at hm ⊢
        exact PySem.W.alike_unique _ _ _ _ _ (by rw [← alk_alike]; exact alkAllB_of k1 _ (List.mem_of_getElem? hd') _ hm) (Reads.keeps hk rc) hr
      exact ⟨v', x.H, I.kept (t' := tk) hk, rv', by rw [ed] at pv'; exact q.d S pv'⟩
    · cases hw
  · cases hw
theorem cb_max (hc : X.calm = true) (hu : X.A.units + 66 < cLine) : CallR X (.builtin "max") (rB (yof G X) fun st => b1W R st .max) := by
  intro pins s σ H vs us Q I rv ⟨x, v, wa, w, hv, hx, S, ha, hw, q⟩
  subst hx hv
  simp only [b1W] at hw
  split at hw
  · rename_i d ds hxs
    split at hw
    · rename_i hk
      cases hw
      simp only [Bool.and_eq_true] at hk
      obtain ⟨⟨k1, k2⟩, k3⟩ := hk
      obtain ⟨p, ws, rfl, hp, ps⟩ := (S.vw ha hxs).list
      obtain ⟨its, rv2, hl, hz⟩ := I.list (.inl hp)
      rw [Vals.ref1 rv]
      obtain ⟨as, ra⟩ := PVs.reads (G := G) I ps rv2
      refine PySem.W.max_list_data (I.ok.hd hc) hl.isList ra (alikeAll_of k1 k3) (by have := depOk_of k2; omega) fun i u h' tk bs hi hr hk => ?_
      obtain ⟨v', hv', rv'⟩ := vals_at rv2 (by simpa using hi)
      obtain ⟨d', hd', pv'⟩ := PVs.mem ps hv'
      obtain ⟨cs, rc⟩ := reads_mem ra (by simpa using hi) hd'
      have em : maxL d ds = PySem.W.maxD d ds := maxL_data (d :: ds) (alkAllB_of k1) ds d List.mem_cons_self fun y hy => List.mem_cons_of_mem _ hy
      have hm : maxL d ds ∈ d :: ds := by
        rcases maxL_mem ds d with h | h
        · rw [h]; exact List.mem_cons_self
        · exact List.mem_cons_of_mem _ h
      have ed : d' = maxL d ds := by
        rw [em] at hm ⊢
        exact PySem.W.alike_unique _ _ _ _ _ (by rw [← alk_alike]; exact alkAllB_of k1 _ (List.mem_of_getElem? hd') _ hm) (Reads.keeps hk rc) hr
      exact ⟨v', x.H, I.kept (t' := tk) hk, rv', by rw [ed] at pv'; exact q.d S pv'⟩
    · cases hw
  · cases hw
theorem xe_min (B : BltN X.mg) (hc : X.calm = true) (hu : X.A.units + 66 < cLine) (ha : FV G X Wx P R Φ e a) (hg : Gl X "min" := by rfl) (hs : starEach [e] X.env = [(false, eval e X.env)] := by rfl) : FV G X Wx P R Φ (.Call (.Name "min" p) [e] [] pos) (.b1 .min a) := fe_bb (cb_min hc hu) boot_min (B.no _ (by decide)) hg (by decide) (by decide) ha hs
theorem xe_max (B : BltN X.mg) (hc : X.calm = true) (hu : X.A.units + 66 < cLine) (ha : FV G X Wx P R Φ e a) (hg : Gl X "max" := by rfl) (hs : starEach [e] X.env = [(false, eval e X.env)] := by rfl) : FV G X Wx P R Φ (.Call (.Name "max" p) [e] [] pos) (.b1 .max a) := fe_bb (cb_max hc hu) boot_max (B.no _ (by decide)) hg (by decide) (by decide) ha hs
end
end FM
end

section
/-! FM21: sorted, list, min and max of two, upper, defs as values. -/
set_option Elab.async false
set_option linter.all false
set_option maxRecDepth 100000
set_option autoImplicit false
set_option maxHeartbeats 1000000
namespace FM
open PySem PySem.Spec PyProof.Rows L2
section
variable {G : Gd} {X : Cx} {Wx : WX} {P : Prog} {R : Fun1} {Φ : Call} {pos : Pos} {e e1 e2 e3 : Expr} {a b c : FM.E} {es : List Expr} {as : Es} {n : Str} {p apos cpos : Pos}
/-! ### sorted -/
theorem each_zip {Y : Rt} {H : Hp} {nl : Addr → Prop} : ∀ {ds : List D} {vs : List V} {us : List Value}, PVs Y H nl vs ds → Vals vs us → PySem.W.EachIs (fun u (q : V × D) => RelV q.1 u ∧ PV Y H nl q.1 q.2) us (vs.zip ds) := by
  intro ds
  induction ds with
  | nil =>
    intro vs us h r
    cases h
    cases r
    exact .nil
  | cons d ds ih =>
    intro vs us h r
    cases h with
    | cons h t =>
      cases r with
      | cons r rs => exact .cons ⟨r, h⟩ (ih t rs)
theorem zip_snd : ∀ {ds : List D} {vs : List V}, vs.length = ds.length → (vs.zip ds).map (·.2) = ds := by
  intro ds
  induction ds with
  | nil => intro vs h; simp
  | cons d ds ih =>
    intro vs h
    cases vs with
    | nil => simp at h
    | cons v vs => simp [ih (by simpa using h)]
theorem zip_out {Y : Rt} {H : Hp} {nl : Addr → Prop} {us : List Value} {bs : List (V × D)} (h : PySem.W.EachIs (fun u (q : V × D) => RelV q.1 u ∧ PV Y H nl q.1 q.2) us bs) : Vals (bs.map (·.1)) us ∧ PVs Y H nl (bs.map (·.1)) (bs.map (·.2)) := by
  induction h with
  | nil => exact ⟨.nil, .nil⟩
  | cons h _ ih => exact ⟨.cons h.1 ih.1, .cons h.2 ih.2⟩
theorem sortable_of {xs : List D} (h : sortable xs = true) : PySem.W.Sortable xs := by
  unfold sortable at h
  simp only [Bool.or_eq_true, List.all_eq_true] at h
  rcases h with h | h
  · refine .inl fun d hd => ?_
    have h1 := h d hd
    match d, h1 with
    | .tuple (x :: r), _ => exact ⟨x, r, rfl⟩
  · refine .inr fun d hd => ?_
    have h1 := h d hd
    exact ⟨fun z => (by subst z; cases h1), fun l z => (by subst z; cases h1)⟩
theorem sortD_data {xs : List D} (h : alkAllB xs = true) : xs.mergeSort (PySem.W.dataLe false id) = sortD xs := by
  refine PySem.W.sort_congr fun x hx y hy => ?_
  show (!PySem.W.dataLt y x) = leD x y
  unfold leD
  rw [ltD_data y x (alkAllB_of h y hy x hx)]
/-- the items of a list, as data -/
def rSortedD (Y : Rt) : List V → Hp → VK → Prop := fun vs H Q => ∃ x v w xs, vs = [v] ∧ x.H = H ∧ SR Y x ∧ WV Y x v w ∧ (lstW x.st w).bind allD = some xs ∧ sortOk xs = true ∧ ∀ (q : Addr) (vs' : List V), x.H q = none → PVs Y x.H x.nl vs' (sortD xs) → Q (.ref q) (upd x.H q (.lst vs'))
theorem cr_sortedD (hu : X.A.units + 66 < cLine) : CallR X (.builtin "sorted") (rSortedD (yof G X)) := by
  intro pins s σ H vs us Q I rv ⟨x, v, w, xs, hv, hx, S, hw, hxs, hok, q⟩
  subst hx hv
  obtain ⟨ws, hl, hd⟩ := Option.bind_eq_some_iff.mp hxs
  obtain ⟨p, vs0, rfl, hp, rs⟩ := lst_of S hw hl
  have ps := rs.pvs hd
  obtain ⟨its, rv2, hl2, hz⟩ := I.list (.inl hp)
  rw [Vals.ref1 rv]
  simp only [sortOk, Bool.and_eq_true, decide_eq_true_eq] at hok
  obtain ⟨k1, k2, k3, k4⟩ := hok
  have hlen := ps.length
  have hs2 := zip_snd hlen
  have ez := each_zip ps rv2
  have hbl : (vs0.zip xs).length = xs.length := by simp [hlen]
  have hm : ∀ b ∈ vs0.zip xs, b.2 ∈ xs := fun b hb => by
    rw [← hs2]
    exact List.mem_map.mpr ⟨b, hb, rfl⟩
  have hal : PySem.W.AllAlike ((vs0.zip xs).map (·.2)) := by
    rw [hs2]
    intro d hd d' hd'
    rw [← alk_alike]
    exact alkAllB_of k1 d hd d' hd'
  refine PySem.W.sorted_data (β := V × D) (R := fun u (q : V × D) => RelV q.1 u ∧ PV (yof G X) x.H x.nl q.1 q.2) (enc := (·.2)) (bs := vs0.zip xs) hl2.isList ez (ez.mono fun u q h => PV.reads (G := G) I h.2 h.1) hal (by rw [hs2]; exact sortable_of k2) (by rw [hbl, ← SZ_eq]; exact k4) (fun b hb => ?_) fun out ho eo => ?_
  · have h1 := List.all_eq_true.mp k3 b.2 (hm b hb)
    simp only [decide_eq_true_eq] at h1
    rw [dep_depth] at h1
    omega
  · obtain ⟨r1, r2⟩ := zip_out eo
    have e1 : ((vs0.zip xs).mergeSort (PySem.W.dataLe false (·.2))).map (·.2) = sortD xs := by
      have e2 : ((vs0.zip xs).mergeSort (PySem.W.dataLe false (·.2))).map (·.2) = ((vs0.zip xs).map (·.2)).mergeSort (PySem.W.dataLe false id) := PySem.W.sort_maps (fun q : V × D => q.2) fun _ _ _ _ => rfl
      rw [e2, hs2, sortD_data k1]
    rw [e1] at r2
    obtain ⟨ep, he'⟩ := PyProof.Rows.sortedAll_at s.heap its out.toArray
    have hlen2 : (((vs0.zip xs).mergeSort (PySem.W.dataLe false (·.2))).map (·.1)).length ≤ sizeLine := by
      rw [List.length_map, List.length_mergeSort, hbl, ← SZ_eq]
      exact k4
    exact ⟨.ref _, upd x.H (s.heap.objs.size + 1) (.lst (((vs0.zip xs).mergeSort (PySem.W.dataLe false (·.2))).map (·.1))), I.laid (t' := s.toks) (fun _ _ => PyProof.Rows.sortedAll_old) (Nat.le_succ _) ⟨hlen2, out, ep, r1, he'⟩, rfl, q _ _ (I.hok.fresh (Nat.le_succ _)) r2⟩
theorem ff_sorted (hu : X.A.units + 66 < cLine) (hg : Gl X "sorted") (hm : X.mg "sorted" = none) (ha : FV G X Wx P R Φ e a) (hs : starEach [e] X.env = [(false, eval e X.env)] := by rfl) : FF G X Wx P R Φ (.Call (.Name "sorted" p) [e] [] pos) (.sorted a) := by
  refine (pe_callB (cr_sortedD (G := G) hu) hg hm boot_sorted (pa_cons ha pa_nil hs) (by decide) (by decide) hs rfl).imp fun σ H Q ⟨ρ, x, hx, S, En, h⟩ => ?_
  rw [evF] at h
  refine ⟨ρ, x, hx, S, En, rpostF_bind h fun v y w e1 Sy r h2 => ?_⟩
  split at h2
  · rename_i xs hxs
    split at h2
    · rename_i hok
      refine ⟨y, v, w, xs, rfl, rfl, Sy, r, hxs, hok, fun q vs' hq ps => ?_⟩
      obtain ⟨e4, m4, S4⟩ := new_res (o := .lst vs') Sy hq (fun _ z => by cases z)
      exact h2 _ q (.inl vs') e4 S4 rfl (NT.of hq) upd_same (Sy.fresh hq) (m4.wvs ps.wvs)
    · exact h2.elim
  · exact h2.elim
/-! ### list(..) -/
def rListD (Y : Rt) : List V → Hp → VK → Prop := fun vs H Q => ∃ x v w s, vs = [v] ∧ x.H = H ∧ SR Y x ∧ WV Y x v w ∧ srcW x.st w = some s ∧ ∀ (q : Addr) (vs' : List V), x.H q = none → WVs Y x vs' s.1 → Q (.ref q) (upd x.H q (.lst vs'))
theorem cr_listD (hc : X.calm = true) : CallR X (.type "list") (rListD (yof G X)) := by
  intro pins s σ H vs us Q I rv ⟨x, v, w, src, hv, hx, S, hw, hsrc, q⟩
  subst hx hv
  cases hw with
  | @d _ d r =>
    cases d <;> simp only [srcW, reduceCtorEq] at hsrc
    · split at hsrc <;> cases hsrc
      rename_i z hz
      cases r
      obtain ⟨u, rfl, t, rfl⟩ := vals1 rv
      have hz2 : z.length ≤ sizeLine := by rw [len_eq, ← SZ_eq]; exact hz
      refine call_list_str (I.ok.hd hc) z t (hn := hz2) fun h' tk acc' c' hk hS' hacc => ?_
      have hl : (signs z).length ≤ sizeLine := by simpa [signs, Str.length] using hz2
      exact ⟨.ref _, upd x.H s.heap.objs.size (.lst (signs z)), I.laid (t' := tk) (fun b o e => hk b o e) (Nat.le_refl _) ⟨hl, acc'.toList, c', signs_vals hacc, by simpa using hS'⟩, rfl, q _ _ (I.hok.fresh (Nat.le_refl _)) (signs_wvs z)⟩
    · cases hsrc
      cases r with
      | lst h1 h2 => exact call_list_of pins s σ _ _ _ _ I rv ⟨_, _, rfl, .inl h1.sq, fun l hl => q l _ hl h2.wvs⟩
    · cases hsrc
      cases r with
      | tup h1 h2 => exact call_list_of pins s σ _ _ _ _ I rv ⟨_, _, rfl, .inr h1.sq, fun l hl => q l _ hl h2.wvs⟩
  | @ref n p hn =>
    simp only [srcW] at hsrc
    split at hsrc
    · rename_i ws hcl
      cases hsrc
      obtain ⟨vs, hH, rs⟩ := S.cell _ _ _ hn hcl
      exact call_list_of pins s σ _ _ _ _ I rv ⟨_, _, rfl, .inl (.inl (.inl hH)), fun l hl => q l _ hl rs⟩
    · cases hsrc
  | fn f => simp [srcW] at hsrc
theorem ff_list (hc : X.calm = true) (hg : Gl X "list") (hm : X.mg "list" = none) (ha : FV G X Wx P R Φ e a) (hs : starEach [e] X.env = [(false, eval e X.env)] := by rfl) : FF G X Wx P R Φ (.Call (.Name "list" p) [e] [] pos) (.list a) := by
  refine (pe_callTy (cr_listD (G := G) hc) hg hm PyProof.Rows.boot_list (pa_cons ha pa_nil hs) (by decide) (by decide) hs rfl).imp fun σ H Q ⟨ρ, x, hx, S, En, h⟩ => ?_
  rw [evF] at h
  refine ⟨ρ, x, hx, S, En, rpostF_bind h fun v y w e1 Sy r h2 => ?_⟩
  split at h2
  · rename_i src hsrc
    refine ⟨y, v, w, src, rfl, rfl, Sy, r, hsrc, fun q vs' hq ps => ?_⟩
    obtain ⟨e4, m4, S4⟩ := new_res (o := .lst vs') Sy hq (fun _ z => by cases z)
    exact h2 _ q (.inl vs') e4 S4 rfl (NT.of hq) upd_same (Sy.fresh hq) (m4.wvs ps)
  · exact h2.elim
/-! ### min(a, b), max(a, b) of ints -/
def rB2 (Y : Rt) (k : B2) : List V → Hp → VK → Prop := fun vs H Q => ∃ x v u a b w, vs = [v, u] ∧ x.H = H ∧ SR Y x ∧ WV Y x v a ∧ WV Y x u b ∧ b2W k a b = some w ∧ After Y x w Q
theorem cb_min2 (hc : X.calm = true) : CallR X (.builtin "min") (rB2 (yof G X) .min) := by
  intro pins s σ H vs us Q I rv ⟨x, v, u, wa, wb, w, hv, hx, S, ha, hb, hw, q⟩
  subst hx hv
  unfold b2W at hw
  split at hw <;> cases hw
  · rename_i z
    cases z
  · cases ha with
    | d ha =>
      cases hb with
      | d hb =>
        cases ha
        cases hb
        exact call_min2 hc pins s σ _ _ _ _ I rv ⟨_, _, rfl, q.d S (.int _)⟩
theorem cb_max2 (hc : X.calm = true) : CallR X (.builtin "max") (rB2 (yof G X) .max) := by
  intro pins s σ H vs us Q I rv ⟨x, v, u, wa, wb, w, hv, hx, S, ha, hb, hw, q⟩
  subst hx hv
  unfold b2W at hw
  split at hw <;> cases hw
  · cases ha with
    | d ha =>
      cases hb with
      | d hb =>
        cases ha
        cases hb
        exact call_max2 hc pins s σ _ _ _ _ I rv ⟨_, _, rfl, q.d S (.int _)⟩
  · rename_i z
    cases z
theorem xe_b2 {k : B2} {id : String} (hcr : CallR X (.builtin id) (rB2 (yof G X) k)) (hm : X.mg n = none) (hv : bootBuiltins n = some (.builtin id)) (ha : FV G X Wx P R Φ e1 a) (hb : FV G X Wx P R Φ e2 b) (hg : Gl X n) (hn : n ≠ "__name__") (hd : (n == ("__debug__" : Str)) = false)
    (hs : starEach [e1, e2] X.env = (false, eval e1 X.env) :: starEach [e2] X.env) (hs2 : starEach [e2] X.env = [(false, eval e2 X.env)]) (hpl : (backTo pos (starEach [e2] X.env)).any (·.1) = false) : FV G X Wx P R Φ (.Call (.Name n p) [e1, e2] [] pos) (.b2 k a b) := by
  refine (pe_callB hcr hg hm hv (pa_cons ha (pa_cons hb pa_nil hs2) hs) hn hd hs hpl).imp fun σ H Q ⟨ρ, x, hx, S, En, h⟩ => ?_
  rw [evE] at h
  refine ⟨ρ, x, hx, S, En, rpost_bind h fun v y w e1 Sy r h2 => ⟨ρ, y, rfl, Sy, En.ext e1, rpost_bind h2 fun u z w2 e2 Sz r2 h3 => ?_⟩⟩
  obtain ⟨w', hw, k⟩ := rpost_of h3
  exact ⟨z, v, u, w, w2, w', rfl, rfl, Sz, e2.wv r, r2, hw, k⟩
theorem xe_min2 (B : BltN X.mg) (hc : X.calm = true) (ha : FV G X Wx P R Φ e1 a) (hb : FV G X Wx P R Φ e2 b) (hg : Gl X "min" := by rfl) (hs : starEach [e1, e2] X.env = (false, eval e1 X.env) :: starEach [e2] X.env := by rfl) (hs2 : starEach [e2] X.env = [(false, eval e2 X.env)] := by rfl) (hpl : (backTo pos (starEach [e2] X.env)).any (·.1) = false := by rfl) :
    FV G X Wx P R Φ (.Call (.Name "min" p) [e1, e2] [] pos) (.b2 .min a b) := xe_b2 (cb_min2 hc) (B.no _ (by decide)) boot_min ha hb hg (by decide) (by decide) hs hs2 hpl
theorem xe_max2 (B : BltN X.mg) (hc : X.calm = true) (ha : FV G X Wx P R Φ e1 a) (hb : FV G X Wx P R Φ e2 b) (hg : Gl X "max" := by rfl) (hs : starEach [e1, e2] X.env = (false, eval e1 X.env) :: starEach [e2] X.env := by rfl) (hs2 : starEach [e2] X.env = [(false, eval e2 X.env)] := by rfl) (hpl : (backTo pos (starEach [e2] X.env)).any (·.1) = false := by rfl) :
    FV G X Wx P R Φ (.Call (.Name "max" p) [e1, e2] [] pos) (.b2 .max a b) := xe_b2 (cb_max2 hc) (B.no _ (by decide)) boot_max ha hb hg (by decide) (by decide) hs hs2 hpl
/-! ### upper -/
theorem up_eq {z : Str} (h : (tl z).all (fun c => decide (c < 128)) = true) : Txt.upper z = T ((tl z).map upper1) := by
  rw [PyProof.Rows.upper_ascii (x := z) (fun c hc => of_decide_eq_true (List.all_eq_true.mp h c hc))]
  have e : tl (⟨z.cps.map PyProof.Rows.up1⟩ : Str) = (tl z).map upper1 := by
    show (z.cps.map PyProof.Rows.up1).toList = _
    rw [Array.toList_map]
    rfl
  rw [← e, T_tl]
theorem fe_upper (ha : FV G X Wx P R Φ e1 a) (hbase : attributeBase e1 "upper" X.env (eval e1 X.env) = eval e1 X.env := by rfl) (hline : (apos.endLine == cpos.line) = true := by rfl) : FV G X Wx P R Φ (.Call (.Attribute e1 "upper" apos) [] [] cpos) (.m0 .upper a) := by
  refine (pe_m0 F.slot_str_upper F.type_str_upper mt_upper ha hbase hline).imp fun σ H Q ⟨ρ, x, hx, S, En, h⟩ => ?_
  rw [evE] at h
  refine ⟨ρ, x, hx, S, En, rpost_bind h fun v y w e1 Sy r h2 => ?_⟩
  obtain ⟨w', hw, k⟩ := rpost_of h2
  unfold m0W at hw
  split at hw
  · rename_i hm
    cases hm
  · rename_i z _
    split at hw
    · rename_i hz
      cases hw
      simp only [Bool.and_eq_true, decide_eq_true_eq] at hz
      cases r with
      | d r =>
        cases r
        refine ⟨⟨z, rfl⟩, z, rfl, rfl, by rw [len_eq]; omega, ?_⟩
        rw [up_eq hz.1]
        exact k _ y (Ext.refl y) Sy rfl (.d (.str _))
    · cases hw
  · cases hw
/-! ### defs as values -/
theorem fe_gfn {f : String} {m k : Nat} (F : FnK G X Φ k n f m) (hP : P.glob f = some (.fn f)) (hg : Gl X n := by rfl) (hd : (n == ("__debug__" : Str)) = false := by decide) : FV G X Wx P R Φ (.Name n pos) (.glob f) :=
  fe_glob (v := .ref (G.fa f)) hg F.mg rfl hP (fun x _ => .fn f) hd
/-- the call of a local that holds one of some defs -/
def CandOk (G : Gd) (X : Cx) (Φ : Call) (k : Nat) (cs : List String) : Prop := ∀ f ∈ cs, ∃ n m, FnK G X Φ k n f m
theorem cand_nil {k : Nat} : CandOk G X Φ k [] := fun f h => by cases h
theorem cand_cons {k m : Nat} {f : String} {cs : List String} (F : FnK G X Φ k n f m) (h : CandOk G X Φ k cs) : CandOk G X Φ k (f :: cs) := fun g hg => by
  rcases List.mem_cons.mp hg with e | hg
  · subst e
    exact ⟨_, _, F⟩
  · exact h g hg
theorem fe_callv {E : XK} {i k : Nat} {cs : List String} {a1 : FM.E} (C : CandOk G X Φ k cs) (hr : Room k X.A) (hgd : X.A.guards = some []) (tk : Takes X (wE E)) (ha : FL G X (wE E) P R Φ (e1 :: es) (.cons a1 as)) (hN : X.N[i]? = some n := by rfl) (hv : Vis X.env.scope n := by first | exact Or.inl rfl | exact Or.inr (Or.inl rfl) | exact Or.inr (Or.inr rfl)) (hdb : (n == ("__debug__" : Str)) = false := by decide) (hcd : (n == ("__classdict__" : Str)) = false := by decide)
    (he : starEach (e1 :: es) X.env = (false, eval e1 X.env) :: starEach es X.env := by rfl) (hpl : (backTo pos (starEach es X.env)).any (·.1) = false := by rfl) : FV G X (wE E) P R Φ (.Call (.Name n p) (e1 :: es) [] pos) (.callv i cs (.cons a1 as)) := by
  refine ⟨fun pins s σ H Q I ⟨ρ, x, hx, S, En, h⟩ => ?_⟩
  rw [evE] at h
  cases hw : varW ρ i with
  | none => rw [hw] at h; exact h.elim
  | some w =>
    rw [hw] at h
    cases w with
    | d _ => exact h.elim
    | ref _ => exact h.elim
    | fn f =>
      have h : rpost (yof G X) (wE E) σ x (fun y v w => WV (yof G X) y v w) Q (if cs.contains f then (evEs P R Φ (.cons a1 as) ρ x.st).bind fun ws st => Φ f ws st else .bad) := h
      split at h
      · rename_i hf
        obtain ⟨n', m, F⟩ := C f (by simpa using hf)
        obtain ⟨v, hσ, rv⟩ := En.var hw
        cases rv
        obtain ⟨fd, ps, hps, FG, hb⟩ := F.ok
        refine wpAny_Call_Name_kw (thn ((pe_var (pos := p) hN hv hdb hcd).run pins s σ H (fun v H1 => v = .ref (G.fa f) ∧ H1 = H) I ⟨.ref (G.fa f), hσ, rfl, rfl⟩) fun u s1 ⟨v, H1, I1, r1, q1⟩ => ?_)
        obtain ⟨rfl, rfl⟩ := q1
        cases r1
        refine PySem.W.callWith_K (h₀ := X.base) I.ok.mod.kin F.kp (thn (ha.run pos pins s1 σ _ (fun vs H1 => spF (yof G X) Φ f m vs H1 Q E) I1 ⟨ρ, x, hx, S, En, rpost_bind h fun vs y ws e1 Sy r h2 => ?_⟩) fun us s2 ⟨vs, H2, I2, r, q⟩ => ⟨I2.kIn, run_g FG hr hgd hb tk I2 r q⟩) he hpl
        by_cases hl : ws.length = m
        · exact ⟨by rw [r.length, hl], y, ws, rfl, Sy, r, rpost_wE h2⟩
        · rw [F.ar ws y.st hl] at h2
          exact h2.elim
      · exact h.elim
end
end FM
end

section
/-! FM22: enumerate over lists and tuples, from any start. -/
set_option Elab.async false
set_option linter.all false
set_option maxRecDepth 100000
set_option autoImplicit false
set_option maxHeartbeats 1000000
namespace FM
open PySem PySem.Spec PyProof.Rows L2
/-! ### enumerate(v) begins -/
set_option maxHeartbeats 1000000 in
theorem meets_enum1 {v : Value} {o : Obj} {H : Heap → Prop} (B : Begins v o H) :
    Meets (Builtin.«enumerate.__new__» ⟨[.type "enumerate", v], []⟩) (fun _ R s => H s.heap ∧
      R (.ok (.ret (.ref (s.heap.push o).objs.size))) { s with heap := (s.heap.push o).push { cls := .type "enumerate", data := .fields #[.none, .bool false, .ref s.heap.objs.size, rawInt 0, .none, .none] } }) :=
  .of_wp fun prog w A R s h => by
    obtain ⟨hp, g, d, tk, os⟩ := s; obtain ⟨h1, h⟩ := h
    have hsub := sub_enumerate
    have q1 : ∀ {A' : Around} {E : Value → Shared → Prop} {Q : Value → Shared → Prop}, Q (.ref hp.objs.size) ⟨hp.push o, g, d, tk, os⟩ → wpAny (model prog w) A' (pyIter v) Q E ⟨hp, g, d, tk, os⟩ :=
      fun q => B.iter prog w _ _ ⟨hp, g, d, tk, os⟩ _ h1 q
    wp_walk using q1
    refine wpAny_stack_any fun st => wpAny_pure ?_
    split
    · rename_i c _ _ _ _ _
      cases (c == Value.type "enumerate")
      · wp_walk using q1
        exact ⟨_, rfl, h⟩
      · wp_walk using q1
        exact ⟨_, rfl, h⟩
    · wp_walk using q1
      exact ⟨_, rfl, h⟩
section
variable {prog : Program} {w : World} {A : Around} {E : Value → Shared → Prop} {s : Shared}
theorem enum_new1 {v : Value} {o : Obj} {H : Heap → Prop} {Q : Value → Shared → Prop} (B : Begins v o H) (h1 : H s.heap)
    (h : ∀ h', IsEnum h' (s.heap.objs.size + 1) s.heap.objs.size 0 .none → h'.get? s.heap.objs.size = some o → h'.objs.size = s.heap.objs.size + 2 →
      (∀ b o, s.heap.get? b = some o → h'.get? b = some o) → Q (.ref (s.heap.objs.size + 1)) { s with heap := h' }) :
    wpAny (model prog w) A (call (.type "enumerate") [v]) Q E s := by
  refine callType_new F.called_enumerate (by decide) (F.typeCall_enumerate_1 _) (F.newCall_enumerate_1 _) (fun obj => F.args_object_init_2 obj _) F.entry_enumerate_new
    (meets_enum1 B) ⟨h1, ?_⟩
  have hz : (s.heap.push o).objs.size = s.heap.objs.size + 1 := Heap.size_push ..
  show _ ∧ _
  rw [hz]
  have he : IsEnum ((s.heap.push o).push { cls := .type "enumerate", data := .fields #[.none, .bool false, .ref s.heap.objs.size, rawInt 0, .none, .none] }) (s.heap.objs.size + 1) s.heap.objs.size 0 .none := by
    have := Heap.get?_push_size (s.heap.push o) (o := { cls := .type "enumerate", data := .fields #[.none, .bool false, .ref s.heap.objs.size, rawInt 0, .none, .none] }) rfl
    rw [hz] at this; exact this
  exact ⟨⟨_, he, rfl⟩, h _ he (Heap.get?_push_of_some _ (Heap.get?_push_size _ B.free)) (by rw [Heap.size_push, hz]) fun b o x => Heap.get?_push_of_some _ (Heap.get?_push_of_some _ x)⟩
end
/-! ### the turns -/
/-- a row (a list or a tuple) as it stands -/
def SqX (t : Bool) (K : PySem.W.Frag) (H : Hp) (a : Addr) (xs : List V) : Prop := if t then SqT K H a xs else SqL K H a xs
def RowV (t : Bool) (h : Heap) (a : Addr) (its : Array Value) : Prop := if t then h.IsTuple a its else h.IsList a its
def ItrV (t : Bool) (h : Heap) (it a : Addr) (i : Nat) : Prop := if t then h.IsTupleIter it a i else h.IsListIter it a i
def IteX (t : Bool) (K : PySem.W.Frag) (c : Int) (a : Addr) : It :=
  ⟨fun i H => ∃ (xs : List V) (x : V), SqX t K H a xs ∧ xs[i]? = some x, fun i H v H' => ∃ T x, v = .ref T ∧ H T = none ∧ H' = upd H T (.tup [.int (c + (i : Nat)), x]) ∧ ∀ xs, SqX t K H a xs → xs[i]? = some x, fun i H => ∃ xs : List V, SqX t K H a xs ∧ xs.length ≤ i⟩
theorem sqx_row {t : Bool} {X : Cx} {pins : List (Addr × Obj)} {σ : L2.St} {H : Hp} {s : Shared} {a : Addr} {xs : List V} (I : Inv X pins σ H s) (h : SqX t X.K H a xs) : ∃ its : List Value, Vals xs its ∧ RowV t s.heap a its.toArray := by
  cases t with
  | true =>
    obtain ⟨its, rv, p, _⟩ := I.tuple h
    exact ⟨its, rv, p⟩
  | false =>
    obtain ⟨its, rv, p, _⟩ := I.list h
    exact ⟨its, rv, p.isList⟩
theorem sqx_inj {t : Bool} {X : Cx} {pins : List (Addr × Obj)} {σ : L2.St} {H : Hp} {s : Shared} {a : Addr} {xs ys : List V} (I : Inv X pins σ H s) (h : SqX t X.K H a xs) (h' : SqX t X.K H a ys) : xs = ys := by
  cases t with
  | true => exact I.tuple_inj h h'
  | false => exact I.list_inj h h'
theorem drawsX {t : Bool} {prog : Program} {w : World} {A : Around} (hh : A.handled = none) (it a : Addr) (hne : a ≠ it) (items : Array Value) :
    Draws prog w A it [it, a] items.size (fun i v => items[i]? = some v) (fun i h => ItrV t h it a i ∧ RowV t h a items) := by
  cases t with
  | true => exact Draws.tuple hh it a hne items
  | false => exact Draws.list hh it a hne items
theorem ItrV.live {t : Bool} {h : Heap} {it a : Addr} {i : Nat} (x : ItrV t h it a i) : ∃ o, h.get? it = some o ∧ ∀ v, o.data ≠ .cell v := by
  cases t with
  | true => exact let ⟨o, h1, _, h2⟩ := x; ⟨o, h1, fun v z => by rw [h2] at z; cases z⟩
  | false => exact let ⟨o, h1, _, h2⟩ := x; ⟨o, h1, fun v z => by rw [h2] at z; cases z⟩
theorem ItrV.keep {t : Bool} {h h' : Heap} {it a : Addr} {i : Nat} (x : ItrV t h it a i) (k : ∀ o, h.get? it = some o → h'.get? it = some o) : ItrV t h' it a i := by
  cases t with
  | true => exact let ⟨o, h1, h2⟩ := x; ⟨o, k o h1, h2⟩
  | false => exact let ⟨o, h1, h2⟩ := x; ⟨o, k o h1, h2⟩
theorem enum_endX {t : Bool} {prog : Program} {w : World} {A : Around} {E : Value → Shared → Prop} {s : Shared} {e it l : Addr} {c : Int} {i : Nat} {items : Array Value} {old : Value} {Q : Option Value → Shared → Prop} (hh : A.handled = none)
    (he : IsEnum s.heap e it c old) (hit : ItrV t s.heap it l i) (hl : RowV t s.heap l items) (hx : items[i]? = none)
    (hQ : ∀ h', Heap.ExtBut it s.heap h' → Q none { s with heap := h' }) : wpAny (model prog w) A (pyNext (.ref e)) Q E s := by
  have hT : s.TypeIs (.ref e) "enumerate" := ⟨_, he, rfl⟩
  unfold pyNext
  refine wpAny_bind (wpAny_attempt (wpAny_callSpecial?_slot (name := Str.ofString "__next__") hT F.slot_enumerate_next
    (wpAny_call_entry F.slot_enumerate_next hT F.entry_enumerate_next ?_ (F.args_enumerate_next_1 _))))
  show wpAny _ _ (field (.ref e) 2 >>= _) _ _ _
  refine wpAny_bind (wpAny_field he rfl (x := .ref it) rfl ?_)
  cases t with
  | true =>
    refine wpAny_bind (wpAny_nextOf_tuple_end hh hit hl hx fun h' x he' hx' => ?_)
    obtain ⟨o, ho, hc⟩ := hx'
    refine wpAny_bind (wpAny_isInstance (T := "StopIteration") (b := true) ⟨o, ho, hc⟩ isSubtype_stop ?_)
    exact wpAny_pure (hQ _ he')
  | false =>
    refine wpAny_bind (wpAny_nextOf_list_end hh hit hl hx fun h' x he' hx' => ?_)
    obtain ⟨o, ho, hc⟩ := hx'
    refine wpAny_bind (wpAny_isInstance (T := "StopIteration") (b := true) ⟨o, ho, hc⟩ isSubtype_stop ?_)
    exact wpAny_pure (hQ _ he')
theorem turn_enumX {t : Bool} {P : Program} {w : World} {K : PySem.W.Frag} {elts : List Expr} {kk : Nat} {tpos : Pos} {c : Int} (a e it : Addr) :
    Turn P w K (.Tuple elts kk tpos) (IteX t K c a) [e, it] e (fun i h => (∃ old, IsEnum h e it (c + ((i : Nat) : Int)) old) ∧ ItrV t h it a i ∧ e ≠ it ∧ e ≠ a ∧ a ≠ it) where
  mem := by simp
  obj := fun i h st b hb => by
    obtain ⟨⟨old, he⟩, hi, _⟩ := st
    obtain ⟨o, ho, hd⟩ := hi.live
    have e' : b = e ∨ b = it := by simpa using hb
    rcases e' with z | z
    · rw [z]; exact ⟨_, he, fun v q => nomatch q⟩
    · rw [z]; exact ⟨o, ho, hd⟩
  keep := fun i h h' st k => let ⟨⟨old, he⟩, hi, hne⟩ := st; ⟨⟨old, k e (by simp) _ he⟩, hi.keep fun o q => k it (by simp) o q, hne⟩
  item := by
    intro X hP hw hK hc i pins s σ H E I hf st hg
    subst hP hw hK
    obtain ⟨⟨old, he⟩, hit, hne, hea, hai⟩ := st
    obtain ⟨xs, x, hq, hx⟩ := hg
    obtain ⟨its, rv, p⟩ := sqx_row I hq
    obtain ⟨u, hu, ru⟩ := rv.get hx
    have hel : e < s.heap.objs.size := Heap.lt_size he
    have hil : it < s.heap.objs.size := by obtain ⟨_, q, _⟩ := hit.live; exact Heap.lt_size q
    have hlt : i < its.toArray.size := by
      have := (List.getElem?_eq_some_iff.mp hu).1
      simpa using this
    refine wpAny_pyNext_enum_itemC (drawsX (t := t) (A := X.A.in1) (I.ok.hd hc) it a hai its.toArray) he ⟨hit, p⟩ hlt hne (by simp [hne, hea]) fun y h' tk hy ho st' hT hsz hk => ?_
    obtain ⟨hit', _⟩ := st'
    have ey : y = u := by
      have h1 : its.toArray[i]? = some y := hy
      have h2 : its.toArray[i]? = some u := by simpa using hu
      rw [h1] at h2
      exact Option.some.inj h2
    subst ey
    refine ⟨_, rfl, wpAny_letOwnedTupleGo_enum (s := { s with heap := h', toks := tk + 1 }) ho fun h'' he' sb => ?_⟩
    have hT2 : h''.get? s.heap.objs.size = some { cls := .type "tuple", data := .seq #[.int (c + (i : Nat)) tk, y] } := (sb.2 _ (Nat.ne_of_gt hel)).trans hT
    have new : ObjOk X.prog X.w (upd H s.heap.objs.size (.tup [.int (c + (i : Nat)), x])) h'' s.heap.objs.size (.tup [.int (c + (i : Nat)), x]) :=
      ⟨by show 2 ≤ sizeLine; decide, [.int (c + (i : Nat)) tk, y], .cons ⟨_, rfl⟩ (.cons ru .nil), ⟨_, hT2, rfl, _, rfl⟩⟩
    have I1 : Inv X pins σ (upd H s.heap.objs.size (.tup [.int (c + (i : Nat)), x])) { s with heap := h'', toks := tk + 1 } :=
      I.turnedNew (ch := [e, it]) (fun b ob hb q => (sb.2 b (fun z => hb (by simp [z]))).trans (hk b ob (fun z => hb (by simp [z])) (fun z => hb (by simp [z])) q)) hf (Nat.le_refl _) new
    refine ⟨.ref s.heap.objs.size, _, I1, rfl, ⟨_, x, rfl, I.hok.fresh (Nat.le_refl _), rfl, fun ys hy => by rw [sqx_inj I hy hq]; exact hx⟩, ⟨⟨y, ?_⟩, hit'.keep fun o q => (sb.2 it (Ne.symm hne)).trans q, hne, hea, hai⟩, fun b hb => ?_⟩
    · have e1 : c + ((i + 1 : Nat) : Int) = c + (i : Int) + 1 := by omega
      rw [e1]; exact he'
    · have hb' : b < s.heap.objs.size := by
        have e' : b = e ∨ b = it := by simpa using hb
        rcases e' with z | z
        · rw [z]; exact hel
        · rw [z]; exact hil
      rw [upd_ne (Nat.ne_of_lt hb')]
      exact (hf b hb).1
  done := by
    intro X hP hw hK hc i pins s σ H E I hf st hg
    subst hP hw hK
    obtain ⟨⟨old, he⟩, hit, hne, hea, hai⟩ := st
    obtain ⟨xs, hq, hx⟩ := hg
    obtain ⟨its, rv, p⟩ := sqx_row I hq
    obtain ⟨f0, f1, f2, f3, f4, f5⟩ := hf it (by simp)
    have hl := rv.length
    have hend : its.toArray[i]? = none := by simp; omega
    exact enum_endX (I.ok.hd hc) he hit p hend fun h' eb => ⟨rfl, I.turned (t' := s.toks) (fun b o hb q => eb b o hb q) f0 f1 f3 f4 f5⟩
  self := fun A i s Q E st h => let ⟨⟨_, he⟩, _⟩ := st; wpAny_pyIter_enum he h

/-! ### for .. in enumerate(xs), enumerate(xs, start=k) -/
theorem beginsX {t : Bool} (l : Addr) (items : Array Value) : ∃ o : Obj, Begins (.ref l) o (fun h => RowV t h l items) ∧ ∀ h it, h.get? it = some o → ItrV t h it l 0 := by
  cases t with
  | true => exact ⟨_, begins_tuple l items, fun h it e => ⟨_, e, rfl, rfl⟩⟩
  | false => exact ⟨_, begins_list l items, fun h it e => ⟨_, e, rfl, rfl⟩⟩
theorem RowV.lt {t : Bool} {h : Heap} {a : Addr} {its : Array Value} (p : RowV t h a its) : a < h.objs.size := by
  cases t with
  | true => exact let ⟨o, ho, _⟩ := p; Heap.lt_size ho
  | false => exact let ⟨o, ho, _⟩ := p; Heap.lt_size ho
def iEnumX (K : PySem.W.Frag) (c : Int) (ta : TA) : TI := fun σ H R => ta σ H fun vs H1 => ∃ t a xs, vs = [.ref a] ∧ SqX t K H1 a xs ∧ R (IteX t K c a) H1
theorem enum_pie {t : Bool} {X : Cx} {pins : List (Addr × Obj)} {σ : L2.St} {H : Hp} {s : Shared} {R : It → Hp → Prop} {a : Addr} {its : Array Value} {o : Obj} {c : Int} {elts : List Expr} {kk : Nat} {tpos : Pos} {h' : Heap} (I : Inv X pins σ H s) (p : RowV t s.heap a its) (ho : ∀ h it, h.get? it = some o → ItrV t h it a 0)
    (he : IsEnum h' (s.heap.objs.size + 1) s.heap.objs.size c .none) (hit : h'.get? s.heap.objs.size = some o) (hk : ∀ b o, s.heap.get? b = some o → h'.get? b = some o) (q : R (IteX t X.K c a) H) :
    PIE X pins σ (.Tuple elts kk tpos) R (.ref (s.heap.objs.size + 1)) { s with heap := h' } := by
  have I2 : Inv X pins σ H { s with heap := h' } := I.kept (t' := s.toks) hk
  have hal := p.lt
  refine ⟨s.heap.objs.size + 1, [s.heap.objs.size + 1, s.heap.objs.size], _, _, H, rfl, I2, turn_enumX (t := t) (c := c) a (s.heap.objs.size + 1) s.heap.objs.size, ⟨⟨.none, by simpa using he⟩, ho _ _ hit, Nat.succ_ne_self _, Nat.ne_of_gt (Nat.lt_succ_of_lt hal), Nat.ne_of_lt hal⟩, fun b hb => ?_, q⟩
  have e' : b = s.heap.objs.size + 1 ∨ b = s.heap.objs.size := by simpa using hb
  have hle : s.heap.objs.size ≤ b := by
    rcases e' with z | z
    · rw [z]; exact Nat.le_add_right _ _
    · rw [z]; exact Nat.le_refl _
  exact I.fpOk hle (I.hok.fresh hle)
section
variable {X : Cx} {e : Expr} {ta : TA} {p pos tpos : Pos} {elts : List Expr} {kk : Nat}
theorem pi_enumX (hg : Gl X "enumerate") (hm : X.mg "enumerate" = none) (ha : PA X [e] ta) (hs : starEach [e] X.env = [(false, eval e X.env)] := by rfl) :
    PI X (.Tuple elts kk tpos) (.Call (.Name "enumerate" p) [e] [] pos) (iEnumX X.K 0 ta) := by
  refine ⟨fun pins s σ H R I h => ?_⟩
  refine Call_ (ld_blt I hg hm boot_enumerate (PyProof.Rows.callWith_type1 (thn (ha.run pos pins s σ H _ I h) fun us s1 ⟨vs, H1, I1, r1, q1⟩ => ?_) hs rfl))
  obtain ⟨t, a, xs, ex, hq, q⟩ := q1
  subst ex
  cases r1 with
  | cons r rr =>
    cases rr
    cases r
    obtain ⟨its, rv, p'⟩ := sqx_row I1 hq
    obtain ⟨o, B, ho⟩ := beginsX (t := t) a its.toArray
    exact enum_new1 B p' fun h' he hit hsz hk => wpAny_pyIter_enum he (enum_pie I1 p' ho he hit hk q)
end
section
variable {G : Gd} {X : Cx} {Wx : WX} {P : Prog} {R : Fun1} {Φ : Call} {pos : Pos} {e e1 e2 e3 : Expr} {a b c : FM.E} {es : List Expr} {as : Es} {n : Str} {p apos cpos tpos : Pos} {elts : List Expr} {kk : Nat}
theorem enumL_get : ∀ (xs : List D) (k : Int) (i : Nat) {d : D}, xs[i]? = some d → (enumL k xs)[i]? = some (.tuple [.int (k + (i : Nat)), d])
  | [], _, _, _, h => by simp at h
  | x :: r, k, 0, d, h => by
    simp at h
    subst h
    simp [enumL]
  | x :: r, k, i + 1, d, h => by
    have := enumL_get r (k + 1) i (by simpa using h)
    simp only [enumL, List.getElem?_cons_succ, this]
    rw [show k + 1 + (i : Int) = k + ((i + 1 : Nat) : Int) by omega]
theorem enumL_len : ∀ (xs : List D) (k : Int), (enumL k xs).length = xs.length
  | [], _ => rfl
  | x :: r, k => by simp [enumL, enumL_len r (k + 1)]
theorem src_enum {Y : Rt} {y : Wd} {t : Bool} {q : Addr} {xs : List D} {k : Nat} {g : Option Nat} (h : ∀ z, Mv y z → SR Y z → (∀ n, g = some n → z.st[n]? = y.st[n]?) → ∃ vs, SqX t Y.K z.H q vs ∧ PVs Y z.H z.nl vs xs) : SrcOk Y y (IteX t Y.K k q) ((enumL k xs).map .d) g := fun z ez Sz hg => by
  obtain ⟨vs, h1, h2⟩ := h z ez Sz hg
  have hl := h2.length
  refine ⟨⟨vs, h1, by simp [enumL_len, hl]⟩, fun i hi => ?_⟩
  have hi2 : i < vs.length := by simpa [enumL_len, hl] using hi
  refine ⟨⟨vs, vs[i], h1, List.getElem?_eq_getElem _⟩, fun v H' ⟨T, x, e1, e2, e3, e4⟩ => ?_⟩
  subst e1 e3
  obtain ⟨d, hd, pv⟩ := PVs.mem h2 (e4 vs h1)
  obtain ⟨ex, Sx, nl⟩ := Ext.new (o := .tup [.int ((k : Int) + (i : Nat)), x]) Sz e2 (fun _ z => by cases z)
  refine ⟨_, _, ?_, ex, Sx, rfl, rfl, .d (.tup (.inl ⟨.inl upd_same, nl⟩) (.cons (.int _) (.cons (ex.pv pv) .nil)))⟩
  rw [List.getElem?_map, enumL_get xs k i hd]
  rfl
theorem fi_enum (hg : Gl X "enumerate") (hm : X.mg "enumerate" = none) (ha : FV G X Wx P R Φ e a) (hs : starEach [e] X.env = [(false, eval e X.env)] := by rfl) : FI G X Wx P R Φ (.Tuple elts kk tpos) (.Call (.Name "enumerate" p) [e] [] pos) (.enum a 0) := by
  refine ⟨fun pins s σ H Q I ⟨ρ, x, hx, S, En, h⟩ => (pi_enumX hg hm (pa_cons ha pa_nil hs) hs).run pins s σ H Q I ?_⟩
  rw [evI] at h
  refine ⟨ρ, x, hx, S, En, ?_⟩
  cases hr : evE P R Φ a ρ x.st with
  | exn ex st' => rw [hr] at h; exact h
  | bad => rw [hr] at h; exact h
  | ok w st' =>
    rw [hr] at h
    have h : rpostI (yof G X) Wx σ x Q (match seqD st' w with | some xs => .ok ((enumL 0 xs).map .d, guardOf w) st' | none => .bad) := h
    cases hw : seqD st' w with
    | none => rw [hw] at h; exact h.elim
    | some xs =>
      rw [hw] at h
      simp only [seqD] at hw
      intro v y ey Sy hy r
      cases r with
      | @d _ d r =>
        cases d <;> simp only [seqW, reduceCtorEq, allD_map, Option.some.injEq] at hw
        · subst hw
          cases r with
          | lst h1 h2 => exact ⟨false, _, _, rfl, h1.sq, h _ y ey Sy hy (src_enum (t := false) fun z ez Sz _ => ⟨_, (ez.lstC h1).sq, ez.pvs h2⟩)⟩
        · subst hw
          cases r with
          | tup h1 h2 => exact ⟨true, _, _, rfl, h1.sq, h _ y ey Sy hy (src_enum (t := true) fun z ez Sz _ => ⟨_, (ez.tupC h1).sq, ez.pvs h2⟩)⟩
      | @ref n _ hn =>
        cases hc : st'[n]? with
        | none => simp [seqW, hc] at hw
        | some c =>
          cases c with
          | lst l =>
            simp only [seqW, hc] at hw
            subst hy
            obtain ⟨vs, hH, rs⟩ := Sy.cell _ _ _ hn hc
            refine ⟨false, _, _, rfl, .inl (.inl hH), h _ y ey Sy rfl (src_enum (t := false) fun z ez Sz hg => ?_)⟩
            obtain ⟨vs2, hH2, rs2⟩ := Sz.cell _ _ _ (ez.get hn) ((hg n rfl).trans hc)
            exact ⟨vs2, .inl (.inl hH2), rs2.pvs hw⟩
          | dct _ => simp [seqW, hc] at hw
          | ins _ _ => simp [seqW, hc] at hw
          | dead => simp [seqW, hc] at hw
      | fn f => simp [seqW] at hw
theorem xi_enum (B : BltN X.mg) (ha : FV G X Wx P R Φ e a) (hg : Gl X "enumerate" := by rfl) (hs : starEach [e] X.env = [(false, eval e X.env)] := by rfl) : FI G X Wx P R Φ (.Tuple elts kk tpos) (.Call (.Name "enumerate" p) [e] [] pos) (.enum a 0) := fi_enum hg (B.no _ (by decide)) ha hs
theorem xf_sorted (B : BltN X.mg) (hu : X.A.units + 66 < cLine) (ha : FV G X Wx P R Φ e a) (hg : Gl X "sorted" := by rfl) (hs : starEach [e] X.env = [(false, eval e X.env)] := by rfl) : FF G X Wx P R Φ (.Call (.Name "sorted" p) [e] [] pos) (.sorted a) := ff_sorted hu hg (B.no _ (by decide)) ha hs
theorem xf_list (B : BltN X.mg) (hc : X.calm = true) (ha : FV G X Wx P R Φ e a) (hg : Gl X "list" := by rfl) (hs : starEach [e] X.env = [(false, eval e X.env)] := by rfl) : FF G X Wx P R Φ (.Call (.Name "list" p) [e] [] pos) (.list a) := ff_list hc hg (B.no _ (by decide)) ha hs
end
end FM
end

section
/-! FM23: enumerate over a zip of two rows (lists or tuples). -/
set_option Elab.async false
set_option linter.all false
set_option maxRecDepth 100000
set_option autoImplicit false
set_option maxHeartbeats 1000000
namespace FM
open PySem PySem.Spec PyProof.Rows L2
/-! ### a zip whose last tuple may still stand -/
abbrev ZipV (h : Heap) (z ti to : Addr) (v : Value) (f : Bool) : Prop := h.get? z = some { cls := .type "zip", dict := none, data := .fields #[v, .bool f, .bool false, .ref ti, .ref to], slots := #[] }
def OwnV (v : Value) : Prop := v = .none ∨ ∃ T : Nat, v = rawInt T
section
variable {prog : Program} {w : World} {A : Around} {E : Value → Shared → Prop} {s : Shared} {z ti to i1 i2 : Addr} {fa fb : List Addr} {na nb i : Nat} {Pa Pb : Nat → Value → Prop} {Sa Sb : Nat → Heap → Prop} {a1 a2 v : Value} {f : Bool}
theorem ask_alive {a : Addr} {Q : Option Obj → Shared → Prop} (h : Q (s.heap.get? a) s) : wpAny (model prog w) A (loadIfAlive a) Q E s := fun _ _ _ => h
theorem own_free {Q : Bool → Shared → Prop} (zz : ZipV s.heap z ti to v f) (ov : OwnV v) (q1 : Q true s) (q2 : ∀ g, ZipV g z ti to v true → Heap.SameBut z s.heap g → Q false { s with heap := g }) :
    wpAny (model prog w) A (Builtin.SmallTypes.ownedTupleIsFree (.ref z)) Q E s := by
  unfold Builtin.SmallTypes.ownedTupleIsFree
  rcases ov with rfl | ⟨T, rfl⟩
  · exact wpAny_bind (wpAny_field zz rfl (x := .none) rfl (wpAny_pure q1))
  · refine wpAny_bind (wpAny_field zz rfl (x := rawInt T) rfl ?_)
    show wpAny _ _ (loadIfAlive ((T : Int).toNat) >>= _) _ _ s
    rw [Int.toNat_natCast]
    refine wpAny_bind (ask_alive ?_)
    cases s.heap.get? T with
    | none => exact wpAny_pure q1
    | some o =>
      simp only [Option.isNone_some, Bool.false_eq_true, if_false]
      refine wpAny_bind (wpAny_field zz rfl (x := .bool f) rfl ?_)
      cases f with
      | true => exact wpAny_pure (q2 s.heap zz (Heap.SameBut.refl _ _))
      | false => exact wpAny_bind (wpAny_setField_rec zz (by simp) fun g zg sg => wpAny_pure (q2 g zg sg))
/-- the zip's next, two more items -/
theorem zipV_item {Q : Value → Shared → Prop} (S : ZipSep2 z ti to i1 i2 fa fb) (Da : Draws prog w A i1 fa na Pa Sa) (Db : Draws prog w A i2 fb nb Pb Sb)
    (zz : ZipV s.heap z ti to v f) (ov : OwnV v) (eI : IsTupOf2 s.heap ti (.ref i1) (.ref i2)) (eO : IsTupOf2 s.heap to a1 a2) (sa : Sa i s.heap) (sb : Sb i s.heap) (la : i < na) (lb : i < nb)
    (q : ∀ x y g tk v' f' b1 b2, Pa i x → Pb i y → ZipV g z ti to v' f' → OwnV v' → IsTupOf2 g to b1 b2 → Sa (i + 1) g → Sb (i + 1) g → IsTupOf2 g s.heap.objs.size x y → g.objs.size = s.heap.objs.size + 1 →
      (∀ c o, c ≠ z → c ≠ to → c ≠ i1 → c ≠ i2 → s.heap.get? c = some o → g.get? c = some o) → Q (.ref s.heap.objs.size) { s with heap := g, toks := tk }) :
    wpAny (model prog w) A (Builtin.«zip.__next__» ⟨[.ref z], []⟩) (fun fin s' => ∃ u, fin = .done (.ret u) ∧ Q u s') E s := by
  obtain ⟨hp, gs, d, tk0, os⟩ := s
  have zlt : z < hp.objs.size := Heap.lt_size zz
  show wpAny _ _ (field (.ref z) 2 >>= _) _ _ _
  refine wpAny_bind (wpAny_field zz rfl (x := .bool false) rfl ?_)
  show wpAny _ _ (field (.ref z) 3 >>= _) _ _ _
  refine wpAny_bind (wpAny_field zz rfl (x := .ref ti) rfl ?_)
  refine wpAny_bind (wpAny_seqItems eI rfl ?_)
  show wpAny _ _ (Builtin.SmallTypes.ownedTupleIsFree (.ref z) >>= _) _ _ _
  refine wpAny_bind (own_free zz ov ?_ fun g0 z0 s0 => ?_)
  · simp only [if_true]
    refine wpAny_bind (wpAny_rule ?_)
    refine wpAny_bind (wpAny_field zz rfl (x := .ref to) rfl ?_)
    refine wpAny_bind (wpAny_setField_rec zz (by simp) fun g0 z0 s0 => ?_)
    replace z0 : ZipV g0 z ti to .ellipsis f := z0
    replace s0 : Heap.SameBut z hp g0 := s0
    refine wpAny_bind ?_
    simp only [List.zipIdx_cons, List.zipIdx_nil, List.forIn_cons, List.forIn_nil]
    refine wpAny_bind (wpAny_bind (wpAny_onRaise ?_))
    show wpAny _ _ (Builtin.SmallTypes.nextOf (.ref i1) >>= _) _ _ ⟨g0, gs, d, tk0, os⟩
    refine wpAny_bind (Da.item i _ _ _ la (Da.over sa s0 S.zf1) fun x p1 tk1 hx sa1 hp1 => wpAny_pure ?_)
    replace hp1 : Heap.SameBut i1 g0 p1 := hp1
    have u1 : IsTupOf2 p1 to a1 a2 := hp1.extBut _ _ S.Ti1 (s0.extBut _ _ S.TOz eO)
    refine wpAny_bind (wpAny_seqItems (s := ⟨p1, gs, d, tk1, os⟩) u1 rfl ?_)
    refine wpAny_bind (updateSeq_IsTupOf2 (s := ⟨p1, gs, d, tk1, os⟩) u1 fun g1 t1 s1 => ?_)
    replace t1 : IsTupOf2 g1 to x a2 := t1
    replace s1 : Heap.SameBut to p1 g1 := s1
    refine wpAny_bind (wpAny_letGo (wpAny_pure ?_))
    refine wpAny_bind (wpAny_bind (wpAny_onRaise ?_))
    show wpAny _ _ (Builtin.SmallTypes.nextOf (.ref i2) >>= _) _ _ ⟨g1, gs, d, tk1, os⟩
    refine wpAny_bind (Db.item i _ _ _ lb (Db.over (Db.over (Db.over sb s0 S.zf2) hp1 S.sep1_2) s1 S.Tf2) fun y p2 tk2 hy sb1 hp2 => wpAny_pure ?_)
    replace hp2 : Heap.SameBut i2 g1 p2 := hp2
    have u2 : IsTupOf2 p2 to x a2 := hp2.extBut _ _ S.Ti2 t1
    refine wpAny_bind (wpAny_seqItems (s := ⟨p2, gs, d, tk2, os⟩) u2 rfl ?_)
    refine wpAny_bind (updateSeq_IsTupOf2 (s := ⟨p2, gs, d, tk2, os⟩) u2 fun g2 t2 s2 => ?_)
    replace t2 : IsTupOf2 g2 to x y := t2
    replace s2 : Heap.SameBut to p2 g2 := s2
    refine wpAny_bind (wpAny_letGo (wpAny_pure (wpAny_pure ?_)))
    refine wpAny_bind (wpAny_seqItems (s := ⟨g2, gs, d, tk2, os⟩) t2 rfl ?_)
    refine wpAny_bind (wpAny_newTuple ?_)
    have sz : g2.objs.size = hp.objs.size := by rw [s2.1, hp2.1, s1.1, hp1.1, s0.1]
    have z2 : ZipV g2 z ti to .ellipsis f := s2.extBut _ _ S.TOz.symm (hp2.extBut _ _ S.zi2 (s1.extBut _ _ S.TOz.symm (hp1.extBut _ _ S.zi1 z0)))
    have kk : ∀ c o, c ≠ z → c ≠ to → c ≠ i1 → c ≠ i2 → hp.get? c = some o → g2.get? c = some o := fun c o cz ct c1 c2 e =>
      s2.extBut _ _ ct (hp2.extBut _ _ c2 (s1.extBut _ _ ct (hp1.extBut _ _ c1 (s0.extBut _ _ cz e))))
    have ja : Sa (i + 1) g2 := Da.over (Da.over (Da.over sa1 s1 S.Tf1) hp2 S.sep2_1) s2 S.Tf1
    have jb : Sb (i + 1) g2 := Db.over sb1 s2 S.Tf2
    have zl2 : z < g2.objs.size := by rw [sz]; exact zlt
    show wpAny _ _ (Builtin.SmallTypes.ownedTupleHandOut (.ref z) (.ref g2.objs.size) >>= _) _ _ ⟨g2.push { cls := .type "tuple", data := .seq #[x, y] }, gs, d, tk2, os⟩
    refine wpAny_bind ?_
    unfold Builtin.SmallTypes.ownedTupleHandOut
    have z6 : ZipV (g2.push { cls := .type "tuple", data := .seq #[x, y] }) z ti to .ellipsis f := Heap.get?_push_of_some _ z2
    refine wpAny_bind (wpAny_setField_rec z6 (by simp) fun h7 z7 s7 => ?_)
    replace z7 : ZipV h7 z ti to (rawInt g2.objs.size) f := z7
    refine wpAny_setField_rec z7 (by simp) fun h8 z8 s8 => ?_
    replace z8 : ZipV h8 z ti to (rawInt g2.objs.size) false := z8
    replace s7 : Heap.SameBut z (g2.push { cls := .type "tuple", data := .seq #[x, y] }) h7 := s7
    replace s8 : Heap.SameBut z h7 h8 := s8
    have up : ∀ c o, c ≠ z → g2.get? c = some o → h8.get? c = some o := fun c o c1 e => s8.extBut _ _ c1 (s7.extBut _ _ c1 (Heap.get?_push_of_some _ e))
    have t8 : IsTupOf2 h8 g2.objs.size x y := s8.extBut _ _ (Nat.ne_of_gt zl2) (s7.extBut _ _ (Nat.ne_of_gt zl2) (Heap.get?_push_size _ rfl))
    have n8 : h8.objs.size = g2.objs.size + 1 := by rw [s8.1, s7.1, Heap.size_push]
    have o8 : OwnV (rawInt g2.objs.size) := .inr ⟨_, rfl⟩
    rw [sz] at z8 t8 n8 o8
    refine wpAny_pure ⟨_, rfl, ?_⟩
    show Q (.ref g2.objs.size) ⟨h8, gs, d, tk2, os⟩
    rw [sz]
    exact q x y h8 tk2 _ _ _ _ hx hy z8 o8 (up _ _ S.TOz t2) (Da.frame _ _ _ ja fun b hb o e => up b o (fun k => S.zf1 (k ▸ hb)) e) (Db.frame _ _ _ jb fun b hb o e => up b o (fun k => S.zf2 (k ▸ hb)) e) t8 n8 fun c o cz ct c1 c2 e => up c o cz (kk c o cz ct c1 c2 e)
  · simp only [Bool.false_eq_true, if_false]
    replace s0 : Heap.SameBut z hp g0 := s0
    refine wpAny_bind ?_
    rw [← Array.forIn_toList]
    simp only [List.forIn_cons, List.forIn_nil]
    refine wpAny_bind (wpAny_bind (wpAny_holding ?_))
    show wpAny _ _ (Builtin.SmallTypes.nextOf (.ref i1) >>= _) _ _ ⟨g0, gs, d, tk0, os⟩
    refine wpAny_bind (Da.item i _ _ _ la (Da.over sa s0 S.zf1) fun x p1 tk1 hx sa1 hp1 => wpAny_pure ?_)
    replace hp1 : Heap.SameBut i1 g0 p1 := hp1
    refine wpAny_pure ?_
    refine wpAny_bind (wpAny_bind (wpAny_holding ?_))
    show wpAny _ _ (Builtin.SmallTypes.nextOf (.ref i2) >>= _) _ _ ⟨p1, gs, d, tk1, os⟩
    refine wpAny_bind (Db.item i _ _ _ lb (Db.over (Db.over sb s0 S.zf2) hp1 S.sep1_2) fun y p2 tk2 hy sb1 hp2 => wpAny_pure ?_)
    replace hp2 : Heap.SameBut i2 p1 p2 := hp2
    refine wpAny_pure (wpAny_pure ?_)
    show wpAny _ _ (newTuple [x, y] >>= _) _ _ ⟨p2, gs, d, tk2, os⟩
    refine wpAny_bind (wpAny_newTuple ?_)
    have sz : p2.objs.size = hp.objs.size := by rw [hp2.1, hp1.1, s0.1]
    have z2 : ZipV p2 z ti to v true := hp2.extBut _ _ S.zi2 (hp1.extBut _ _ S.zi1 z0)
    have kk : ∀ c o, c ≠ z → c ≠ to → c ≠ i1 → c ≠ i2 → hp.get? c = some o → p2.get? c = some o := fun c o cz _ c1 c2 e => hp2.extBut _ _ c2 (hp1.extBut _ _ c1 (s0.extBut _ _ cz e))
    have ja : Sa (i + 1) p2 := Da.over sa1 hp2 S.sep2_1
    have tO : IsTupOf2 p2 to a1 a2 := hp2.extBut _ _ S.Ti2 (hp1.extBut _ _ S.Ti1 (s0.extBut _ _ S.TOz eO))
    have t8 : IsTupOf2 (p2.push { cls := .type "tuple", data := .seq #[x, y] }) p2.objs.size x y := Heap.get?_push_size _ rfl
    have n8 : (p2.push { cls := .type "tuple", data := .seq #[x, y] }).objs.size = p2.objs.size + 1 := Heap.size_push ..
    refine wpAny_pure ⟨_, rfl, ?_⟩
    show Q (.ref p2.objs.size) ⟨p2.push { cls := .type "tuple", data := .seq #[x, y] }, gs, d, tk2, os⟩
    rw [sz] at t8 n8 ⊢
    exact q x y _ tk2 _ _ _ _ hx hy (Heap.get?_push_of_some _ z2) ov (Heap.get?_push_of_some _ tO) (Da.frame _ _ _ ja fun b hb o e => Heap.get?_push_of_some _ e) (Db.frame _ _ _ sb1 fun b hb o e => Heap.get?_push_of_some _ e) t8 n8 fun c o cz ct c1 c2 e => Heap.get?_push_of_some _ (kk c o cz ct c1 c2 e)
/-- the zip's next, one row at its end -/
theorem zipV_end {Q : Fin → Shared → Prop} (S : ZipSep2 z ti to i1 i2 fa fb) (Da : Draws prog w A i1 fa na Pa Sa) (Db : Draws prog w A i2 fb nb Pb Sb)
    (zz : ZipV s.heap z ti to v f) (ov : OwnV v) (eI : IsTupOf2 s.heap ti (.ref i1) (.ref i2)) (eO : IsTupOf2 s.heap to a1 a2) (sa : Sa i s.heap) (sb : Sb i s.heap) (la : i ≤ na) (lb : i ≤ nb) (en : i = na ∨ i = nb)
    (q : ∀ g tk e, (∀ c o, c ≠ z → c ≠ to → c ≠ i1 → c ≠ i2 → s.heap.get? c = some o → g.get? c = some o) → (∃ o, g.get? e = some o ∧ o.cls = .type "StopIteration") → E (.ref e) { s with heap := g, toks := tk }) :
    wpAny (model prog w) A (Builtin.«zip.__next__» ⟨[.ref z], []⟩) Q E s := by
  obtain ⟨hp, gs, d, tk0, os⟩ := s
  show wpAny _ _ (field (.ref z) 2 >>= _) _ _ _
  refine wpAny_bind (wpAny_field zz rfl (x := .bool false) rfl ?_)
  show wpAny _ _ (field (.ref z) 3 >>= _) _ _ _
  refine wpAny_bind (wpAny_field zz rfl (x := .ref ti) rfl ?_)
  refine wpAny_bind (wpAny_seqItems eI rfl ?_)
  show wpAny _ _ (Builtin.SmallTypes.ownedTupleIsFree (.ref z) >>= _) _ _ _
  refine wpAny_bind (own_free zz ov ?_ fun g0 z0 s0 => ?_)
  · simp only [if_true]
    refine wpAny_bind (wpAny_rule ?_)
    refine wpAny_bind (wpAny_field zz rfl (x := .ref to) rfl ?_)
    refine wpAny_bind (wpAny_setField_rec zz (by simp) fun g0 z0 s0 => ?_)
    replace z0 : ZipV g0 z ti to .ellipsis f := z0
    replace s0 : Heap.SameBut z hp g0 := s0
    refine wpAny_bind ?_
    simp only [List.zipIdx_cons, List.zipIdx_nil, List.forIn_cons, List.forIn_nil]
    refine wpAny_bind (wpAny_bind (wpAny_onRaise ?_))
    show wpAny _ _ (Builtin.SmallTypes.nextOf (.ref i1) >>= _) _ _ ⟨g0, gs, d, tk0, os⟩
    by_cases l1 : i < na
    · refine wpAny_bind (Da.item i _ _ _ l1 (Da.over sa s0 S.zf1) fun x p1 tk1 hx sa1 hp1 => wpAny_pure ?_)
      replace hp1 : Heap.SameBut i1 g0 p1 := hp1
      have u1 : IsTupOf2 p1 to a1 a2 := hp1.extBut _ _ S.Ti1 (s0.extBut _ _ S.TOz eO)
      refine wpAny_bind (wpAny_seqItems (s := ⟨p1, gs, d, tk1, os⟩) u1 rfl ?_)
      refine wpAny_bind (updateSeq_IsTupOf2 (s := ⟨p1, gs, d, tk1, os⟩) u1 fun g1 t1 s1 => ?_)
      replace t1 : IsTupOf2 g1 to x a2 := t1
      replace s1 : Heap.SameBut to p1 g1 := s1
      refine wpAny_bind (wpAny_letGo (wpAny_pure ?_))
      have e2 : i = nb := by omega
      refine wpAny_bind (wpAny_bind (wpAny_onRaise ?_))
      show wpAny _ _ (Builtin.SmallTypes.nextOf (.ref i2) >>= _) _ _ ⟨g1, gs, d, tk1, os⟩
      refine wpAny_bind (Db.done ⟨g1, gs, d, tk1, os⟩ _ _ (by rw [← e2]; exact Db.over (Db.over (Db.over sb s0 S.zf2) hp1 S.sep1_2) s1 S.Tf2) fun r e hr he => ?_)
      replace hr : Heap.ExtBut i2 g1 r := hr
      obtain ⟨oe, ho, hc⟩ := he
      replace ho : r.get? e = some oe := ho
      have zr : ZipV r z ti to .ellipsis f := hr _ _ S.zi2 (s1.extBut _ _ S.TOz.symm (hp1.extBut _ _ S.zi1 z0))
      have ez : e ≠ z := fun k => by subst k; rw [zr] at ho; cases ho; simp at hc
      refine wpAny_setField_rec (s := ⟨r, gs, d, tk1, os⟩) zr (by simp) fun r' _ sr => ?_
      replace sr : Heap.SameBut z r r' := sr
      exact q r' tk1 e (fun c o cz ct c1 c2 k => sr.extBut _ _ cz (hr _ _ c2 (s1.extBut _ _ ct (hp1.extBut _ _ c1 (s0.extBut _ _ cz k))))) ⟨oe, sr.extBut _ _ ez ho, hc⟩
    · have e1 : i = na := by omega
      refine wpAny_bind (Da.done ⟨g0, gs, d, tk0, os⟩ _ _ (by rw [← e1]; exact Da.over sa s0 S.zf1) fun r e hr he => ?_)
      replace hr : Heap.ExtBut i1 g0 r := hr
      obtain ⟨oe, ho, hc⟩ := he
      replace ho : r.get? e = some oe := ho
      have zr : ZipV r z ti to .ellipsis f := hr _ _ S.zi1 z0
      have ez : e ≠ z := fun k => by subst k; rw [zr] at ho; cases ho; simp at hc
      refine wpAny_setField_rec (s := ⟨r, gs, d, tk0, os⟩) zr (by simp) fun r' _ sr => ?_
      replace sr : Heap.SameBut z r r' := sr
      exact q r' tk0 e (fun c o cz ct c1 c2 k => sr.extBut _ _ cz (hr _ _ c1 (s0.extBut _ _ cz k))) ⟨oe, sr.extBut _ _ ez ho, hc⟩
  · simp only [Bool.false_eq_true, if_false]
    replace s0 : Heap.SameBut z hp g0 := s0
    refine wpAny_bind ?_
    rw [← Array.forIn_toList]
    simp only [List.forIn_cons, List.forIn_nil]
    refine wpAny_bind (wpAny_bind (wpAny_holding ?_))
    show wpAny _ _ (Builtin.SmallTypes.nextOf (.ref i1) >>= _) _ _ ⟨g0, gs, d, tk0, os⟩
    by_cases l1 : i < na
    · refine wpAny_bind (Da.item i _ _ _ l1 (Da.over sa s0 S.zf1) fun x p1 tk1 hx sa1 hp1 => wpAny_pure ?_)
      replace hp1 : Heap.SameBut i1 g0 p1 := hp1
      refine wpAny_pure ?_
      have e2 : i = nb := by omega
      refine wpAny_bind (wpAny_bind (wpAny_holding ?_))
      show wpAny _ _ (Builtin.SmallTypes.nextOf (.ref i2) >>= _) _ _ ⟨p1, gs, d, tk1, os⟩
      refine wpAny_bind (Db.done ⟨p1, gs, d, tk1, os⟩ _ _ (by rw [← e2]; exact Db.over (Db.over sb s0 S.zf2) hp1 S.sep1_2) fun r e hr he => ?_)
      replace hr : Heap.ExtBut i2 p1 r := hr
      exact q r tk1 e (fun c o cz ct c1 c2 k => hr _ _ c2 (hp1.extBut _ _ c1 (s0.extBut _ _ cz k))) he
    · have e1 : i = na := by omega
      refine wpAny_bind (Da.done ⟨g0, gs, d, tk0, os⟩ _ _ (by rw [← e1]; exact Da.over sa s0 S.zf1) fun r e hr he => ?_)
      replace hr : Heap.ExtBut i1 g0 r := hr
      exact q r tk0 e (fun c o cz ct c1 c2 k => hr _ _ c1 (s0.extBut _ _ cz k)) he
/-- an enumerate's next over what its iterator gives -/
theorem enum_over {e it : Addr} {c : Int} {old : Value} {R : Value → Heap → Prop} {Q : Value → Shared → Prop} (he : IsEnum s.heap e it c old)
    (inner : ∀ Q' : Value → Shared → Prop, (∀ x g tk, R x g → Q' x { s with heap := g, toks := tk }) → wpAny (model prog w) A (Builtin.SmallTypes.nextOf (.ref it)) Q' E s) (hR : ∀ x g, R x g → IsEnum g e it c old)
    (q : ∀ x g g' tk, R x g → IsEnumOut g' e it (c + 1) x g.objs.size → g'.get? g.objs.size = some { cls := .type "tuple", data := .seq #[.int c tk, x] } → g'.objs.size = g.objs.size + 1 →
      (∀ b o, b ≠ e → g.get? b = some o → g'.get? b = some o) → Q (.ref g.objs.size) { s with heap := g', toks := tk + 1 }) :
    wpAny (model prog w) A (Builtin.«enumerate.__next__» ⟨[.ref e], []⟩) (fun fin s' => ∃ u, fin = .done (.ret u) ∧ Q u s') E s := by
  obtain ⟨hp, gs, d, tk0, os⟩ := s
  show wpAny _ _ (field (.ref e) 2 >>= _) _ _ _
  refine wpAny_bind (wpAny_field he rfl (x := .ref it) rfl ?_)
  refine wpAny_bind (inner _ fun x g tk r => ?_)
  have e1 := hR x g r
  show wpAny _ _ (field (.ref e) 3 >>= _) _ _ ⟨g, gs, d, tk, os⟩
  refine wpAny_bind (wpAny_field e1 rfl (x := rawInt c) rfl ?_)
  show wpAny _ _ (field (.ref e) 4 >>= _) _ _ ⟨g, gs, d, tk, os⟩
  refine wpAny_bind (wpAny_field e1 rfl (x := .none) rfl ?_)
  show wpAny _ _ (mkInt c >>= _) _ _ ⟨g, gs, d, tk, os⟩
  refine wpAny_bind (wpAny_mkInt ?_)
  show wpAny _ _ (setField (.ref e) 3 (rawInt (c + 1)) >>= _) _ _ ⟨g, gs, d, tk + 1, os⟩
  refine wpAny_bind (wpAny_setField_rec e1 (by simp) fun g2 e2 s2 => ?_)
  replace s2 : Heap.SameBut e g g2 := s2
  replace e2 : IsEnum g2 e it (c + 1) old := e2
  show wpAny _ _ (setField (.ref e) 4 .none >>= _) _ _ ⟨g2, gs, d, tk + 1, os⟩
  refine wpAny_bind (wpAny_setField_rec e2 (by simp) fun g3 e3 s3 => ?_)
  replace s3 : Heap.SameBut e g2 g3 := s3
  replace e3 : IsEnum g3 e it (c + 1) old := e3
  show wpAny _ _ (newTuple [.int c tk, x] >>= _) _ _ ⟨g3, gs, d, tk + 1, os⟩
  refine wpAny_bind (wpAny_newTuple ?_)
  have e4 : IsEnum (g3.push { cls := .type "tuple", data := .seq #[.int c tk, x] }) e it (c + 1) old := Heap.get?_push_of_some _ e3
  generalize hg4 : g3.push { cls := .type "tuple", data := .seq #[.int c tk, x] } = g4 at e4
  have sz : g3.objs.size = g.objs.size := by rw [s3.1, s2.1]
  have el : e < g.objs.size := Heap.lt_size e1
  have t4 : g4.get? g.objs.size = some { cls := .type "tuple", data := .seq #[.int c tk, x] } := by rw [← hg4, ← sz]; exact Heap.get?_push_size _ rfl
  have n4 : g4.objs.size = g.objs.size + 1 := by rw [← hg4, Heap.size_push, sz]
  have k4 : ∀ b o, b ≠ e → g.get? b = some o → g4.get? b = some o := fun b o be hb => by
    rw [← hg4]; exact Heap.get?_push_of_some _ (s3.extBut b o be (s2.extBut b o be hb))
  show wpAny _ _ (Builtin.SmallTypes.ownedTupleIsFree (.ref e) >>= _) _ _ ⟨g4, gs, d, tk + 1, os⟩
  rw [sz]
  clear hg4 e3 s3 e2 s2 sz g3 g2
  refine wpAny_bind ?_
  unfold Builtin.SmallTypes.ownedTupleIsFree
  refine wpAny_bind (wpAny_field e4 rfl (x := .none) rfl (wpAny_pure ?_))
  simp only [if_true]
  refine wpAny_bind (wpAny_rule ?_)
  refine wpAny_bind (wpAny_field e4 rfl (x := old) rfl ?_)
  refine wpAny_bind (wpAny_setField_rec e4 (by simp) fun g5 e5 s5 => ?_)
  replace s5 : Heap.SameBut e g4 g5 := s5
  replace e5 : IsEnum g5 e it (c + 1) x := e5
  show wpAny _ _ (Builtin.SmallTypes.ownedTupleHandOut (.ref e) (.ref g.objs.size) >>= _) _ _ ⟨g5, gs, d, tk + 1, os⟩
  refine wpAny_bind ?_
  unfold Builtin.SmallTypes.ownedTupleHandOut
  refine wpAny_bind (wpAny_setField_rec e5 (by simp) fun g6 e6 s6 => ?_)
  replace s6 : Heap.SameBut e g5 g6 := s6
  replace e6 : IsEnumOut g6 e it (c + 1) x g.objs.size := e6
  refine wpAny_setField_rec e6 (by simp) fun g7 e7 s7 => ?_
  replace s7 : Heap.SameBut e g6 g7 := s7
  replace e7 : IsEnumOut g7 e it (c + 1) x g.objs.size := e7
  have k7 : ∀ b o, b ≠ e → g4.get? b = some o → g7.get? b = some o := fun b o be hb => s7.extBut b o be (s6.extBut b o be (s5.extBut b o be hb))
  exact wpAny_bind (wpAny_letGo (wpAny_pure ⟨_, rfl, q x g g7 tk r e7 (k7 _ _ (Nat.ne_of_gt el) t4) (by rw [s7.1, s6.1, s5.1, n4]) fun b o be hb => k7 b o be (k4 b o be hb)⟩))
end
section
variable {prog : Program} {w : World} {A : Around} {E : Value → Shared → Prop} {s : Shared} {e z ti to i1 i2 : Addr} {fa fb : List Addr} {na nb i : Nat} {Pa Pb : Nat → Value → Prop} {Sa Sb : Nat → Heap → Prop} {a1 a2 v old : Value} {f : Bool} {c : Int}
theorem ez_item {Q : Option Value → Shared → Prop} (S : ZipSep2 z ti to i1 i2 fa fb) (Da : Draws prog w A.in1.in1 i1 fa na Pa Sa) (Db : Draws prog w A.in1.in1 i2 fb nb Pb Sb) (he : IsEnum s.heap e z c old)
    (zz : ZipV s.heap z ti to v f) (ov : OwnV v) (eI : IsTupOf2 s.heap ti (.ref i1) (.ref i2)) (eO : IsTupOf2 s.heap to a1 a2) (sa : Sa i s.heap) (sb : Sb i s.heap) (la : i < na) (lb : i < nb)
    (n1 : e ≠ z) (n2 : e ≠ to) (n3 : e ≠ i1) (n4 : e ≠ i2) (ea : e ∉ fa) (eb : e ∉ fb) (l1 : ti ≠ e)
    (q : ∀ x y g1 g tk v' f' b1 b2, Pa i x → Pb i y → IsTupOf2 g1 s.heap.objs.size x y → g1.objs.size = s.heap.objs.size + 1 → (∀ k o, k ≠ z → k ≠ to → k ≠ i1 → k ≠ i2 → s.heap.get? k = some o → g1.get? k = some o) → (∀ k o, k ≠ e → g1.get? k = some o → g.get? k = some o) →
      IsEnumOut g e z (c + 1) (.ref s.heap.objs.size) (s.heap.objs.size + 1) → ZipV g z ti to v' f' → OwnV v' → IsTupOf2 g to b1 b2 → Sa (i + 1) g → Sb (i + 1) g →
      g.get? (s.heap.objs.size + 1) = some { cls := .type "tuple", data := .seq #[.int c tk, .ref s.heap.objs.size] } → Q (some (.ref (s.heap.objs.size + 1))) { s with heap := g, toks := tk + 1 }) :
    wpAny (model prog w) A (pyNext (.ref e)) Q E s := by
  have hT : s.TypeIs (.ref e) "enumerate" := ⟨_, he, rfl⟩
  have hZ : s.TypeIs (.ref z) "zip" := ⟨_, zz, rfl⟩
  have el : e < s.heap.objs.size := Heap.lt_size he
  unfold pyNext
  refine wpAny_bind (wpAny_attempt (wpAny_callSpecial?_slot (name := Str.ofString "__next__") hT F.slot_enumerate_next
    (wpAny_call_entry F.slot_enumerate_next hT F.entry_enumerate_next
      (enum_over (R := fun u g => u = .ref s.heap.objs.size ∧ ∃ x y v' f' b1 b2, Pa i x ∧ Pb i y ∧ ZipV g z ti to v' f' ∧ OwnV v' ∧ IsTupOf2 g to b1 b2 ∧ Sa (i + 1) g ∧ Sb (i + 1) g ∧ IsTupOf2 g s.heap.objs.size x y ∧ g.objs.size = s.heap.objs.size + 1 ∧
        ∀ k o, k ≠ z → k ≠ to → k ≠ i1 → k ≠ i2 → s.heap.get? k = some o → g.get? k = some o) he (fun Q' h => ?_) (fun u g ⟨_, _, _, _, _, _, _, _, _, _, _, _, _, _, _, _, k⟩ => k _ _ n1 n2 n3 n4 he) fun u g g' tk ⟨eu, x, y, v', f', b1, b2, hx, hy, hz, hv, hO, ha, hb, hp, hn, k⟩ ho ht hn' k' => ?_) (F.args_enumerate_next_1 _))))
  · unfold Builtin.SmallTypes.nextOf
    exact wpAny_bind (wpAny_callSpecial?_slot (name := Str.ofString "__next__") hZ F.slot_zip_next
      (wpAny_call_entry F.slot_zip_next hZ F.entry_zip_next
        (zipV_item S Da Db zz ov eI eO sa sb la lb fun x y g tk v' f' b1 b2 p1 p2 p3 p4 p5 p6 p7 p8 p9 p10 => wpAny_pure (h _ g tk ⟨rfl, x, y, v', f', b1, b2, p1, p2, p3, p4, p5, p6, p7, p8, p9, p10⟩)) (F.args_zip_next_1 _)))
  · subst eu
    rw [hn] at ho ht hn' ⊢
    exact wpAny_pure (q x y g g' tk v' f' b1 b2 hx hy hp hn k k' ho (k' _ _ (Ne.symm n1) hz) hv (k' _ _ (Ne.symm n2) hO) (Da.frame _ _ _ ha fun b hb' o y' => k' b o (fun z' => ea (z' ▸ hb')) y') (Db.frame _ _ _ hb fun b hb' o y' => k' b o (fun z' => eb (z' ▸ hb')) y') ht)
theorem ez_end {Q : Option Value → Shared → Prop} (S : ZipSep2 z ti to i1 i2 fa fb) (Da : Draws prog w A.in1.in1 i1 fa na Pa Sa) (Db : Draws prog w A.in1.in1 i2 fb nb Pb Sb) (he : IsEnum s.heap e z c old)
    (zz : ZipV s.heap z ti to v f) (ov : OwnV v) (eI : IsTupOf2 s.heap ti (.ref i1) (.ref i2)) (eO : IsTupOf2 s.heap to a1 a2) (sa : Sa i s.heap) (sb : Sb i s.heap) (la : i ≤ na) (lb : i ≤ nb) (en : i = na ∨ i = nb)
    (q : ∀ g tk, (∀ k o, k ≠ z → k ≠ to → k ≠ i1 → k ≠ i2 → s.heap.get? k = some o → g.get? k = some o) → Q none { s with heap := g, toks := tk }) :
    wpAny (model prog w) A (pyNext (.ref e)) Q E s := by
  have hT : s.TypeIs (.ref e) "enumerate" := ⟨_, he, rfl⟩
  have hZ : s.TypeIs (.ref z) "zip" := ⟨_, zz, rfl⟩
  unfold pyNext
  refine wpAny_bind (wpAny_attempt (wpAny_callSpecial?_slot (name := Str.ofString "__next__") hT F.slot_enumerate_next
    (wpAny_call_entry F.slot_enumerate_next hT F.entry_enumerate_next ?_ (F.args_enumerate_next_1 _))))
  show wpAny _ _ (field (.ref e) 2 >>= _) _ _ _
  refine wpAny_bind (wpAny_field he rfl (x := .ref z) rfl ?_)
  refine wpAny_bind ?_
  unfold Builtin.SmallTypes.nextOf
  refine wpAny_bind (wpAny_callSpecial?_slot (name := Str.ofString "__next__") hZ F.slot_zip_next
    (wpAny_call_entry F.slot_zip_next hZ F.entry_zip_next (zipV_end S Da Db zz ov eI eO sa sb la lb en fun g tk x k hx => ?_) (F.args_zip_next_1 _)))
  obtain ⟨o, ho, hc⟩ := hx
  refine wpAny_bind (wpAny_isInstance (T := "StopIteration") (b := true) ⟨o, ho, hc⟩ isSubtype_stop ?_)
  exact wpAny_pure (q _ _ k)
end
/-! ### the turns -/
def ItzE (t1 t2 : Bool) (K : PySem.W.Frag) (c : Int) (a b : Addr) : It :=
  ⟨fun i H => ∃ (xs ys : List V) (x y : V), SqX t1 K H a xs ∧ SqX t2 K H b ys ∧ xs[i]? = some x ∧ ys[i]? = some y,
    fun i H v H' => ∃ T U x y, v = .ref U ∧ H T = none ∧ T ≠ U ∧ H U = none ∧ H' = upd (upd H T (.tup [x, y])) U (.tup [.int (c + (i : Nat)), .ref T]) ∧ (∀ xs, SqX t1 K H a xs → xs[i]? = some x) ∧ ∀ ys, SqX t2 K H b ys → ys[i]? = some y,
    fun i H => ∃ xs ys : List V, SqX t1 K H a xs ∧ SqX t2 K H b ys ∧ i ≤ xs.length ∧ i ≤ ys.length ∧ (i = xs.length ∨ i = ys.length)⟩
/-- the cells of an enumerate over a zip lie apart -/
structure EzSep (e z ti to i1 i2 a b : Addr) : Prop where
  zs : ZipSep2 z ti to i1 i2 [i1, a] [i2, b]
  ez : e ≠ z
  et : e ≠ ti
  eo : e ≠ to
  e1 : e ≠ i1
  e2 : e ≠ i2
  ea : e ≠ a
  eb : e ≠ b
  a1 : a ≠ i1
  b2 : b ≠ i2
theorem turn_ez {t1 t2 : Bool} {P : Program} {w : World} {K : PySem.W.Frag} {elts : List Expr} {kk : Nat} {tpos : Pos} {c : Int} {a b e z ti to i1 i2 : Addr} (D : EzSep e z ti to i1 i2 a b) :
    Turn P w K (.Tuple elts kk tpos) (ItzE t1 t2 K c a b) [e, z, ti, to, i1, i2] e (fun i h => (∃ old, IsEnum h e z (c + ((i : Nat) : Int)) old) ∧ (∃ v f, ZipV h z ti to v f ∧ OwnV v) ∧ IsTupOf2 h ti (.ref i1) (.ref i2) ∧ (∃ x y, IsTupOf2 h to x y) ∧ ItrV t1 h i1 a i ∧ ItrV t2 h i2 b i) where
  mem := by simp
  obj := fun i h st k hk => by
    obtain ⟨⟨old, he⟩, ⟨v, f, hz, _⟩, hti, ⟨x, y, hto⟩, h1, h2⟩ := st
    obtain ⟨o1, e1, d1⟩ := h1.live
    obtain ⟨o2, e2, d2⟩ := h2.live
    have e' : k = e ∨ k = z ∨ k = ti ∨ k = to ∨ k = i1 ∨ k = i2 := by simpa using hk
    rcases e' with q | q | q | q | q | q
    · rw [q]; exact ⟨_, he, fun v q => nomatch q⟩
    · rw [q]; exact ⟨_, hz, fun v q => nomatch q⟩
    · rw [q]; exact ⟨_, hti, fun v q => nomatch q⟩
    · rw [q]; exact ⟨_, hto, fun v q => nomatch q⟩
    · rw [q]; exact ⟨o1, e1, d1⟩
    · rw [q]; exact ⟨o2, e2, d2⟩
  keep := fun i h h' st k => by
    obtain ⟨⟨old, he⟩, ⟨v, f, hz, ov⟩, hti, ⟨x, y, hto⟩, h1, h2⟩ := st
    exact ⟨⟨old, k e (by simp) _ he⟩, ⟨v, f, k z (by simp) _ hz, ov⟩, k ti (by simp) _ hti, ⟨x, y, k to (by simp) _ hto⟩, h1.keep fun o q => k i1 (by simp) o q, h2.keep fun o q => k i2 (by simp) o q⟩
  item := by
    intro X hP hw hK hc i pins s σ H E I hf st hg
    subst hP hw hK
    obtain ⟨⟨old, he⟩, ⟨v, f, hz, ov⟩, hti, ⟨x0, y0, hto⟩, h1, h2⟩ := st
    obtain ⟨xs, ys, x, y, hqx, hqy, hx, hy⟩ := hg
    obtain ⟨its, rv, p⟩ := sqx_row I hqx
    obtain ⟨its2, rv2, p2⟩ := sqx_row I hqy
    obtain ⟨u, hu, ru⟩ := rv.get hx
    obtain ⟨u2, hu2, ru2⟩ := rv2.get hy
    have el : e < s.heap.objs.size := Heap.lt_size he
    have lt1 : i < its.toArray.size := by
      have := (List.getElem?_eq_some_iff.mp hu).1
      simpa using this
    have lt2 : i < its2.toArray.size := by
      have := (List.getElem?_eq_some_iff.mp hu2).1
      simpa using this
    refine ez_item D.zs (drawsX (t := t1) (A := X.A.in1.in1) (I.ok.hd hc) i1 a D.a1 its.toArray) (drawsX (t := t2) (A := X.A.in1.in1) (I.ok.hd hc) i2 b D.b2 its2.toArray) he hz ov hti hto ⟨h1, p⟩ ⟨h2, p2⟩ lt1 lt2 D.ez D.eo D.e1 D.e2
      (by simp [D.e1, D.ea]) (by simp [D.e2, D.eb]) (Ne.symm D.et) fun x' y' g1 g tk v' f' b1 b2 hx' hy' hp hn k1 k2 ho hz' ov' hto' st1 st2 ht => ?_
    have ex : x' = u := by
      have q1 : its.toArray[i]? = some x' := hx'
      have q2 : its.toArray[i]? = some u := by simpa using hu
      rw [q1] at q2
      exact Option.some.inj q2
    have ey : y' = u2 := by
      have q1 : its2.toArray[i]? = some y' := hy'
      have q2 : its2.toArray[i]? = some u2 := by simpa using hu2
      rw [q1] at q2
      exact Option.some.inj q2
    subst ex ey
    refine ⟨_, rfl, wpAny_letOwnedTupleGo_enum (s := { s with heap := g, toks := tk + 1 }) ho fun g' he' sb => ?_⟩
    have hin : ∀ k, k = z ∨ k = to ∨ k = i1 ∨ k = i2 → k ∈ [e, z, ti, to, i1, i2] := fun k h => by
      rcases h with h | h | h | h <;> simp [h]
    have new1 : ObjOk X.prog X.w (upd H s.heap.objs.size (.tup [x, y])) g1 s.heap.objs.size (.tup [x, y]) :=
      ⟨by show 2 ≤ sizeLine; decide, [x', y'], .cons ru (.cons ru2 .nil), ⟨_, hp, rfl, _, rfl⟩⟩
    have I1 : Inv X pins σ (upd H s.heap.objs.size (.tup [x, y])) { s with heap := g1 } :=
      I.turnedNew (t' := s.toks) (ch := [z, to, i1, i2]) (fun k o hk q => k1 k o (fun z => hk (by simp [z])) (fun z => hk (by simp [z])) (fun z => hk (by simp [z])) (fun z => hk (by simp [z])) q) (fun k hk => hf k (hin k (by simpa using hk))) (Nat.le_refl _) new1
    have kg : ∀ k o, k ≠ e → g1.get? k = some o → g'.get? k = some o := fun k o ke q => (sb.2 k ke).trans (k2 k o ke q)
    have nU : (s.heap.objs.size + 1 : Nat) ≠ e := Nat.ne_of_gt (Nat.lt_succ_of_lt el)
    have hT2 : g'.get? (s.heap.objs.size + 1) = some { cls := .type "tuple", data := .seq #[.int (c + (i : Nat)) tk, .ref s.heap.objs.size] } := (sb.2 _ nU).trans ht
    have new2 : ObjOk X.prog X.w (upd (upd H s.heap.objs.size (.tup [x, y])) (s.heap.objs.size + 1) (.tup [.int (c + (i : Nat)), .ref s.heap.objs.size])) g' (s.heap.objs.size + 1) (.tup [.int (c + (i : Nat)), .ref s.heap.objs.size]) :=
      ⟨by show 2 ≤ sizeLine; decide, [.int (c + (i : Nat)) tk, .ref s.heap.objs.size], .cons ⟨_, rfl⟩ (.cons rfl .nil), ⟨_, hT2, rfl, _, rfl⟩⟩
    have I2 : Inv X pins σ (upd (upd H s.heap.objs.size (.tup [x, y])) (s.heap.objs.size + 1) (.tup [.int (c + (i : Nat)), .ref s.heap.objs.size])) { s with heap := g', toks := tk + 1 } :=
      I1.turnedNew (s := { s with heap := g1 }) (t' := tk + 1) (ch := [e]) (fun k o hk q => kg k o (fun z => hk (by simp [z])) q) (fun k hk => by
        have ek : k = e := by simpa using hk
        subst ek
        exact ⟨by rw [upd_ne (Nat.ne_of_lt el)]; exact (hf k (by simp)).1, (hf k (by simp)).2⟩) (Nat.le_of_eq hn) new2
    have tk1 : ∀ k o, k ≠ e → k ≠ z → k ≠ to → k ≠ i1 → k ≠ i2 → s.heap.get? k = some o → g'.get? k = some o := fun k o q1 q2 q3 q4 q5 q => kg k o q1 (k1 k o q2 q3 q4 q5 q)
    refine ⟨.ref (s.heap.objs.size + 1), _, I2, rfl, ⟨s.heap.objs.size, s.heap.objs.size + 1, x, y, rfl, I.hok.fresh (Nat.le_refl _), Nat.ne_of_lt (Nat.lt_succ_self _), I.hok.fresh (Nat.le_succ _), rfl, fun l hl => by rw [sqx_inj I hl hqx]; exact hx, fun l hl => by rw [sqx_inj I hl hqy]; exact hy⟩,
      ⟨⟨.ref s.heap.objs.size, ?_⟩, ⟨v', f', (sb.2 z (Ne.symm D.ez)).trans hz', ov'⟩, tk1 _ _ (Ne.symm D.et) D.zs.TIz D.zs.TITO D.zs.TIi1 D.zs.TIi2 hti, ⟨b1, b2, (sb.2 to (Ne.symm D.eo)).trans hto'⟩, st1.1.keep fun o q => (sb.2 i1 (Ne.symm D.e1)).trans q, st2.1.keep fun o q => (sb.2 i2 (Ne.symm D.e2)).trans q⟩, fun k hk => ?_⟩
    · have e1 : c + ((i + 1 : Nat) : Int) = c + (i : Int) + 1 := by omega
      rw [e1]; exact he'
    · have hlt : k < s.heap.objs.size := by
        have e' : k = e ∨ k = z ∨ k = ti ∨ k = to ∨ k = i1 ∨ k = i2 := by simpa using hk
        rcases e' with q | q | q | q | q | q
        · rw [q]; exact el
        · rw [q]; exact Heap.lt_size hz
        · rw [q]; exact Heap.lt_size hti
        · rw [q]; exact Heap.lt_size hto
        · rw [q]; obtain ⟨_, q, _⟩ := h1.live; exact Heap.lt_size q
        · rw [q]; obtain ⟨_, q, _⟩ := h2.live; exact Heap.lt_size q
      rw [upd_ne (Nat.ne_of_lt (Nat.lt_succ_of_lt hlt)), upd_ne (Nat.ne_of_lt hlt)]
      exact (hf k hk).1
  done := by
    intro X hP hw hK hc i pins s σ H E I hf st hg
    subst hP hw hK
    obtain ⟨⟨old, he⟩, ⟨v, f, hz, ov⟩, hti, ⟨x0, y0, hto⟩, h1, h2⟩ := st
    obtain ⟨xs, ys, hqx, hqy, l1, l2, en⟩ := hg
    obtain ⟨its, rv, p⟩ := sqx_row I hqx
    obtain ⟨its2, rv2, p2⟩ := sqx_row I hqy
    have z1 : its.toArray.size = xs.length := by have := rv.length; simp; omega
    have z2 : its2.toArray.size = ys.length := by have := rv2.length; simp; omega
    have hin : ∀ k, k = z ∨ k = to ∨ k = i1 ∨ k = i2 → k ∈ [e, z, ti, to, i1, i2] := fun k h => by
      rcases h with h | h | h | h <;> simp [h]
    exact ez_end D.zs (drawsX (t := t1) (A := X.A.in1.in1) (I.ok.hd hc) i1 a D.a1 its.toArray) (drawsX (t := t2) (A := X.A.in1.in1) (I.ok.hd hc) i2 b D.b2 its2.toArray) he hz ov hti hto ⟨h1, p⟩ ⟨h2, p2⟩ (by rw [z1]; exact l1) (by rw [z2]; exact l2) (by rw [z1, z2]; exact en) fun g tk k =>
      ⟨rfl, I.turnedL (t' := tk) (ch := [z, to, i1, i2]) (fun c o hb q => k c o (fun q' => hb (by simp [q'])) (fun q' => hb (by simp [q'])) (fun q' => hb (by simp [q'])) (fun q' => hb (by simp [q'])) q) fun c hcm => hf c (hin c (by simpa using hcm))⟩
  self := fun A i s Q E st h => let ⟨⟨_, he⟩, _⟩ := st; wpAny_pyIter_enum he h
/-! ### enumerate(zip(a, b)) begins -/
set_option maxHeartbeats 1000000 in
theorem meets_enumS {z ti to : Addr} :
    Meets (Builtin.«enumerate.__new__» ⟨[.type "enumerate", .ref z], []⟩) (fun _ R s => IsZip s.heap z ti to .none ∧
      R (.ok (.ret (.ref s.heap.objs.size))) { s with heap := s.heap.push { cls := .type "enumerate", data := .fields #[.none, .bool false, .ref z, rawInt 0, .none, .none] } }) :=
  .of_wp fun prog w A R s h => by
    obtain ⟨hp, g, d, tk, os⟩ := s; obtain ⟨h1, h⟩ := h
    have hsub := sub_enumerate
    have q1 : ∀ {A' : Around} {E : Value → Shared → Prop} {Q : Value → Shared → Prop}, Q (.ref z) ⟨hp, g, d, tk, os⟩ → wpAny (model prog w) A' (pyIter (.ref z)) Q E ⟨hp, g, d, tk, os⟩ :=
      fun q => wpAny_pyIter_zip h1 q
    wp_walk using q1
    refine wpAny_stack_any fun st => wpAny_pure ?_
    split
    · rename_i c _ _ _ _ _
      cases (c == Value.type "enumerate")
      · wp_walk using q1
        exact ⟨_, rfl, h⟩
      · wp_walk using q1
        exact ⟨_, rfl, h⟩
    · wp_walk using q1
      exact ⟨_, rfl, h⟩
section
variable {prog : Program} {w : World} {A : Around} {E : Value → Shared → Prop} {s : Shared}
theorem enum_newS {z ti to : Addr} {Q : Value → Shared → Prop} (h1 : IsZip s.heap z ti to .none)
    (h : ∀ h', IsEnum h' s.heap.objs.size z 0 .none → h'.objs.size = s.heap.objs.size + 1 → (∀ b o, s.heap.get? b = some o → h'.get? b = some o) → Q (.ref s.heap.objs.size) { s with heap := h' }) :
    wpAny (model prog w) A (call (.type "enumerate") [.ref z]) Q E s := by
  refine callType_new F.called_enumerate (by decide) (F.typeCall_enumerate_1 _) (F.newCall_enumerate_1 _) (fun obj => F.args_object_init_2 obj _) F.entry_enumerate_new
    (meets_enumS (ti := ti) (to := to)) ⟨h1, ?_⟩
  have he : IsEnum (s.heap.push { cls := .type "enumerate", data := .fields #[.none, .bool false, .ref z, rawInt 0, .none, .none] }) s.heap.objs.size z 0 .none := Heap.get?_push_size s.heap rfl
  exact ⟨⟨_, he, rfl⟩, h _ he (Heap.size_push ..) fun b o x => Heap.get?_push_of_some _ x⟩
end
def iEnumZ (K : PySem.W.Frag) (c : Int) (ta : TA) : TI := fun σ H R => ta σ H fun vs H1 => ∃ t1 t2 a b xs ys, vs = [.ref a, .ref b] ∧ SqX t1 K H1 a xs ∧ SqX t2 K H1 b ys ∧ R (ItzE t1 t2 K c a b) H1
theorem ez_sep {N e a b : Nat} (he : e = N + 5) (ha : a < N) (hb : b < N) : EzSep e (N + 4) (N + 2) (N + 3) N (N + 1) a b :=
  { zs := zip_sep2 (fp1 := [a]) (fp2 := [b]) (fun x hx => by rw [List.mem_singleton.mp hx]; exact ha) (fun x hx => by rw [List.mem_singleton.mp hx]; exact hb),
    ez := show (e : Nat) ≠ N + 4 by omega, et := show (e : Nat) ≠ N + 2 by omega, eo := show (e : Nat) ≠ N + 3 by omega, e1 := show (e : Nat) ≠ N by omega, e2 := show (e : Nat) ≠ N + 1 by omega, ea := show (e : Nat) ≠ a by omega, eb := show (e : Nat) ≠ b by omega,
    a1 := show (a : Nat) ≠ N by omega, b2 := show (b : Nat) ≠ N + 1 by omega }
section
variable {X : Cx} {e1 e2 : Expr} {ta : TA} {p p2 pos pos2 tpos : Pos} {elts : List Expr} {kk : Nat}
theorem pi_enumZ (hg : Gl X "enumerate") (hm : X.mg "enumerate" = none) (hg2 : Gl X "zip") (hm2 : X.mg "zip" = none) (ha : PA X [e1, e2] ta)
    (hs : starEach [.Call (.Name "zip" p2) [e1, e2] [] pos2] X.env = [(false, eval (.Call (.Name "zip" p2) [e1, e2] [] pos2) X.env)] := by rfl)
    (hs2 : starEach [e1, e2] X.env = (false, eval e1 X.env) :: starEach [e2] X.env := by rfl) (hpl : (backTo pos2 (starEach [e2] X.env)).any (·.1) = false := by rfl) :
    PI X (.Tuple elts kk tpos) (.Call (.Name "enumerate" p) [.Call (.Name "zip" p2) [e1, e2] [] pos2] [] pos) (iEnumZ X.K 0 ta) := by
  refine ⟨fun pins s σ H R I h => ?_⟩
  refine Call_ (ld_blt I hg hm boot_enumerate (PyProof.Rows.callWith_type1 ?_ hs rfl))
  rw [hs]
  show wpAny _ _ (spliced ((false, eval (.Call (.Name "zip" p2) [e1, e2] [] pos2) X.env) :: backTo pos (starEach [] X.env))) _ _ s
  refine Calls.spliced_cons ?_
  refine Call_ (ld_blt I hg2 hm2 PyProof.Rows.boot_zip (PyProof.Rows.callWith_type1 (thn (ha.run pos2 pins s σ H _ I h) fun us s1 ⟨vs, H1, I1, r1, q1⟩ => ?_) hs2 hpl))
  obtain ⟨t1, t2, a, b, xs, ys, ex, hqx, hqy, q⟩ := q1
  subst ex
  cases r1 with
  | cons r rr =>
    cases rr with
    | cons r' rr =>
      cases rr
      cases r
      cases r'
      obtain ⟨its, rv, p1⟩ := sqx_row I1 hqx
      obtain ⟨its2, rv2, p2⟩ := sqx_row I1 hqy
      obtain ⟨o1, B1, ho1⟩ := beginsX (t := t1) a its.toArray
      obtain ⟨o2, B2, ho2⟩ := beginsX (t := t2) b its2.toArray
      refine zip_begins2 B1 B2 p1 p2 fun h' hz hti hto g1 g2 hsz hk => Calls.spliced_nil ?_
      refine enum_newS (s := { s1 with heap := h' }) hz fun g he gsz gk => wpAny_pyIter_enum he ?_
      have I2 : Inv X pins σ H1 { s1 with heap := h' } := I1.kept (t' := s1.toks) hk
      have I3 : Inv X pins σ H1 { s1 with heap := g } := I2.kept (s := { s1 with heap := h' }) (t' := s1.toks) gk
      refine ⟨h'.objs.size, [h'.objs.size, s1.heap.objs.size + 4, s1.heap.objs.size + 2, s1.heap.objs.size + 3, s1.heap.objs.size, s1.heap.objs.size + 1], _, _, H1, rfl, I3, turn_ez (t1 := t1) (t2 := t2) (c := 0) (ez_sep hsz p1.lt p2.lt),
        ⟨⟨.none, by simpa using he⟩, ⟨.none, false, gk _ _ hz, .inl rfl⟩, gk _ _ hti, ⟨.none, .none, gk _ _ hto⟩, ho1 _ _ (gk _ _ g1), ho2 _ _ (gk _ _ g2)⟩, fun k hkm => ?_, q⟩
      have hle : s1.heap.objs.size ≤ k := by
        have e' : k = h'.objs.size ∨ k = s1.heap.objs.size + 4 ∨ k = s1.heap.objs.size + 2 ∨ k = s1.heap.objs.size + 3 ∨ k = s1.heap.objs.size ∨ k = s1.heap.objs.size + 1 := by simpa using hkm
        rcases e' with z | z | z | z | z | z
        · rw [z, hsz]; exact Nat.le_add_right _ _
        · rw [z]; exact Nat.le_add_right _ _
        · rw [z]; exact Nat.le_add_right _ _
        · rw [z]; exact Nat.le_add_right _ _
        · rw [z]; exact Nat.le_refl _
        · rw [z]; exact Nat.le_add_right _ _
      exact I1.fpOk hle (I1.hok.fresh hle)
end
theorem zipL_get : ∀ {us vs : List D} {i : Nat} {u v : D}, us[i]? = some u → vs[i]? = some v → (zipL us vs)[i]? = some (.tuple [u, v])
  | [], _, _, _, _, h, _ => by simp at h
  | _ :: _, [], _, _, _, _, h => by simp at h
  | x :: us, y :: vs, 0, u, v, h1, h2 => by
    simp at h1 h2
    subst h1 h2
    simp [zipL]
  | x :: us, y :: vs, i + 1, u, v, h1, h2 => by
    simp only [zipL, List.getElem?_cons_succ]
    exact zipL_get (by simpa using h1) (by simpa using h2)
theorem zipL_len : ∀ (us vs : List D), (zipL us vs).length = min us.length vs.length
  | [], _ => by simp [zipL]
  | _ :: _, [] => by simp [zipL]
  | x :: us, y :: vs => by simp [zipL, zipL_len us vs]
def RowAt (Y : Rt) (y : Wd) (t : Bool) (q : Addr) (xs : List D) (g : Option Nat) : Prop := ∀ z, Mv y z → SR Y z → (∀ n, g = some n → z.st[n]? = y.st[n]?) → ∃ vs, SqX t Y.K z.H q vs ∧ PVs Y z.H z.nl vs xs
theorem src_ez {Y : Rt} {y : Wd} {t1 t2 : Bool} {a b : Addr} {us vs : List D} {g : Option Nat} (h1 : RowAt Y y t1 a us g) (h2 : RowAt Y y t2 b vs none) : SrcOk Y y (ItzE t1 t2 Y.K 0 a b) ((enumL 0 (zipL us vs)).map .d) g := fun z ez Sz hg => by
  obtain ⟨xs, p1, p2⟩ := h1 z ez Sz hg
  obtain ⟨ys, p3, p4⟩ := h2 z ez Sz (fun n e => by cases e)
  have l1 := p2.length
  have l2 := p4.length
  have hlen : ((enumL 0 (zipL us vs)).map W.d).length = min us.length vs.length := by simp [enumL_len, zipL_len]
  refine ⟨⟨xs, ys, p1, p3, by omega, by omega, by omega⟩, fun i hi => ?_⟩
  rw [hlen] at hi
  have i1 : i < xs.length := by omega
  have i2 : i < ys.length := by omega
  refine ⟨⟨xs, ys, xs[i], ys[i], p1, p3, List.getElem?_eq_getElem _, List.getElem?_eq_getElem _⟩, fun v H' ⟨T, U, x, y, e1, e2, e3, e4, e5, e6, e7⟩ => ?_⟩
  subst e1 e5
  obtain ⟨d1, hd1, pv1⟩ := PVs.mem p2 (e6 xs p1)
  obtain ⟨d2, hd2, pv2⟩ := PVs.mem p4 (e7 ys p3)
  obtain ⟨ex, Sx, nl⟩ := Ext.new (o := .tup [x, y]) Sz e2 (fun _ z => by cases z)
  obtain ⟨ex2, Sx2, nl2⟩ := Ext.new (o := .tup [.int ((0 : Int) + (i : Nat)), .ref T]) Sx (show upd z.H T (.tup [x, y]) U = none by rw [upd_ne (Ne.symm e3)]; exact e4) (fun _ z => by cases z)
  refine ⟨_, _, ?_, ex.trans ex2, Sx2, rfl, rfl, .d (.tup (.inl ⟨.inl upd_same, nl2⟩) (.cons (.int _) (.cons (ex2.pv (.tup (.inl ⟨.inl upd_same, nl⟩) (.cons (ex.pv pv1) (.cons (ex.pv pv2) .nil)))) .nil)))⟩
  rw [List.getElem?_map, enumL_get _ 0 i (zipL_get hd1 hd2)]
  rfl
theorem row_at {G : Gd} {X : Cx} {y : Wd} {v : V} {w : W} {xs : List D} (Sy : SR (yof G X) y) (r : WV (yof G X) y v w) (hw : seqD y.st w = some xs) : ∃ t q vs, v = .ref q ∧ SqX t X.K y.H q vs ∧ RowAt (yof G X) y t q xs (guardOf w) := by
  simp only [seqD] at hw
  cases r with
  | @d _ d r =>
    cases d <;> simp only [seqW, reduceCtorEq, allD_map, Option.some.injEq] at hw
    · subst hw
      cases r with
      | lst h1 h2 => exact ⟨false, _, _, rfl, h1.sq, fun z ez Sz _ => ⟨_, (ez.lstC h1).sq, ez.pvs h2⟩⟩
    · subst hw
      cases r with
      | tup h1 h2 => exact ⟨true, _, _, rfl, h1.sq, fun z ez Sz _ => ⟨_, (ez.tupC h1).sq, ez.pvs h2⟩⟩
  | @ref n _ hn =>
    cases hc : y.st[n]? with
    | none => simp [seqW, hc] at hw
    | some c =>
      cases c with
      | lst l =>
        simp only [seqW, hc] at hw
        obtain ⟨vs, hH, rs⟩ := Sy.cell _ _ _ hn hc
        refine ⟨false, _, _, rfl, .inl (.inl hH), fun z ez Sz hg => ?_⟩
        obtain ⟨vs2, hH2, rs2⟩ := Sz.cell _ _ _ (ez.get hn) ((hg n rfl).trans hc)
        exact ⟨vs2, .inl (.inl hH2), rs2.pvs hw⟩
      | dct _ => simp [seqW, hc] at hw
      | ins _ _ => simp [seqW, hc] at hw
      | dead => simp [seqW, hc] at hw
  | fn f => simp [seqW] at hw
section
variable {G : Gd} {X : Cx} {Wx : WX} {P : Prog} {R : Fun1} {Φ : Call} {pos pos2 : Pos} {e1 e2 : Expr} {a b : FM.E} {p p2 tpos : Pos} {elts : List Expr} {kk : Nat}
theorem fi_enumz (hg : Gl X "enumerate") (hm : X.mg "enumerate" = none) (hg2 : Gl X "zip") (hm2 : X.mg "zip" = none) (ha : FV G X Wx P R Φ e1 a) (hb : FV G X Wx P R Φ e2 b)
    (hs : starEach [.Call (.Name "zip" p2) [e1, e2] [] pos2] X.env = [(false, eval (.Call (.Name "zip" p2) [e1, e2] [] pos2) X.env)] := by rfl)
    (hs2 : starEach [e1, e2] X.env = (false, eval e1 X.env) :: starEach [e2] X.env := by rfl) (hs3 : starEach [e2] X.env = [(false, eval e2 X.env)] := by rfl) (hpl : (backTo pos2 (starEach [e2] X.env)).any (·.1) = false := by rfl) :
    FI G X Wx P R Φ (.Tuple elts kk tpos) (.Call (.Name "enumerate" p) [.Call (.Name "zip" p2) [e1, e2] [] pos2] [] pos) (.enumz a b) := by
  refine ⟨fun pins s σ H Q I ⟨ρ, x, hx, S, En, h⟩ => (pi_enumZ hg hm hg2 hm2 (pa_cons ha (pa_cons hb pa_nil hs3) hs2) hs hs2 hpl).run pins s σ H Q I ?_⟩
  rw [evI] at h
  refine ⟨ρ, x, hx, S, En, ?_⟩
  cases hr : evE P R Φ a ρ x.st with
  | exn ex st' => rw [hr] at h; exact h
  | bad => rw [hr] at h; exact h
  | ok w st' =>
    rw [hr] at h
    intro v y ey Sy hy r
    subst hy
    refine ⟨ρ, y, rfl, Sy, En.ext ey, ?_⟩
    rw [Res.bind_ok] at h
    cases hr2 : evE P R Φ b ρ y.st with
    | exn ex st' =>
      rw [hr2] at h
      exact fun c d z ez => h c d z (ey.trans ez)
    | bad => rw [hr2] at h; exact h
    | ok w2 st2 =>
      rw [hr2, Res.bind_ok] at h
      intro u z ez Sz hz r2
      subst hz
      cases h1 : seqD z.st w with
      | none => rw [h1] at h; exact h.elim
      | some us =>
        cases h2 : seqD z.st w2 with
        | none => rw [h1, h2] at h; exact h.elim
        | some vs =>
          cases h3 : guardOf w2 with
          | some n => rw [h1, h2, h3] at h; exact h.elim
          | none =>
            rw [h1, h2, h3] at h
            obtain ⟨t1, q1, xs, rfl, p1, k1⟩ := row_at Sz (ez.wv r) h1
            obtain ⟨t2, q2, ys, rfl, p2, k2⟩ := row_at Sz r2 h2
            rw [h3] at k2
            exact ⟨t1, t2, q1, q2, xs, ys, rfl, p1, p2, h _ z (ey.trans ez) Sz rfl (src_ez k1 k2)⟩
theorem xi_enumz (B : BltN X.mg) (ha : FV G X Wx P R Φ e1 a) (hb : FV G X Wx P R Φ e2 b) (hg : Gl X "enumerate" := by rfl) (hg2 : Gl X "zip" := by rfl)
    (hs : starEach [.Call (.Name "zip" p2) [e1, e2] [] pos2] X.env = [(false, eval (.Call (.Name "zip" p2) [e1, e2] [] pos2) X.env)] := by rfl)
    (hs2 : starEach [e1, e2] X.env = (false, eval e1 X.env) :: starEach [e2] X.env := by rfl) (hs3 : starEach [e2] X.env = [(false, eval e2 X.env)] := by rfl) (hpl : (backTo pos2 (starEach [e2] X.env)).any (·.1) = false := by rfl) :
    FI G X Wx P R Φ (.Tuple elts kk tpos) (.Call (.Name "enumerate" p) [.Call (.Name "zip" p2) [e1, e2] [] pos2] [] pos) (.enumz a b) := fi_enumz hg (B.no _ (by decide)) hg2 (B.no _ (by decide)) ha hb hs hs2 hs3 hpl
end
end FM
end

section
/-! FM24: a, b = x, y where a name is a cell of the def (captured by a lambda): a real pair is made and unpacked. -/
set_option Elab.async false
set_option linter.all false
set_option maxRecDepth 100000
set_option autoImplicit false
namespace FM
open PySem PySem.Spec PyProof.Rows L2
section
variable {G : Gd} {X : Cx} {Wx : WX} {P : Prog} {R : Fun1} {Φ : Call} {pos : Pos} {e1 e2 : Expr} {a b : FM.E}
theorem fs_parC {i j : Nat} {x y : Str} {px py pt : Pos} {kt k2 pt2} (hc : X.calm = true) (hN : X.N.Nodup) (ha : FV G X Wx P R Φ e1 a) (hb : FV G X Wx P R Φ e2 b) (hi : X.N[i]? = some x := by rfl) (hj : X.N[j]? = some y := by rfl)
    (hx : Loc X.env.scope x := by first | exact Or.inl rfl | exact Or.inr rfl) (hfx : X.fn x = true ∨ X.env.scope.names.lookup x = some .local := by first | exact .inl rfl | exact .inr rfl)
    (hy : Loc X.env.scope y := by first | exact Or.inl rfl | exact Or.inr rfl) (hfy : X.fn y = true ∨ X.env.scope.names.lookup y = some .local := by first | exact .inl rfl | exact .inr rfl)
    (hs : starEach [e1, e2] X.env = (false, eval e1 X.env) :: starEach [e2] X.env := by rfl) (hs2 : starEach [e2] X.env = [(false, eval e2 X.env)] := by rfl)
    (hw : swappedStores [.Tuple [.Name x px, .Name y py] kt pt] (.Tuple [e1, e2] k2 pt2) X.env = pure none := by rfl) (hw2 : swapsWithSole [.Tuple [.Name x px, .Name y py] kt pt] (.Tuple [e1, e2] k2 pt2) pos.line X.env = pure false := by rfl) :
    FS G X Wx P R Φ (.Assign [.Tuple [.Name x px, .Name y py] kt pt] (.Tuple [e1, e2] k2 pt2) pos) (.par i j a b) :=
  (ps_asg (pe_tup (pa_cons ha (pa_cons hb pa_nil hs2) hs)) (pg_tup hc (pgs_cons (pg_name hN hi hx hfx) (pgs_cons (pg_name hN hj hy hfy) pgs_nil))) hw2 hw).imp fun D σ H ⟨ρ, x, hx, S, En, h⟩ => by
  rw [evS] at h
  refine ⟨ρ, x, hx, S, En, rpostS_out h fun v y w e1 Sy r h2 => ⟨ρ, y, rfl, Sy, En.ext e1, rpostS_out h2 fun u z w2 e2 Sz r2 h3 => ⟨by show 2 ≤ sizeLine; decide, fun p hp => ?_⟩⟩⟩
  obtain ⟨ex, Sx, nl⟩ := Ext.new (o := .tup [v, u]) Sz hp (fun _ z => by cases z)
  refine ⟨p, [v, u], rfl, .inl (.inl upd_same), rfl, v, [u], rfl, u, [], rfl, rfl, ?_⟩
  exact h3 _ _ ex Sx rfl (((((En.ext e1).ext e2).ext ex).set (ex.wv (e2.wv r))).set (ex.wv r2))
end
end FM
end

section
/-! FP1: reasoning about the evaluator alone. -/
set_option Elab.async false
set_option linter.all false
set_option maxRecDepth 100000
set_option autoImplicit false
set_option maxHeartbeats 1000000
namespace FM
open PySem
/-- it ends well, with Q -/
def okR {α : Type} (r : Res α) (Q : α → Sto → Prop) : Prop := match r with
  | .ok a st => Q a st
  | _ => False
def okO (o : Out) (N : Env → Sto → Prop) (Rt : W → Sto → Prop) : Prop := match o with
  | .nx ρ st => N ρ st
  | .rt w st => Rt w st
  | _ => False
section
variable {α β : Type} {P : Prog} {R : Fun1} {Φ : Call}
@[simp] theorem okR_ok {a : α} {st : Sto} {Q : α → Sto → Prop} : okR (.ok a st) Q ↔ Q a st := Iff.rfl
@[simp] theorem okR_bind {r : Res α} {f : α → Sto → Res β} {Q : β → Sto → Prop} : okR (r.bind f) Q ↔ okR r (fun a st => okR (f a st) Q) := by cases r <;> exact Iff.rfl
@[simp] theorem okR_some {a : α} {st : Sto} {Q : α → Sto → Prop} : okR (Res.of (some a) st) Q ↔ Q a st := Iff.rfl
theorem okR_imp {r : Res α} {Q Q' : α → Sto → Prop} (h : okR r Q) (k : ∀ a st, Q a st → Q' a st) : okR r Q' := by
  cases r with
  | ok a st => exact k a st h
  | exn _ _ => exact h.elim
  | bad => exact h.elim
theorem okR_eq {r : Res α} {a : α} {st : Sto} {Q : α → Sto → Prop} (h : r = .ok a st) (q : Q a st) : okR r Q := by rw [h]; exact q
@[simp] theorem okO_nx {ρ : Env} {st : Sto} {N : Env → Sto → Prop} {Rt : W → Sto → Prop} : okO (.nx ρ st) N Rt ↔ N ρ st := Iff.rfl
@[simp] theorem okO_rt {w : W} {st : Sto} {N : Env → Sto → Prop} {Rt : W → Sto → Prop} : okO (.rt w st) N Rt ↔ Rt w st := Iff.rfl
@[simp] theorem okO_next {o : Out} {f : Env → Sto → Out} {N : Env → Sto → Prop} {Rt : W → Sto → Prop} : okO (o.next f) N Rt ↔ okO o (fun ρ st => okO (f ρ st) N Rt) Rt := by cases o <;> exact Iff.rfl
@[simp] theorem okO_out {r : Res α} {f : α → Sto → Out} {N : Env → Sto → Prop} {Rt : W → Sto → Prop} : okO (r.out f) N Rt ↔ okR r (fun a st => okO (f a st) N Rt) := by cases r <;> exact Iff.rfl
theorem okO_imp {o : Out} {N N' : Env → Sto → Prop} {Rt Rt' : W → Sto → Prop} (h : okO o N Rt) (k1 : ∀ a st, N a st → N' a st) (k2 : ∀ a st, Rt a st → Rt' a st) : okO o N' Rt' := by
  cases o with
  | nx a st => exact k1 a st h
  | rt a st => exact k2 a st h
  | bk _ _ => exact h.elim
  | ct _ _ => exact h.elim
  | exn _ _ => exact h.elim
  | bad => exact h.elim
@[simp] theorem okO_ite {c : Prop} [Decidable c] {a b : Out} {N : Env → Sto → Prop} {Rt : W → Sto → Prop} : okO (if c then a else b) N Rt ↔ if c then okO a N Rt else okO b N Rt := by split <;> exact Iff.rfl
@[simp] theorem okR_ite {c : Prop} [Decidable c] {a b : Res α} {Q : α → Sto → Prop} : okR (if c then a else b) Q ↔ if c then okR a Q else okR b Q := by split <;> exact Iff.rfl
open Classical in
theorem exit_pure {st : Sto} {o : Out} {Q : W → Sto → Prop} (h : okO o (fun _ st' => st'.take st.length = st ∧ Q (.d .none) st) (fun w st' => st'.take st.length = st ∧ ∃ w', frzW st.length st' w = some w' ∧ Q w' st)) : okR (exitR .pure st o) Q := by
  cases o with
  | nx ρ st' =>
    obtain ⟨h1, h2⟩ := h
    simp only [exitR, exitOk, if_pos h1]
    exact h2
  | rt w st' =>
    obtain ⟨h1, w', h2, h3⟩ := h
    simp only [exitR, exitOk, if_pos h1, h2]
    exact h3
  | bk _ _ => exact h.elim
  | ct _ _ => exact h.elim
  | exn _ _ => exact h.elim
  | bad => exact h.elim
open Classical in
theorem exit_eff {st : Sto} {o : Out} {Q : W → Sto → Prop} (h : okO o (fun _ st' => (st.length ≤ st'.length ∧ okOld st st') ∧ Q (.d .none) (st'.take st.length)) (fun w st' => (st.length ≤ st'.length ∧ okOld st st') ∧ ∃ w', frzW st.length st' w = some w' ∧ Q w' (st'.take st.length))) : okR (exitR .eff st o) Q := by
  cases o with
  | nx ρ st' =>
    obtain ⟨h1, h2⟩ := h
    simp only [exitR, exitOk, if_pos h1]
    exact h2
  | rt w st' =>
    obtain ⟨h1, w', h2, h3⟩ := h
    simp only [exitR, exitOk, if_pos h1, h2]
    exact h3
  | bk _ _ => exact h.elim
  | ct _ _ => exact h.elim
  | exn _ _ => exact h.elim
  | bad => exact h.elim
@[simp] theorem frzW_d {n : Nat} {st : Sto} {x : D} : frzW n st (.d x) = some (.d x) := rfl
theorem callD_fn {j : Nat} {f : String} {fn : Fn} (hf : P.fn f = some fn) (ws : List W) (st : Sto) (hl : ws.length = fn.params) : callD P R (j + 1) f ws st = exitR fn.mode st (evSs P R (callD P R j) fn.body (entry fn ws) st) := by
  simp [callD, hf, runFn, hl]
/-! ### comprehensions -/
theorem lc_pure {γ : Type} {step : W → Sto → Res (Option γ)} {st : Sto} (f : W → Option γ) : ∀ ws : List W, (∀ w ∈ ws, step w st = .ok (f w) st) → lcL none step ws st = .ok (ws.filterMap f) st
  | [], _ => rfl
  | w :: ws, h => by
    simp only [lcL, h w List.mem_cons_self, still, if_true, lc_pure f ws fun u hu => h u (List.mem_cons_of_mem _ hu)]
    cases hf : f w <;> simp [List.filterMap_cons, hf]
theorem lc_inv {γ : Type} {step : W → Sto → Res (Option γ)} {I : Sto → Prop} {Pw : γ → Prop} : ∀ (ws : List W) (st : Sto), I st → (∀ w ∈ ws, ∀ st, I st → okR (step w st) fun o st' => I st' ∧ ∃ y, o = some y ∧ Pw y) → okR (lcL none step ws st) fun ys st' => I st' ∧ ys.length = ws.length ∧ ∀ y ∈ ys, Pw y
  | [], st, h0, _ => ⟨h0, rfl, fun y hy => by cases hy⟩
  | w :: ws, st, h0, h => by
    have h1 := h w List.mem_cons_self st h0
    cases hs : step w st with
    | exn _ _ => rw [hs] at h1; exact h1.elim
    | bad => rw [hs] at h1; exact h1.elim
    | ok o st' =>
      rw [hs] at h1
      obtain ⟨h2, y, rfl, hy⟩ := h1
      have h3 := lc_inv ws st' h2 fun u hu => h u (List.mem_cons_of_mem _ hu)
      simp only [lcL, hs, still, if_true]
      cases hr : lcL none step ws st' with
      | exn _ _ => rw [hr] at h3; exact h3.elim
      | bad => rw [hr] at h3; exact h3.elim
      | ok ys st'' =>
        rw [hr] at h3
        obtain ⟨h4, h5, h6⟩ := h3
        refine ⟨h4, by simp [h5], fun z hz => ?_⟩
        rcases List.mem_cons.mp hz with e | e
        · rw [e]; exact hy
        · exact h6 z e
/-! ### loops -/
theorem for_inv {g : Option Nat} {step : W → Env → Sto → Out} {Rt : W → Sto → Prop} (I : List W → Env → Sto → Prop) : ∀ (ws : List W) (ρ : Env) (st : Sto), I ws ρ st →
    (∀ w r ρ st, I (w :: r) ρ st → okO (step w ρ st) (fun ρ' st' => still g st st' = true ∧ I r ρ' st') Rt) → okO (forL g step ws ρ st) (fun ρ' st' => I [] ρ' st') Rt
  | [], ρ, st, h0, _ => h0
  | w :: ws, ρ, st, h0, h => by
    have h1 := h w ws ρ st h0
    simp only [forL]
    cases hs : step w ρ st with
    | nx ρ' st' =>
      rw [hs] at h1
      obtain ⟨h2, h3⟩ := h1
      simp only [h2, if_true]
      exact for_inv I ws ρ' st' h3 h
    | rt w' st' => rw [hs] at h1; exact h1
    | bk _ _ => rw [hs] at h1; exact h1.elim
    | ct _ _ => rw [hs] at h1; exact h1.elim
    | exn _ _ => rw [hs] at h1; exact h1.elim
    | bad => rw [hs] at h1; exact h1.elim
/-! ### texts and lists -/
theorem chars_T (l : List Nat) : chars (T l) = l.map fun c => .d (dStr [c]) := by simp [chars]
theorem lc_chars {γ : Type} {step : W → Sto → Res (Option γ)} {st : Sto} (p : Nat → Bool) (g : Nat → γ) : ∀ l : List Nat, (∀ c ∈ l, step (.d (dStr [c])) st = .ok (if p c then some (g c) else none) st) → lcL none step (chars (T l)) st = .ok ((l.filter p).map g) st := fun l h => by
  rw [chars_T]
  induction l with
  | nil => rfl
  | cons c l ih =>
    simp only [List.map_cons, lcL, h c List.mem_cons_self, still, if_true, ih fun u hu => h u (List.mem_cons_of_mem _ hu), List.filter_cons]
    cases p c <;> rfl
theorem lc_list {γ : Type} {step : W → Sto → Res (Option γ)} {st : Sto} (p : D → Bool) (g : D → γ) : ∀ l : List D, (∀ c ∈ l, step (.d c) st = .ok (if p c then some (g c) else none) st) → lcL none step (l.map W.d) st = .ok ((l.filter p).map g) st := fun l h => by
  induction l with
  | nil => rfl
  | cons c l ih =>
    simp only [List.map_cons, lcL, h c List.mem_cons_self, still, if_true, ih fun u hu => h u (List.mem_cons_of_mem _ hu), List.filter_cons]
    cases p c <;> rfl
@[simp] theorem allD_mapd {γ : Type} (g : γ → D) (l : List γ) : allD (l.map fun c => W.d (g c)) = some (l.map g) := by
  induction l with
  | nil => rfl
  | cons c l ih => simp [allD, ih]
@[simp] theorem strsD_map (l : List (List Nat)) : strsD (l.map dStr) = some l := by
  induction l with
  | nil => rfl
  | cons c l ih => simp [strsD, ih]
@[simp] theorem strsD_one (l : List Nat) : strsD (l.map fun c => dStr [c]) = some (l.map fun c => [c]) := by
  induction l with
  | nil => rfl
  | cons c l ih => simp [strsD, ih]
@[simp] theorem boolsD_map {γ : Type} (p : γ → Bool) (l : List γ) : boolsD (l.map fun c => .bool (p c)) = some (l.map p) := by
  induction l with
  | nil => rfl
  | cons c l ih => simp [boolsD, ih]
@[simp] theorem joinT_nil_one (l : List Nat) : joinT [] (l.map fun c => [c]) = l := by
  induction l with
  | nil => rfl
  | cons c l ih =>
    cases l with
    | nil => rfl
    | cons d l =>
      show [c] ++ [] ++ joinT [] ((d :: l).map fun c => [c]) = _
      rw [ih]
      rfl
@[simp] theorem sum_ones (l : List Nat) : (List.map List.length (l.map fun c => [c])).sum = l.length := by
  induction l with
  | nil => rfl
  | cons c l ih =>
    simp only [List.map_cons, List.sum_cons, ih, List.length_cons, List.length_nil]
    omega
@[simp] theorem sum_ones' (l : List Nat) : (List.map (List.length ∘ fun c => [c]) l).sum = l.length := by
  rw [← List.map_map]
  exact sum_ones l
/-! choices are drawn out -/
@[simp] theorem next_ite {c : Prop} [Decidable c] {a b : Out} {f : Env → Sto → Out} : (if c then a else b).next f = if c then a.next f else b.next f := by split <;> rfl
@[simp] theorem bind_ite' {γ δ : Type} {c : Prop} [Decidable c] {a b : Res γ} {f : γ → Sto → Res δ} : (if c then a else b).bind f = if c then a.bind f else b.bind f := by split <;> rfl
@[simp] theorem out_ite' {γ : Type} {c : Prop} [Decidable c] {a b : Res γ} {f : γ → Sto → Out} : (if c then a else b).out f = if c then a.out f else b.out f := by split <;> rfl
@[simp] theorem exit_ite {c : Prop} [Decidable c] {m : Mode} {st : Sto} {a b : Out} : exitR m st (if c then a else b) = if c then exitR m st a else exitR m st b := by split <;> rfl
@[simp] theorem exit_one {st : Sto} {x : D} : exitR .pure st (.rt (.d x) st) = .ok (.d x) st := by simp [exitR, exitOk]
@[simp] theorem chars_len (l : List Nat) : (chars (T l)).length = l.length := by simp [chars]
end
end FM
end

section
/-! FP2: what all laws' texts share: the draws, the look whether two values are alike. -/
set_option Elab.async false
set_option linter.all false
set_option maxRecDepth 100000
set_option autoImplicit false
set_option maxHeartbeats 4000000
namespace FM
open PySem
def takenB : FM.Ss := .cons (.ife (.e (.cmp .gt (.idx (.var 0) (.int 3)) (.int 0))) (.cons (.set (.v 3) (.bin .mod (.b1 .int (.idx (.var 0) (.int 3))) (.var 1))) (.cons (.setIx (.var 0) (.int 3) (.bin .fdiv (.idx (.var 0) (.int 3)) (.var 1))) (.cons (.ret (.var 3)) (.nil)))) (.nil)) (.cons (.setIx (.var 0) (.int 1) (.bin .add (.idx (.var 0) (.int 1)) (.int 1))) (.cons (.ife (.e (.cmp .gt (.idx (.var 0) (.int 1)) (.b1 .len (.idx (.var 0) (.int 0))))) (.cons (.setIx (.var 0) (.int 2) (.bin .mod (.b1 .int (.bin .add (.bin .mul (.idx (.var 0) (.int 2)) (.int 48271)) (.int 11))) (.int 2147483647))) (.cons (.ret (.bin .mod (.b1 .int (.bin .fdiv (.idx (.var 0) (.int 2)) (.int 7))) (.var 1))) (.nil))) (.nil)) (.cons (.set (.v 2) (.idx (.idx (.var 0) (.int 0)) (.bin .sub (.idx (.var 0) (.int 1)) (.int 1)))) (.cons (.setIx (.var 0) (.int 2) (.bin .mod (.b1 .int (.bin .add (.bin .add (.bin .mul (.idx (.var 0) (.int 2)) (.int 48271)) (.var 2)) (.int 11))) (.int 2147483647))) (.cons (.ife (.e (.cmp .ge (.var 2) (.bin .pow (.int 10) (.int 18)))) (.cons (.setIx (.var 0) (.int 3) (.bin .fdiv (.var 2) (.var 1))) (.nil)) (.nil)) (.cons (.ret (.bin .mod (.b1 .int (.var 2)) (.var 1))) (.nil)))))))
def pickB : FM.Ss := .cons (.ret (.idx (.var 1) (.call "_law_taken" (.cons (.var 0) (.cons (.b1 .len (.var 1)) (.nil)))))) (.nil)
def alikeB : FM.Ss := .cons (.ife (.e (.isi (.var 1) [.tuple, .list])) (.cons (.ife (.or (.not (.e (.isi (.var 0) [.tuple, .list]))) (.e (.cmp .ne (.isi (.var 0) [.list]) (.isi (.var 1) [.list])))) (.cons (.ret (.bl false)) (.nil)) (.nil)) (.cons (.ife (.e (.cmp .ne (.b1 .len (.var 0)) (.b1 .len (.var 1)))) (.cons (.ret (.bl false)) (.nil)) (.nil)) (.cons (.ret (.cmp .eq (.pur (.lc [2] (.v 2) (.rng1 (.b1 .len (.var 1))) (.c (.not (.e (.call "_law_alike" (.cons (.idx (.var 0) (.var 2)) (.cons (.idx (.var 1) (.var 2)) (.nil))))))) (.var 2))) (.pur (.lst (.nil))))) (.nil)))) (.nil)) (.cons (.ife (.e (.isi (.var 1) [.dict])) (.cons (.ife (.or (.not (.e (.isi (.var 0) [.dict]))) (.e (.cmp .ne (.pur (.list (.var 0))) (.pur (.list (.var 1)))))) (.cons (.ret (.bl false)) (.nil)) (.nil)) (.cons (.ret (.cmp .eq (.pur (.lc [3] (.v 3) (.e (.var 1)) (.c (.not (.e (.call "_law_alike" (.cons (.idx (.var 0) (.var 3)) (.cons (.idx (.var 1) (.var 3)) (.nil))))))) (.var 3))) (.pur (.lst (.nil))))) (.nil))) (.nil)) (.cons (.ife (.or (.e (.cmp .is (.var 1) (.none))) (.e (.isi (.var 1) [.str]))) (.cons (.ret (.and (.cmp .eq (.var 0) (.var 1)) (.cmp .eq (.isi (.var 0) [.str]) (.isi (.var 1) [.str])))) (.nil)) (.nil)) (.cons (.ret (.and (.isi (.var 0) [.int]) (.and (.cmp .eq (.isi (.var 0) [.bool]) (.isi (.var 1) [.bool])) (.cmp .eq (.var 0) (.var 1))))) (.nil))))
def rowC (ns : List Int) (a b c : Int) : Cell := .lst [.d (.list (ns.map .int)), .d (.int a), .d (.int b), .d (.int c)]
theorem cmul1 (b : Int) : CMulB b 48271 = true := by simp [CMulB]
theorem old_row {ns : List Int} {a b c a' b' c' : Int} {rest : Sto} : okOld (rowC ns a b c :: rest) (rowC ns a' b' c' :: rest) := fun i hi => by
  cases i with
  | zero => exact .inr ⟨_, rfl, by simp [rowC, Cell.below, W.below]⟩
  | succ i => exact .inl rfl
/-- the row, drawn on -/
def Row (ns : List Int) (rest : Sto) (st : Sto) : Prop := ∃ a b c, 0 ≤ a ∧ st = rowC ns a b c :: rest
section
variable {P : Prog} {R : Fun1} {ns : List Int} {rest st : Sto} {j : Nat}
theorem row_new {b : Int} : Row ns rest (rowC ns 0 b 0 :: rest) := ⟨0, b, 0, by omega, rfl⟩
theorem taken (hP : P.fn "_law_taken" = some ⟨2, 4, .eff, takenB⟩) {m : Int} (h : Row ns rest st) (hm : 0 < m) (hm2 : m < 1073741824) :
    okR (callD P R (j + 1) "_law_taken" [.ref 0, .d (.int m)] st) fun w st' => (∃ k, 0 ≤ k ∧ k < m ∧ w = .d (.int k)) ∧ Row ns rest st' := by
  obtain ⟨a, b, c, ha, rfl⟩ := h
  have mod0 : ∀ x : Int, 0 ≤ x % m := fun x => Int.emod_nonneg _ (by omega)
  have mod1 : ∀ x : Int, x % m < m := fun x => Int.emod_lt_of_pos _ hm
  rw [callD_fn hP _ _ rfl]
  apply exit_eff
  simp only [takenB, entry, evSs, evS, evC, evE, okO_next, okO_out, okR_bind]
  by_cases hc : 0 < c
  · simp [varW, idxW, seqW, FM.atI, Res.of, cmpW, cmpP, vw, cmpD, cmpOk, alk, ordOk, isNo, dep, ltD, truW, truD, b1W, binW, binD, asgT, setIxW, atIx, lenW, rowC, hm, hm2, hc]
    exact ⟨old_row, ⟨mod0 _, mod1 _⟩, _, _, _, ha, rfl⟩
  · by_cases hl : (ns.length : Int) < a + 1
    · simp [varW, idxW, seqW, FM.atI, Res.of, cmpW, cmpP, vw, cmpD, cmpOk, alk, ordOk, isNo, dep, ltD, truW, truD, b1W, binW, binD, asgT, setIxW, atIx, lenW, rowC, hm, hm2, hc, hl, cmul1]
      exact ⟨old_row, ⟨mod0 _, mod1 _⟩, _, _, _, (by omega), rfl⟩
    · have hx : a.toNat < ns.length := by omega
      by_cases hx2 : (1000000000000000000 : Int) ≤ ns[a.toNat]
      · simp [varW, idxW, seqW, FM.atI, Res.of, cmpW, cmpP, vw, cmpD, cmpOk, alk, ordOk, isNo, dep, ltD, truW, truD, b1W, binW, binD, asgT, setIxW, atIx, lenW, rowC, hm, hm2, hc, hl, cmul1, ha, hx, hx2]
        exact ⟨old_row, ⟨mod0 _, mod1 _⟩, _, _, _, (by omega), rfl⟩
      · simp [varW, idxW, seqW, FM.atI, Res.of, cmpW, cmpP, vw, cmpD, cmpOk, alk, ordOk, isNo, dep, ltD, truW, truD, b1W, binW, binD, asgT, setIxW, atIx, lenW, rowC, hm, hm2, hc, hl, cmul1, ha, hx, hx2]
        exact ⟨old_row, ⟨mod0 _, mod1 _⟩, _, _, _, (by omega), rfl⟩
/-- one of the items of a row that stands beside the draws -/
theorem pickW (hP : P.fn "_law_taken" = some ⟨2, 4, .eff, takenB⟩) (hP2 : P.fn "_law_pick" = some ⟨2, 2, .eff, pickB⟩) {w0 : W} {ws : List W} (h : Row ns rest st) (hw : ∀ a b c, seqW (rowC ns a b c :: rest) w0 = some ws) (hn : ∀ z, w0 ≠ .d (.str z)) (hb : ∀ w ∈ ws, ∀ n, w ≠ .ref n) (hm : ws ≠ []) (hm2 : ws.length < 1073741824) :
    okR (callD P R (j + 2) "_law_pick" [.ref 0, w0] st) fun w st' => w ∈ ws ∧ Row ns rest st' := by
  have hp : 0 < ws.length := by cases ws <;> simp at hm ⊢
  rw [callD_fn hP2 _ _ rfl]
  apply exit_eff
  obtain ⟨a, b, c, ha, rfl⟩ := h
  have hl : lenW (rowC ns a b c :: rest) w0 = some (ws.length : Int) := by
    unfold lenW
    split
    · exact absurd rfl (hn _)
    · rw [hw]; rfl
  simp only [pickB, entry, evSs, evS, evE, evEs, okO_next, okO_out, okR_bind]
  simp [varW, b1W, hl]
  refine okR_imp (taken hP ⟨a, b, c, ha, rfl⟩ (m := (ws.length : Int)) (by omega) (by omega)) fun w st' ⟨⟨k, h1, h2, hw2⟩, h3⟩ => ?_
  subst hw2
  obtain ⟨a', b', c', ha', rfl⟩ := h3
  have hk : k.toNat < ws.length := by omega
  have hi : idxW (rowC ns a' b' c' :: rest) w0 (.d (.int k)) = some ws[k.toNat] := by
    have hq := hw a' b' c'
    cases w0 with
    | d x =>
      cases x <;> simp only [idxW, hq] <;> first | exact absurd rfl (hn _) | simp [FM.atI, h1, hk]
    | ref m =>
      simp only [idxW, hq]
      simp [FM.atI, h1, hk]
    | fn f => simp [seqW] at hq
  simp [hi]
  have hmem : ws[k.toNat] ∈ ws := List.getElem_mem hk
  have hz : frzW (rest.length + 1) (rowC ns a' b' c' :: rest) ws[k.toNat] = some ws[k.toNat] := by
    have := hb _ hmem
    cases hc : ws[k.toNat] with
    | d x => rfl
    | ref n => exact absurd hc (this n)
    | fn f => rfl
  exact ⟨old_row, ws[k.toNat], hz, hmem, a', b', c', ha', by simp⟩
theorem pick (hP : P.fn "_law_taken" = some ⟨2, 4, .eff, takenB⟩) (hP2 : P.fn "_law_pick" = some ⟨2, 2, .eff, pickB⟩) {xs : List D} (h : Row ns rest st) (hm : xs ≠ []) (hm2 : xs.length < 1073741824) :
    okR (callD P R (j + 2) "_law_pick" [.ref 0, .d (.list xs)] st) fun w st' => (∃ x ∈ xs, w = .d x) ∧ Row ns rest st' := by
  refine okR_imp (pickW hP hP2 (ws := xs.map .d) h (fun _ _ _ => rfl) (fun z e => by cases e) (fun w hw n e => ?_) (by simpa using hm) (by simpa using hm2)) fun w st' ⟨h1, h2⟩ => ⟨?_, h2⟩
  · obtain ⟨x, _, rfl⟩ := List.mem_map.mp hw
    cases e
  · obtain ⟨x, hx, rfl⟩ := List.mem_map.mp h1
    exact ⟨x, hx, rfl⟩
end
end FM
end

section
/-! FP3: the look whether two values are alike, of one value. -/
set_option Elab.async false
set_option linter.all false
set_option maxRecDepth 100000
set_option autoImplicit false
set_option maxHeartbeats 4000000
namespace FM
open PySem
section
variable {P : Prog} {R : Fun1} {ns : List Int} {rest st : Sto} {j : Nat}
/-! ### alike -/
mutual
/-- no dict within, no long rows -/
def sm : D → Bool
  | .list xs => decide (xs.length ≤ SZ) && smAll xs
  | .tuple xs => decide (xs.length ≤ SZ) && smAll xs
  | .dict _ => false
  | _ => true
def smAll : List D → Bool
  | [] => true
  | x :: xs => sm x && smAll xs
end
mutual
theorem sm_nod : ∀ x : D, sm x = true → nod x = true
  | .none, _ => rfl
  | .bool _, _ => rfl
  | .int _, _ => rfl
  | .str _, _ => rfl
  | .list xs, h => by
    simp only [sm, Bool.and_eq_true] at h
    exact smAll_nod xs h.2
  | .tuple xs, h => by
    simp only [sm, Bool.and_eq_true] at h
    exact smAll_nod xs h.2
  | .dict _, h => by cases h
theorem smAll_nod : ∀ xs : List D, smAll xs = true → nodAll xs = true
  | [], _ => rfl
  | x :: xs, h => by
    simp only [smAll, Bool.and_eq_true] at h
    simp only [nodAll, Bool.and_eq_true]
    exact ⟨sm_nod x h.1, smAll_nod xs h.2⟩
end
theorem sm_get : ∀ {xs : List D} {i : Nat} {x : D}, smAll xs = true → xs[i]? = some x → sm x = true := by
  intro xs
  induction xs with
  | nil => intro i x h e; simp at e
  | cons y ys ih =>
    intro i x h e
    simp only [smAll, Bool.and_eq_true] at h
    cases i with
    | zero =>
      simp at e
      subst e
      exact h.1
    | succ i => exact ih h.2 (by simpa using e)
theorem dep_get : ∀ {xs : List D} {i : Nat} {x : D}, xs[i]? = some x → dep x ≤ depAll xs := by
  intro xs
  induction xs with
  | nil => intro i x e; simp at e
  | cons y ys ih =>
    intro i x e
    simp only [depAll]
    cases i with
    | zero =>
      simp at e
      subst e
      omega
    | succ i =>
      have := ih (i := i) (x := x) (by simpa using e)
      omega
def tyD : D → Option Ty
  | .none => none
  | .bool _ => some .bool
  | .int _ => some .int
  | .str _ => some .str
  | .list _ => some .list
  | .tuple _ => some .tuple
  | .dict _ => some .dict
/-- data, or a list's cell -/
theorem vw_cases {w : W} {x : D} (h : vw st w = some x) (hn : nod x = true) : w = .d x ∨ ∃ n ws xs, w = .ref n ∧ st[n]? = some (.lst ws) ∧ allD ws = some xs ∧ x = .list xs := by
  cases w with
  | d y =>
    simp [vw] at h
    exact .inl (by rw [h])
  | ref n =>
    right
    simp only [vw] at h
    split at h
    · rename_i ws hc
      simp only [Option.map_eq_some_iff] at h
      obtain ⟨xs, h1, h2⟩ := h
      exact ⟨n, ws, xs, rfl, hc, h1, h2.symm⟩
    · simp only [Option.map_eq_some_iff] at h
      obtain ⟨xs, h1, h2⟩ := h
      rw [← h2] at hn
      cases hn
    · cases h
  | fn f => cases h
theorem allD_eq : ∀ {ws : List W} {xs : List D}, allD ws = some xs → ws = xs.map .d := by
  intro ws
  induction ws with
  | nil =>
    intro xs h
    simp [allD] at h
    subst h
    rfl
  | cons w ws ih =>
    intro xs h
    cases w with
    | d x =>
      simp only [allD, Option.map_eq_some_iff] at h
      obtain ⟨r, h1, rfl⟩ := h
      rw [ih h1]
      rfl
    | ref _ => simp [allD] at h
    | fn _ => simp [allD] at h
theorem isi_of {w : W} {x : D} (h : vw st w = some x) (hn : nod x = true) (ts : List Ty) : isiW st w ts = some (ts.any (isTy (tyD x))) := by
  rcases vw_cases h hn with rfl | ⟨n, ws, xs, rfl, h1, h2, rfl⟩
  · cases x <;> simp [isiW, kindOk, tyOf, tyD]
    simp [nod] at hn
  · simp [isiW, kindOk, tyOf, tyD, h1]
theorem seq_list {w : W} {xs : List D} (h : vw st w = some (.list xs)) (hn : nod (.list xs) = true) : seqW st w = some (xs.map .d) ∧ lenW st w = some (xs.length : Int) ∧ ∀ i, idxW st w (.d (.int i)) = FM.atI (xs.map W.d) i := by
  rcases vw_cases h hn with rfl | ⟨n, ws, ys, rfl, h1, h2, h3⟩
  · refine ⟨rfl, by simp [lenW, seqW], fun i => rfl⟩
  · cases h3
    have := allD_eq h2
    subst this
    refine ⟨by simp [seqW, h1], by simp [lenW, seqW, h1], fun i => by simp [idxW, seqW, h1]⟩
theorem seq_tup {w : W} {xs : List D} (h : vw st w = some (.tuple xs)) (hn : nod (.tuple xs) = true) : seqW st w = some (xs.map .d) ∧ lenW st w = some (xs.length : Int) ∧ ∀ i, idxW st w (.d (.int i)) = FM.atI (xs.map W.d) i := by
  rcases vw_cases h hn with rfl | ⟨n, ws, ys, rfl, h1, h2, h3⟩
  · exact ⟨rfl, by simp [lenW, seqW], fun i => rfl⟩
  · cases h3
theorem lc_none {γ : Type} {step : W → Sto → Res (Option γ)} : ∀ ws : List W, (∀ w ∈ ws, step w st = .ok none st) → lcL none step ws st = .ok [] st
  | [], _ => rfl
  | w :: ws, h => by
    simp only [lcL, h w List.mem_cons_self, still, if_true, lc_none ws fun u hu => h u (List.mem_cons_of_mem _ hu)]
theorem rng_mem {lo : Int} {n : Nat} {w : W} (h : w ∈ rngL lo n) : ∃ i, i < n ∧ w = .d (.int (lo + (i : Nat))) := by
  simp only [rngL, List.mem_map, List.mem_range] at h
  obtain ⟨i, h1, h2⟩ := h
  exact ⟨i, h1, h2.symm⟩
theorem rngL_len {lo : Int} {n : Nat} : (rngL lo n).length = n := by simp [rngL]
theorem eqAll_refl_nil : eqAll [] [] = true := rfl
theorem alike_atom (hP : P.fn "_law_alike" = some ⟨2, 4, .pure, alikeB⟩) {x : D} {st : Sto} {j : Nat} (hs : sm x = true) (hnl : (∀ xs, x ≠ .list xs) ∧ ∀ xs, x ≠ .tuple xs) : callD P R (j + 1) "_law_alike" [.d x, .d x] st = .ok (.d (.bool true)) st := by
  rw [callD_fn hP _ _ rfl]
  simp only [alikeB, entry, evSs, evS, evC, evE]
  cases x with
  | none => simp [varW, isiW, kindOk, tyOf, isTy, truW, truD, cmpW, isW, isD, cmpP, vw, cmpD, eqOk, nod, dep, eqD, noneW]
  | bool b => simp [varW, isiW, kindOk, tyOf, isTy, truW, truD, cmpW, isW, isD, cmpP, vw, cmpD, eqOk, nod, dep, eqD, noneW]
  | int _ => simp [varW, isiW, kindOk, tyOf, isTy, truW, truD, cmpW, isW, isD, cmpP, vw, cmpD, eqOk, nod, dep, eqD, noneW]
  | str _ => simp [varW, isiW, kindOk, tyOf, isTy, truW, truD, cmpW, isW, isD, cmpP, vw, cmpD, eqOk, nod, dep, eqD, noneW]
  | list xs => exact absurd rfl (hnl.1 xs)
  | tuple xs => exact absurd rfl (hnl.2 xs)
  | dict _ => cases hs
theorem alike_row (hP : P.fn "_law_alike" = some ⟨2, 4, .pure, alikeB⟩) {x : D} {xs : List D} {f d : W} {st : Sto} {n : Nat} (hx : x = .list xs ∨ x = .tuple xs) (i1 : ∀ ts, isiW st f ts = some (ts.any (isTy (tyD x)))) (i2 : ∀ ts, isiW st d ts = some (ts.any (isTy (tyD x)))) (h3 : xs.length ≤ SZ)
    (h4 : lenW st f = some (xs.length : Int)) (h5 : lenW st d = some (xs.length : Int)) (key : ∀ i : Nat, i < xs.length → ∃ y, idxW st f (.d (.int i)) = some (.d y) ∧ idxW st d (.d (.int i)) = some (.d y) ∧ callD P R n "_law_alike" [.d y, .d y] st = .ok (.d (.bool true)) st) :
    callD P R (n + 1) "_law_alike" [f, d] st = .ok (.d (.bool true)) st := by
  have hr : rngOk (xs.length : Int) = true := by
    have hSZ : SZ = 16777216 := rfl
    simp [rngOk]
    omega
  have hlen : ¬ SZ < (rngL 0 xs.length).length := by rw [rngL_len]; omega
  rw [callD_fn hP _ _ rfl]
  have hv0 : varW (entry ⟨2, 4, .pure, alikeB⟩ [f, d]) 0 = some f := rfl
  have hv1 : varW (entry ⟨2, 4, .pure, alikeB⟩ [f, d]) 1 = some d := rfl
  have hl4 : (entry ⟨2, 4, .pure, alikeB⟩ [f, d]).length = 4 := rfl
  generalize entry ⟨2, 4, .pure, alikeB⟩ [f, d] = ρ at hv0 hv1 hl4
  have b4 : b1W R st .len f = some (.d (.int xs.length)) := by simp [b1W, h4]
  have b5 : b1W R st .len d = some (.d (.int xs.length)) := by simp [b1W, h5]
  have hx1 : tyD x = some .list ∨ tyD x = some .tuple := by rcases hx with rfl | rfl <;> simp [tyD]
  have k1 : [Ty.tuple, Ty.list].any (isTy (tyD x)) = true := by rcases hx with rfl | rfl <;> simp [tyD, isTy]
  generalize hb : [Ty.list].any (isTy (tyD x)) = b at *
  have c1 : evC P R (callD P R n) (.e (.isi (.var 1) [.tuple, .list])) ρ st = .ok true st := by
    simp only [evC, evE, hv1, Res.of_some, Res.bind_ok, i2, k1, Option.map_some, truW, truD]
  have c2 : evC P R (callD P R n) (.or (.not (.e (.isi (.var 0) [.tuple, .list]))) (.e (.cmp .ne (.isi (.var 0) [.list]) (.isi (.var 1) [.list])))) ρ st = .ok false st := by
    simp only [evC, evE, hv0, hv1, Res.of_some, Res.bind_ok, i1, i2, k1, hb, Option.map_some, truW, truD, Bool.not_true, cmpW, cmpP, vw, cmpD, eqOk, nod, dep]
    cases b <;> simp [eqD, truW, truD]
  have c3 : evC P R (callD P R n) (.e (.cmp .ne (.b1 .len (.var 0)) (.b1 .len (.var 1)))) ρ st = .ok false st := by
    simp [evC, evE, hv0, hv1, b4, b5, cmpW, cmpP, cmpD, eqOk, nod, dep, eqD, truW, truD]
  have hI : evI P R (callD P R n) (.rng1 (.b1 .len (.var 1))) ρ st = .ok (rngL 0 xs.length, none) st := by
    rw [evI, evE, evE, hv1, Res.of_some, Res.bind_ok, b5, Res.of_some, Res.bind_ok]
    exact (if_pos hr).trans (by rw [Int.toNat_natCast])
  have hL : evF P R (callD P R n) (.lc [2] (.v 2) (.rng1 (.b1 .len (.var 1))) (.c (.not (.e (.call "_law_alike" (.cons (.idx (.var 0) (.var 2)) (.cons (.idx (.var 1) (.var 2)) (.nil))))))) (.var 2)) ρ st = .ok (.l []) st := by
    rw [evF, hI, Res.bind_ok]
    simp only
    rw [if_neg hlen, lc_none]
    · rfl
    intro w hw
    obtain ⟨i, hi, rfl⟩ := rng_mem hw
    obtain ⟨y, e1, e2, e3⟩ := key i hi
    have g : ∀ (k : Nat) (v : W), k ≠ 2 → varW ρ k = some v → varW ((wip ρ [2]).set 2 (some (.d (.int (0 + (i : Nat)))))) k = some v := by
      intro k v hk h
      simp only [wip, varW, List.set_set] at h ⊢
      rw [List.getElem?_set_ne (fun e => hk e.symm)]
      exact h
    have g2 : varW ((wip ρ [2]).set 2 (some (.d (.int (0 + (i : Nat)))))) 2 = some (.d (.int (0 + (i : Nat)))) := by
      have : 2 < ρ.length := by rw [hl4]; omega
      simp [varW, wip, this]
    simp only [asgT, evCs, evC, evE, evEs, g 0 f (by omega) hv0, g 1 d (by omega) hv1, g2, Res.of_some, Res.bind_ok]
    rw [show (0 + (i : Int)) = (i : Int) by omega]
    simp only [e1, e2, Res.of_some, Res.bind_ok, e3, truW, truD, Bool.not_true]
    rfl
  have c4 : evE P R (callD P R n) (.cmp .eq (.pur (.lc [2] (.v 2) (.rng1 (.b1 .len (.var 1))) (.c (.not (.e (.call "_law_alike" (.cons (.idx (.var 0) (.var 2)) (.cons (.idx (.var 1) (.var 2)) (.nil))))))) (.var 2))) (.pur (.lst (.nil)))) ρ st = .ok (.d (.bool true)) st := by
    rw [evE, evE, hL]
    simp [evE, evF, evEs, Fr.pur, allD, cmpW, cmpP, cmpD, eqOk, nod, nodAll, dep, depAll, eqD, eqAll, vw]
  simp only [alikeB, evSs, evS, c1, c2, c3, c4, Res.out_ok, if_true, if_false, Out.next_rt, Out.next_nx, Bool.false_eq_true, exit_one]
theorem alike_refl (hP : P.fn "_law_alike" = some ⟨2, 4, .pure, alikeB⟩) : ∀ (n : Nat) (x : D) (f d : W) (st : Sto) (j : Nat), dep x ≤ n → sm x = true → vw st f = some x → vw st d = some x → callD P R (j + n + 1) "_law_alike" [f, d] st = .ok (.d (.bool true)) st := by
  have atom : ∀ (x : D) (f d : W) (st : Sto) (m : Nat), sm x = true → vw st f = some x → vw st d = some x → (∀ xs, x ≠ .list xs) ∧ (∀ xs, x ≠ .tuple xs) → callD P R (m + 1) "_law_alike" [f, d] st = .ok (.d (.bool true)) st := by
    intro x f d st m hs hf hd2 hnl
    have hn := sm_nod x hs
    have ef : f = .d x := by
      rcases vw_cases hf hn with e | ⟨_, _, xs, _, _, _, e⟩
      · exact e
      · exact absurd e (hnl.1 xs)
    have ed : d = .d x := by
      rcases vw_cases hd2 hn with e | ⟨_, _, xs, _, _, _, e⟩
      · exact e
      · exact absurd e (hnl.1 xs)
    rw [ef, ed]
    exact alike_atom hP hs hnl
  intro n
  induction n with
  | zero =>
    intro x f d st j hd hs hf hd2
    exact atom x f d st _ hs hf hd2 ⟨fun xs e => by subst e; simp [dep] at hd, fun xs e => by subst e; simp [dep] at hd⟩
  | succ n ih =>
    intro x f d st j hd hs hf hd2
    have hn := sm_nod x hs
    have key : ∀ xs : List D, smAll xs = true → depAll xs ≤ n → (∀ i, idxW st f (.d (.int i)) = FM.atI (xs.map W.d) i) → (∀ i, idxW st d (.d (.int i)) = FM.atI (xs.map W.d) i) → ∀ i : Nat, i < xs.length → ∃ y, idxW st f (.d (.int i)) = some (.d y) ∧ idxW st d (.d (.int i)) = some (.d y) ∧ callD P R (j + n + 1) "_law_alike" [.d y, .d y] st = .ok (.d (.bool true)) st := by
      intro xs h1 h2 h4 h5 i hi
      have e : xs[i]? = some xs[i] := List.getElem?_eq_getElem hi
      refine ⟨xs[i], ?_, ?_, ih _ _ _ _ _ (by have := dep_get e; omega) (sm_get h1 e) rfl rfl⟩
      · rw [h4]; simp [FM.atI, hi]
      · rw [h5]; simp [FM.atI, hi]
    cases x with
    | list xs =>
      simp only [sm, Bool.and_eq_true, decide_eq_true_eq] at hs
      obtain ⟨a1, a2, a3⟩ := seq_list hf hn
      obtain ⟨b1, b2, b3⟩ := seq_list hd2 hn
      exact alike_row (n := j + n + 1) hP (.inl rfl) (isi_of hf hn) (isi_of hd2 hn) hs.1 a2 b2 (key xs hs.2 (by simp [dep] at hd; omega) a3 b3)
    | tuple xs =>
      simp only [sm, Bool.and_eq_true, decide_eq_true_eq] at hs
      obtain ⟨a1, a2, a3⟩ := seq_tup hf hn
      obtain ⟨b1, b2, b3⟩ := seq_tup hd2 hn
      exact alike_row (n := j + n + 1) hP (.inr rfl) (isi_of hf hn) (isi_of hd2 hn) hs.1 a2 b2 (key xs hs.2 (by simp [dep] at hd; omega) a3 b3)
    | none => exact atom _ f d st _ hs hf hd2 ⟨fun _ e => (by cases e), fun _ e => (by cases e)⟩
    | bool _ => exact atom _ f d st _ hs hf hd2 ⟨fun _ e => (by cases e), fun _ e => (by cases e)⟩
    | int _ => exact atom _ f d st _ hs hf hd2 ⟨fun _ e => (by cases e), fun _ e => (by cases e)⟩
    | str _ => exact atom _ f d st _ hs hf hd2 ⟨fun _ e => (by cases e), fun _ e => (by cases e)⟩
    | dict _ => cases hs
end
end FM
end

section
/-! FP4: lemmas that several laws share. -/
set_option Elab.async false
set_option linter.all false
set_option maxRecDepth 100000
set_option autoImplicit false
set_option maxHeartbeats 4000000
namespace FM
open PySem
theorem cut_up {α : Type} (l : List α) (n : Nat) : cut l (some (n : Int)) none = l.drop n := by
  unfold cut sIdx
  simp only [show ¬ ((n : Int) < 0) by omega, if_false, Int.toNat_natCast]
  by_cases h : n ≤ l.length
  · rw [Nat.min_eq_left h, List.take_of_length_le (by simp [noneW, allD, eqAll, nodAll, depAll, varW, idxW, seqW, FM.atI, cmpW, cmpP, vw, cmpD, eqOk, nod, dep, eqD, truW, truD, b1W, binW, binD, asgT, lenW, srcW, rcv1, tyOf, Fr.pur, ofP, m1W, int?, slW, slD, isiW, isTy, kindOk, isD, isW, inStr])]
  · rw [Nat.min_eq_right (by omega), List.drop_length, List.drop_eq_nil_of_le (by omega)]
    simp [noneW, allD, eqAll, nodAll, depAll, varW, idxW, seqW, FM.atI, cmpW, cmpP, vw, cmpD, eqOk, nod, dep, eqD, truW, truD, b1W, binW, binD, asgT, lenW, srcW, rcv1, tyOf, Fr.pur, ofP, m1W, int?, slW, slD, isiW, isTy, kindOk, isD, isW, inStr]
theorem cut_to {α : Type} (l : List α) (n : Nat) : cut l none (some (n : Int)) = l.take n := by
  unfold cut sIdx
  simp only [show ¬ ((n : Int) < 0) by omega, if_false, Int.toNat_natCast, List.drop_zero, Nat.sub_zero]
  by_cases h : n ≤ l.length
  · rw [Nat.min_eq_left h]
  · rw [Nat.min_eq_right (by omega), List.take_length, List.take_of_length_le (by omega)]
theorem cut1 {α : Type} (l : List α) : cut l (some 1) none = l.drop 1 := cut_up l 1
theorem cut2 {α : Type} (l : List α) : cut l (some 2) none = l.drop 2 := cut_up l 2
theorem cutT1 {α : Type} (l : List α) : cut l none (some 1) = l.take 1 := cut_to l 1
theorem cutT2 {α : Type} (l : List α) : cut l none (some 2) = l.take 2 := cut_to l 2
theorem flt_true (l : List Nat) : l.filter (fun _ => true) = l := by simp [noneW, allD, eqAll, nodAll, depAll, varW, idxW, seqW, FM.atI, cmpW, cmpP, vw, cmpD, eqOk, nod, dep, eqD, truW, truD, b1W, binW, binD, asgT, lenW, srcW, rcv1, tyOf, Fr.pur, ofP, m1W, int?, slW, slD, isiW, isTy, kindOk, isD, isW, inStr]
theorem lt3 (n : Nat) : decide ((n : Int) < 3) = !decide (3 ≤ n) := by
  by_cases h : 3 ≤ n
  · simp [noneW, allD, eqAll, nodAll, depAll, varW, idxW, seqW, FM.atI, cmpW, cmpP, vw, cmpD, eqOk, nod, dep, eqD, truW, truD, b1W, binW, binD, asgT, lenW, srcW, rcv1, tyOf, Fr.pur, ofP, m1W, int?, slW, slD, isiW, isTy, kindOk, isD, isW, inStr, h]
    omega
  · simp [noneW, allD, eqAll, nodAll, depAll, varW, idxW, seqW, FM.atI, cmpW, cmpP, vw, cmpD, eqOk, nod, dep, eqD, truW, truD, b1W, binW, binD, asgT, lenW, srcW, rcv1, tyOf, Fr.pur, ofP, m1W, int?, slW, slD, isiW, isTy, kindOk, isD, isW, inStr, h]
    omega
theorem nod_ones (l : List Nat) : nodAll (l.map fun c => dStr [c]) = true := by
  induction l with
  | nil => rfl
  | cons c l ih => simp [noneW, allD, eqAll, nodAll, depAll, varW, idxW, seqW, FM.atI, cmpW, cmpP, vw, cmpD, eqOk, nod, dep, eqD, truW, truD, b1W, binW, binD, asgT, lenW, srcW, rcv1, tyOf, Fr.pur, ofP, m1W, int?, slW, slD, isiW, isTy, kindOk, isD, isW, inStr, ih]
def asc (t : List Nat) : Prop := ∀ c ∈ t, c < 128
theorem lower_ok {t : List Nat} (h : asc t) (hl : t.length ≤ 1000) : m0W .lower (.d (dStr t)) = some (.d (dStr (t.map lower1))) := by
  have : t.all (fun c => decide (c < 128)) = true := by
    rw [List.all_eq_true]
    intro x hx
    simpa [noneW, allD, eqAll, nodAll, depAll, varW, idxW, seqW, FM.atI, cmpW, cmpP, vw, cmpD, eqOk, nod, dep, eqD, truW, truD, b1W, binW, binD, asgT, lenW, srcW, rcv1, tyOf, Fr.pur, ofP, m1W, int?, slW, slD, isiW, isTy, kindOk, isD, isW, inStr] using h x hx
  simp only [m0W, tl_T, dStr]
  rw [this]
  simp [noneW, allD, eqAll, nodAll, depAll, varW, idxW, seqW, FM.atI, cmpW, cmpP, vw, cmpD, eqOk, nod, dep, eqD, truW, truD, b1W, binW, binD, asgT, lenW, srcW, rcv1, tyOf, Fr.pur, ofP, m1W, int?, slW, slD, isiW, isTy, kindOk, isD, isW, inStr, show t.length ≤ 1000000 by omega]
theorem upper_ok {t : List Nat} (h : asc t) (hl : t.length ≤ 1000) : m0W .upper (.d (dStr t)) = some (.d (dStr (t.map upper1))) := by
  have : t.all (fun c => decide (c < 128)) = true := by
    rw [List.all_eq_true]
    intro x hx
    simpa [noneW, allD, eqAll, nodAll, depAll, varW, idxW, seqW, FM.atI, cmpW, cmpP, vw, cmpD, eqOk, nod, dep, eqD, truW, truD, b1W, binW, binD, asgT, lenW, srcW, rcv1, tyOf, Fr.pur, ofP, m1W, int?, slW, slD, isiW, isTy, kindOk, isD, isW, inStr] using h x hx
  simp only [m0W, tl_T, dStr]
  rw [this]
  simp [noneW, allD, eqAll, nodAll, depAll, varW, idxW, seqW, FM.atI, cmpW, cmpP, vw, cmpD, eqOk, nod, dep, eqD, truW, truD, b1W, binW, binD, asgT, lenW, srcW, rcv1, tyOf, Fr.pur, ofP, m1W, int?, slW, slD, isiW, isTy, kindOk, isD, isW, inStr, show t.length ≤ 1000000 by omega]
theorem split_ne (c : Nat) : ∀ l : List Nat, splitC c l ≠ [] := fun l => by
  cases l with
  | nil => simp [noneW, allD, eqAll, nodAll, depAll, varW, idxW, seqW, FM.atI, cmpW, cmpP, vw, cmpD, eqOk, nod, dep, eqD, truW, truD, b1W, binW, binD, asgT, lenW, srcW, rcv1, tyOf, Fr.pur, ofP, m1W, int?, slW, slD, isiW, isTy, kindOk, isD, isW, inStr, splitC]
  | cons a l =>
    simp only [splitC]
    split
    · simp [noneW, allD, eqAll, nodAll, depAll, varW, idxW, seqW, FM.atI, cmpW, cmpP, vw, cmpD, eqOk, nod, dep, eqD, truW, truD, b1W, binW, binD, asgT, lenW, srcW, rcv1, tyOf, Fr.pur, ofP, m1W, int?, slW, slD, isiW, isTy, kindOk, isD, isW, inStr]
    · split <;> simp [noneW, allD, eqAll, nodAll, depAll, varW, idxW, seqW, FM.atI, cmpW, cmpP, vw, cmpD, eqOk, nod, dep, eqD, truW, truD, b1W, binW, binD, asgT, lenW, srcW, rcv1, tyOf, Fr.pur, ofP, m1W, int?, slW, slD, isiW, isTy, kindOk, isD, isW, inStr]
theorem split_len (c : Nat) : ∀ l : List Nat, ((splitC c l).map List.length).sum + (splitC c l).length = l.length + 1 := fun l => by
  induction l with
  | nil => rfl
  | cons a l ih =>
    simp only [splitC]
    split
    · simp [noneW, allD, eqAll, nodAll, depAll, varW, idxW, seqW, FM.atI, cmpW, cmpP, vw, cmpD, eqOk, nod, dep, eqD, truW, truD, b1W, binW, binD, asgT, lenW, srcW, rcv1, tyOf, Fr.pur, ofP, m1W, int?, slW, slD, isiW, isTy, kindOk, isD, isW, inStr]
      omega
    · have := split_ne c l
      split
      · contradiction
      · rename_i y r h
        rw [h] at ih
        simp [noneW, allD, eqAll, nodAll, depAll, varW, idxW, seqW, FM.atI, cmpW, cmpP, vw, cmpD, eqOk, nod, dep, eqD, truW, truD, b1W, binW, binD, asgT, lenW, srcW, rcv1, tyOf, Fr.pur, ofP, m1W, int?, slW, slD, isiW, isTy, kindOk, isD, isW, inStr] at ih ⊢
        omega
theorem split_no (c : Nat) : ∀ l : List Nat, ∀ w ∈ splitC c l, c ∉ w := fun l => by
  induction l with
  | nil => simp [noneW, allD, eqAll, nodAll, depAll, varW, idxW, seqW, FM.atI, cmpW, cmpP, vw, cmpD, eqOk, nod, dep, eqD, truW, truD, b1W, binW, binD, asgT, lenW, srcW, rcv1, tyOf, Fr.pur, ofP, m1W, int?, slW, slD, isiW, isTy, kindOk, isD, isW, inStr, splitC]
  | cons a l ih =>
    simp only [splitC]
    split
    · simpa [noneW, allD, eqAll, nodAll, depAll, varW, idxW, seqW, FM.atI, cmpW, cmpP, vw, cmpD, eqOk, nod, dep, eqD, truW, truD, b1W, binW, binD, asgT, lenW, srcW, rcv1, tyOf, Fr.pur, ofP, m1W, int?, slW, slD, isiW, isTy, kindOk, isD, isW, inStr] using ih
    · rename_i ha
      have := split_ne c l
      split
      · contradiction
      · rename_i y r h
        rw [h] at ih
        simp [noneW, allD, eqAll, nodAll, depAll, varW, idxW, seqW, FM.atI, cmpW, cmpP, vw, cmpD, eqOk, nod, dep, eqD, truW, truD, b1W, binW, binD, asgT, lenW, srcW, rcv1, tyOf, Fr.pur, ofP, m1W, int?, slW, slD, isiW, isTy, kindOk, isD, isW, inStr] at ih ⊢
        exact ⟨⟨fun z => ha z.symm, ih.1⟩, ih.2⟩
theorem filter_sum (p : List Nat → Bool) : ∀ l : List (List Nat), ((l.filter p).map List.length).sum + (l.filter p).length ≤ (l.map List.length).sum + l.length := fun l => by
  induction l with
  | nil => simp [noneW, allD, eqAll, nodAll, depAll, varW, idxW, seqW, FM.atI, cmpW, cmpP, vw, cmpD, eqOk, nod, dep, eqD, truW, truD, b1W, binW, binD, asgT, lenW, srcW, rcv1, tyOf, Fr.pur, ofP, m1W, int?, slW, slD, isiW, isTy, kindOk, isD, isW, inStr]
  | cons a l ih =>
    simp only [List.filter_cons]
    split
    · simp [noneW, allD, eqAll, nodAll, depAll, varW, idxW, seqW, FM.atI, cmpW, cmpP, vw, cmpD, eqOk, nod, dep, eqD, truW, truD, b1W, binW, binD, asgT, lenW, srcW, rcv1, tyOf, Fr.pur, ofP, m1W, int?, slW, slD, isiW, isTy, kindOk, isD, isW, inStr]
      omega
    · simp [noneW, allD, eqAll, nodAll, depAll, varW, idxW, seqW, FM.atI, cmpW, cmpP, vw, cmpD, eqOk, nod, dep, eqD, truW, truD, b1W, binW, binD, asgT, lenW, srcW, rcv1, tyOf, Fr.pur, ofP, m1W, int?, slW, slD, isiW, isTy, kindOk, isD, isW, inStr]
      omega
theorem lc_strs {γ : Type} {step : W → Sto → Res (Option γ)} {st : Sto} (p : List Nat → Bool) (g : List Nat → γ) : ∀ l : List (List Nat), (∀ c ∈ l, step (.d (dStr c)) st = .ok (if p c then some (g c) else none) st) → lcL none step (l.map (W.d ∘ dStr)) st = .ok ((l.filter p).map g) st := fun l h => by
  induction l with
  | nil => rfl
  | cons c l ih =>
    simp only [List.map_cons, lcL, Function.comp, h c List.mem_cons_self, still, if_true, List.filter_cons]
    have := ih fun u hu => h u (List.mem_cons_of_mem _ hu)
    rw [this]
    cases p c <;> rfl
theorem mem_sum {u : List Nat} : ∀ {l : List (List Nat)}, u ∈ l → u.length ≤ (l.map List.length).sum := fun {l} h => by
  induction l with
  | nil => cases h
  | cons a l ih =>
    simp only [List.map_cons, List.sum_cons]
    rcases List.mem_cons.mp h with rfl | h
    · omega
    · have := ih h
      omega
theorem split_word {c : Nat} : ∀ w : List Nat, c ∉ w → splitC c w = [w] := fun w h => by
  induction w with
  | nil => rfl
  | cons a l ih =>
    simp [noneW, allD, eqAll, nodAll, depAll, varW, idxW, seqW, FM.atI, cmpW, cmpP, vw, cmpD, eqOk, nod, dep, eqD, truW, truD, b1W, binW, binD, asgT, lenW, srcW, rcv1, tyOf, Fr.pur, ofP, m1W, int?, slW, slD, isiW, isTy, kindOk, isD, isW, inStr] at h
    simp [noneW, allD, eqAll, nodAll, depAll, varW, idxW, seqW, FM.atI, cmpW, cmpP, vw, cmpD, eqOk, nod, dep, eqD, truW, truD, b1W, binW, binD, asgT, lenW, srcW, rcv1, tyOf, Fr.pur, ofP, m1W, int?, slW, slD, isiW, isTy, kindOk, isD, isW, inStr, splitC, Ne.symm h.1, ih h.2]
theorem split_app {c : Nat} (s : List Nat) : ∀ w : List Nat, c ∉ w → splitC c (w ++ c :: s) = w :: splitC c s := fun w h => by
  induction w with
  | nil => simp [noneW, allD, eqAll, nodAll, depAll, varW, idxW, seqW, FM.atI, cmpW, cmpP, vw, cmpD, eqOk, nod, dep, eqD, truW, truD, b1W, binW, binD, asgT, lenW, srcW, rcv1, tyOf, Fr.pur, ofP, m1W, int?, slW, slD, isiW, isTy, kindOk, isD, isW, inStr, splitC]
  | cons a l ih =>
    simp [noneW, allD, eqAll, nodAll, depAll, varW, idxW, seqW, FM.atI, cmpW, cmpP, vw, cmpD, eqOk, nod, dep, eqD, truW, truD, b1W, binW, binD, asgT, lenW, srcW, rcv1, tyOf, Fr.pur, ofP, m1W, int?, slW, slD, isiW, isTy, kindOk, isD, isW, inStr] at h
    simp [noneW, allD, eqAll, nodAll, depAll, varW, idxW, seqW, FM.atI, cmpW, cmpP, vw, cmpD, eqOk, nod, dep, eqD, truW, truD, b1W, binW, binD, asgT, lenW, srcW, rcv1, tyOf, Fr.pur, ofP, m1W, int?, slW, slD, isiW, isTy, kindOk, isD, isW, inStr, splitC, Ne.symm h.1, ih h.2]
theorem split_join : ∀ xs : List (List Nat), (∀ w ∈ xs, 32 ∉ w) → xs ≠ [] → splitC 32 (joinT [32] xs) = xs
  | [], _, h => (h rfl).elim
  | [x], h, _ => split_word x (h x List.mem_cons_self)
  | x :: y :: r, h, _ => by
    have := split_join (y :: r) (fun w hw => h w (List.mem_cons_of_mem _ hw)) (by simp [noneW, allD, eqAll, nodAll, depAll, varW, idxW, seqW, FM.atI, cmpW, cmpP, vw, cmpD, eqOk, nod, dep, eqD, truW, truD, b1W, binW, binD, asgT, lenW, srcW, rcv1, tyOf, Fr.pur, ofP, m1W, int?, slW, slD, isiW, isTy, kindOk, isD, isW, inStr])
    show splitC 32 (x ++ [32] ++ joinT [32] (y :: r)) = _
    rw [List.append_assoc]
    show splitC 32 (x ++ 32 :: joinT [32] (y :: r)) = _
    rw [split_app _ x (h x List.mem_cons_self), this]
def bad1 (c : String) (x : D) : Exn := ⟨c, [("value", .d x)]⟩
theorem exit_exn {st : Sto} {c : String} {x : D} : exitR .pure st (.exn ⟨c, [("value", .d x)]⟩ st) = .exn (bad1 c x) st := by
  have : okOld st st := fun i hi => .inl rfl
  simp [noneW, allD, eqAll, nodAll, depAll, varW, idxW, seqW, FM.atI, cmpW, cmpP, vw, cmpD, eqOk, nod, dep, eqD, truW, truD, b1W, binW, binD, asgT, lenW, srcW, rcv1, tyOf, Fr.pur, ofP, m1W, int?, slW, slD, isiW, isTy, kindOk, isD, isW, inStr, exitR, exitExn, frzF, this, bad1]
theorem next_exn {x : Exn} {st : Sto} {f : FM.Env → Sto → Out} : (Out.exn x st).next f = .exn x st := rfl
theorem okR_ex {α : Type} {r : Res α} {Q : α → Sto → Prop} (h : okR r Q) : ∃ a st, r = .ok a st ∧ Q a st := by
  cases r with
  | ok a st => exact ⟨a, st, rfl, h⟩
  | exn _ _ => exact h.elim
  | bad => exact h.elim
theorem T_beq (a b : List Nat) : (T a == T b) = decide (a = b) := by
  by_cases h : a = b
  · subst h
    simp [noneW, allD, eqAll, nodAll, depAll, varW, idxW, seqW, FM.atI, cmpW, cmpP, vw, cmpD, eqOk, nod, dep, eqD, truW, truD, b1W, binW, binD, asgT, lenW, srcW, rcv1, tyOf, Fr.pur, ofP, m1W, int?, slW, slD, isiW, isTy, kindOk, isD, isW, inStr]
  · have : T a ≠ T b := fun z => h (by rw [← tl_T a, z, tl_T])
    simp [noneW, allD, eqAll, nodAll, depAll, varW, idxW, seqW, FM.atI, cmpW, cmpP, vw, cmpD, eqOk, nod, dep, eqD, truW, truD, b1W, binW, binD, asgT, lenW, srcW, rcv1, tyOf, Fr.pur, ofP, m1W, int?, slW, slD, isiW, isTy, kindOk, isD, isW, inStr, h, this]
theorem nod_strs (l : List (List Nat)) : nodAll (l.map dStr) = true := by
  induction l with
  | nil => rfl
  | cons c l ih => simp [noneW, allD, eqAll, nodAll, depAll, varW, idxW, seqW, FM.atI, cmpW, cmpP, vw, cmpD, eqOk, nod, dep, eqD, truW, truD, b1W, binW, binD, asgT, lenW, srcW, rcv1, tyOf, Fr.pur, ofP, m1W, int?, slW, slD, isiW, isTy, kindOk, isD, isW, inStr, ih]
theorem eq_strs (l m : List (List Nat)) : eqAll (l.map dStr) (m.map dStr) = decide (l = m) := by
  induction l generalizing m with
  | nil => cases m <;> simp [noneW, allD, eqAll, nodAll, depAll, varW, idxW, seqW, FM.atI, cmpW, cmpP, vw, cmpD, eqOk, nod, dep, eqD, truW, truD, b1W, binW, binD, asgT, lenW, srcW, rcv1, tyOf, Fr.pur, ofP, m1W, int?, slW, slD, isiW, isTy, kindOk, isD, isW, inStr, T_beq]
  | cons c l ih => cases m <;> simp [noneW, allD, eqAll, nodAll, depAll, varW, idxW, seqW, FM.atI, cmpW, cmpP, vw, cmpD, eqOk, nod, dep, eqD, truW, truD, b1W, binW, binD, asgT, lenW, srcW, rcv1, tyOf, Fr.pur, ofP, m1W, int?, slW, slD, isiW, isTy, kindOk, isD, isW, inStr, T_beq, ih]
theorem eq_nil (l : List (List Nat)) : eqAll (l.map dStr) [] = decide (l = []) := by cases l <;> simp [noneW, allD, eqAll, nodAll, depAll, varW, idxW, seqW, FM.atI, cmpW, cmpP, vw, cmpD, eqOk, nod, dep, eqD, truW, truD, b1W, binW, binD, asgT, lenW, srcW, rcv1, tyOf, Fr.pur, ofP, m1W, int?, slW, slD, isiW, isTy, kindOk, isD, isW, inStr, T_beq]
theorem dep_strs (l : List (List Nat)) : depAll (l.map dStr) = 0 := by
  induction l with
  | nil => rfl
  | cons c l ih => simp [noneW, allD, eqAll, nodAll, depAll, varW, idxW, seqW, FM.atI, cmpW, cmpP, vw, cmpD, eqOk, nod, dep, eqD, truW, truD, b1W, binW, binD, asgT, lenW, srcW, rcv1, tyOf, Fr.pur, ofP, m1W, int?, slW, slD, isiW, isTy, kindOk, isD, isW, inStr, T_beq, nod_strs, ih]
theorem join_flat : ∀ gs : List (List Nat), joinT [] gs = gs.flatten
  | [] => rfl
  | [x] => by simp [noneW, allD, eqAll, nodAll, depAll, varW, idxW, seqW, FM.atI, cmpW, cmpP, vw, cmpD, eqOk, nod, dep, eqD, truW, truD, b1W, binW, binD, asgT, lenW, srcW, rcv1, tyOf, Fr.pur, ofP, m1W, int?, slW, slD, isiW, isTy, kindOk, isD, isW, inStr, T_beq, nod_strs, joinT]
  | x :: y :: r => by
    show x ++ [] ++ joinT [] (y :: r) = _
    rw [join_flat (y :: r)]
    simp [noneW, allD, eqAll, nodAll, depAll, varW, idxW, seqW, FM.atI, cmpW, cmpP, vw, cmpD, eqOk, nod, dep, eqD, truW, truD, b1W, binW, binD, asgT, lenW, srcW, rcv1, tyOf, Fr.pur, ofP, m1W, int?, slW, slD, isiW, isTy, kindOk, isD, isW, inStr, T_beq, nod_strs]
theorem flat_ok {gs : List (List Nat)} (h : ∀ g ∈ gs, asc g ∧ g.length ≤ 2) : asc gs.flatten ∧ gs.flatten.length ≤ 2 * gs.length ∧ (gs.map List.length).sum = gs.flatten.length := by
  induction gs with
  | nil => simp [noneW, allD, eqAll, nodAll, depAll, varW, idxW, seqW, FM.atI, cmpW, cmpP, vw, cmpD, eqOk, nod, dep, eqD, truW, truD, b1W, binW, binD, asgT, lenW, srcW, rcv1, tyOf, Fr.pur, ofP, m1W, int?, slW, slD, isiW, isTy, kindOk, isD, isW, inStr, T_beq, nod_strs, asc]
  | cons g gs ih =>
    obtain ⟨h1, h2, h3⟩ := ih fun x hx => h x (List.mem_cons_of_mem _ hx)
    obtain ⟨h4, h5⟩ := h g List.mem_cons_self
    refine ⟨fun c hc => ?_, ?_, ?_⟩
    · rcases List.mem_append.mp (show c ∈ g ++ gs.flatten by simpa [noneW, allD, eqAll, nodAll, depAll, varW, idxW, seqW, FM.atI, cmpW, cmpP, vw, cmpD, eqOk, nod, dep, eqD, truW, truD, b1W, binW, binD, asgT, lenW, srcW, rcv1, tyOf, Fr.pur, ofP, m1W, int?, slW, slD, isiW, isTy, kindOk, isD, isW, inStr, T_beq, nod_strs] using hc) with hc | hc
      · exact h4 c hc
      · exact h1 c hc
    · simp only [List.flatten_cons, List.length_append, List.length_cons]
      omega
    · simp only [List.map_cons, List.sum_cons, List.flatten_cons, List.length_append, h3]
theorem T_len (l : List Nat) : (T l).length = l.length := by simp [noneW, allD, eqAll, nodAll, depAll, varW, idxW, seqW, FM.atI, cmpW, cmpP, vw, cmpD, eqOk, nod, dep, eqD, truW, truD, b1W, binW, binD, asgT, lenW, srcW, rcv1, tyOf, Fr.pur, ofP, m1W, int?, slW, slD, isiW, isTy, kindOk, isD, isW, inStr, T_beq, nod_strs, T, Str.length]
theorem repr_le (l : List Nat) (h : ∀ c ∈ l, c < 1114112) : (reprText (T l)).length ≤ 10 * l.length + 2 := by
  have := StrLaws.reprText_len (T l) (fun c hc => by have := h c (by simpa [noneW, allD, eqAll, nodAll, depAll, varW, idxW, seqW, FM.atI, cmpW, cmpP, vw, cmpD, eqOk, nod, dep, eqD, truW, truD, b1W, binW, binD, asgT, lenW, srcW, rcv1, tyOf, Fr.pur, ofP, m1W, int?, slW, slD, isiW, isTy, kindOk, isD, isW, inStr, T_beq, nod_strs, T] using hc); omega)
  rwa [T_len] at this
theorem app_len (a b : Str) : (a ++ b).length = a.length + b.length := by
  show (a.cps ++ b.cps).size = _
  simp [noneW, allD, eqAll, nodAll, depAll, varW, idxW, seqW, FM.atI, cmpW, cmpP, vw, cmpD, eqOk, nod, dep, eqD, truW, truD, b1W, binW, binD, asgT, lenW, srcW, rcv1, tyOf, Fr.pur, ofP, m1W, int?, slW, slD, isiW, isTy, kindOk, isD, isW, inStr, T_beq, nod_strs, Str.length]
theorem seqS {P : Prog} {Rr : Fun1} {Φ : Call} {s : S} {r : FM.Ss} {ρ : FM.Env} {st : Sto} {N N' : FM.Env → Sto → Prop} {Q : W → Sto → Prop} (h1 : okO (evS P Rr Φ s ρ st) N' Q) (h2 : ∀ ρ st, N' ρ st → okO (evSs P Rr Φ r ρ st) N Q) : okO (evSs P Rr Φ (.cons s r) ρ st) N Q := by
  rw [evSs, okO_next]
  exact okO_imp h1 h2 fun _ _ h => h
theorem rep_ok (w : List Nat) (x : D) (hn : nod x = true) (hd : dep x ≤ 50) (hs : x.showable = true) (hl : x.shown.length ≤ 1000) (hw : ∀ c ∈ w, c < 1114112) (hw2 : w.length ≤ 100) : reprOk R0 (PyData.tuple [dStr w, x]) = true := by
  have h1 := repr_le w hw
  have h2 := StrLaws.join_length_le (Str.ofString ", ") [reprText (T w), x.shown]
  have h3 : (Str.ofString ", ").length = 2 := by decide
  have h4 : (Str.ofString "(").length = 1 := by decide
  have h5 : (Str.ofString ")").length = 1 := by decide
  have hSZ : SZ = 16777216 := rfl
  simp [noneW, allD, eqAll, nodAll, depAll, varW, idxW, seqW, FM.atI, cmpW, cmpP, vw, cmpD, eqOk, nod, dep, eqD, truW, truD, b1W, binW, binD, asgT, lenW, srcW, rcv1, tyOf, Fr.pur, ofP, m1W, int?, slW, slD, isiW, isTy, kindOk, isD, isW, inStr, T_beq, nod_strs, h3] at h2
  simp [noneW, allD, eqAll, nodAll, depAll, varW, idxW, seqW, FM.atI, cmpW, cmpP, vw, cmpD, eqOk, nod, dep, eqD, truW, truD, b1W, binW, binD, asgT, lenW, srcW, rcv1, tyOf, Fr.pur, ofP, m1W, int?, slW, slD, isiW, isTy, kindOk, isD, isW, inStr, T_beq, nod_strs, reprOk, R0, PyData.showable, PyData.shown, nod, nodAll, dep, depAll, dStr, PyData.showableAll, PyData.shownAll, tupleText, hn, hs]
  rw [app_len, app_len]
  omega
theorem rep_str (w l : List Nat) (hw : ∀ c ∈ w, c < 1114112) (hw2 : w.length ≤ 100) (h : ∀ c ∈ l, c < 1114112) (h2 : l.length ≤ 90) : reprOk R0 (PyData.tuple [dStr w, dStr l]) = true := by
  refine rep_ok w (dStr l) (by simp [noneW, allD, eqAll, nodAll, depAll, varW, idxW, seqW, FM.atI, cmpW, cmpP, vw, cmpD, eqOk, nod, dep, eqD, truW, truD, b1W, binW, binD, asgT, lenW, srcW, rcv1, tyOf, Fr.pur, ofP, m1W, int?, slW, slD, isiW, isTy, kindOk, isD, isW, inStr, T_beq, nod_strs, nod]) (by simp [noneW, allD, eqAll, nodAll, depAll, varW, idxW, seqW, FM.atI, cmpW, cmpP, vw, cmpD, eqOk, nod, dep, eqD, truW, truD, b1W, binW, binD, asgT, lenW, srcW, rcv1, tyOf, Fr.pur, ofP, m1W, int?, slW, slD, isiW, isTy, kindOk, isD, isW, inStr, T_beq, nod_strs, dep]) (by simp [noneW, allD, eqAll, nodAll, depAll, varW, idxW, seqW, FM.atI, cmpW, cmpP, vw, cmpD, eqOk, nod, dep, eqD, truW, truD, b1W, binW, binD, asgT, lenW, srcW, rcv1, tyOf, Fr.pur, ofP, m1W, int?, slW, slD, isiW, isTy, kindOk, isD, isW, inStr, T_beq, nod_strs, PyData.showable]) ?_ hw hw2
  have := repr_le l h
  simp only [PyData.shown, dStr]
  omega
theorem rep_none (w : List Nat) (hw : ∀ c ∈ w, c < 1114112) (hw2 : w.length ≤ 100) : reprOk R0 (PyData.tuple [dStr w, .none]) = true :=
  rep_ok w .none (by simp [noneW, allD, eqAll, nodAll, depAll, varW, idxW, seqW, FM.atI, cmpW, cmpP, vw, cmpD, eqOk, nod, dep, eqD, truW, truD, b1W, binW, binD, asgT, lenW, srcW, rcv1, tyOf, Fr.pur, ofP, m1W, int?, slW, slD, isiW, isTy, kindOk, isD, isW, inStr, T_beq, nod_strs, nod]) (by simp [noneW, allD, eqAll, nodAll, depAll, varW, idxW, seqW, FM.atI, cmpW, cmpP, vw, cmpD, eqOk, nod, dep, eqD, truW, truD, b1W, binW, binD, asgT, lenW, srcW, rcv1, tyOf, Fr.pur, ofP, m1W, int?, slW, slD, isiW, isTy, kindOk, isD, isW, inStr, T_beq, nod_strs, dep]) (by simp [noneW, allD, eqAll, nodAll, depAll, varW, idxW, seqW, FM.atI, cmpW, cmpP, vw, cmpD, eqOk, nod, dep, eqD, truW, truD, b1W, binW, binD, asgT, lenW, srcW, rcv1, tyOf, Fr.pur, ofP, m1W, int?, slW, slD, isiW, isTy, kindOk, isD, isW, inStr, T_beq, nod_strs, PyData.showable]) (by simp only [PyData.shown]; decide) hw hw2
theorem rep_int1 (w : List Nat) (hw : ∀ c ∈ w, c < 1114112) (hw2 : w.length ≤ 100) : reprOk R0 (PyData.tuple [dStr w, .int 1]) = true :=
  rep_ok w (.int 1) (by simp [noneW, allD, eqAll, nodAll, depAll, varW, idxW, seqW, FM.atI, cmpW, cmpP, vw, cmpD, eqOk, nod, dep, eqD, truW, truD, b1W, binW, binD, asgT, lenW, srcW, rcv1, tyOf, Fr.pur, ofP, m1W, int?, slW, slD, isiW, isTy, kindOk, isD, isW, inStr, T_beq, nod_strs, nod]) (by simp [noneW, allD, eqAll, nodAll, depAll, varW, idxW, seqW, FM.atI, cmpW, cmpP, vw, cmpD, eqOk, nod, dep, eqD, truW, truD, b1W, binW, binD, asgT, lenW, srcW, rcv1, tyOf, Fr.pur, ofP, m1W, int?, slW, slD, isiW, isTy, kindOk, isD, isW, inStr, T_beq, nod_strs, dep]) (by simp [noneW, allD, eqAll, nodAll, depAll, varW, idxW, seqW, FM.atI, cmpW, cmpP, vw, cmpD, eqOk, nod, dep, eqD, truW, truD, b1W, binW, binD, asgT, lenW, srcW, rcv1, tyOf, Fr.pur, ofP, m1W, int?, slW, slD, isiW, isTy, kindOk, isD, isW, inStr, T_beq, nod_strs, PyData.showable]; decide) (by simp only [PyData.shown]; decide) hw hw2
theorem rep_int5 (w : List Nat) (hw : ∀ c ∈ w, c < 1114112) (hw2 : w.length ≤ 100) : reprOk R0 (PyData.tuple [dStr w, .int 5]) = true :=
  rep_ok w (.int 5) (by simp [noneW, allD, eqAll, nodAll, depAll, varW, idxW, seqW, FM.atI, cmpW, cmpP, vw, cmpD, eqOk, nod, dep, eqD, truW, truD, b1W, binW, binD, asgT, lenW, srcW, rcv1, tyOf, Fr.pur, ofP, m1W, int?, slW, slD, isiW, isTy, kindOk, isD, isW, inStr, T_beq, nod_strs, nod]) (by simp [noneW, allD, eqAll, nodAll, depAll, varW, idxW, seqW, FM.atI, cmpW, cmpP, vw, cmpD, eqOk, nod, dep, eqD, truW, truD, b1W, binW, binD, asgT, lenW, srcW, rcv1, tyOf, Fr.pur, ofP, m1W, int?, slW, slD, isiW, isTy, kindOk, isD, isW, inStr, T_beq, nod_strs, dep]) (by simp [noneW, allD, eqAll, nodAll, depAll, varW, idxW, seqW, FM.atI, cmpW, cmpP, vw, cmpD, eqOk, nod, dep, eqD, truW, truD, b1W, binW, binD, asgT, lenW, srcW, rcv1, tyOf, Fr.pur, ofP, m1W, int?, slW, slD, isiW, isTy, kindOk, isD, isW, inStr, T_beq, nod_strs, PyData.showable]; decide) (by simp only [PyData.shown]; decide) hw hw2
theorem exit_eff_exn {st : Sto} {c : String} {x : D} : exitR .eff st (.exn (bad1 c x) st) = .exn (bad1 c x) st := by
  have : okOld st st := fun i hi => .inl rfl
  simp [noneW, allD, eqAll, nodAll, depAll, varW, idxW, seqW, FM.atI, cmpW, cmpP, vw, cmpD, eqOk, nod, dep, eqD, truW, truD, b1W, binW, binD, asgT, lenW, srcW, rcv1, tyOf, Fr.pur, ofP, m1W, int?, slW, slD, isiW, isTy, kindOk, isD, isW, inStr, T_beq, nod_strs, exitR, exitExn, frzF, this, bad1]
theorem exit_eff_nx {st : Sto} {ρ : FM.Env} : exitR .eff st (.nx ρ st) = .ok (.d .none) st := by
  have : okOld st st := fun i hi => .inl rfl
  simp [noneW, allD, eqAll, nodAll, depAll, varW, idxW, seqW, FM.atI, cmpW, cmpP, vw, cmpD, eqOk, nod, dep, eqD, truW, truD, b1W, binW, binD, asgT, lenW, srcW, rcv1, tyOf, Fr.pur, ofP, m1W, int?, slW, slD, isiW, isTy, kindOk, isD, isW, inStr, T_beq, nod_strs, exitR, exitOk, this]
def dropS : Nat → FM.Ss → FM.Ss
  | 0, s => s
  | n + 1, .cons _ r => dropS n r
  | _, .nil => .nil
end FM
end

section
set_option Elab.async false
set_option linter.all false
set_option maxRecDepth 100000
set_option maxHeartbeats 0
namespace HT
open PySem FM
def tb : List (Str × String × Nat) := [("is_integer", "is_integer", 1), ("is_within", "is_within", 3), ("is_row", "is_row", 1), ("is_record", "is_record", 1), ("told_seal", "told_seal", 2), ("seal", "seal", 2), ("check_texts", "check_texts", 1), ("told_seals", "told_seals", 1), ("seals", "seals", 1), ("first_broken", "first_broken", 2), ("_law_taken", "_law_taken", 2), ("_law_pick", "_law_pick", 2), ("_law_alike", "_law_alike", 2), ("_law_seal", "_law_seal", 2)]
def ci : List (Str × Int) := [("TIMES", 131), ("WHOLE", 1000003), ("MOST_TEXT", 200), ("MOST_TEXTS", 100)]
def cs : List (Str × List Nat) := []
def ex : List (Str × String) := [("BadNumber", "BadNumber"), ("BadTexts", "BadTexts"), ("BadSeals", "BadSeals"), ("BadText", "BadText")]
def hs : List (String × List Nat × List String) := [("BadNumber", [110, 117, 109, 98, 101, 114], ["value"]), ("BadSeals", [115, 101, 97, 108, 115], ["value"]), ("BadText", [116, 101, 120, 116], ["value"]), ("BadTexts", [116, 101, 120, 116, 115], ["value"])]
def bis_integer : FM.Ss := .cons (.ret (.and (.isi (.var 0) [.int]) (.not (.isi (.var 0) [.bool])))) (.nil)
def fis_integer : Fn := ⟨1, 1, .pure, bis_integer⟩
def bis_within : FM.Ss := .cons (.ret (.and (.call "is_integer" (.cons (.var 0) (.nil))) (.chain .le .le (.var 1) (.var 0) (.var 2)))) (.nil)
def fis_within : Fn := ⟨3, 3, .pure, bis_within⟩
def bis_row : FM.Ss := .cons (.ret (.isi (.var 0) [.list, .tuple])) (.nil)
def fis_row : Fn := ⟨1, 1, .pure, bis_row⟩
def bis_record : FM.Ss := .cons (.ife (.or (.not (.e (.isi (.var 0) [.str]))) (.e (.cmp .gt (.b1 .len (.var 0)) (.glob "MOST_TEXT")))) (.cons (.ret (.bl false)) (.nil)) (.nil)) (.cons (.ret (.b1 .all (.pur (.lc [1] (.v 1) (.e (.var 0)) (.no) (.chain .le .le (.str [32]) (.var 1) (.str [126])))))) (.nil))
def fis_record : Fn := ⟨1, 2, .pure, bis_record⟩
def btold_seal : FM.Ss := .cons (.set (.v 2) (.var 0)) (.cons (.for (.v 3) (.e (.pur (.lst (.star (.pur (.lc [4] (.v 4) (.e (.var 1)) (.no) (.b1 .ord (.var 4)))) (.cons (.int 1) (.nil)))))) (.cons (.set (.v 2) (.bin .mod (.bin .add (.bin .mul (.var 2) (.glob "TIMES")) (.var 3)) (.glob "WHOLE"))) (.nil))) (.cons (.ret (.var 2)) (.nil)))
def ftold_seal : Fn := ⟨2, 5, .pure, btold_seal⟩
def bseal : FM.Ss := .cons (.ife (.not (.e (.call "is_within" (.cons (.var 0) (.cons (.int 0) (.cons (.bin .sub (.glob "WHOLE") (.int 1)) (.nil))))))) (.cons (.raise "BadNumber" (.cons (.var 0) .nil)) (.nil)) (.nil)) (.cons (.ife (.not (.e (.call "is_record" (.cons (.var 1) (.nil))))) (.cons (.raise "BadText" (.cons (.var 1) .nil)) (.nil)) (.nil)) (.cons (.ret (.call "told_seal" (.cons (.var 0) (.cons (.var 1) (.nil))))) (.nil)))
def fseal : Fn := ⟨2, 2, .pure, bseal⟩
def bcheck_texts : FM.Ss := .cons (.ife (.or (.not (.e (.call "is_row" (.cons (.var 0) (.nil))))) (.e (.cmp .gt (.b1 .len (.var 0)) (.glob "MOST_TEXTS")))) (.cons (.raise "BadTexts" (.cons (.neg (.int 1)) .nil)) (.nil)) (.nil)) (.cons (.for (.t [.v 1, .v 2]) (.enum (.var 0) 0) (.cons (.ife (.not (.e (.call "is_record" (.cons (.var 2) (.nil))))) (.cons (.raise "BadTexts" (.cons (.var 1) .nil)) (.nil)) (.nil)) (.nil))) (.nil))
def fcheck_texts : Fn := ⟨1, 3, .pure, bcheck_texts⟩
def btold_seals : FM.Ss := .cons (.set (.v 1) (.new (.lst (.nil)))) (.cons (.set (.v 2) (.int 0)) (.cons (.for (.v 3) (.e (.var 0)) (.cons (.set (.v 2) (.call "told_seal" (.cons (.var 2) (.cons (.var 3) (.nil))))) (.cons (.ex (.m1 .append (.var 1) (.var 2))) (.nil)))) (.cons (.ret (.var 1)) (.nil))))
def ftold_seals : Fn := ⟨1, 4, .pure, btold_seals⟩
def bseals : FM.Ss := .cons (.ex (.call "check_texts" (.cons (.var 0) (.nil)))) (.cons (.ret (.call "told_seals" (.cons (.var 0) (.nil)))) (.nil))
def fseals : Fn := ⟨1, 1, .pure, bseals⟩
def bfirst_broken : FM.Ss := .cons (.ex (.call "check_texts" (.cons (.var 0) (.nil)))) (.cons (.ife (.or (.not (.e (.call "is_row" (.cons (.var 1) (.nil))))) (.e (.cmp .ne (.b1 .len (.var 1)) (.b1 .len (.var 0))))) (.cons (.raise "BadSeals" (.cons (.neg (.int 1)) .nil)) (.nil)) (.nil)) (.cons (.for (.t [.v 2, .v 3]) (.enum (.var 1) 0) (.cons (.ife (.not (.e (.call "is_within" (.cons (.var 3) (.cons (.int 0) (.cons (.bin .sub (.glob "WHOLE") (.int 1)) (.nil))))))) (.cons (.raise "BadSeals" (.cons (.var 2) .nil)) (.nil)) (.nil)) (.nil))) (.cons (.for (.t [.v 2, .t [.v 3, .v 4]]) (.enumz (.var 1) (.call "told_seals" (.cons (.var 0) (.nil)))) (.cons (.ife (.e (.cmp .ne (.var 3) (.var 4))) (.cons (.ret (.var 2)) (.nil)) (.nil)) (.nil))) (.cons (.ret (.none)) (.nil)))))
def ffirst_broken : Fn := ⟨2, 5, .pure, bfirst_broken⟩
def b_law_taken : FM.Ss := .cons (.ife (.e (.cmp .gt (.idx (.var 0) (.int 3)) (.int 0))) (.cons (.set (.v 3) (.bin .mod (.b1 .int (.idx (.var 0) (.int 3))) (.var 1))) (.cons (.setIx (.var 0) (.int 3) (.bin .fdiv (.idx (.var 0) (.int 3)) (.var 1))) (.cons (.ret (.var 3)) (.nil)))) (.nil)) (.cons (.setIx (.var 0) (.int 1) (.bin .add (.idx (.var 0) (.int 1)) (.int 1))) (.cons (.ife (.e (.cmp .gt (.idx (.var 0) (.int 1)) (.b1 .len (.idx (.var 0) (.int 0))))) (.cons (.setIx (.var 0) (.int 2) (.bin .mod (.b1 .int (.bin .add (.bin .mul (.idx (.var 0) (.int 2)) (.int 48271)) (.int 11))) (.int 2147483647))) (.cons (.ret (.bin .mod (.b1 .int (.bin .fdiv (.idx (.var 0) (.int 2)) (.int 7))) (.var 1))) (.nil))) (.nil)) (.cons (.set (.v 2) (.idx (.idx (.var 0) (.int 0)) (.bin .sub (.idx (.var 0) (.int 1)) (.int 1)))) (.cons (.setIx (.var 0) (.int 2) (.bin .mod (.b1 .int (.bin .add (.bin .add (.bin .mul (.idx (.var 0) (.int 2)) (.int 48271)) (.var 2)) (.int 11))) (.int 2147483647))) (.cons (.ife (.e (.cmp .ge (.var 2) (.bin .pow (.int 10) (.int 18)))) (.cons (.setIx (.var 0) (.int 3) (.bin .fdiv (.var 2) (.var 1))) (.nil)) (.nil)) (.cons (.ret (.bin .mod (.b1 .int (.var 2)) (.var 1))) (.nil)))))))
def f_law_taken : Fn := ⟨2, 4, .eff, b_law_taken⟩
def b_law_pick : FM.Ss := .cons (.ret (.idx (.var 1) (.call "_law_taken" (.cons (.var 0) (.cons (.b1 .len (.var 1)) (.nil)))))) (.nil)
def f_law_pick : Fn := ⟨2, 2, .eff, b_law_pick⟩
def b_law_alike : FM.Ss := .cons (.ife (.e (.isi (.var 1) [.tuple, .list])) (.cons (.ife (.or (.not (.e (.isi (.var 0) [.tuple, .list]))) (.e (.cmp .ne (.isi (.var 0) [.list]) (.isi (.var 1) [.list])))) (.cons (.ret (.bl false)) (.nil)) (.nil)) (.cons (.ife (.e (.cmp .ne (.b1 .len (.var 0)) (.b1 .len (.var 1)))) (.cons (.ret (.bl false)) (.nil)) (.nil)) (.cons (.ret (.cmp .eq (.pur (.lc [2] (.v 2) (.rng1 (.b1 .len (.var 1))) (.c (.not (.e (.call "_law_alike" (.cons (.idx (.var 0) (.var 2)) (.cons (.idx (.var 1) (.var 2)) (.nil))))))) (.var 2))) (.pur (.lst (.nil))))) (.nil)))) (.nil)) (.cons (.ife (.e (.isi (.var 1) [.dict])) (.cons (.ife (.or (.not (.e (.isi (.var 0) [.dict]))) (.e (.cmp .ne (.pur (.list (.var 0))) (.pur (.list (.var 1)))))) (.cons (.ret (.bl false)) (.nil)) (.nil)) (.cons (.ret (.cmp .eq (.pur (.lc [3] (.v 3) (.e (.var 1)) (.c (.not (.e (.call "_law_alike" (.cons (.idx (.var 0) (.var 3)) (.cons (.idx (.var 1) (.var 3)) (.nil))))))) (.var 3))) (.pur (.lst (.nil))))) (.nil))) (.nil)) (.cons (.ife (.or (.e (.cmp .is (.var 1) (.none))) (.e (.isi (.var 1) [.str]))) (.cons (.ret (.and (.cmp .eq (.var 0) (.var 1)) (.cmp .eq (.isi (.var 0) [.str]) (.isi (.var 1) [.str])))) (.nil)) (.nil)) (.cons (.ret (.and (.isi (.var 0) [.int]) (.and (.cmp .eq (.isi (.var 0) [.bool]) (.isi (.var 1) [.bool])) (.cmp .eq (.var 0) (.var 1))))) (.nil))))
def f_law_alike : Fn := ⟨2, 4, .pure, b_law_alike⟩
def b_law_seal : FM.Ss := .cons (.set (.v 2) (.var 0)) (.cons (.for (.v 3) (.e (.var 1)) (.cons (.set (.v 2) (.bin .mod (.b1 .int (.bin .add (.bin .mul (.var 2) (.int 131)) (.b1 .ord (.var 3)))) (.int 1000003))) (.nil))) (.cons (.ret (.bin .mod (.b1 .int (.bin .add (.bin .mul (.var 2) (.int 131)) (.int 1))) (.int 1000003))) (.nil)))
def f_law_seal : Fn := ⟨2, 4, .pure, b_law_seal⟩
def blaw : FM.Ss := .cons (.set (.v 1) (.new (.lst (.cons (.var 0) (.cons (.int 0) (.cons (.int 137) (.cons (.int 0) (.nil)))))))) (.cons (.par 8 9 (.ife (.e (.cmp .eq (.call "_law_taken" (.cons (.var 1) (.cons (.int 5) (.nil)))) (.int 0))) (.int 200) (.int 30)) (.new (.lst (.nil)))) (.cons (.for (.v 2) (.rng1 (.call "_law_taken" (.cons (.var 1) (.cons (.int 13) (.nil))))) (.cons (.ex (.m1 .append (.var 9) (.m1 .join (.str []) (.pur (.lc [18] (.v 18) (.rng1 (.call "_law_taken" (.cons (.var 1) (.cons (.bin .add (.var 8) (.int 1)) (.nil))))) (.no) (.call "_law_pick" (.cons (.var 1) (.cons (.pur (.lst (.cons (.str [32]) (.cons (.str [97]) (.cons (.str [98]) (.cons (.str [126]) (.cons (.str [90]) (.cons (.str [48]) (.nil))))))))) (.nil))))))))) (.nil))) (.cons (.par 10 11 (.new (.lst (.nil))) (.int 0)) (.cons (.for (.v 3) (.e (.var 9)) (.cons (.ife (.not (.e (.call "_law_alike" (.cons (.call "seal" (.cons (.var 11) (.cons (.var 3) (.nil)))) (.cons (.call "_law_seal" (.cons (.var 11) (.cons (.var 3) (.nil)))) (.nil)))))) (.cons (.ret (.bl false)) (.nil)) (.nil)) (.cons (.set (.v 11) (.call "_law_seal" (.cons (.var 11) (.cons (.var 3) (.nil))))) (.cons (.ex (.m1 .append (.var 10) (.var 11))) (.nil))))) (.cons (.ife (.or (.not (.e (.call "_law_alike" (.cons (.call "seals" (.cons (.b1 .tuple (.var 9)) (.nil))) (.cons (.var 10) (.nil)))))) (.e (.cmp .isnot (.call "first_broken" (.cons (.var 9) (.cons (.b1 .tuple (.var 10)) (.nil)))) (.none)))) (.cons (.ret (.bl false)) (.nil)) (.nil)) (.cons (.for (.v 4) (.rng1 (.ife (.e (.cmp .ne (.var 9) (.pur (.lst (.nil))))) (.int 5) (.int 0))) (.cons (.set (.v 12) (.call "_law_taken" (.cons (.var 1) (.cons (.b1 .len (.var 9)) (.nil))))) (.cons (.set (.v 13) (.bin .add (.bin .add (.sl (.var 10) (.no) (.e (.var 12))) (.pur (.lst (.cons (.bin .mod (.b1 .int (.bin .add (.bin .add (.idx (.var 10) (.var 12)) (.int 1)) (.call "_law_taken" (.cons (.var 1) (.cons (.int 1000) (.nil)))))) (.int 1000003)) (.nil))))) (.sl (.var 10) (.e (.bin .add (.var 12) (.int 1))) (.no)))) (.cons (.ife (.not (.e (.call "_law_alike" (.cons (.call "first_broken" (.cons (.var 9) (.cons (.var 13) (.nil)))) (.cons (.var 12) (.nil)))))) (.cons (.ret (.bl false)) (.nil)) (.nil)) (.cons (.set (.v 3) (.idx (.var 9) (.var 12))) (.cons (.ife (.e (.cmp .ne (.var 3) (.str []))) (.cons (.set (.v 14) (.call "_law_taken" (.cons (.var 1) (.cons (.b1 .len (.var 3)) (.nil))))) (.cons (.set (.v 15) (.call "_law_pick" (.cons (.var 1) (.cons (.pur (.lc [19] (.v 19) (.e (.pur (.lst (.cons (.str [97]) (.cons (.str [98]) (.cons (.str [33]) (.cons (.str [126]) (.cons (.str [32]) (.nil))))))))) (.c (.e (.cmp .ne (.var 19) (.idx (.var 3) (.var 14))))) (.var 19))) (.nil))))) (.cons (.set (.v 16) (.bin .add (.bin .add (.sl (.var 9) (.no) (.e (.var 12))) (.pur (.lst (.cons (.bin .add (.bin .add (.sl (.var 3) (.no) (.e (.var 14))) (.var 15)) (.sl (.var 3) (.e (.bin .add (.var 14) (.int 1))) (.no))) (.nil))))) (.sl (.var 9) (.e (.bin .add (.var 12) (.int 1))) (.no)))) (.cons (.ife (.not (.e (.call "_law_alike" (.cons (.call "first_broken" (.cons (.var 16) (.cons (.var 10) (.nil)))) (.cons (.var 12) (.nil)))))) (.cons (.ret (.bl false)) (.nil)) (.nil)) (.cons (.set (.v 17) (.call "seals" (.cons (.var 16) (.nil)))) (.cons (.ife (.or (.e (.cmp .ne (.pur (.lc [2] (.v 2) (.rng2 (.var 12) (.b1 .len (.var 9))) (.c (.e (.cmp .eq (.idx (.var 17) (.var 2)) (.idx (.var 10) (.var 2))))) (.var 2))) (.pur (.lst (.nil))))) (.e (.cmp .ne (.sl (.var 17) (.no) (.e (.var 12))) (.sl (.var 10) (.no) (.e (.var 12)))))) (.cons (.ret (.bl false)) (.nil)) (.nil)) (.nil))))))) (.nil)) (.nil))))))) (.cons (.set (.v 5) (.call "_law_pick" (.cons (.var 1) (.cons (.pur (.lst (.cons (.neg (.int 1)) (.cons (.int 1000003) (.cons (.none) (.cons (.bl true) (.nil))))))) (.nil))))) (.cons (.ife (.e (.cmp .ne (.b1 .repr (.refused "_law_refused" (.call "seal" (.cons (.var 5) (.cons (.none) (.nil)))))) (.b1 .repr (.tup (.cons (.str [110, 117, 109, 98, 101, 114]) (.cons (.var 5) (.nil))))))) (.cons (.ret (.bl false)) (.nil)) (.nil)) (.cons (.set (.v 6) (.call "_law_pick" (.cons (.var 1) (.cons (.pur (.lst (.cons (.none) (.cons (.int 5) (.cons (.str [9]) (.cons (.bin .mul (.str [120]) (.int 201)) (.cons (.tup (.cons (.str [120]) (.nil))) (.nil)))))))) (.nil))))) (.cons (.ife (.e (.cmp .ne (.b1 .repr (.refused "_law_refused" (.call "seal" (.cons (.int 0) (.cons (.var 6) (.nil)))))) (.b1 .repr (.tup (.cons (.str [116, 101, 120, 116]) (.cons (.var 6) (.nil))))))) (.cons (.ret (.bl false)) (.nil)) (.nil)) (.cons (.for (.v 7) (.e (.new (.lst (.cons (.glob "seals") (.nil))))) (.cons (.ife (.e (.cmp .ne (.refused "_law_refused" (.callv 7 ["seals"] (.cons (.bin .add (.var 9) (.pur (.lst (.cons (.var 6) (.nil))))) (.nil)))) (.tup (.cons (.str [116, 101, 120, 116, 115]) (.cons (.b1 .len (.var 9)) (.nil)))))) (.cons (.ret (.bl false)) (.nil)) (.nil)) (.cons (.ife (.e (.cmp .ne (.refused "_law_refused" (.callv 7 ["seals"] (.cons (.call "_law_pick" (.cons (.var 1) (.cons (.pur (.lst (.cons (.none) (.cons (.int 5) (.cons (.bin .mul (.pur (.lst (.cons (.str []) (.nil)))) (.int 101)) (.nil)))))) (.nil)))) (.nil)))) (.tup (.cons (.str [116, 101, 120, 116, 115]) (.cons (.neg (.int 1)) (.nil)))))) (.cons (.ret (.bl false)) (.nil)) (.nil)) (.nil)))) (.cons (.ife (.e (.cmp .ne (.refused "_law_refused" (.call "first_broken" (.cons (.var 9) (.cons (.bin .add (.var 10) (.pur (.lst (.cons (.int 1) (.nil))))) (.nil))))) (.tup (.cons (.str [115, 101, 97, 108, 115]) (.cons (.neg (.int 1)) (.nil)))))) (.cons (.ret (.bl false)) (.nil)) (.nil)) (.cons (.ife (.e (.cmp .ne (.refused "_law_refused" (.call "first_broken" (.cons (.pur (.lst (.cons (.str [97]) (.nil)))) (.cons (.pur (.lst (.cons (.var 5) (.nil)))) (.nil))))) (.tup (.cons (.str [115, 101, 97, 108, 115]) (.cons (.int 0) (.nil)))))) (.cons (.ret (.bl false)) (.nil)) (.nil)) (.cons (.ret (.and (.cmp .eq (.call "seal" (.cons (.int 0) (.cons (.str []) (.nil)))) (.int 1)) (.cmp .eq (.call "seals" (.cons (.pur (.lst (.nil))) (.nil))) (.pur (.lst (.nil)))))) (.nil)))))))))))))))
def flaw : Fn := ⟨1, 20, .pure, blaw⟩
def EP : Prog where
  fn f := if f = "is_integer" then some fis_integer else if f = "is_within" then some fis_within else if f = "is_row" then some fis_row else if f = "is_record" then some fis_record else if f = "told_seal" then some ftold_seal else if f = "seal" then some fseal else if f = "check_texts" then some fcheck_texts else if f = "told_seals" then some ftold_seals else if f = "seals" then some fseals else if f = "first_broken" then some ffirst_broken else if f = "_law_taken" then some f_law_taken else if f = "_law_pick" then some f_law_pick else if f = "_law_alike" then some f_law_alike else if f = "_law_seal" then some f_law_seal else if f = "law" then some flaw else none
  glob x := if x = "TIMES" then some (.d (.int 131)) else if x = "WHOLE" then some (.d (.int 1000003)) else if x = "MOST_TEXT" then some (.d (.int 200)) else if x = "MOST_TEXTS" then some (.d (.int 100)) else if x = "seals" then some (.fn "seals") else none
  refused f := if f = "_law_refused" then some hs else none
  exc c := if c = "BadNumber" then some 1 else if c = "BadTexts" then some 1 else if c = "BadSeals" then some 1 else if c = "BadText" then some 1 else none
end HT
end

section
set_option Elab.async false
set_option linter.all false
set_option maxRecDepth 100000
set_option autoImplicit false
set_option maxHeartbeats 4000000
namespace HT
open PySem FM
@[local simp] theorem asg_v (i : Nat) (w : W) (ρ : FM.Env) : asgT (.v i) w ρ = some (ρ.set i (some w)) := rfl
theorem gT : EP.glob "TIMES" = some (.d (.int 131)) := by simp [noneW, allD, eqAll, nodAll, depAll, varW, idxW, seqW, cmpW, cmpP, vw, cmpD, eqOk, nod, dep, eqD, truW, truD, b1W, binW, binD, lenW, srcW, rcv1, tyOf, Fr.pur, ofP, m1W, int?, slW, slD, isiW, isTy, kindOk, isD, isW, inStr, nod_ones, T_beq, nod_strs, dep_strs, b2W, eq_nil, EP]
theorem gW : EP.glob "WHOLE" = some (.d (.int 1000003)) := by simp [noneW, allD, eqAll, nodAll, depAll, varW, idxW, seqW, cmpW, cmpP, vw, cmpD, eqOk, nod, dep, eqD, truW, truD, b1W, binW, binD, lenW, srcW, rcv1, tyOf, Fr.pur, ofP, m1W, int?, slW, slD, isiW, isTy, kindOk, isD, isW, inStr, nod_ones, T_beq, nod_strs, dep_strs, b2W, eq_nil, EP]
theorem gX : EP.glob "MOST_TEXT" = some (.d (.int 200)) := by simp [noneW, allD, eqAll, nodAll, depAll, varW, idxW, seqW, cmpW, cmpP, vw, cmpD, eqOk, nod, dep, eqD, truW, truD, b1W, binW, binD, lenW, srcW, rcv1, tyOf, Fr.pur, ofP, m1W, int?, slW, slD, isiW, isTy, kindOk, isD, isW, inStr, nod_ones, T_beq, nod_strs, dep_strs, b2W, eq_nil, EP]
theorem gXs : EP.glob "MOST_TEXTS" = some (.d (.int 100)) := by simp [noneW, allD, eqAll, nodAll, depAll, varW, idxW, seqW, cmpW, cmpP, vw, cmpD, eqOk, nod, dep, eqD, truW, truD, b1W, binW, binD, lenW, srcW, rcv1, tyOf, Fr.pur, ofP, m1W, int?, slW, slD, isiW, isTy, kindOk, isD, isW, inStr, nod_ones, T_beq, nod_strs, dep_strs, b2W, eq_nil, EP]
theorem gS : EP.glob "seals" = some (.fn "seals") := by simp [noneW, allD, eqAll, nodAll, depAll, varW, idxW, seqW, cmpW, cmpP, vw, cmpD, eqOk, nod, dep, eqD, truW, truD, b1W, binW, binD, lenW, srcW, rcv1, tyOf, Fr.pur, ofP, m1W, int?, slW, slD, isiW, isTy, kindOk, isD, isW, inStr, nod_ones, T_beq, nod_strs, dep_strs, b2W, eq_nil, EP]
def stepS (f : Int) (c : Nat) : Int := (f * 131 + c) % 1000003
def sealP (b : Int) (t : List Nat) : Int := stepS (t.foldl stepS b) 1
theorem step_bd (f : Int) (c : Nat) : 0 ≤ stepS f c ∧ stepS f c < 1000003 := ⟨Int.emod_nonneg _ (by decide), Int.emod_lt_of_pos _ (by decide)⟩
theorem seal_bd (b : Int) (t : List Nat) : 0 ≤ sealP b t ∧ sealP b t < 1000003 := step_bd _ _
theorem step_inj {f g : Int} {c : Nat} (hf : 0 ≤ f) (hf2 : f < 1000003) (hg : 0 ≤ g) (hg2 : g < 1000003) (h : stepS f c = stepS g c) : f = g := by
  unfold stepS at h
  omega
theorem step_inj2 {f : Int} {c d : Nat} (hc : c < 1000) (hd : d < 1000) (h : stepS f c = stepS f d) : c = d := by
  unfold stepS at h
  omega
theorem fold_bd (t : List Nat) : ∀ b : Int, 0 ≤ b → b < 1000003 → 0 ≤ t.foldl stepS b ∧ t.foldl stepS b < 1000003 := by
  induction t with
  | nil => intro b h1 h2; exact ⟨h1, h2⟩
  | cons c t ih => intro b _ _; exact ih _ (step_bd b c).1 (step_bd b c).2
theorem fold_inj (t : List Nat) : ∀ {b c : Int}, 0 ≤ b → b < 1000003 → 0 ≤ c → c < 1000003 → t.foldl stepS b = t.foldl stepS c → b = c := by
  induction t with
  | nil => intro b c _ _ _ _ h; exact h
  | cons x t ih =>
    intro b c h1 h2 h3 h4 h
    exact step_inj h1 h2 h3 h4 (ih (step_bd b x).1 (step_bd b x).2 (step_bd c x).1 (step_bd c x).2 h)
theorem seal_inj {b c : Int} {t : List Nat} (h1 : 0 ≤ b) (h2 : b < 1000003) (h3 : 0 ≤ c) (h4 : c < 1000003) (h : sealP b t = sealP c t) : b = c :=
  fold_inj t h1 h2 h3 h4 (step_inj (fold_bd t b h1 h2).1 (fold_bd t b h1 h2).2 (fold_bd t c h3 h4).1 (fold_bd t c h3 h4).2 h)
/-- one sign changed -/
theorem seal_chg {b : Int} {p q : List Nat} {c d : Nat} (h1 : 0 ≤ b) (h2 : b < 1000003) (hc : c < 1000) (hd : d < 1000) (h : sealP b (p ++ c :: q) = sealP b (p ++ d :: q)) : c = d := by
  unfold sealP at h
  simp only [List.foldl_append, List.foldl_cons] at h
  have hp := fold_bd p b h1 h2
  have a1 := step_bd (p.foldl stepS b) c
  have a2 := step_bd (p.foldl stepS b) d
  have b1 := fold_bd q _ a1.1 a1.2
  have b2 := fold_bd q _ a2.1 a2.2
  exact step_inj2 hc hd (fold_inj q a1.1 a1.2 a2.1 a2.2 (step_inj b1.1 b1.2 b2.1 b2.2 h))
/-! ### the def told_seal, and the law's -/
def TI (v0 v1 v4 : Option W) (tot : Int) (st : Sto) (ws : List W) (ρ : FM.Env) (st' : Sto) : Prop := ∃ (l : List Nat) (f : Int) (v3 : Option W), ws = l.map (fun (c : Nat) => .d (.int c)) ∧ ρ = [v0, v1, some (.d (.int f)), v3, v4] ∧ st' = st ∧ l.foldl stepS f = tot
theorem told_seal_ok {b : Int} {t : List Nat} {st : Sto} {j : Nat} (hl : t.length ≤ 1000) : callD EP R0 (j + 1) "told_seal" [.d (.int b), .d (dStr t)] st = .ok (.d (.int (sealP b t))) st := by
  have hSZ : SZ = 16777216 := rfl
  suffices hq : okR (callD EP R0 (j + 1) "told_seal" [.d (.int b), .d (dStr t)] st) fun w st' => st' = st ∧ w = .d (.int (sealP b t)) by
    obtain ⟨w, st', h1, rfl, rfl⟩ := okR_ex hq
    exact h1
  rw [callD_fn (fn := ftold_seal) rfl _ _ rfl]
  apply exit_pure
  show okO (evSs EP R0 (callD EP R0 j) btold_seal [some (.d (.int b)), some (.d (dStr t)), none, none, none] st) _ _
  have hc : CMulB = fun i j => (decide (-(2 ^ 64) < i) && decide (i < 2 ^ 64)) || (decide (-(2 ^ 64) < j) && decide (j < 2 ^ 64)) := rfl
  have hm : ∀ f : Int, CMulB f 131 = true := fun f => by simp [noneW, allD, eqAll, nodAll, depAll, varW, idxW, seqW, cmpW, cmpP, vw, cmpD, eqOk, nod, dep, eqD, truW, truD, b1W, binW, binD, lenW, srcW, rcv1, tyOf, Fr.pur, ofP, m1W, int?, slW, slD, isiW, isTy, kindOk, isD, isW, inStr, nod_ones, T_beq, nod_strs, dep_strs, b2W, eq_nil, CMulB]
  have hsrc : evE EP R0 (callD EP R0 j) (.pur (.lst (.star (.pur (.lc [4] (.v 4) (.e (.var 1)) (.no) (.b1 .ord (.var 4)))) (.cons (.int 1) (.nil))))) [some (.d (.int b)), some (.d (dStr t)), some (.d (.int b)), none, none] st = .ok (.d (.list ((t ++ [1]).map fun (c : Nat) => .int c))) st := by
    have h1 : evE EP R0 (callD EP R0 j) (.pur (.lc [4] (.v 4) (.e (.var 1)) (.no) (.b1 .ord (.var 4)))) [some (.d (.int b)), some (.d (dStr t)), some (.d (.int b)), none, none] st = .ok (.d (.list (t.map fun (c : Nat) => .int c))) st := by
      rw [evE, evF, evI, evE]
      simp [noneW, allD, eqAll, nodAll, depAll, varW, idxW, seqW, cmpW, cmpP, vw, cmpD, eqOk, nod, dep, eqD, truW, truD, b1W, binW, binD, lenW, srcW, rcv1, tyOf, Fr.pur, ofP, m1W, int?, slW, slD, isiW, isTy, kindOk, isD, isW, inStr, nod_ones, T_beq, nod_strs, dep_strs, b2W, eq_nil, hSZ, show t.length ≤ 16777216 by omega]
      rw [if_neg (by omega), lc_chars (fun _ => true) (fun c => .d (.int c))]
      · have a1 : allD (t.map fun (c : Nat) => W.d (.int c)) = some (t.map fun (c : Nat) => .int c) := allD_mapd (fun (c : Nat) => .int c) _
        rw [flt_true]
        simp [noneW, allD, eqAll, nodAll, depAll, varW, idxW, seqW, cmpW, cmpP, vw, cmpD, eqOk, nod, dep, eqD, truW, truD, b1W, binW, binD, lenW, srcW, rcv1, tyOf, Fr.pur, ofP, m1W, int?, slW, slD, isiW, isTy, kindOk, isD, isW, inStr, nod_ones, T_beq, nod_strs, dep_strs, b2W, eq_nil, a1]
      · intro u hu
        simp [noneW, allD, eqAll, nodAll, depAll, varW, idxW, seqW, cmpW, cmpP, vw, cmpD, eqOk, nod, dep, eqD, truW, truD, b1W, binW, binD, lenW, srcW, rcv1, tyOf, Fr.pur, ofP, m1W, int?, slW, slD, isiW, isTy, kindOk, isD, isW, inStr, nod_ones, T_beq, nod_strs, dep_strs, b2W, eq_nil, evCs, evE, wip]
    rw [evE, evF, evEs, h1]
    have a2 : allD (List.map (W.d ∘ fun (c : Nat) => PyData.int c) t ++ [W.d (.int 1)]) = some ((t ++ [1]).map fun (c : Nat) => .int c) := by
      have := allD_mapd (fun (c : Nat) => PyData.int c) (t ++ [1])
      simpa [noneW, allD, eqAll, nodAll, depAll, varW, idxW, seqW, cmpW, cmpP, vw, cmpD, eqOk, nod, dep, eqD, truW, truD, b1W, binW, binD, lenW, srcW, rcv1, tyOf, Fr.pur, ofP, m1W, int?, slW, slD, isiW, isTy, kindOk, isD, isW, inStr, nod_ones, T_beq, nod_strs, dep_strs, b2W, eq_nil, Function.comp_def] using this
    simp [noneW, allD, eqAll, nodAll, depAll, varW, idxW, seqW, cmpW, cmpP, vw, cmpD, eqOk, nod, dep, eqD, truW, truD, b1W, binW, binD, lenW, srcW, rcv1, tyOf, Fr.pur, ofP, m1W, int?, slW, slD, isiW, isTy, kindOk, isD, isW, inStr, nod_ones, T_beq, nod_strs, dep_strs, b2W, eq_nil, evEs, evE, hSZ, show t.length + 1 ≤ 16777216 by omega]
    have a3 : List.map (W.d ∘ fun (c : Nat) => PyData.int c) t = t.map fun (c : Nat) => W.d (.int c) := rfl
    first
      | rw [a2]
      | (rw [a3] at a2; rw [a2])
    simp [noneW, allD, eqAll, nodAll, depAll, varW, idxW, seqW, cmpW, cmpP, vw, cmpD, eqOk, nod, dep, eqD, truW, truD, b1W, binW, binD, lenW, srcW, rcv1, tyOf, Fr.pur, ofP, m1W, int?, slW, slD, isiW, isTy, kindOk, isD, isW, inStr, nod_ones, T_beq, nod_strs, dep_strs, b2W, eq_nil]
  unfold btold_seal
  apply seqS (N' := fun ρ st' => ρ = [some (.d (.int b)), some (.d (dStr t)), some (.d (.int b)), none, none] ∧ st' = st)
  · simp [noneW, allD, eqAll, nodAll, depAll, varW, idxW, seqW, cmpW, cmpP, vw, cmpD, eqOk, nod, dep, eqD, truW, truD, b1W, binW, binD, lenW, srcW, rcv1, tyOf, Fr.pur, ofP, m1W, int?, slW, slD, isiW, isTy, kindOk, isD, isW, inStr, nod_ones, T_beq, nod_strs, dep_strs, b2W, eq_nil, evS, evE]
  rintro ρ st1 ⟨rfl, e⟩
  rw [e]
  clear e st1
  apply seqS (N' := TI (some (.d (.int b))) (some (.d (dStr t))) none (sealP b t) st [])
  · rw [evS, evI, hsrc]
    have hx : srcW st (.d (.list ((t ++ [1]).map fun (c : Nat) => .int c))) = some ((t ++ [1]).map fun (c : Nat) => W.d (.int c), none) := by simp [noneW, allD, eqAll, nodAll, depAll, varW, idxW, seqW, cmpW, cmpP, vw, cmpD, eqOk, nod, dep, eqD, truW, truD, b1W, binW, binD, lenW, srcW, rcv1, tyOf, Fr.pur, ofP, m1W, int?, slW, slD, isiW, isTy, kindOk, isD, isW, inStr, nod_ones, T_beq, nod_strs, dep_strs, b2W, eq_nil, Function.comp_def]
    simp only [Res.bind_ok, hx, Res.of_some, okO_out, okR_ok]
    refine okO_imp (for_inv (Rt := fun _ _ => False) (TI (some (.d (.int b))) (some (.d (dStr t))) none (sealP b t) st) _ _ _ ?_ ?_) (fun _ _ h => h) (fun _ _ h => h.elim)
    · exact ⟨t ++ [1], b, none, rfl, rfl, rfl, by simp [noneW, allD, eqAll, nodAll, depAll, varW, idxW, seqW, cmpW, cmpP, vw, cmpD, eqOk, nod, dep, eqD, truW, truD, b1W, binW, binD, lenW, srcW, rcv1, tyOf, Fr.pur, ofP, m1W, int?, slW, slD, isiW, isTy, kindOk, isD, isW, inStr, nod_ones, T_beq, nod_strs, dep_strs, b2W, eq_nil, sealP]⟩
    · rintro w r ρ st' ⟨l, f, v3, e1, rfl, rfl, e4⟩
      cases l with
      | nil => simp [noneW, allD, eqAll, nodAll, depAll, varW, idxW, seqW, cmpW, cmpP, vw, cmpD, eqOk, nod, dep, eqD, truW, truD, b1W, binW, binD, lenW, srcW, rcv1, tyOf, Fr.pur, ofP, m1W, int?, slW, slD, isiW, isTy, kindOk, isD, isW, inStr, nod_ones, T_beq, nod_strs, dep_strs, b2W, eq_nil] at e1
      | cons c l =>
        simp [noneW, allD, eqAll, nodAll, depAll, varW, idxW, seqW, cmpW, cmpP, vw, cmpD, eqOk, nod, dep, eqD, truW, truD, b1W, binW, binD, lenW, srcW, rcv1, tyOf, Fr.pur, ofP, m1W, int?, slW, slD, isiW, isTy, kindOk, isD, isW, inStr, nod_ones, T_beq, nod_strs, dep_strs, b2W, eq_nil] at e1
        obtain ⟨rfl, rfl⟩ := e1
        simp [noneW, allD, eqAll, nodAll, depAll, varW, idxW, seqW, cmpW, cmpP, vw, cmpD, eqOk, nod, dep, eqD, truW, truD, b1W, binW, binD, lenW, srcW, rcv1, tyOf, Fr.pur, ofP, m1W, int?, slW, slD, isiW, isTy, kindOk, isD, isW, inStr, nod_ones, T_beq, nod_strs, dep_strs, b2W, eq_nil, evSs, evS, evE, gT, gW, hm, still]
        exact ⟨l, stepS f c, _, rfl, rfl, rfl, e4⟩
  rintro ρ st1 ⟨l, f, v3, e1, rfl, rfl, e4⟩
  simp [noneW, allD, eqAll, nodAll, depAll, varW, idxW, seqW, cmpW, cmpP, vw, cmpD, eqOk, nod, dep, eqD, truW, truD, b1W, binW, binD, lenW, srcW, rcv1, tyOf, Fr.pur, ofP, m1W, int?, slW, slD, isiW, isTy, kindOk, isD, isW, inStr, nod_ones, T_beq, nod_strs, dep_strs, b2W, eq_nil] at e1
  subst e1
  simp [noneW, allD, eqAll, nodAll, depAll, varW, idxW, seqW, cmpW, cmpP, vw, cmpD, eqOk, nod, dep, eqD, truW, truD, b1W, binW, binD, lenW, srcW, rcv1, tyOf, Fr.pur, ofP, m1W, int?, slW, slD, isiW, isTy, kindOk, isD, isW, inStr, nod_ones, T_beq, nod_strs, dep_strs, b2W, eq_nil] at e4
  subst e4
  simp [noneW, allD, eqAll, nodAll, depAll, varW, idxW, seqW, cmpW, cmpP, vw, cmpD, eqOk, nod, dep, eqD, truW, truD, b1W, binW, binD, lenW, srcW, rcv1, tyOf, Fr.pur, ofP, m1W, int?, slW, slD, isiW, isTy, kindOk, isD, isW, inStr, nod_ones, T_beq, nod_strs, dep_strs, b2W, eq_nil, evSs, evS, evE]
end HT
end

section
set_option Elab.async false
set_option linter.all false
set_option maxRecDepth 100000
set_option autoImplicit false
set_option maxHeartbeats 4000000
namespace HT
open PySem FM
/-- a row: data, or a list's cell -/
structure RowW (st : Sto) (w : W) (xs : List D) : Prop where
  seq : seqW st w = some (xs.map .d)
  src : srcW st w = some (xs.map .d, guardOf w)
  len : lenW st w = some (xs.length : Int)
  isi : isiW st w [.list, .tuple] = some true
theorem RowW.lst {st : Sto} {xs : List D} : RowW st (.d (.list xs)) xs := ⟨rfl, rfl, by simp [asg_v, noneW, allD, eqAll, nodAll, depAll, varW, idxW, seqW, cmpW, cmpP, vw, cmpD, eqOk, nod, dep, eqD, truW, truD, b1W, binW, binD, lenW, srcW, rcv1, tyOf, Fr.pur, ofP, m1W, int?, slW, slD, isiW, isTy, kindOk, isD, isW, inStr, nod_ones, T_beq, nod_strs, dep_strs, b2W, eq_nil], by simp [asg_v, noneW, allD, eqAll, nodAll, depAll, varW, idxW, seqW, cmpW, cmpP, vw, cmpD, eqOk, nod, dep, eqD, truW, truD, b1W, binW, binD, lenW, srcW, rcv1, tyOf, Fr.pur, ofP, m1W, int?, slW, slD, isiW, isTy, kindOk, isD, isW, inStr, nod_ones, T_beq, nod_strs, dep_strs, b2W, eq_nil]⟩
theorem RowW.tup {st : Sto} {xs : List D} : RowW st (.d (.tuple xs)) xs := ⟨rfl, rfl, by simp [asg_v, noneW, allD, eqAll, nodAll, depAll, varW, idxW, seqW, cmpW, cmpP, vw, cmpD, eqOk, nod, dep, eqD, truW, truD, b1W, binW, binD, lenW, srcW, rcv1, tyOf, Fr.pur, ofP, m1W, int?, slW, slD, isiW, isTy, kindOk, isD, isW, inStr, nod_ones, T_beq, nod_strs, dep_strs, b2W, eq_nil], by simp [asg_v, noneW, allD, eqAll, nodAll, depAll, varW, idxW, seqW, cmpW, cmpP, vw, cmpD, eqOk, nod, dep, eqD, truW, truD, b1W, binW, binD, lenW, srcW, rcv1, tyOf, Fr.pur, ofP, m1W, int?, slW, slD, isiW, isTy, kindOk, isD, isW, inStr, nod_ones, T_beq, nod_strs, dep_strs, b2W, eq_nil]⟩
theorem RowW.cell {st : Sto} {xs : List D} {n : Nat} (h : st[n]? = some (.lst (xs.map .d))) : RowW st (.ref n) xs := ⟨by simp [asg_v, noneW, allD, eqAll, nodAll, depAll, varW, idxW, seqW, cmpW, cmpP, vw, cmpD, eqOk, nod, dep, eqD, truW, truD, b1W, binW, binD, lenW, srcW, rcv1, tyOf, Fr.pur, ofP, m1W, int?, slW, slD, isiW, isTy, kindOk, isD, isW, inStr, nod_ones, T_beq, nod_strs, dep_strs, b2W, eq_nil, h], by simp [asg_v, noneW, allD, eqAll, nodAll, depAll, varW, idxW, seqW, cmpW, cmpP, vw, cmpD, eqOk, nod, dep, eqD, truW, truD, b1W, binW, binD, lenW, srcW, rcv1, tyOf, Fr.pur, ofP, m1W, int?, slW, slD, isiW, isTy, kindOk, isD, isW, inStr, nod_ones, T_beq, nod_strs, dep_strs, b2W, eq_nil, h, guardOf], by simp [asg_v, noneW, allD, eqAll, nodAll, depAll, varW, idxW, seqW, cmpW, cmpP, vw, cmpD, eqOk, nod, dep, eqD, truW, truD, b1W, binW, binD, lenW, srcW, rcv1, tyOf, Fr.pur, ofP, m1W, int?, slW, slD, isiW, isTy, kindOk, isD, isW, inStr, nod_ones, T_beq, nod_strs, dep_strs, b2W, eq_nil, h], by simp [asg_v, noneW, allD, eqAll, nodAll, depAll, varW, idxW, seqW, cmpW, cmpP, vw, cmpD, eqOk, nod, dep, eqD, truW, truD, b1W, binW, binD, lenW, srcW, rcv1, tyOf, Fr.pur, ofP, m1W, int?, slW, slD, isiW, isTy, kindOk, isD, isW, inStr, nod_ones, T_beq, nod_strs, dep_strs, b2W, eq_nil, h]⟩
theorem RowW.seqD {st : Sto} {w : W} {xs : List D} (h : RowW st w xs) : FM.seqD st w = some xs := by simp [asg_v, noneW, allD, eqAll, nodAll, depAll, varW, idxW, seqW, cmpW, cmpP, vw, cmpD, eqOk, nod, dep, eqD, truW, truD, b1W, binW, binD, lenW, srcW, rcv1, tyOf, Fr.pur, ofP, m1W, int?, slW, slD, isiW, isTy, kindOk, isD, isW, inStr, nod_ones, T_beq, nod_strs, dep_strs, b2W, eq_nil, FM.seqD, h.seq, -seqW]
theorem still_refl (g : Option Nat) (st : Sto) : still g st st = true := by cases g <;> simp [asg_v, noneW, allD, eqAll, nodAll, depAll, varW, idxW, seqW, cmpW, cmpP, vw, cmpD, eqOk, nod, dep, eqD, truW, truD, b1W, binW, binD, lenW, srcW, rcv1, tyOf, Fr.pur, ofP, m1W, int?, slW, slD, isiW, isTy, kindOk, isD, isW, inStr, nod_ones, T_beq, nod_strs, dep_strs, b2W, eq_nil, still]
/-! ### loops over enumerate -/
theorem enum_loop {g : Option Nat} {step : W → FM.Env → Sto → Out} {st : Sto} (G : FM.Env → Prop) : ∀ (xs : List D) (k : Int) (ρ : FM.Env), G ρ → (∀ x ∈ xs, ∀ (k : Int) (ρ : FM.Env), G ρ → ∃ ρ', step (.d (.tuple [.int k, x])) ρ st = .nx ρ' st ∧ G ρ') → ∃ ρ', forL g step ((enumL k xs).map .d) ρ st = .nx ρ' st ∧ G ρ'
  | [], k, ρ, h, _ => ⟨ρ, rfl, h⟩
  | x :: xs, k, ρ, h, hs => by
    obtain ⟨ρ1, h1, h2⟩ := hs x List.mem_cons_self k ρ h
    obtain ⟨ρ2, h3, h4⟩ := enum_loop G xs (k + 1) ρ1 h2 fun y hy => hs y (List.mem_cons_of_mem _ hy)
    refine ⟨ρ2, ?_, h4⟩
    simp only [enumL, List.map_cons, forL, h1, still_refl, if_true]
    exact h3
theorem enum_stop {g : Option Nat} {step : W → FM.Env → Sto → Out} {st : Sto} (G : FM.Env → Prop) {y : D} {ys : List D} {o : Int → Out} (ho : ∀ k, (∀ σ s, o k ≠ .nx σ s) ∧ (∀ σ s, o k ≠ .ct σ s) ∧ ∀ σ s, o k ≠ .bk σ s) (hy : ∀ (k : Int) (ρ : FM.Env), G ρ → step (.d (.tuple [.int k, y])) ρ st = o k) :
    ∀ (xs : List D) (k : Int) (ρ : FM.Env), G ρ → (∀ x ∈ xs, ∀ (k : Int) (ρ : FM.Env), G ρ → ∃ ρ', step (.d (.tuple [.int k, x])) ρ st = .nx ρ' st ∧ G ρ') → forL g step ((enumL k (xs ++ y :: ys)).map .d) ρ st = o (k + xs.length) := by
  intro xs
  induction xs with
  | nil =>
    intro k ρ h _
    have e := hy k ρ h
    obtain ⟨a, b, c⟩ := ho k
    have z : k + (([] : List D).length : Int) = k := by simp [asg_v, noneW, allD, eqAll, nodAll, depAll, varW, idxW, seqW, cmpW, cmpP, vw, cmpD, eqOk, nod, dep, eqD, truW, truD, b1W, binW, binD, lenW, srcW, rcv1, tyOf, Fr.pur, ofP, m1W, int?, slW, slD, isiW, isTy, kindOk, isD, isW, inStr, nod_ones, T_beq, nod_strs, dep_strs, b2W, eq_nil]
    rw [z]
    simp only [List.nil_append, enumL, List.map_cons, forL, e]
  | cons x xs ih =>
    intro k ρ h hs
    obtain ⟨ρ1, h1, h2⟩ := hs x List.mem_cons_self k ρ h
    have h3 := ih (k + 1) ρ1 h2 fun y hy => hs y (List.mem_cons_of_mem _ hy)
    simp only [List.cons_append, enumL, List.map_cons, forL, h1, still_refl, if_true]
    rw [h3]
    have z : k + 1 + (xs.length : Int) = k + ((x :: xs).length : Int) := by
      simp [asg_v, noneW, allD, eqAll, nodAll, depAll, varW, idxW, seqW, cmpW, cmpP, vw, cmpD, eqOk, nod, dep, eqD, truW, truD, b1W, binW, binD, lenW, srcW, rcv1, tyOf, Fr.pur, ofP, m1W, int?, slW, slD, isiW, isTy, kindOk, isD, isW, inStr, nod_ones, T_beq, nod_strs, dep_strs, b2W, eq_nil]
      omega
    rw [z]
/-! ### records -/
def pr (c : Nat) : Bool := decide (32 ≤ c ∧ c ≤ 126)
def recP (t : List Nat) : Bool := decide (t.length ≤ 200) && t.all pr
theorem chain_pr {c : Nat} {st : Sto} {Φ : FM.Call} {ρ : FM.Env} (hv : varW ρ 1 = some (.d (dStr [c]))) : evE EP R0 Φ (.chain .le .le (.str [32]) (.var 1) (.str [126])) ρ st = .ok (.d (.bool (pr c))) st := by
  have h1 : ltL [c] [32] = decide (c < 32) := by
    by_cases h : c = 32
    · subst h; rfl
    · simp [asg_v, noneW, allD, eqAll, nodAll, depAll, varW, idxW, seqW, cmpW, cmpP, vw, cmpD, eqOk, nod, dep, eqD, truW, truD, b1W, binW, binD, lenW, srcW, rcv1, tyOf, Fr.pur, ofP, m1W, int?, slW, slD, isiW, isTy, kindOk, isD, isW, inStr, nod_ones, T_beq, nod_strs, dep_strs, b2W, eq_nil, ltL, h]
  have h2 : ltL [126] [c] = decide (126 < c) := by
    by_cases h : 126 = c
    · subst h; rfl
    · simp [asg_v, noneW, allD, eqAll, nodAll, depAll, varW, idxW, seqW, cmpW, cmpP, vw, cmpD, eqOk, nod, dep, eqD, truW, truD, b1W, binW, binD, lenW, srcW, rcv1, tyOf, Fr.pur, ofP, m1W, int?, slW, slD, isiW, isTy, kindOk, isD, isW, inStr, nod_ones, T_beq, nod_strs, dep_strs, b2W, eq_nil, ltL, h]
  simp only [evE, hv, Res.of_some, Res.bind_ok]
  simp [asg_v, noneW, allD, eqAll, nodAll, depAll, varW, idxW, seqW, cmpW, cmpP, vw, cmpD, eqOk, nod, dep, eqD, truW, truD, b1W, binW, binD, lenW, srcW, rcv1, tyOf, Fr.pur, ofP, m1W, int?, slW, slD, isiW, isTy, kindOk, isD, isW, inStr, nod_ones, T_beq, nod_strs, dep_strs, b2W, eq_nil, cmpOk, alk, ordOk, isNo, ltD, h1, h2]
  by_cases h3 : c < 32
  · have : pr c = false := by simp [asg_v, noneW, allD, eqAll, nodAll, depAll, varW, idxW, seqW, cmpW, cmpP, vw, cmpD, eqOk, nod, dep, eqD, truW, truD, b1W, binW, binD, lenW, srcW, rcv1, tyOf, Fr.pur, ofP, m1W, int?, slW, slD, isiW, isTy, kindOk, isD, isW, inStr, nod_ones, T_beq, nod_strs, dep_strs, b2W, eq_nil, pr]; omega
    simp [asg_v, noneW, allD, eqAll, nodAll, depAll, varW, idxW, seqW, cmpW, cmpP, vw, cmpD, eqOk, nod, dep, eqD, truW, truD, b1W, binW, binD, lenW, srcW, rcv1, tyOf, Fr.pur, ofP, m1W, int?, slW, slD, isiW, isTy, kindOk, isD, isW, inStr, nod_ones, T_beq, nod_strs, dep_strs, b2W, eq_nil, h3, this]
    omega
  · have h4 : 32 ≤ c := by omega
    simp [asg_v, noneW, allD, eqAll, nodAll, depAll, varW, idxW, seqW, cmpW, cmpP, vw, cmpD, eqOk, nod, dep, eqD, truW, truD, b1W, binW, binD, lenW, srcW, rcv1, tyOf, Fr.pur, ofP, m1W, int?, slW, slD, isiW, isTy, kindOk, isD, isW, inStr, nod_ones, T_beq, nod_strs, dep_strs, b2W, eq_nil, h3, pr, h4]
    by_cases h5 : 126 < c
    · simp [asg_v, noneW, allD, eqAll, nodAll, depAll, varW, idxW, seqW, cmpW, cmpP, vw, cmpD, eqOk, nod, dep, eqD, truW, truD, b1W, binW, binD, lenW, srcW, rcv1, tyOf, Fr.pur, ofP, m1W, int?, slW, slD, isiW, isTy, kindOk, isD, isW, inStr, nod_ones, T_beq, nod_strs, dep_strs, b2W, eq_nil, h5]
    · simp [asg_v, noneW, allD, eqAll, nodAll, depAll, varW, idxW, seqW, cmpW, cmpP, vw, cmpD, eqOk, nod, dep, eqD, truW, truD, b1W, binW, binD, lenW, srcW, rcv1, tyOf, Fr.pur, ofP, m1W, int?, slW, slD, isiW, isTy, kindOk, isD, isW, inStr, nod_ones, T_beq, nod_strs, dep_strs, b2W, eq_nil, h5]
      omega
theorem rec_ok {t : List Nat} {st : Sto} {j : Nat} (hl : t.length ≤ 1000) : callD EP R0 (j + 1) "is_record" [.d (dStr t)] st = .ok (.d (.bool (recP t))) st := by
  have hSZ : SZ = 16777216 := rfl
  rw [callD_fn (fn := fis_record) rfl _ _ rfl]
  show exitR .pure st (evSs EP R0 (callD EP R0 j) bis_record [some (.d (dStr t)), none] st) = _
  have hC : evC EP R0 (callD EP R0 j) (.or (.not (.e (.isi (.var 0) [.str]))) (.e (.cmp .gt (.b1 .len (.var 0)) (.glob "MOST_TEXT")))) [some (.d (dStr t)), none] st = .ok (decide (200 < t.length)) st := by
    simp [asg_v, noneW, allD, eqAll, nodAll, depAll, varW, idxW, seqW, cmpW, cmpP, vw, cmpD, eqOk, nod, dep, eqD, truW, truD, b1W, binW, binD, lenW, srcW, rcv1, tyOf, Fr.pur, ofP, m1W, int?, slW, slD, isiW, isTy, kindOk, isD, isW, inStr, nod_ones, T_beq, nod_strs, dep_strs, b2W, eq_nil, evC, evE, gX, hSZ, cmpOk, alk, ordOk, isNo, ltD, show t.length ≤ 16777216 by omega]
    omega
  have key : evE EP R0 (callD EP R0 j) (.b1 .all (.pur (.lc [1] (.v 1) (.e (.var 0)) (.no) (.chain .le .le (.str [32]) (.var 1) (.str [126]))))) [some (.d (dStr t)), none] st = .ok (.d (.bool (t.all pr))) st := by
    rw [evE, evE, evF, evI, evE]
    simp [asg_v, noneW, allD, eqAll, nodAll, depAll, varW, idxW, seqW, cmpW, cmpP, vw, cmpD, eqOk, nod, dep, eqD, truW, truD, b1W, binW, binD, lenW, srcW, rcv1, tyOf, Fr.pur, ofP, m1W, int?, slW, slD, isiW, isTy, kindOk, isD, isW, inStr, nod_ones, T_beq, nod_strs, dep_strs, b2W, eq_nil, hSZ, show t.length ≤ 16777216 by omega, show ¬ 16777216 < t.length by omega]
    rw [lc_chars (fun c => true) (fun c => .d (.bool (pr c)))]
    · rw [flt_true]
      simp [asg_v, noneW, allD, eqAll, nodAll, depAll, varW, idxW, seqW, cmpW, cmpP, vw, cmpD, eqOk, nod, dep, eqD, truW, truD, b1W, binW, binD, lenW, srcW, rcv1, tyOf, Fr.pur, ofP, m1W, int?, slW, slD, isiW, isTy, kindOk, isD, isW, inStr, nod_ones, T_beq, nod_strs, dep_strs, b2W, eq_nil]
    · intro u hu
      rw [evCs]
      simp only [Res.bind_ok, if_true]
      rw [chain_pr (c := u) (by simp [asg_v, noneW, allD, eqAll, nodAll, depAll, varW, idxW, seqW, cmpW, cmpP, vw, cmpD, eqOk, nod, dep, eqD, truW, truD, b1W, binW, binD, lenW, srcW, rcv1, tyOf, Fr.pur, ofP, m1W, int?, slW, slD, isiW, isTy, kindOk, isD, isW, inStr, nod_ones, T_beq, nod_strs, dep_strs, b2W, eq_nil, wip])]
      rfl
  simp only [bis_record, evSs, evS, hC, Res.out_ok, key]
  by_cases h : 200 < t.length
  · have : recP t = false := by simp [asg_v, noneW, allD, eqAll, nodAll, depAll, varW, idxW, seqW, cmpW, cmpP, vw, cmpD, eqOk, nod, dep, eqD, truW, truD, b1W, binW, binD, lenW, srcW, rcv1, tyOf, Fr.pur, ofP, m1W, int?, slW, slD, isiW, isTy, kindOk, isD, isW, inStr, nod_ones, T_beq, nod_strs, dep_strs, b2W, eq_nil, recP]; omega
    simp [asg_v, noneW, allD, eqAll, nodAll, depAll, varW, idxW, seqW, cmpW, cmpP, vw, cmpD, eqOk, nod, dep, eqD, truW, truD, b1W, binW, binD, lenW, srcW, rcv1, tyOf, Fr.pur, ofP, m1W, int?, slW, slD, isiW, isTy, kindOk, isD, isW, inStr, nod_ones, T_beq, nod_strs, dep_strs, b2W, eq_nil, h, this, evE]
  · have : recP t = t.all pr := by simp [asg_v, noneW, allD, eqAll, nodAll, depAll, varW, idxW, seqW, cmpW, cmpP, vw, cmpD, eqOk, nod, dep, eqD, truW, truD, b1W, binW, binD, lenW, srcW, rcv1, tyOf, Fr.pur, ofP, m1W, int?, slW, slD, isiW, isTy, kindOk, isD, isW, inStr, nod_ones, T_beq, nod_strs, dep_strs, b2W, eq_nil, recP]; omega
    simp [asg_v, noneW, allD, eqAll, nodAll, depAll, varW, idxW, seqW, cmpW, cmpP, vw, cmpD, eqOk, nod, dep, eqD, truW, truD, b1W, binW, binD, lenW, srcW, rcv1, tyOf, Fr.pur, ofP, m1W, int?, slW, slD, isiW, isTy, kindOk, isD, isW, inStr, nod_ones, T_beq, nod_strs, dep_strs, b2W, eq_nil, h, this, key]
def noRec : List D := [.none, .int 5, dStr [9], dStr (List.replicate 201 120), .tuple [dStr [120]]]
theorem rec_no {x : D} {st : Sto} {j : Nat} (hx : x ∈ noRec) : callD EP R0 (j + 1) "is_record" [.d x] st = .ok (.d (.bool false)) st := by
  have other : (x = .none ∨ x = .int 5 ∨ x = .tuple [dStr [120]]) → callD EP R0 (j + 1) "is_record" [.d x] st = .ok (.d (.bool false)) st := fun h => by
    rw [callD_fn (fn := fis_record) rfl _ _ rfl]
    simp only [fis_record, bis_record, entry, evSs, evS, evC, evE]
    rcases h with h | h | h <;> subst h <;> simp [asg_v, noneW, allD, eqAll, nodAll, depAll, varW, idxW, seqW, cmpW, cmpP, vw, cmpD, eqOk, nod, dep, eqD, truW, truD, b1W, binW, binD, lenW, srcW, rcv1, tyOf, Fr.pur, ofP, m1W, int?, slW, slD, isiW, isTy, kindOk, isD, isW, inStr, nod_ones, T_beq, nod_strs, dep_strs, b2W, eq_nil]
  simp only [noRec, List.mem_cons, List.not_mem_nil, or_false] at hx
  rcases hx with h | h | h | h | h
  · exact other (.inl h)
  · exact other (.inr (.inl h))
  · rw [h, rec_ok (by simp [asg_v, noneW, allD, eqAll, nodAll, depAll, varW, idxW, seqW, cmpW, cmpP, vw, cmpD, eqOk, nod, dep, eqD, truW, truD, b1W, binW, binD, lenW, srcW, rcv1, tyOf, Fr.pur, ofP, m1W, int?, slW, slD, isiW, isTy, kindOk, isD, isW, inStr, nod_ones, T_beq, nod_strs, dep_strs, b2W, eq_nil])]; rfl
  · rw [h, rec_ok (by simp [asg_v, noneW, allD, eqAll, nodAll, depAll, varW, idxW, seqW, cmpW, cmpP, vw, cmpD, eqOk, nod, dep, eqD, truW, truD, b1W, binW, binD, lenW, srcW, rcv1, tyOf, Fr.pur, ofP, m1W, int?, slW, slD, isiW, isTy, kindOk, isD, isW, inStr, nod_ones, T_beq, nod_strs, dep_strs, b2W, eq_nil])]
    have : recP (List.replicate 201 120) = false := by simp [asg_v, noneW, allD, eqAll, nodAll, depAll, varW, idxW, seqW, cmpW, cmpP, vw, cmpD, eqOk, nod, dep, eqD, truW, truD, b1W, binW, binD, lenW, srcW, rcv1, tyOf, Fr.pur, ofP, m1W, int?, slW, slD, isiW, isTy, kindOk, isD, isW, inStr, nod_ones, T_beq, nod_strs, dep_strs, b2W, eq_nil, recP]
    rw [this]
  · exact other (.inr (.inr h))
end HT
end

section
set_option Elab.async false
set_option linter.all false
set_option maxRecDepth 100000
set_option autoImplicit false
set_option maxHeartbeats 4000000
namespace HT
open PySem FM
theorem xT (w : W) : excFs EP "BadTexts" [w] = some [("value", w)] := by simp [asg_v, noneW, allD, eqAll, nodAll, depAll, varW, idxW, seqW, cmpW, cmpP, vw, cmpD, eqOk, nod, dep, eqD, truW, truD, b1W, binW, binD, lenW, srcW, rcv1, tyOf, Fr.pur, ofP, m1W, int?, slW, slD, isiW, isTy, kindOk, isD, isW, inStr, nod_ones, T_beq, nod_strs, dep_strs, b2W, eq_nil, excFs, EP]
theorem xt (w : W) : excFs EP "BadText" [w] = some [("value", w)] := by simp [asg_v, noneW, allD, eqAll, nodAll, depAll, varW, idxW, seqW, cmpW, cmpP, vw, cmpD, eqOk, nod, dep, eqD, truW, truD, b1W, binW, binD, lenW, srcW, rcv1, tyOf, Fr.pur, ofP, m1W, int?, slW, slD, isiW, isTy, kindOk, isD, isW, inStr, nod_ones, T_beq, nod_strs, dep_strs, b2W, eq_nil, excFs, EP]
theorem xn (w : W) : excFs EP "BadNumber" [w] = some [("value", w)] := by simp [asg_v, noneW, allD, eqAll, nodAll, depAll, varW, idxW, seqW, cmpW, cmpP, vw, cmpD, eqOk, nod, dep, eqD, truW, truD, b1W, binW, binD, lenW, srcW, rcv1, tyOf, Fr.pur, ofP, m1W, int?, slW, slD, isiW, isTy, kindOk, isD, isW, inStr, nod_ones, T_beq, nod_strs, dep_strs, b2W, eq_nil, excFs, EP]
theorem xs (w : W) : excFs EP "BadSeals" [w] = some [("value", w)] := by simp [asg_v, noneW, allD, eqAll, nodAll, depAll, varW, idxW, seqW, cmpW, cmpP, vw, cmpD, eqOk, nod, dep, eqD, truW, truD, b1W, binW, binD, lenW, srcW, rcv1, tyOf, Fr.pur, ofP, m1W, int?, slW, slD, isiW, isTy, kindOk, isD, isW, inStr, nod_ones, T_beq, nod_strs, dep_strs, b2W, eq_nil, excFs, EP]
theorem row_ok {w : W} {xs : List D} {st : Sto} {j : Nat} (h : RowW st w xs) : callD EP R0 (j + 1) "is_row" [w] st = .ok (.d (.bool true)) st := by
  rw [callD_fn (fn := fis_row) rfl _ _ rfl]
  simp only [fis_row, bis_row, entry, evSs, evS, evE, varW, List.map_cons, List.cons_append, List.getElem?_cons_zero, Res.of_some, Res.bind_ok, h.isi]
  simp [asg_v, noneW, allD, eqAll, nodAll, depAll, varW, idxW, seqW, cmpW, cmpP, vw, cmpD, eqOk, nod, dep, eqD, truW, truD, b1W, binW, binD, lenW, srcW, rcv1, tyOf, Fr.pur, ofP, m1W, int?, slW, slD, isiW, isTy, kindOk, isD, isW, inStr, nod_ones, T_beq, nod_strs, dep_strs, b2W, eq_nil]
theorem row_no {x : D} {st : Sto} {j : Nat} (h : x = .none ∨ x = .int 5) : callD EP R0 (j + 1) "is_row" [.d x] st = .ok (.d (.bool false)) st := by
  rw [callD_fn (fn := fis_row) rfl _ _ rfl]
  simp only [fis_row, bis_row, entry, evSs, evS, evE]
  rcases h with h | h <;> subst h <;> simp [asg_v, noneW, allD, eqAll, nodAll, depAll, varW, idxW, seqW, cmpW, cmpP, vw, cmpD, eqOk, nod, dep, eqD, truW, truD, b1W, binW, binD, lenW, srcW, rcv1, tyOf, Fr.pur, ofP, m1W, int?, slW, slD, isiW, isTy, kindOk, isD, isW, inStr, nod_ones, T_beq, nod_strs, dep_strs, b2W, eq_nil]
/-! ### check_texts -/
def ctB : FM.Ss := .cons (.ife (.not (.e (.call "is_record" (.cons (.var 2) (.nil))))) (.cons (.raise "BadTexts" (.cons (.var 1) .nil)) (.nil)) (.nil)) (.nil)
theorem asg_ix (i k : Nat) (n : Int) (x : D) (ρ : FM.Env) : asgT (.t [.v i, .v k]) (.d (.tuple [.int n, x])) ρ = some ((ρ.set i (some (.d (.int n)))).set k (some (.d x))) := rfl
theorem ct_if {w : W} {xs : List D} {st : Sto} {j : Nat} {v : List (Option W)} (h : RowW st w xs) : evC EP R0 (callD EP R0 (j + 1)) (.or (.not (.e (.call "is_row" (.cons (.var 0) (.nil))))) (.e (.cmp .gt (.b1 .len (.var 0)) (.glob "MOST_TEXTS")))) (some w :: v) st = .ok (decide (100 < xs.length)) st := by
  have hl : b1W R0 st .len w = some (.d (.int xs.length)) := by
    show (lenW st w).map _ = _
    rw [h.len]
    rfl
  simp only [evC, evE, evEs, varW, List.getElem?_cons_zero, Res.of_some, Res.bind_ok, row_ok h, truW, truD, Bool.not_true, Bool.false_eq_true, if_false, hl, gXs]
  simp [asg_v, noneW, allD, eqAll, nodAll, depAll, varW, idxW, seqW, cmpW, cmpP, vw, cmpD, eqOk, nod, dep, eqD, truW, truD, b1W, binW, binD, lenW, srcW, rcv1, tyOf, Fr.pur, ofP, m1W, int?, slW, slD, isiW, isTy, kindOk, isD, isW, inStr, nod_ones, T_beq, nod_strs, dep_strs, b2W, eq_nil, cmpOk, alk, ordOk, isNo, ltD]
  omega
theorem ct_step {st : Sto} {j : Nat} {w : W} {t : List Nat} {k : Int} {ρ : FM.Env} (hl : t.length ≤ 1000) (hr : recP t = true) (hρ : ρ.length = 3) : (match asgT (.t [.v 1, .v 2]) (.d (.tuple [.int k, dStr t])) ρ with | some ρ' => evSs EP R0 (callD EP R0 (j + 1)) ctB ρ' st | none => .bad) = .nx ((ρ.set 1 (some (.d (.int k)))).set 2 (some (.d (dStr t)))) st := by
  have e1 : varW ((ρ.set 1 (some (.d (.int k)))).set 2 (some (.d (dStr t)))) 2 = some (.d (dStr t)) := by simp [asg_v, noneW, allD, eqAll, nodAll, depAll, varW, idxW, seqW, cmpW, cmpP, vw, cmpD, eqOk, nod, dep, eqD, truW, truD, b1W, binW, binD, lenW, srcW, rcv1, tyOf, Fr.pur, ofP, m1W, int?, slW, slD, isiW, isTy, kindOk, isD, isW, inStr, nod_ones, T_beq, nod_strs, dep_strs, b2W, eq_nil, hρ]
  simp only [asg_ix, ctB, evSs, evS, evC, evE, evEs, e1, Res.of_some, Res.bind_ok, rec_ok hl, hr]
  simp [asg_v, noneW, allD, eqAll, nodAll, depAll, varW, idxW, seqW, cmpW, cmpP, vw, cmpD, eqOk, nod, dep, eqD, truW, truD, b1W, binW, binD, lenW, srcW, rcv1, tyOf, Fr.pur, ofP, m1W, int?, slW, slD, isiW, isTy, kindOk, isD, isW, inStr, nod_ones, T_beq, nod_strs, dep_strs, b2W, eq_nil]
theorem ct_bad {st : Sto} {j : Nat} {x : D} {k : Int} {ρ : FM.Env} (hx : callD EP R0 (j + 1) "is_record" [.d x] st = .ok (.d (.bool false)) st) (hρ : ρ.length = 3) : (match asgT (.t [.v 1, .v 2]) (.d (.tuple [.int k, x])) ρ with | some ρ' => evSs EP R0 (callD EP R0 (j + 1)) ctB ρ' st | none => .bad) = .exn (bad1 "BadTexts" (.int k)) st := by
  have e1 : varW ((ρ.set 1 (some (.d (.int k)))).set 2 (some (.d x))) 2 = some (.d x) := by simp [asg_v, noneW, allD, eqAll, nodAll, depAll, varW, idxW, seqW, cmpW, cmpP, vw, cmpD, eqOk, nod, dep, eqD, truW, truD, b1W, binW, binD, lenW, srcW, rcv1, tyOf, Fr.pur, ofP, m1W, int?, slW, slD, isiW, isTy, kindOk, isD, isW, inStr, nod_ones, T_beq, nod_strs, dep_strs, b2W, eq_nil, hρ]
  have e3 : varW ((ρ.set 1 (some (.d (.int k)))).set 2 (some (.d x))) 1 = some (.d (.int k)) := by simp [asg_v, noneW, allD, eqAll, nodAll, depAll, varW, idxW, seqW, cmpW, cmpP, vw, cmpD, eqOk, nod, dep, eqD, truW, truD, b1W, binW, binD, lenW, srcW, rcv1, tyOf, Fr.pur, ofP, m1W, int?, slW, slD, isiW, isTy, kindOk, isD, isW, inStr, nod_ones, T_beq, nod_strs, dep_strs, b2W, eq_nil, hρ]
  simp only [asg_ix, ctB, evSs, evS, evC, evE, evEs, e1, e3, Res.of_some, Res.bind_ok, hx]
  simp [asg_v, noneW, allD, eqAll, nodAll, depAll, varW, idxW, seqW, cmpW, cmpP, vw, cmpD, eqOk, nod, dep, eqD, truW, truD, b1W, binW, binD, lenW, srcW, rcv1, tyOf, Fr.pur, ofP, m1W, int?, slW, slD, isiW, isTy, kindOk, isD, isW, inStr, nod_ones, T_beq, nod_strs, dep_strs, b2W, eq_nil, xT, bad1]
theorem check_ok {w : W} {ts : List (List Nat)} {st : Sto} {j : Nat} (h : RowW st w (ts.map dStr)) (hl : ts.length ≤ 100) (hr : ∀ t ∈ ts, recP t = true ∧ t.length ≤ 1000) : callD EP R0 (j + 2) "check_texts" [w] st = .ok (.d .none) st := by
  rw [callD_fn (fn := fcheck_texts) rfl _ _ rfl]
  show exitR .pure st (evSs EP R0 (callD EP R0 (j + 1)) bcheck_texts [some w, none, none] st) = _
  have S1 := ct_if (st := st) (j := j) (v := [none, none]) h
  rw [List.length_map, decide_eq_false (by omega)] at S1
  have S2 : ∃ ρ', evS EP R0 (callD EP R0 (j + 1)) (.for (.t [.v 1, .v 2]) (.enum (.var 0) 0) ctB) [some w, none, none] st = .nx ρ' st := by
    rw [evS, evI, evE]
    simp only [varW, List.getElem?_cons_zero, Res.of_some, Res.bind_ok, h.seqD, Res.out_ok]
    obtain ⟨ρ', h1, _⟩ := enum_loop (g := guardOf w) (step := fun w ρ st => match asgT (.t [.v 1, .v 2]) w ρ with | some ρ' => evSs EP R0 (callD EP R0 (j + 1)) ctB ρ' st | none => .bad) (st := st) (fun ρ => ρ.length = 3) (ts.map dStr) 0 [some w, none, none] rfl (fun x hx k ρ hρ => by
      obtain ⟨t, ht, rfl⟩ := List.mem_map.mp hx
      exact ⟨_, ct_step (w := w) (hr t ht).2 (hr t ht).1 hρ, by simp [asg_v, noneW, allD, eqAll, nodAll, depAll, varW, idxW, seqW, cmpW, cmpP, vw, cmpD, eqOk, nod, dep, eqD, truW, truD, b1W, binW, binD, lenW, srcW, rcv1, tyOf, Fr.pur, ofP, m1W, int?, slW, slD, isiW, isTy, kindOk, isD, isW, inStr, nod_ones, T_beq, nod_strs, dep_strs, b2W, eq_nil, hρ]⟩)
    exact ⟨ρ', h1⟩
  obtain ⟨ρ', S2⟩ := S2
  rw [bcheck_texts, evSs, evS, S1]
  simp only [Res.out_ok, Bool.false_eq_true, if_false, evSs, Out.next_nx]
  rw [show (FM.Ss.cons (.ife (.not (.e (.call "is_record" (.cons (.var 2) (.nil))))) (.cons (.raise "BadTexts" (.cons (.var 1) .nil)) (.nil)) (.nil)) (.nil)) = ctB from rfl, S2]
  simp [asg_v, noneW, allD, eqAll, nodAll, depAll, varW, idxW, seqW, cmpW, cmpP, vw, cmpD, eqOk, nod, dep, eqD, truW, truD, b1W, binW, binD, lenW, srcW, rcv1, tyOf, Fr.pur, ofP, m1W, int?, slW, slD, isiW, isTy, kindOk, isD, isW, inStr, nod_ones, T_beq, nod_strs, dep_strs, b2W, eq_nil, exitR, exitOk]
theorem check_no {x : D} {st : Sto} {j : Nat} (h : x = .none ∨ x = .int 5 ∨ ∃ xs, x = .list xs ∧ 100 < xs.length) : callD EP R0 (j + 2) "check_texts" [.d x] st = .exn (bad1 "BadTexts" (.int (-1))) st := by
  rw [callD_fn (fn := fcheck_texts) rfl _ _ rfl]
  show exitR .pure st (evSs EP R0 (callD EP R0 (j + 1)) bcheck_texts [some (.d x), none, none] st) = _
  have S1 : evC EP R0 (callD EP R0 (j + 1)) (.or (.not (.e (.call "is_row" (.cons (.var 0) (.nil))))) (.e (.cmp .gt (.b1 .len (.var 0)) (.glob "MOST_TEXTS")))) [some (.d x), none, none] st = .ok true st := by
    rcases h with h | h | ⟨xs, h, hl⟩
    · simp [asg_v, noneW, allD, eqAll, nodAll, depAll, varW, idxW, seqW, cmpW, cmpP, vw, cmpD, eqOk, nod, dep, eqD, truW, truD, b1W, binW, binD, lenW, srcW, rcv1, tyOf, Fr.pur, ofP, m1W, int?, slW, slD, isiW, isTy, kindOk, isD, isW, inStr, nod_ones, T_beq, nod_strs, dep_strs, b2W, eq_nil, evC, evE, evEs, row_no (.inl h)]
    · simp [asg_v, noneW, allD, eqAll, nodAll, depAll, varW, idxW, seqW, cmpW, cmpP, vw, cmpD, eqOk, nod, dep, eqD, truW, truD, b1W, binW, binD, lenW, srcW, rcv1, tyOf, Fr.pur, ofP, m1W, int?, slW, slD, isiW, isTy, kindOk, isD, isW, inStr, nod_ones, T_beq, nod_strs, dep_strs, b2W, eq_nil, evC, evE, evEs, row_no (.inr h)]
    · subst h
      rw [ct_if RowW.lst, decide_eq_true hl]
  rw [bcheck_texts, evSs, evS, S1]
  simp [asg_v, noneW, allD, eqAll, nodAll, depAll, varW, idxW, seqW, cmpW, cmpP, vw, cmpD, eqOk, nod, dep, eqD, truW, truD, b1W, binW, binD, lenW, srcW, rcv1, tyOf, Fr.pur, ofP, m1W, int?, slW, slD, isiW, isTy, kindOk, isD, isW, inStr, nod_ones, T_beq, nod_strs, dep_strs, b2W, eq_nil, evSs, evS, evE, evEs, xT, next_exn, exit_exn]
theorem check_bad {x : D} {ts : List (List Nat)} {st : Sto} {j : Nat} (hl : ts.length ≤ 99) (hr : ∀ t ∈ ts, recP t = true ∧ t.length ≤ 1000) (hx : x ∈ noRec) : callD EP R0 (j + 2) "check_texts" [.d (.list (ts.map dStr ++ [x]))] st = .exn (bad1 "BadTexts" (.int ts.length)) st := by
  rw [callD_fn (fn := fcheck_texts) rfl _ _ rfl]
  have h : RowW st (.d (.list (ts.map dStr ++ [x]))) (ts.map dStr ++ [x]) := RowW.lst
  show exitR .pure st (evSs EP R0 (callD EP R0 (j + 1)) bcheck_texts [some (.d (.list (ts.map dStr ++ [x]))), none, none] st) = _
  have S1 := ct_if (st := st) (j := j) (v := [none, none]) h
  rw [List.length_append, List.length_map, decide_eq_false (by simp [asg_v, noneW, allD, eqAll, nodAll, depAll, varW, idxW, seqW, cmpW, cmpP, vw, cmpD, eqOk, nod, dep, eqD, truW, truD, b1W, binW, binD, lenW, srcW, rcv1, tyOf, Fr.pur, ofP, m1W, int?, slW, slD, isiW, isTy, kindOk, isD, isW, inStr, nod_ones, T_beq, nod_strs, dep_strs, b2W, eq_nil]; omega)] at S1
  have S2 : evS EP R0 (callD EP R0 (j + 1)) (.for (.t [.v 1, .v 2]) (.enum (.var 0) 0) ctB) [some (.d (.list (ts.map dStr ++ [x]))), none, none] st = .exn (bad1 "BadTexts" (.int ts.length)) st := by
    rw [evS, evI, evE]
    simp only [varW, List.getElem?_cons_zero, Res.of_some, Res.bind_ok, h.seqD, Res.out_ok]
    have := enum_stop (g := none) (step := fun w ρ st => match asgT (.t [.v 1, .v 2]) w ρ with | some ρ' => evSs EP R0 (callD EP R0 (j + 1)) ctB ρ' st | none => .bad) (st := st) (fun ρ => ρ.length = 3) (y := x) (ys := []) (o := fun k => .exn (bad1 "BadTexts" (.int k)) st) (fun k => ⟨fun _ _ => by simp [asg_v, noneW, allD, eqAll, nodAll, depAll, varW, idxW, seqW, cmpW, cmpP, vw, cmpD, eqOk, nod, dep, eqD, truW, truD, b1W, binW, binD, lenW, srcW, rcv1, tyOf, Fr.pur, ofP, m1W, int?, slW, slD, isiW, isTy, kindOk, isD, isW, inStr, nod_ones, T_beq, nod_strs, dep_strs, b2W, eq_nil], fun _ _ => by simp [asg_v, noneW, allD, eqAll, nodAll, depAll, varW, idxW, seqW, cmpW, cmpP, vw, cmpD, eqOk, nod, dep, eqD, truW, truD, b1W, binW, binD, lenW, srcW, rcv1, tyOf, Fr.pur, ofP, m1W, int?, slW, slD, isiW, isTy, kindOk, isD, isW, inStr, nod_ones, T_beq, nod_strs, dep_strs, b2W, eq_nil], fun _ _ => by simp [asg_v, noneW, allD, eqAll, nodAll, depAll, varW, idxW, seqW, cmpW, cmpP, vw, cmpD, eqOk, nod, dep, eqD, truW, truD, b1W, binW, binD, lenW, srcW, rcv1, tyOf, Fr.pur, ofP, m1W, int?, slW, slD, isiW, isTy, kindOk, isD, isW, inStr, nod_ones, T_beq, nod_strs, dep_strs, b2W, eq_nil]⟩) (fun k ρ hρ => ct_bad (rec_no hx) hρ) (ts.map dStr) 0 [some (.d (.list (ts.map dStr ++ [x]))), none, none] rfl (fun x hx k ρ hρ => by
      obtain ⟨t, ht, rfl⟩ := List.mem_map.mp hx
      exact ⟨_, ct_step (w := .d .none) (hr t ht).2 (hr t ht).1 hρ, by simp [asg_v, noneW, allD, eqAll, nodAll, depAll, varW, idxW, seqW, cmpW, cmpP, vw, cmpD, eqOk, nod, dep, eqD, truW, truD, b1W, binW, binD, lenW, srcW, rcv1, tyOf, Fr.pur, ofP, m1W, int?, slW, slD, isiW, isTy, kindOk, isD, isW, inStr, nod_ones, T_beq, nod_strs, dep_strs, b2W, eq_nil, hρ]⟩)
    rw [Int.zero_add, List.length_map] at this
    exact this
  rw [bcheck_texts, evSs, evS, S1]
  simp only [Res.out_ok, Bool.false_eq_true, if_false, evSs, Out.next_nx]
  rw [show (FM.Ss.cons (.ife (.not (.e (.call "is_record" (.cons (.var 2) (.nil))))) (.cons (.raise "BadTexts" (.cons (.var 1) .nil)) (.nil)) (.nil)) (.nil)) = ctB from rfl, S2, next_exn]
  exact exit_exn
end HT
end

section
set_option Elab.async false
set_option linter.all false
set_option maxRecDepth 100000
set_option autoImplicit false
set_option maxHeartbeats 4000000
namespace HT
open PySem FM
theorem RowW.ext {st l : Sto} {w : W} {xs : List D} (h : RowW st w xs) : RowW (st ++ l) w xs := by
  cases w with
  | d x => 
    have h1 := h.seq
    have h2 := h.src
    have h3 := h.len
    have h4 := h.isi
    cases x <;> simp [asg_v, noneW, allD, eqAll, nodAll, depAll, varW, idxW, seqW, cmpW, cmpP, vw, cmpD, eqOk, nod, dep, eqD, truW, truD, b1W, binW, binD, lenW, srcW, rcv1, tyOf, Fr.pur, ofP, m1W, int?, slW, slD, isiW, isTy, kindOk, isD, isW, inStr, nod_ones, T_beq, nod_strs, dep_strs, b2W, eq_nil] at h1 <;> exact ⟨by simpa [asg_v, noneW, allD, eqAll, nodAll, depAll, varW, idxW, seqW, cmpW, cmpP, vw, cmpD, eqOk, nod, dep, eqD, truW, truD, b1W, binW, binD, lenW, srcW, rcv1, tyOf, Fr.pur, ofP, m1W, int?, slW, slD, isiW, isTy, kindOk, isD, isW, inStr, nod_ones, T_beq, nod_strs, dep_strs, b2W, eq_nil] using h1, by simpa [asg_v, noneW, allD, eqAll, nodAll, depAll, varW, idxW, seqW, cmpW, cmpP, vw, cmpD, eqOk, nod, dep, eqD, truW, truD, b1W, binW, binD, lenW, srcW, rcv1, tyOf, Fr.pur, ofP, m1W, int?, slW, slD, isiW, isTy, kindOk, isD, isW, inStr, nod_ones, T_beq, nod_strs, dep_strs, b2W, eq_nil] using h2, by simpa [asg_v, noneW, allD, eqAll, nodAll, depAll, varW, idxW, seqW, cmpW, cmpP, vw, cmpD, eqOk, nod, dep, eqD, truW, truD, b1W, binW, binD, lenW, srcW, rcv1, tyOf, Fr.pur, ofP, m1W, int?, slW, slD, isiW, isTy, kindOk, isD, isW, inStr, nod_ones, T_beq, nod_strs, dep_strs, b2W, eq_nil] using h3, by simp [asg_v, noneW, allD, eqAll, nodAll, depAll, varW, idxW, seqW, cmpW, cmpP, vw, cmpD, eqOk, nod, dep, eqD, truW, truD, b1W, binW, binD, lenW, srcW, rcv1, tyOf, Fr.pur, ofP, m1W, int?, slW, slD, isiW, isTy, kindOk, isD, isW, inStr, nod_ones, T_beq, nod_strs, dep_strs, b2W, eq_nil]⟩
  | ref n =>
    have h1 := h.seq
    cases hc : st[n]? with
    | none => simp [asg_v, noneW, allD, eqAll, nodAll, depAll, varW, idxW, seqW, cmpW, cmpP, vw, cmpD, eqOk, nod, dep, eqD, truW, truD, b1W, binW, binD, lenW, srcW, rcv1, tyOf, Fr.pur, ofP, m1W, int?, slW, slD, isiW, isTy, kindOk, isD, isW, inStr, nod_ones, T_beq, nod_strs, dep_strs, b2W, eq_nil, hc] at h1
    | some c =>
      cases c with
      | lst ws =>
        simp [asg_v, noneW, allD, eqAll, nodAll, depAll, varW, idxW, seqW, cmpW, cmpP, vw, cmpD, eqOk, nod, dep, eqD, truW, truD, b1W, binW, binD, lenW, srcW, rcv1, tyOf, Fr.pur, ofP, m1W, int?, slW, slD, isiW, isTy, kindOk, isD, isW, inStr, nod_ones, T_beq, nod_strs, dep_strs, b2W, eq_nil, hc] at h1
        subst h1
        exact RowW.cell (by rw [List.getElem?_append_left (List.getElem?_eq_some_iff.mp hc).1, hc])
      | dct _ => simp [asg_v, noneW, allD, eqAll, nodAll, depAll, varW, idxW, seqW, cmpW, cmpP, vw, cmpD, eqOk, nod, dep, eqD, truW, truD, b1W, binW, binD, lenW, srcW, rcv1, tyOf, Fr.pur, ofP, m1W, int?, slW, slD, isiW, isTy, kindOk, isD, isW, inStr, nod_ones, T_beq, nod_strs, dep_strs, b2W, eq_nil, hc] at h1
      | ins _ _ => simp [asg_v, noneW, allD, eqAll, nodAll, depAll, varW, idxW, seqW, cmpW, cmpP, vw, cmpD, eqOk, nod, dep, eqD, truW, truD, b1W, binW, binD, lenW, srcW, rcv1, tyOf, Fr.pur, ofP, m1W, int?, slW, slD, isiW, isTy, kindOk, isD, isW, inStr, nod_ones, T_beq, nod_strs, dep_strs, b2W, eq_nil, hc] at h1
      | dead => simp [asg_v, noneW, allD, eqAll, nodAll, depAll, varW, idxW, seqW, cmpW, cmpP, vw, cmpD, eqOk, nod, dep, eqD, truW, truD, b1W, binW, binD, lenW, srcW, rcv1, tyOf, Fr.pur, ofP, m1W, int?, slW, slD, isiW, isTy, kindOk, isD, isW, inStr, nod_ones, T_beq, nod_strs, dep_strs, b2W, eq_nil, hc] at h1
  | fn f => 
    have := h.seq
    simp [asg_v, noneW, allD, eqAll, nodAll, depAll, varW, idxW, seqW, cmpW, cmpP, vw, cmpD, eqOk, nod, dep, eqD, truW, truD, b1W, binW, binD, lenW, srcW, rcv1, tyOf, Fr.pur, ofP, m1W, int?, slW, slD, isiW, isTy, kindOk, isD, isW, inStr, nod_ones, T_beq, nod_strs, dep_strs, b2W, eq_nil] at this
theorem RowW.lt {st : Sto} {w : W} {xs : List D} (h : RowW st w xs) {n : Nat} (hg : guardOf w = some n) : n < st.length := by
  cases w with
  | d x => cases hg
  | fn f => cases hg
  | ref m =>
    cases hg
    have h1 := h.seq
    cases hc : st[n]? with
    | none => simp [asg_v, noneW, allD, eqAll, nodAll, depAll, varW, idxW, seqW, cmpW, cmpP, vw, cmpD, eqOk, nod, dep, eqD, truW, truD, b1W, binW, binD, lenW, srcW, rcv1, tyOf, Fr.pur, ofP, m1W, int?, slW, slD, isiW, isTy, kindOk, isD, isW, inStr, nod_ones, T_beq, nod_strs, dep_strs, b2W, eq_nil, hc] at h1
    | some c => exact (List.getElem?_eq_some_iff.mp hc).1
theorem still_app {g : Option Nat} {st a b : Sto} (h : ∀ n, g = some n → n < st.length) : still g (st ++ a) (st ++ b) = true := by
  cases g with
  | none => rfl
  | some n =>
    have := h n rfl
    simp [asg_v, noneW, allD, eqAll, nodAll, depAll, varW, idxW, seqW, cmpW, cmpP, vw, cmpD, eqOk, nod, dep, eqD, truW, truD, b1W, binW, binD, lenW, srcW, rcv1, tyOf, Fr.pur, ofP, m1W, int?, slW, slD, isiW, isTy, kindOk, isD, isW, inStr, nod_ones, T_beq, nod_strs, dep_strs, b2W, eq_nil, still, List.getElem?_append_left this]
/-! ### seals -/
def sealsP : Int → List (List Nat) → List Int
  | _, [] => []
  | b, t :: ts => sealP b t :: sealsP (sealP b t) ts
theorem sealsP_len : ∀ (ts : List (List Nat)) (b : Int), (sealsP b ts).length = ts.length
  | [], _ => rfl
  | t :: ts, b => by simp [asg_v, noneW, allD, eqAll, nodAll, depAll, varW, idxW, seqW, cmpW, cmpP, vw, cmpD, eqOk, nod, dep, eqD, truW, truD, b1W, binW, binD, lenW, srcW, rcv1, tyOf, Fr.pur, ofP, m1W, int?, slW, slD, isiW, isTy, kindOk, isD, isW, inStr, nod_ones, T_beq, nod_strs, dep_strs, b2W, eq_nil, sealsP, sealsP_len ts]
def SIv (w : W) (tot : List Int) (st : Sto) (ws : List W) (ρ : FM.Env) (st' : Sto) : Prop := ∃ (l : List (List Nat)) (done : List Int) (b : Int) (v3 : Option W), ws = l.map (fun t => .d (dStr t)) ∧ ρ = [some w, some (.ref st.length), some (.d (.int b)), v3] ∧ st' = st ++ [.lst (done.map fun i => .d (.int i))] ∧ done ++ sealsP b l = tot ∧ (∀ t ∈ l, t.length ≤ 1000) ∧ done.length + l.length ≤ 200
theorem told_seals_ok {w : W} {ts : List (List Nat)} {st : Sto} {j : Nat} (h : RowW st w (ts.map dStr)) (hl : ts.length ≤ 200) (hr : ∀ t ∈ ts, t.length ≤ 1000) : callD EP R0 (j + 2) "told_seals" [w] st = .ok (.d (.list ((sealsP 0 ts).map .int))) st := by
  have hSZ : SZ = 16777216 := rfl
  suffices hq : okR (callD EP R0 (j + 2) "told_seals" [w] st) fun w st' => st' = st ∧ w = .d (.list ((sealsP 0 ts).map .int)) by
    obtain ⟨w, st', h1, rfl, rfl⟩ := okR_ex hq
    exact h1
  rw [callD_fn (fn := ftold_seals) rfl _ _ rfl]
  apply exit_pure
  show okO (evSs EP R0 (callD EP R0 (j + 1)) btold_seals [some w, none, none, none] st) _ _
  unfold btold_seals
  apply seqS (N' := fun ρ st' => ρ = [some w, some (.ref st.length), none, none] ∧ st' = st ++ [.lst []])
  · simp [asg_v, noneW, allD, eqAll, nodAll, depAll, varW, idxW, seqW, cmpW, cmpP, vw, cmpD, eqOk, nod, dep, eqD, truW, truD, b1W, binW, binD, lenW, srcW, rcv1, tyOf, Fr.pur, ofP, m1W, int?, slW, slD, isiW, isTy, kindOk, isD, isW, inStr, nod_ones, T_beq, nod_strs, dep_strs, b2W, eq_nil, evS, evE, evF, evEs, Fr.cell]
  rintro ρ st1 ⟨rfl, rfl⟩
  apply seqS (N' := fun ρ st' => ρ = [some w, some (.ref st.length), some (.d (.int 0)), none] ∧ st' = st ++ [.lst []])
  · simp [asg_v, noneW, allD, eqAll, nodAll, depAll, varW, idxW, seqW, cmpW, cmpP, vw, cmpD, eqOk, nod, dep, eqD, truW, truD, b1W, binW, binD, lenW, srcW, rcv1, tyOf, Fr.pur, ofP, m1W, int?, slW, slD, isiW, isTy, kindOk, isD, isW, inStr, nod_ones, T_beq, nod_strs, dep_strs, b2W, eq_nil, evS, evE]
  rintro ρ st1 ⟨rfl, rfl⟩
  apply seqS (N' := SIv w (sealsP 0 ts) st [])
  · rw [evS, evI, evE]
    have hx := (h.ext (l := [.lst []])).src
    simp only [varW, List.getElem?_cons_zero, Res.of_some, Res.bind_ok, hx, okO_out, okR_ok]
    refine okO_imp (for_inv (Rt := fun _ _ => False) (SIv w (sealsP 0 ts) st) _ _ _ ?_ ?_) (fun _ _ h => h) (fun _ _ h => h.elim)
    · exact ⟨ts, [], 0, none, by simp [asg_v, noneW, allD, eqAll, nodAll, depAll, varW, idxW, seqW, cmpW, cmpP, vw, cmpD, eqOk, nod, dep, eqD, truW, truD, b1W, binW, binD, lenW, srcW, rcv1, tyOf, Fr.pur, ofP, m1W, int?, slW, slD, isiW, isTy, kindOk, isD, isW, inStr, nod_ones, T_beq, nod_strs, dep_strs, b2W, eq_nil, Function.comp_def], rfl, by simp [asg_v, noneW, allD, eqAll, nodAll, depAll, varW, idxW, seqW, cmpW, cmpP, vw, cmpD, eqOk, nod, dep, eqD, truW, truD, b1W, binW, binD, lenW, srcW, rcv1, tyOf, Fr.pur, ofP, m1W, int?, slW, slD, isiW, isTy, kindOk, isD, isW, inStr, nod_ones, T_beq, nod_strs, dep_strs, b2W, eq_nil], by simp [asg_v, noneW, allD, eqAll, nodAll, depAll, varW, idxW, seqW, cmpW, cmpP, vw, cmpD, eqOk, nod, dep, eqD, truW, truD, b1W, binW, binD, lenW, srcW, rcv1, tyOf, Fr.pur, ofP, m1W, int?, slW, slD, isiW, isTy, kindOk, isD, isW, inStr, nod_ones, T_beq, nod_strs, dep_strs, b2W, eq_nil], hr, by simpa [asg_v, noneW, allD, eqAll, nodAll, depAll, varW, idxW, seqW, cmpW, cmpP, vw, cmpD, eqOk, nod, dep, eqD, truW, truD, b1W, binW, binD, lenW, srcW, rcv1, tyOf, Fr.pur, ofP, m1W, int?, slW, slD, isiW, isTy, kindOk, isD, isW, inStr, nod_ones, T_beq, nod_strs, dep_strs, b2W, eq_nil] using hl⟩
    · rintro u r ρ st' ⟨l, done, b, v3, e1, rfl, rfl, e4, e5, e6⟩
      cases l with
      | nil => simp [asg_v, noneW, allD, eqAll, nodAll, depAll, varW, idxW, seqW, cmpW, cmpP, vw, cmpD, eqOk, nod, dep, eqD, truW, truD, b1W, binW, binD, lenW, srcW, rcv1, tyOf, Fr.pur, ofP, m1W, int?, slW, slD, isiW, isTy, kindOk, isD, isW, inStr, nod_ones, T_beq, nod_strs, dep_strs, b2W, eq_nil] at e1
      | cons t l =>
        simp [asg_v, noneW, allD, eqAll, nodAll, depAll, varW, idxW, seqW, cmpW, cmpP, vw, cmpD, eqOk, nod, dep, eqD, truW, truD, b1W, binW, binD, lenW, srcW, rcv1, tyOf, Fr.pur, ofP, m1W, int?, slW, slD, isiW, isTy, kindOk, isD, isW, inStr, nod_ones, T_beq, nod_strs, dep_strs, b2W, eq_nil] at e1 e6
        obtain ⟨rfl, rfl⟩ := e1
        have hs := told_seal_ok (b := b) (st := st ++ [.lst (done.map fun i => .d (.int i))]) (j := j) (e5 t List.mem_cons_self)
        have hst := still_app (g := guardOf w) (a := [.lst (done.map fun i => .d (.int i))]) (b := [.lst ((done ++ [sealP b t]).map fun i => .d (.int i))]) (fun n hg => h.lt hg)
        simp [asg_v, noneW, allD, eqAll, nodAll, depAll, varW, idxW, seqW, cmpW, cmpP, vw, cmpD, eqOk, nod, dep, eqD, truW, truD, b1W, binW, binD, lenW, srcW, rcv1, tyOf, Fr.pur, ofP, m1W, int?, slW, slD, isiW, isTy, kindOk, isD, isW, inStr, nod_ones, T_beq, nod_strs, dep_strs, b2W, eq_nil] at hst
        simp [asg_v, noneW, allD, eqAll, nodAll, depAll, varW, idxW, seqW, cmpW, cmpP, vw, cmpD, eqOk, nod, dep, eqD, truW, truD, b1W, binW, binD, lenW, srcW, rcv1, tyOf, Fr.pur, ofP, m1W, int?, slW, slD, isiW, isTy, kindOk, isD, isW, inStr, nod_ones, T_beq, nod_strs, dep_strs, b2W, eq_nil, evSs, evS, evE, evEs, hs, hSZ, show done.length < 16777216 by omega, hst]
        exact ⟨l, done ++ [sealP b t], sealP b t, _, rfl, rfl, by simp [asg_v, noneW, allD, eqAll, nodAll, depAll, varW, idxW, seqW, cmpW, cmpP, vw, cmpD, eqOk, nod, dep, eqD, truW, truD, b1W, binW, binD, lenW, srcW, rcv1, tyOf, Fr.pur, ofP, m1W, int?, slW, slD, isiW, isTy, kindOk, isD, isW, inStr, nod_ones, T_beq, nod_strs, dep_strs, b2W, eq_nil], by rw [← e4]; simp [asg_v, noneW, allD, eqAll, nodAll, depAll, varW, idxW, seqW, cmpW, cmpP, vw, cmpD, eqOk, nod, dep, eqD, truW, truD, b1W, binW, binD, lenW, srcW, rcv1, tyOf, Fr.pur, ofP, m1W, int?, slW, slD, isiW, isTy, kindOk, isD, isW, inStr, nod_ones, T_beq, nod_strs, dep_strs, b2W, eq_nil, sealsP], fun x hx => e5 x (List.mem_cons_of_mem _ hx), by simp [asg_v, noneW, allD, eqAll, nodAll, depAll, varW, idxW, seqW, cmpW, cmpP, vw, cmpD, eqOk, nod, dep, eqD, truW, truD, b1W, binW, binD, lenW, srcW, rcv1, tyOf, Fr.pur, ofP, m1W, int?, slW, slD, isiW, isTy, kindOk, isD, isW, inStr, nod_ones, T_beq, nod_strs, dep_strs, b2W, eq_nil]; omega⟩
  rintro ρ st1 ⟨l, done, b, v3, e1, rfl, rfl, e4, e5, e6⟩
  simp [asg_v, noneW, allD, eqAll, nodAll, depAll, varW, idxW, seqW, cmpW, cmpP, vw, cmpD, eqOk, nod, dep, eqD, truW, truD, b1W, binW, binD, lenW, srcW, rcv1, tyOf, Fr.pur, ofP, m1W, int?, slW, slD, isiW, isTy, kindOk, isD, isW, inStr, nod_ones, T_beq, nod_strs, dep_strs, b2W, eq_nil] at e1
  subst e1
  have : allD (done.map fun i => W.d (.int i)) = some (done.map .int) := allD_mapd (fun i => .int i) _
  simp [asg_v, noneW, allD, eqAll, nodAll, depAll, varW, idxW, seqW, cmpW, cmpP, vw, cmpD, eqOk, nod, dep, eqD, truW, truD, b1W, binW, binD, lenW, srcW, rcv1, tyOf, Fr.pur, ofP, m1W, int?, slW, slD, isiW, isTy, kindOk, isD, isW, inStr, nod_ones, T_beq, nod_strs, dep_strs, b2W, eq_nil, sealsP] at e4
  subst e4
  simp [asg_v, noneW, allD, eqAll, nodAll, depAll, varW, idxW, seqW, cmpW, cmpP, vw, cmpD, eqOk, nod, dep, eqD, truW, truD, b1W, binW, binD, lenW, srcW, rcv1, tyOf, Fr.pur, ofP, m1W, int?, slW, slD, isiW, isTy, kindOk, isD, isW, inStr, nod_ones, T_beq, nod_strs, dep_strs, b2W, eq_nil, evSs, evS, evE, frzW, this]
theorem seals_ok {w : W} {ts : List (List Nat)} {st : Sto} {j : Nat} (h : RowW st w (ts.map dStr)) (hl : ts.length ≤ 100) (hr : ∀ t ∈ ts, recP t = true ∧ t.length ≤ 1000) : callD EP R0 (j + 3) "seals" [w] st = .ok (.d (.list ((sealsP 0 ts).map .int))) st := by
  rw [callD_fn (fn := fseals) rfl _ _ rfl]
  simp only [fseals, bseals, entry, evSs, evS, evE, evEs]
  simp [asg_v, noneW, allD, eqAll, nodAll, depAll, varW, idxW, seqW, cmpW, cmpP, vw, cmpD, eqOk, nod, dep, eqD, truW, truD, b1W, binW, binD, lenW, srcW, rcv1, tyOf, Fr.pur, ofP, m1W, int?, slW, slD, isiW, isTy, kindOk, isD, isW, inStr, nod_ones, T_beq, nod_strs, dep_strs, b2W, eq_nil, check_ok h hl hr, told_seals_ok h (by omega) fun t ht => (hr t ht).2]
theorem seals_no {x : D} {st : Sto} {j : Nat} (h : x = .none ∨ x = .int 5 ∨ ∃ xs, x = .list xs ∧ 100 < xs.length) : callD EP R0 (j + 3) "seals" [.d x] st = .exn (bad1 "BadTexts" (.int (-1))) st := by
  rw [callD_fn (fn := fseals) rfl _ _ rfl]
  simp only [fseals, bseals, entry, evSs, evS, evE, evEs]
  simp [asg_v, noneW, allD, eqAll, nodAll, depAll, varW, idxW, seqW, cmpW, cmpP, vw, cmpD, eqOk, nod, dep, eqD, truW, truD, b1W, binW, binD, lenW, srcW, rcv1, tyOf, Fr.pur, ofP, m1W, int?, slW, slD, isiW, isTy, kindOk, isD, isW, inStr, nod_ones, T_beq, nod_strs, dep_strs, b2W, eq_nil, check_no h, exit_exn, bad1, next_exn]
theorem seals_bad {x : D} {ts : List (List Nat)} {st : Sto} {j : Nat} (hl : ts.length ≤ 99) (hr : ∀ t ∈ ts, recP t = true ∧ t.length ≤ 1000) (hx : x ∈ noRec) : callD EP R0 (j + 3) "seals" [.d (.list (ts.map dStr ++ [x]))] st = .exn (bad1 "BadTexts" (.int ts.length)) st := by
  rw [callD_fn (fn := fseals) rfl _ _ rfl]
  simp only [fseals, bseals, entry, evSs, evS, evE, evEs]
  simp [asg_v, noneW, allD, eqAll, nodAll, depAll, varW, idxW, seqW, cmpW, cmpP, vw, cmpD, eqOk, nod, dep, eqD, truW, truD, b1W, binW, binD, lenW, srcW, rcv1, tyOf, Fr.pur, ofP, m1W, int?, slW, slD, isiW, isTy, kindOk, isD, isW, inStr, nod_ones, T_beq, nod_strs, dep_strs, b2W, eq_nil, check_bad hl hr hx, next_exn]
  exact exit_exn
/-! ### seal -/
def withinP : D → Bool
  | .int i => decide (0 ≤ i ∧ i ≤ 1000002)
  | _ => false
theorem within_ok {x : D} {st : Sto} {j : Nat} (hx : (∃ i, x = .int i) ∨ x = .none ∨ x = .bool true) : callD EP R0 (j + 2) "is_within" [.d x, .d (.int 0), .d (.int 1000002)] st = .ok (.d (.bool (withinP x))) st := by
  have h1 : callD EP R0 (j + 1) "is_integer" [.d x] st = .ok (.d (.bool (match x with | .int _ => true | _ => false))) st := by
    rw [callD_fn (fn := fis_integer) rfl _ _ rfl]
    simp only [fis_integer, bis_integer, entry, evSs, evS, evE]
    rcases hx with ⟨i, h⟩ | h | h <;> subst h <;> simp [asg_v, noneW, allD, eqAll, nodAll, depAll, varW, idxW, seqW, cmpW, cmpP, vw, cmpD, eqOk, nod, dep, eqD, truW, truD, b1W, binW, binD, lenW, srcW, rcv1, tyOf, Fr.pur, ofP, m1W, int?, slW, slD, isiW, isTy, kindOk, isD, isW, inStr, nod_ones, T_beq, nod_strs, dep_strs, b2W, eq_nil]
  rw [callD_fn (fn := fis_within) rfl _ _ rfl]
  simp only [fis_within, bis_within, entry, evSs, evS, evE, evEs]
  rcases hx with ⟨i, h⟩ | h | h
  · subst h
    simp [asg_v, noneW, allD, eqAll, nodAll, depAll, varW, idxW, seqW, cmpW, cmpP, vw, cmpD, eqOk, nod, dep, eqD, truW, truD, b1W, binW, binD, lenW, srcW, rcv1, tyOf, Fr.pur, ofP, m1W, int?, slW, slD, isiW, isTy, kindOk, isD, isW, inStr, nod_ones, T_beq, nod_strs, dep_strs, b2W, eq_nil, h1, cmpOk, alk, ordOk, isNo, ltD, withinP]
    by_cases e : i < 0
    · have e2 : ¬ (0 ≤ i ∧ i ≤ 1000002) := by omega
      have e3 : ¬ 0 ≤ i := by omega
      simp [asg_v, noneW, allD, eqAll, nodAll, depAll, varW, idxW, seqW, cmpW, cmpP, vw, cmpD, eqOk, nod, dep, eqD, truW, truD, b1W, binW, binD, lenW, srcW, rcv1, tyOf, Fr.pur, ofP, m1W, int?, slW, slD, isiW, isTy, kindOk, isD, isW, inStr, nod_ones, T_beq, nod_strs, dep_strs, b2W, eq_nil, e, e3]
    · have e3 : 0 ≤ i := by omega
      simp [asg_v, noneW, allD, eqAll, nodAll, depAll, varW, idxW, seqW, cmpW, cmpP, vw, cmpD, eqOk, nod, dep, eqD, truW, truD, b1W, binW, binD, lenW, srcW, rcv1, tyOf, Fr.pur, ofP, m1W, int?, slW, slD, isiW, isTy, kindOk, isD, isW, inStr, nod_ones, T_beq, nod_strs, dep_strs, b2W, eq_nil, e, e3]
      by_cases e4 : 1000002 < i
      · have : ¬ i ≤ 1000002 := by omega
        simp [asg_v, noneW, allD, eqAll, nodAll, depAll, varW, idxW, seqW, cmpW, cmpP, vw, cmpD, eqOk, nod, dep, eqD, truW, truD, b1W, binW, binD, lenW, srcW, rcv1, tyOf, Fr.pur, ofP, m1W, int?, slW, slD, isiW, isTy, kindOk, isD, isW, inStr, nod_ones, T_beq, nod_strs, dep_strs, b2W, eq_nil, e4, this]
      · have : i ≤ 1000002 := by omega
        simp [asg_v, noneW, allD, eqAll, nodAll, depAll, varW, idxW, seqW, cmpW, cmpP, vw, cmpD, eqOk, nod, dep, eqD, truW, truD, b1W, binW, binD, lenW, srcW, rcv1, tyOf, Fr.pur, ofP, m1W, int?, slW, slD, isiW, isTy, kindOk, isD, isW, inStr, nod_ones, T_beq, nod_strs, dep_strs, b2W, eq_nil, e4, this]
  · subst h
    simp [asg_v, noneW, allD, eqAll, nodAll, depAll, varW, idxW, seqW, cmpW, cmpP, vw, cmpD, eqOk, nod, dep, eqD, truW, truD, b1W, binW, binD, lenW, srcW, rcv1, tyOf, Fr.pur, ofP, m1W, int?, slW, slD, isiW, isTy, kindOk, isD, isW, inStr, nod_ones, T_beq, nod_strs, dep_strs, b2W, eq_nil, h1, withinP]
  · subst h
    simp [asg_v, noneW, allD, eqAll, nodAll, depAll, varW, idxW, seqW, cmpW, cmpP, vw, cmpD, eqOk, nod, dep, eqD, truW, truD, b1W, binW, binD, lenW, srcW, rcv1, tyOf, Fr.pur, ofP, m1W, int?, slW, slD, isiW, isTy, kindOk, isD, isW, inStr, nod_ones, T_beq, nod_strs, dep_strs, b2W, eq_nil, h1, withinP]
theorem seal_ok {b : Int} {t : List Nat} {st : Sto} {j : Nat} (h1 : 0 ≤ b) (h2 : b < 1000003) (hl : t.length ≤ 1000) (hr : recP t = true) : callD EP R0 (j + 3) "seal" [.d (.int b), .d (dStr t)] st = .ok (.d (.int (sealP b t))) st := by
  have hw := within_ok (x := .int b) (st := st) (j := j) (.inl ⟨b, rfl⟩)
  have : withinP (.int b) = true := by simp [asg_v, noneW, allD, eqAll, nodAll, depAll, varW, idxW, seqW, cmpW, cmpP, vw, cmpD, eqOk, nod, dep, eqD, truW, truD, b1W, binW, binD, lenW, srcW, rcv1, tyOf, Fr.pur, ofP, m1W, int?, slW, slD, isiW, isTy, kindOk, isD, isW, inStr, nod_ones, T_beq, nod_strs, dep_strs, b2W, eq_nil, withinP]; omega
  rw [this] at hw
  rw [callD_fn (fn := fseal) rfl _ _ rfl]
  simp only [fseal, bseal, entry, evSs, evS, evC, evE, evEs]
  simp [asg_v, noneW, allD, eqAll, nodAll, depAll, varW, idxW, seqW, cmpW, cmpP, vw, cmpD, eqOk, nod, dep, eqD, truW, truD, b1W, binW, binD, lenW, srcW, rcv1, tyOf, Fr.pur, ofP, m1W, int?, slW, slD, isiW, isTy, kindOk, isD, isW, inStr, nod_ones, T_beq, nod_strs, dep_strs, b2W, eq_nil, gW, hw, rec_ok hl, hr, told_seal_ok hl]
def noNum : List D := [.int (-1), .int 1000003, .none, .bool true]
theorem noNum_no {x : D} (hx : x ∈ noNum) : ((∃ i, x = .int i) ∨ x = .none ∨ x = .bool true) ∧ withinP x = false := by
  simp only [noNum, List.mem_cons, List.not_mem_nil, or_false] at hx
  rcases hx with h | h | h | h <;> subst h
  · exact ⟨.inl ⟨_, rfl⟩, by decide⟩
  · exact ⟨.inl ⟨_, rfl⟩, by decide⟩
  · exact ⟨.inr (.inl rfl), rfl⟩
  · exact ⟨.inr (.inr rfl), rfl⟩
theorem seal_num {x y : D} {st : Sto} {j : Nat} (hx : x ∈ noNum) : callD EP R0 (j + 3) "seal" [.d x, .d y] st = .exn (bad1 "BadNumber" x) st := by
  obtain ⟨h1, h2⟩ := noNum_no hx
  have hw := within_ok (st := st) (j := j) h1
  rw [h2] at hw
  rw [callD_fn (fn := fseal) rfl _ _ rfl]
  simp only [fseal, bseal, entry, evSs, evS, evC, evE, evEs]
  simp [asg_v, noneW, allD, eqAll, nodAll, depAll, varW, idxW, seqW, cmpW, cmpP, vw, cmpD, eqOk, nod, dep, eqD, truW, truD, b1W, binW, binD, lenW, srcW, rcv1, tyOf, Fr.pur, ofP, m1W, int?, slW, slD, isiW, isTy, kindOk, isD, isW, inStr, nod_ones, T_beq, nod_strs, dep_strs, b2W, eq_nil, gW, hw, xn, next_exn, exit_exn]
theorem seal_txt {x : D} {st : Sto} {j : Nat} (hx : x ∈ noRec) : callD EP R0 (j + 3) "seal" [.d (.int 0), .d x] st = .exn (bad1 "BadText" x) st := by
  have hw := within_ok (x := .int 0) (st := st) (j := j) (.inl ⟨0, rfl⟩)
  have : withinP (.int 0) = true := by decide
  rw [this] at hw
  rw [callD_fn (fn := fseal) rfl _ _ rfl]
  simp only [fseal, bseal, entry, evSs, evS, evC, evE, evEs]
  simp [asg_v, noneW, allD, eqAll, nodAll, depAll, varW, idxW, seqW, cmpW, cmpP, vw, cmpD, eqOk, nod, dep, eqD, truW, truD, b1W, binW, binD, lenW, srcW, rcv1, tyOf, Fr.pur, ofP, m1W, int?, slW, slD, isiW, isTy, kindOk, isD, isW, inStr, nod_ones, T_beq, nod_strs, dep_strs, b2W, eq_nil, gW, hw, rec_no hx, xt, next_exn, exit_exn]
end HT
end

section
set_option Elab.async false
set_option linter.all false
set_option maxRecDepth 100000
set_option autoImplicit false
set_option maxHeartbeats 4000000
namespace HT
open PySem FM
def fbP : Int → List Int → List Int → D
  | k, u :: us, v :: vs => if u = v then fbP (k + 1) us vs else .int k
  | _, _, _ => .none
def swB : FM.Ss := .cons (.ife (.not (.e (.call "is_within" (.cons (.var 3) (.cons (.int 0) (.cons (.bin .sub (.glob "WHOLE") (.int 1)) (.nil))))))) (.cons (.raise "BadSeals" (.cons (.var 2) .nil)) (.nil)) (.nil)) (.nil)
def fbB : FM.Ss := .cons (.ife (.e (.cmp .ne (.var 3) (.var 4))) (.cons (.ret (.var 2)) (.nil)) (.nil)) (.nil)
theorem asg_zz (k : Int) (u v : D) (ρ : FM.Env) : asgT (.t [.v 2, .t [.v 3, .v 4]]) (.d (.tuple [.int k, .tuple [u, v]])) ρ = some (((ρ.set 2 (some (.d (.int k)))).set 3 (some (.d u))).set 4 (some (.d v))) := rfl
theorem fb_loop {g : Option Nat} {st : Sto} {Φ : FM.Call} : ∀ (us vs : List Int) (k : Int) (ρ : FM.Env), ρ.length = 5 →
    okO (forL g (fun w ρ st => match asgT (.t [.v 2, .t [.v 3, .v 4]]) w ρ with | some ρ' => evSs EP R0 Φ fbB ρ' st | none => .bad) ((enumL k (zipL (us.map .int) (vs.map .int))).map .d) ρ st) (fun _ st' => st' = st ∧ fbP k us vs = .none) (fun w st' => st' = st ∧ w = .d (fbP k us vs))
  | [], vs, k, ρ, h => by cases vs <;> simp [asg_v, noneW, allD, eqAll, nodAll, depAll, varW, idxW, seqW, cmpW, cmpP, vw, cmpD, eqOk, nod, dep, eqD, truW, truD, b1W, binW, binD, lenW, srcW, rcv1, tyOf, Fr.pur, ofP, m1W, int?, slW, slD, isiW, isTy, kindOk, isD, isW, inStr, nod_ones, T_beq, nod_strs, dep_strs, b2W, eq_nil, zipL, enumL, forL, fbP]
  | u :: us, [], k, ρ, h => by simp [asg_v, noneW, allD, eqAll, nodAll, depAll, varW, idxW, seqW, cmpW, cmpP, vw, cmpD, eqOk, nod, dep, eqD, truW, truD, b1W, binW, binD, lenW, srcW, rcv1, tyOf, Fr.pur, ofP, m1W, int?, slW, slD, isiW, isTy, kindOk, isD, isW, inStr, nod_ones, T_beq, nod_strs, dep_strs, b2W, eq_nil, zipL, enumL, forL, fbP]
  | u :: us, v :: vs, k, ρ, h => by
    have e2 : varW (((ρ.set 2 (some (.d (.int k)))).set 3 (some (.d (.int u)))).set 4 (some (.d (.int v)))) 2 = some (.d (.int k)) := by simp [asg_v, noneW, allD, eqAll, nodAll, depAll, varW, idxW, seqW, cmpW, cmpP, vw, cmpD, eqOk, nod, dep, eqD, truW, truD, b1W, binW, binD, lenW, srcW, rcv1, tyOf, Fr.pur, ofP, m1W, int?, slW, slD, isiW, isTy, kindOk, isD, isW, inStr, nod_ones, T_beq, nod_strs, dep_strs, b2W, eq_nil, h]
    have e3 : varW (((ρ.set 2 (some (.d (.int k)))).set 3 (some (.d (.int u)))).set 4 (some (.d (.int v)))) 3 = some (.d (.int u)) := by simp [asg_v, noneW, allD, eqAll, nodAll, depAll, varW, idxW, seqW, cmpW, cmpP, vw, cmpD, eqOk, nod, dep, eqD, truW, truD, b1W, binW, binD, lenW, srcW, rcv1, tyOf, Fr.pur, ofP, m1W, int?, slW, slD, isiW, isTy, kindOk, isD, isW, inStr, nod_ones, T_beq, nod_strs, dep_strs, b2W, eq_nil, h]
    have e4 : varW (((ρ.set 2 (some (.d (.int k)))).set 3 (some (.d (.int u)))).set 4 (some (.d (.int v)))) 4 = some (.d (.int v)) := by simp [asg_v, noneW, allD, eqAll, nodAll, depAll, varW, idxW, seqW, cmpW, cmpP, vw, cmpD, eqOk, nod, dep, eqD, truW, truD, b1W, binW, binD, lenW, srcW, rcv1, tyOf, Fr.pur, ofP, m1W, int?, slW, slD, isiW, isTy, kindOk, isD, isW, inStr, nod_ones, T_beq, nod_strs, dep_strs, b2W, eq_nil, h]
    have ih := fb_loop (g := g) (st := st) (Φ := Φ) us vs (k + 1) (((ρ.set 2 (some (.d (.int k)))).set 3 (some (.d (.int u)))).set 4 (some (.d (.int v)))) (by simp [asg_v, noneW, allD, eqAll, nodAll, depAll, varW, idxW, seqW, cmpW, cmpP, vw, cmpD, eqOk, nod, dep, eqD, truW, truD, b1W, binW, binD, lenW, srcW, rcv1, tyOf, Fr.pur, ofP, m1W, int?, slW, slD, isiW, isTy, kindOk, isD, isW, inStr, nod_ones, T_beq, nod_strs, dep_strs, b2W, eq_nil, h])
    have hb : evSs EP R0 Φ fbB (((ρ.set 2 (some (.d (.int k)))).set 3 (some (.d (.int u)))).set 4 (some (.d (.int v)))) st = if u = v then .nx (((ρ.set 2 (some (.d (.int k)))).set 3 (some (.d (.int u)))).set 4 (some (.d (.int v)))) st else .rt (.d (.int k)) st := by
      simp only [fbB, evSs, evS, evC, evE, e2, e3, e4, Res.of_some, Res.bind_ok]
      by_cases huv : u = v
      · simp [asg_v, noneW, allD, eqAll, nodAll, depAll, varW, idxW, seqW, cmpW, cmpP, vw, cmpD, eqOk, nod, dep, eqD, truW, truD, b1W, binW, binD, lenW, srcW, rcv1, tyOf, Fr.pur, ofP, m1W, int?, slW, slD, isiW, isTy, kindOk, isD, isW, inStr, nod_ones, T_beq, nod_strs, dep_strs, b2W, eq_nil, huv]
      · have : (u == v) = false := by simp [asg_v, noneW, allD, eqAll, nodAll, depAll, varW, idxW, seqW, cmpW, cmpP, vw, cmpD, eqOk, nod, dep, eqD, truW, truD, b1W, binW, binD, lenW, srcW, rcv1, tyOf, Fr.pur, ofP, m1W, int?, slW, slD, isiW, isTy, kindOk, isD, isW, inStr, nod_ones, T_beq, nod_strs, dep_strs, b2W, eq_nil, huv]
        simp [asg_v, noneW, allD, eqAll, nodAll, depAll, varW, idxW, seqW, cmpW, cmpP, vw, cmpD, eqOk, nod, dep, eqD, truW, truD, b1W, binW, binD, lenW, srcW, rcv1, tyOf, Fr.pur, ofP, m1W, int?, slW, slD, isiW, isTy, kindOk, isD, isW, inStr, nod_ones, T_beq, nod_strs, dep_strs, b2W, eq_nil, huv, this]
    simp only [List.map_cons, zipL, enumL, forL, asg_zz, hb, fbP]
    by_cases huv : u = v
    · simp only [huv, if_true, still_refl]
      rw [huv] at ih
      exact ih
    · simp [asg_v, noneW, allD, eqAll, nodAll, depAll, varW, idxW, seqW, cmpW, cmpP, vw, cmpD, eqOk, nod, dep, eqD, truW, truD, b1W, binW, binD, lenW, srcW, rcv1, tyOf, Fr.pur, ofP, m1W, int?, slW, slD, isiW, isTy, kindOk, isD, isW, inStr, nod_ones, T_beq, nod_strs, dep_strs, b2W, eq_nil, huv]
theorem sw_step {st : Sto} {j : Nat} {i k : Int} {ρ : FM.Env} (h1 : 0 ≤ i) (h2 : i < 1000003) (hρ : ρ.length = 5) : (match asgT (.t [.v 2, .v 3]) (.d (.tuple [.int k, .int i])) ρ with | some ρ' => evSs EP R0 (callD EP R0 (j + 2)) swB ρ' st | none => .bad) = .nx ((ρ.set 2 (some (.d (.int k)))).set 3 (some (.d (.int i)))) st := by
  have e1 : varW ((ρ.set 2 (some (.d (.int k)))).set 3 (some (.d (.int i)))) 3 = some (.d (.int i)) := by simp [asg_v, noneW, allD, eqAll, nodAll, depAll, varW, idxW, seqW, cmpW, cmpP, vw, cmpD, eqOk, nod, dep, eqD, truW, truD, b1W, binW, binD, lenW, srcW, rcv1, tyOf, Fr.pur, ofP, m1W, int?, slW, slD, isiW, isTy, kindOk, isD, isW, inStr, nod_ones, T_beq, nod_strs, dep_strs, b2W, eq_nil, hρ]
  have hw := within_ok (x := .int i) (st := st) (j := j) (.inl ⟨i, rfl⟩)
  have : withinP (.int i) = true := by simp [asg_v, noneW, allD, eqAll, nodAll, depAll, varW, idxW, seqW, cmpW, cmpP, vw, cmpD, eqOk, nod, dep, eqD, truW, truD, b1W, binW, binD, lenW, srcW, rcv1, tyOf, Fr.pur, ofP, m1W, int?, slW, slD, isiW, isTy, kindOk, isD, isW, inStr, nod_ones, T_beq, nod_strs, dep_strs, b2W, eq_nil, withinP]; omega
  rw [this] at hw
  simp only [asg_ix, swB, evSs, evS, evC, evE, evEs, e1, gW, Res.of_some, Res.bind_ok]
  simp [asg_v, noneW, allD, eqAll, nodAll, depAll, varW, idxW, seqW, cmpW, cmpP, vw, cmpD, eqOk, nod, dep, eqD, truW, truD, b1W, binW, binD, lenW, srcW, rcv1, tyOf, Fr.pur, ofP, m1W, int?, slW, slD, isiW, isTy, kindOk, isD, isW, inStr, nod_ones, T_beq, nod_strs, dep_strs, b2W, eq_nil, hw]
theorem sw_bad {st : Sto} {j : Nat} {x : D} {k : Int} {ρ : FM.Env} (hx : x ∈ noNum) (hρ : ρ.length = 5) : (match asgT (.t [.v 2, .v 3]) (.d (.tuple [.int k, x])) ρ with | some ρ' => evSs EP R0 (callD EP R0 (j + 2)) swB ρ' st | none => .bad) = .exn (bad1 "BadSeals" (.int k)) st := by
  have e1 : varW ((ρ.set 2 (some (.d (.int k)))).set 3 (some (.d x))) 3 = some (.d x) := by simp [asg_v, noneW, allD, eqAll, nodAll, depAll, varW, idxW, seqW, cmpW, cmpP, vw, cmpD, eqOk, nod, dep, eqD, truW, truD, b1W, binW, binD, lenW, srcW, rcv1, tyOf, Fr.pur, ofP, m1W, int?, slW, slD, isiW, isTy, kindOk, isD, isW, inStr, nod_ones, T_beq, nod_strs, dep_strs, b2W, eq_nil, hρ]
  have e2 : varW ((ρ.set 2 (some (.d (.int k)))).set 3 (some (.d x))) 2 = some (.d (.int k)) := by simp [asg_v, noneW, allD, eqAll, nodAll, depAll, varW, idxW, seqW, cmpW, cmpP, vw, cmpD, eqOk, nod, dep, eqD, truW, truD, b1W, binW, binD, lenW, srcW, rcv1, tyOf, Fr.pur, ofP, m1W, int?, slW, slD, isiW, isTy, kindOk, isD, isW, inStr, nod_ones, T_beq, nod_strs, dep_strs, b2W, eq_nil, hρ]
  obtain ⟨h1, h2⟩ := noNum_no hx
  have hw := within_ok (st := st) (j := j) h1
  rw [h2] at hw
  simp only [asg_ix, swB, evSs, evS, evC, evE, evEs, e1, e2, gW, Res.of_some, Res.bind_ok]
  simp [asg_v, noneW, allD, eqAll, nodAll, depAll, varW, idxW, seqW, cmpW, cmpP, vw, cmpD, eqOk, nod, dep, eqD, truW, truD, b1W, binW, binD, lenW, srcW, rcv1, tyOf, Fr.pur, ofP, m1W, int?, slW, slD, isiW, isTy, kindOk, isD, isW, inStr, nod_ones, T_beq, nod_strs, dep_strs, b2W, eq_nil, hw, xs, bad1]
theorem fb_if {w v : W} {xs ys : List D} {st : Sto} {j : Nat} {l : List (Option W)} (hw : RowW st w xs) (hv : RowW st v ys) : evC EP R0 (callD EP R0 (j + 1)) (.or (.not (.e (.call "is_row" (.cons (.var 1) (.nil))))) (.e (.cmp .ne (.b1 .len (.var 1)) (.b1 .len (.var 0))))) (some w :: some v :: l) st = .ok (decide (ys.length ≠ xs.length)) st := by
  have l1 : b1W R0 st .len w = some (.d (.int xs.length)) := by
    show (lenW st w).map _ = _
    rw [hw.len]
    rfl
  have l2 : b1W R0 st .len v = some (.d (.int ys.length)) := by
    show (lenW st v).map _ = _
    rw [hv.len]
    rfl
  simp only [evC, evE, evEs, varW, List.getElem?_cons_zero, List.getElem?_cons_succ, Res.of_some, Res.bind_ok, row_ok hv, truW, truD, Bool.not_true, Bool.false_eq_true, if_false, l1, l2]
  by_cases h : ys.length = xs.length
  · simp [asg_v, noneW, allD, eqAll, nodAll, depAll, varW, idxW, seqW, cmpW, cmpP, vw, cmpD, eqOk, nod, dep, eqD, truW, truD, b1W, binW, binD, lenW, srcW, rcv1, tyOf, Fr.pur, ofP, m1W, int?, slW, slD, isiW, isTy, kindOk, isD, isW, inStr, nod_ones, T_beq, nod_strs, dep_strs, b2W, eq_nil, h]
  · have : ((ys.length : Int) == xs.length) = false := by simp [asg_v, noneW, allD, eqAll, nodAll, depAll, varW, idxW, seqW, cmpW, cmpP, vw, cmpD, eqOk, nod, dep, eqD, truW, truD, b1W, binW, binD, lenW, srcW, rcv1, tyOf, Fr.pur, ofP, m1W, int?, slW, slD, isiW, isTy, kindOk, isD, isW, inStr, nod_ones, T_beq, nod_strs, dep_strs, b2W, eq_nil]; omega
    simp [asg_v, noneW, allD, eqAll, nodAll, depAll, varW, idxW, seqW, cmpW, cmpP, vw, cmpD, eqOk, nod, dep, eqD, truW, truD, b1W, binW, binD, lenW, srcW, rcv1, tyOf, Fr.pur, ofP, m1W, int?, slW, slD, isiW, isTy, kindOk, isD, isW, inStr, nod_ones, T_beq, nod_strs, dep_strs, b2W, eq_nil, h, this]
theorem fb_ok {w v : W} {ts : List (List Nat)} {us : List Int} {st : Sto} {j : Nat} (hw : RowW st w (ts.map dStr)) (hv : RowW st v (us.map .int)) (hl : ts.length ≤ 100) (hr : ∀ t ∈ ts, recP t = true ∧ t.length ≤ 1000) (hlen : us.length = ts.length) (hu : ∀ i ∈ us, 0 ≤ i ∧ i < 1000003) : callD EP R0 (j + 3) "first_broken" [w, v] st = .ok (.d (fbP 0 us (sealsP 0 ts))) st := by
  suffices hq : okR (callD EP R0 (j + 3) "first_broken" [w, v] st) fun w st' => st' = st ∧ w = .d (fbP 0 us (sealsP 0 ts)) by
    obtain ⟨w, st', h1, rfl, rfl⟩ := okR_ex hq
    exact h1
  rw [callD_fn (fn := ffirst_broken) rfl _ _ rfl]
  apply exit_pure
  show okO (evSs EP R0 (callD EP R0 (j + 2)) bfirst_broken [some w, some v, none, none, none] st) _ _
  have c0 := check_ok (st := st) (j := j) hw hl hr
  have S1 := fb_if (st := st) (j := j + 1) (l := [none, none, none]) hw hv
  rw [decide_eq_false (by simp [asg_v, noneW, allD, eqAll, nodAll, depAll, varW, idxW, seqW, cmpW, cmpP, vw, cmpD, eqOk, nod, dep, eqD, truW, truD, b1W, binW, binD, lenW, srcW, rcv1, tyOf, Fr.pur, ofP, m1W, int?, slW, slD, isiW, isTy, kindOk, isD, isW, inStr, nod_ones, T_beq, nod_strs, dep_strs, b2W, eq_nil, hlen])] at S1
  have S2 : ∃ ρ', evS EP R0 (callD EP R0 (j + 2)) (.for (.t [.v 2, .v 3]) (.enum (.var 1) 0) swB) [some w, some v, none, none, none] st = .nx ρ' st ∧ ρ'.length = 5 ∧ ρ'[0]? = some (some w) ∧ ρ'[1]? = some (some v) := by
    rw [evS, evI, evE]
    simp only [varW, List.getElem?_cons_zero, List.getElem?_cons_succ, Res.of_some, Res.bind_ok, hv.seqD, Res.out_ok]
    obtain ⟨ρ', h1, h2, h3, h4⟩ := enum_loop (g := guardOf v) (step := fun w ρ st => match asgT (.t [.v 2, .v 3]) w ρ with | some ρ' => evSs EP R0 (callD EP R0 (j + 2)) swB ρ' st | none => .bad) (st := st) (fun ρ => ρ.length = 5 ∧ ρ[0]? = some (some w) ∧ ρ[1]? = some (some v)) (us.map .int) 0 [some w, some v, none, none, none] ⟨rfl, rfl, rfl⟩ (fun x hx k ρ ⟨hρ, q0, q1⟩ => by
      obtain ⟨i, hi, rfl⟩ := List.mem_map.mp hx
      exact ⟨_, sw_step (hu i hi).1 (hu i hi).2 hρ, by simp [asg_v, noneW, allD, eqAll, nodAll, depAll, varW, idxW, seqW, cmpW, cmpP, vw, cmpD, eqOk, nod, dep, eqD, truW, truD, b1W, binW, binD, lenW, srcW, rcv1, tyOf, Fr.pur, ofP, m1W, int?, slW, slD, isiW, isTy, kindOk, isD, isW, inStr, nod_ones, T_beq, nod_strs, dep_strs, b2W, eq_nil, hρ], by simp [asg_v, noneW, allD, eqAll, nodAll, depAll, varW, idxW, seqW, cmpW, cmpP, vw, cmpD, eqOk, nod, dep, eqD, truW, truD, b1W, binW, binD, lenW, srcW, rcv1, tyOf, Fr.pur, ofP, m1W, int?, slW, slD, isiW, isTy, kindOk, isD, isW, inStr, nod_ones, T_beq, nod_strs, dep_strs, b2W, eq_nil, q0], by simp [asg_v, noneW, allD, eqAll, nodAll, depAll, varW, idxW, seqW, cmpW, cmpP, vw, cmpD, eqOk, nod, dep, eqD, truW, truD, b1W, binW, binD, lenW, srcW, rcv1, tyOf, Fr.pur, ofP, m1W, int?, slW, slD, isiW, isTy, kindOk, isD, isW, inStr, nod_ones, T_beq, nod_strs, dep_strs, b2W, eq_nil, q1]⟩)
    exact ⟨ρ', h1, h2, h3, h4⟩
  obtain ⟨ρ', S2, h2, h3, h4⟩ := S2
  have hts := told_seals_ok (st := st) (j := j) hw (by omega) fun t ht => (hr t ht).2
  have S3 : okO (evS EP R0 (callD EP R0 (j + 2)) (.for (.t [.v 2, .t [.v 3, .v 4]]) (.enumz (.var 1) (.call "told_seals" (.cons (.var 0) (.nil)))) fbB) ρ' st) (fun _ st' => st' = st ∧ fbP 0 us (sealsP 0 ts) = .none) (fun w st' => st' = st ∧ w = .d (fbP 0 us (sealsP 0 ts))) := by
    have hsv : FM.seqD st (.d (.list ((sealsP 0 ts).map .int))) = some ((sealsP 0 ts).map .int) := RowW.lst.seqD
    rw [evS, evI]
    simp only [evE, evEs, varW, h3, h4, Res.of_some, Res.bind_ok, hts, hv.seqD, hsv, guardOf, okO_out, okR_ok]
    exact fb_loop us (sealsP 0 ts) 0 ρ' h2
  generalize hB : FM.S.for (.t [.v 2, .t [.v 3, .v 4]]) (.enumz (.var 1) (.call "told_seals" (.cons (.var 0) (.nil)))) fbB = sB at S3
  have hb : bfirst_broken = .cons (.ex (.call "check_texts" (.cons (.var 0) (.nil)))) (.cons (.ife (.or (.not (.e (.call "is_row" (.cons (.var 1) (.nil))))) (.e (.cmp .ne (.b1 .len (.var 1)) (.b1 .len (.var 0))))) (.cons (.raise "BadSeals" (.cons (.neg (.int 1)) .nil)) (.nil)) (.nil)) (.cons (.for (.t [.v 2, .v 3]) (.enum (.var 1) 0) swB) (.cons sB (.cons (.ret (.none)) (.nil))))) := by
    rw [← hB]
    rfl
  rw [hb, evSs, evS]
  simp only [evE, evEs, varW, List.getElem?_cons_zero, Res.of_some, Res.bind_ok, c0, Res.out_ok, Out.next_nx]
  rw [evSs, evS, S1]
  simp only [Res.out_ok, Bool.false_eq_true, if_false]
  rw [evSs, Out.next_nx, evSs, S2, Out.next_nx, evSs, okO_next]
  refine okO_imp (okO_imp S3 (fun ρ st' h => h) (fun w st' h => h) : okO _ (fun _ st' => st' = st ∧ fbP 0 us (sealsP 0 ts) = .none) _) ?_ ?_
  · rintro ρ st' ⟨rfl, h⟩
    simp [asg_v, noneW, allD, eqAll, nodAll, depAll, varW, idxW, seqW, cmpW, cmpP, vw, cmpD, eqOk, nod, dep, eqD, truW, truD, b1W, binW, binD, lenW, srcW, rcv1, tyOf, Fr.pur, ofP, m1W, int?, slW, slD, isiW, isTy, kindOk, isD, isW, inStr, nod_ones, T_beq, nod_strs, dep_strs, b2W, eq_nil, evSs, evS, evE, h]
  · rintro w st' ⟨rfl, rfl⟩
    refine ⟨by simp [asg_v, noneW, allD, eqAll, nodAll, depAll, varW, idxW, seqW, cmpW, cmpP, vw, cmpD, eqOk, nod, dep, eqD, truW, truD, b1W, binW, binD, lenW, srcW, rcv1, tyOf, Fr.pur, ofP, m1W, int?, slW, slD, isiW, isTy, kindOk, isD, isW, inStr, nod_ones, T_beq, nod_strs, dep_strs, b2W, eq_nil], _, rfl, ?_⟩
    simp [asg_v, noneW, allD, eqAll, nodAll, depAll, varW, idxW, seqW, cmpW, cmpP, vw, cmpD, eqOk, nod, dep, eqD, truW, truD, b1W, binW, binD, lenW, srcW, rcv1, tyOf, Fr.pur, ofP, m1W, int?, slW, slD, isiW, isTy, kindOk, isD, isW, inStr, nod_ones, T_beq, nod_strs, dep_strs, b2W, eq_nil]
theorem fb_len {w v : W} {ts : List (List Nat)} {ys : List D} {st : Sto} {j : Nat} (hw : RowW st w (ts.map dStr)) (hv : RowW st v ys) (hl : ts.length ≤ 100) (hr : ∀ t ∈ ts, recP t = true ∧ t.length ≤ 1000) (hlen : ys.length ≠ ts.length) : callD EP R0 (j + 3) "first_broken" [w, v] st = .exn (bad1 "BadSeals" (.int (-1))) st := by
  rw [callD_fn (fn := ffirst_broken) rfl _ _ rfl]
  show exitR .pure st (evSs EP R0 (callD EP R0 (j + 2)) bfirst_broken [some w, some v, none, none, none] st) = _
  have c0 := check_ok (st := st) (j := j) hw hl hr
  have S1 := fb_if (st := st) (j := j + 1) (l := [none, none, none]) hw hv
  rw [decide_eq_true (by simpa [asg_v, noneW, allD, eqAll, nodAll, depAll, varW, idxW, seqW, cmpW, cmpP, vw, cmpD, eqOk, nod, dep, eqD, truW, truD, b1W, binW, binD, lenW, srcW, rcv1, tyOf, Fr.pur, ofP, m1W, int?, slW, slD, isiW, isTy, kindOk, isD, isW, inStr, nod_ones, T_beq, nod_strs, dep_strs, b2W, eq_nil] using hlen)] at S1
  rw [bfirst_broken, evSs, evS]
  simp only [evE, evEs, varW, List.getElem?_cons_zero, Res.of_some, Res.bind_ok, c0, Res.out_ok, Out.next_nx]
  rw [evSs, evS, S1]
  simp [asg_v, noneW, allD, eqAll, nodAll, depAll, varW, idxW, seqW, cmpW, cmpP, vw, cmpD, eqOk, nod, dep, eqD, truW, truD, b1W, binW, binD, lenW, srcW, rcv1, tyOf, Fr.pur, ofP, m1W, int?, slW, slD, isiW, isTy, kindOk, isD, isW, inStr, nod_ones, T_beq, nod_strs, dep_strs, b2W, eq_nil, evSs, evS, evE, evEs, xs, next_exn, exit_exn]
theorem fb_odd {x : D} {st : Sto} {j : Nat} (hx : x ∈ noNum) : callD EP R0 (j + 3) "first_broken" [.d (.list [dStr [97]]), .d (.list [x])] st = .exn (bad1 "BadSeals" (.int 0)) st := by
  rw [callD_fn (fn := ffirst_broken) rfl _ _ rfl]
  show exitR .pure st (evSs EP R0 (callD EP R0 (j + 2)) bfirst_broken [some (.d (.list [dStr [97]])), some (.d (.list [x])), none, none, none] st) = _
  have hw : RowW st (.d (.list [dStr [97]])) ([[97]].map dStr) := RowW.lst
  have hv : RowW st (.d (.list [x])) [x] := RowW.lst
  have c0 := check_ok (st := st) (j := j) hw (by simp [asg_v, noneW, allD, eqAll, nodAll, depAll, varW, idxW, seqW, cmpW, cmpP, vw, cmpD, eqOk, nod, dep, eqD, truW, truD, b1W, binW, binD, lenW, srcW, rcv1, tyOf, Fr.pur, ofP, m1W, int?, slW, slD, isiW, isTy, kindOk, isD, isW, inStr, nod_ones, T_beq, nod_strs, dep_strs, b2W, eq_nil]) (by simp [asg_v, noneW, allD, eqAll, nodAll, depAll, varW, idxW, seqW, cmpW, cmpP, vw, cmpD, eqOk, nod, dep, eqD, truW, truD, b1W, binW, binD, lenW, srcW, rcv1, tyOf, Fr.pur, ofP, m1W, int?, slW, slD, isiW, isTy, kindOk, isD, isW, inStr, nod_ones, T_beq, nod_strs, dep_strs, b2W, eq_nil, recP, pr])
  have S1 := fb_if (st := st) (j := j + 1) (l := [none, none, none]) hw hv
  rw [decide_eq_false (by simp [asg_v, noneW, allD, eqAll, nodAll, depAll, varW, idxW, seqW, cmpW, cmpP, vw, cmpD, eqOk, nod, dep, eqD, truW, truD, b1W, binW, binD, lenW, srcW, rcv1, tyOf, Fr.pur, ofP, m1W, int?, slW, slD, isiW, isTy, kindOk, isD, isW, inStr, nod_ones, T_beq, nod_strs, dep_strs, b2W, eq_nil])] at S1
  have S2 : evS EP R0 (callD EP R0 (j + 2)) (.for (.t [.v 2, .v 3]) (.enum (.var 1) 0) swB) [some (.d (.list [dStr [97]])), some (.d (.list [x])), none, none, none] st = .exn (bad1 "BadSeals" (.int 0)) st := by
    rw [evS, evI, evE]
    simp only [varW, List.getElem?_cons_zero, List.getElem?_cons_succ, Res.of_some, Res.bind_ok, hv.seqD, Res.out_ok]
    have := enum_stop (g := none) (step := fun w ρ st => match asgT (.t [.v 2, .v 3]) w ρ with | some ρ' => evSs EP R0 (callD EP R0 (j + 2)) swB ρ' st | none => .bad) (st := st) (fun ρ => ρ.length = 5) (y := x) (ys := []) (o := fun k => .exn (bad1 "BadSeals" (.int k)) st) (fun k => ⟨fun _ _ => by simp [asg_v, noneW, allD, eqAll, nodAll, depAll, varW, idxW, seqW, cmpW, cmpP, vw, cmpD, eqOk, nod, dep, eqD, truW, truD, b1W, binW, binD, lenW, srcW, rcv1, tyOf, Fr.pur, ofP, m1W, int?, slW, slD, isiW, isTy, kindOk, isD, isW, inStr, nod_ones, T_beq, nod_strs, dep_strs, b2W, eq_nil], fun _ _ => by simp [asg_v, noneW, allD, eqAll, nodAll, depAll, varW, idxW, seqW, cmpW, cmpP, vw, cmpD, eqOk, nod, dep, eqD, truW, truD, b1W, binW, binD, lenW, srcW, rcv1, tyOf, Fr.pur, ofP, m1W, int?, slW, slD, isiW, isTy, kindOk, isD, isW, inStr, nod_ones, T_beq, nod_strs, dep_strs, b2W, eq_nil], fun _ _ => by simp [asg_v, noneW, allD, eqAll, nodAll, depAll, varW, idxW, seqW, cmpW, cmpP, vw, cmpD, eqOk, nod, dep, eqD, truW, truD, b1W, binW, binD, lenW, srcW, rcv1, tyOf, Fr.pur, ofP, m1W, int?, slW, slD, isiW, isTy, kindOk, isD, isW, inStr, nod_ones, T_beq, nod_strs, dep_strs, b2W, eq_nil]⟩) (fun k ρ hρ => sw_bad hx hρ) [] 0 [some (.d (.list [dStr [97]])), some (.d (.list [x])), none, none, none] rfl (fun x hx => by cases hx)
    exact this
  rw [bfirst_broken, evSs, evS]
  simp only [evE, evEs, varW, List.getElem?_cons_zero, Res.of_some, Res.bind_ok, c0, Res.out_ok, Out.next_nx]
  rw [evSs, evS, S1]
  simp only [Res.out_ok, Bool.false_eq_true, if_false]
  rw [evSs, Out.next_nx, evSs]
  rw [show (FM.Ss.cons (.ife (.not (.e (.call "is_within" (.cons (.var 3) (.cons (.int 0) (.cons (.bin .sub (.glob "WHOLE") (.int 1)) (.nil))))))) (.cons (.raise "BadSeals" (.cons (.var 2) .nil)) (.nil)) (.nil)) (.nil)) = swB from rfl, S2, next_exn]
  exact exit_exn
end HT
end

section
set_option Elab.async false
set_option linter.all false
set_option maxRecDepth 100000
set_option autoImplicit false
set_option maxHeartbeats 4000000
namespace HT
open PySem FM
theorem hT : EP.fn "_law_taken" = some ⟨2, 4, .eff, takenB⟩ := rfl
theorem hP : EP.fn "_law_pick" = some ⟨2, 2, .eff, pickB⟩ := rfl
theorem hA : EP.fn "_law_alike" = some ⟨2, 4, .pure, alikeB⟩ := rfl
theorem cmul131 (f : Int) : CMulB f 131 = true := by simp [asg_v, noneW, allD, eqAll, nodAll, depAll, varW, idxW, seqW, cmpW, cmpP, vw, cmpD, eqOk, nod, dep, eqD, truW, truD, b1W, binW, binD, lenW, srcW, rcv1, tyOf, Fr.pur, ofP, m1W, int?, slW, slD, isiW, isTy, kindOk, isD, isW, inStr, nod_ones, T_beq, nod_strs, dep_strs, b2W, eq_nil, CMulB]
def LSI (v0 v1 : Option W) (tot : Int) (st : Sto) (ws : List W) (ρ : FM.Env) (st' : Sto) : Prop := ∃ (l : List Nat) (f : Int) (v3 : Option W), ws = l.map (fun (c : Nat) => .d (dStr [c])) ∧ ρ = [v0, v1, some (.d (.int f)), v3] ∧ st' = st ∧ l.foldl stepS f = tot
theorem law_seal_ok {b : Int} {t : List Nat} {st : Sto} {j : Nat} (hl : t.length ≤ 1000) : callD EP R0 (j + 1) "_law_seal" [.d (.int b), .d (dStr t)] st = .ok (.d (.int (sealP b t))) st := by
  have hSZ : SZ = 16777216 := rfl
  suffices hq : okR (callD EP R0 (j + 1) "_law_seal" [.d (.int b), .d (dStr t)] st) fun w st' => st' = st ∧ w = .d (.int (sealP b t)) by
    obtain ⟨w, st', h1, rfl, rfl⟩ := okR_ex hq
    exact h1
  rw [callD_fn (fn := f_law_seal) rfl _ _ rfl]
  apply exit_pure
  show okO (evSs EP R0 (callD EP R0 j) b_law_seal [some (.d (.int b)), some (.d (dStr t)), none, none] st) _ _
  unfold b_law_seal
  apply seqS (N' := fun ρ st' => ρ = [some (.d (.int b)), some (.d (dStr t)), some (.d (.int b)), none] ∧ st' = st)
  · simp [asg_v, noneW, allD, eqAll, nodAll, depAll, varW, idxW, seqW, cmpW, cmpP, vw, cmpD, eqOk, nod, dep, eqD, truW, truD, b1W, binW, binD, lenW, srcW, rcv1, tyOf, Fr.pur, ofP, m1W, int?, slW, slD, isiW, isTy, kindOk, isD, isW, inStr, nod_ones, T_beq, nod_strs, dep_strs, b2W, eq_nil, evS, evE]
  rintro ρ st1 ⟨rfl, e⟩
  rw [e]
  clear e st1
  apply seqS (N' := LSI (some (.d (.int b))) (some (.d (dStr t))) (t.foldl stepS b) st [])
  · rw [evS, evI, evE]
    have hx : srcW st (.d (dStr t)) = some (t.map fun (c : Nat) => W.d (dStr [c]), none) := by
      simp [asg_v, noneW, allD, eqAll, nodAll, depAll, varW, idxW, seqW, cmpW, cmpP, vw, cmpD, eqOk, nod, dep, eqD, truW, truD, b1W, binW, binD, lenW, srcW, rcv1, tyOf, Fr.pur, ofP, m1W, int?, slW, slD, isiW, isTy, kindOk, isD, isW, inStr, nod_ones, T_beq, nod_strs, dep_strs, b2W, eq_nil, hSZ, show t.length ≤ 16777216 by omega, chars_T]
    simp only [varW, List.getElem?_cons_zero, List.getElem?_cons_succ, Res.of_some, Res.bind_ok, hx, okO_out, okR_ok]
    refine okO_imp (for_inv (Rt := fun _ _ => False) (LSI (some (.d (.int b))) (some (.d (dStr t))) (t.foldl stepS b) st) _ _ _ ?_ ?_) (fun _ _ h => h) (fun _ _ h => h.elim)
    · exact ⟨t, b, none, rfl, rfl, rfl, rfl⟩
    · rintro w r ρ st' ⟨l, f, v3, e1, rfl, rfl, e4⟩
      cases l with
      | nil => simp [asg_v, noneW, allD, eqAll, nodAll, depAll, varW, idxW, seqW, cmpW, cmpP, vw, cmpD, eqOk, nod, dep, eqD, truW, truD, b1W, binW, binD, lenW, srcW, rcv1, tyOf, Fr.pur, ofP, m1W, int?, slW, slD, isiW, isTy, kindOk, isD, isW, inStr, nod_ones, T_beq, nod_strs, dep_strs, b2W, eq_nil] at e1
      | cons c l =>
        simp [asg_v, noneW, allD, eqAll, nodAll, depAll, varW, idxW, seqW, cmpW, cmpP, vw, cmpD, eqOk, nod, dep, eqD, truW, truD, b1W, binW, binD, lenW, srcW, rcv1, tyOf, Fr.pur, ofP, m1W, int?, slW, slD, isiW, isTy, kindOk, isD, isW, inStr, nod_ones, T_beq, nod_strs, dep_strs, b2W, eq_nil] at e1
        obtain ⟨rfl, rfl⟩ := e1
        simp [asg_v, noneW, allD, eqAll, nodAll, depAll, varW, idxW, seqW, cmpW, cmpP, vw, cmpD, eqOk, nod, dep, eqD, truW, truD, b1W, binW, binD, lenW, srcW, rcv1, tyOf, Fr.pur, ofP, m1W, int?, slW, slD, isiW, isTy, kindOk, isD, isW, inStr, nod_ones, T_beq, nod_strs, dep_strs, b2W, eq_nil, evSs, evS, evE, cmul131, still]
        exact ⟨l, stepS f c, _, rfl, rfl, rfl, e4⟩
  rintro ρ st1 ⟨l, f, v3, e1, rfl, rfl, e4⟩
  simp [asg_v, noneW, allD, eqAll, nodAll, depAll, varW, idxW, seqW, cmpW, cmpP, vw, cmpD, eqOk, nod, dep, eqD, truW, truD, b1W, binW, binD, lenW, srcW, rcv1, tyOf, Fr.pur, ofP, m1W, int?, slW, slD, isiW, isTy, kindOk, isD, isW, inStr, nod_ones, T_beq, nod_strs, dep_strs, b2W, eq_nil] at e1
  subst e1
  simp [asg_v, noneW, allD, eqAll, nodAll, depAll, varW, idxW, seqW, cmpW, cmpP, vw, cmpD, eqOk, nod, dep, eqD, truW, truD, b1W, binW, binD, lenW, srcW, rcv1, tyOf, Fr.pur, ofP, m1W, int?, slW, slD, isiW, isTy, kindOk, isD, isW, inStr, nod_ones, T_beq, nod_strs, dep_strs, b2W, eq_nil] at e4
  subst e4
  simp [asg_v, noneW, allD, eqAll, nodAll, depAll, varW, idxW, seqW, cmpW, cmpP, vw, cmpD, eqOk, nod, dep, eqD, truW, truD, b1W, binW, binD, lenW, srcW, rcv1, tyOf, Fr.pur, ofP, m1W, int?, slW, slD, isiW, isTy, kindOk, isD, isW, inStr, nod_ones, T_beq, nod_strs, dep_strs, b2W, eq_nil, evSs, evS, evE, cmul131, sealP, stepS]
/-! ### what a change breaks -/
def endP (b : Int) (p : List (List Nat)) : Int := p.foldl sealP b
theorem sealsP_app : ∀ (p r : List (List Nat)) (b : Int), sealsP b (p ++ r) = sealsP b p ++ sealsP (endP b p) r
  | [], r, b => rfl
  | t :: p, r, b => by simp [asg_v, noneW, allD, eqAll, nodAll, depAll, varW, idxW, seqW, cmpW, cmpP, vw, cmpD, eqOk, nod, dep, eqD, truW, truD, b1W, binW, binD, lenW, srcW, rcv1, tyOf, Fr.pur, ofP, m1W, int?, slW, slD, isiW, isTy, kindOk, isD, isW, inStr, nod_ones, T_beq, nod_strs, dep_strs, b2W, eq_nil, sealsP, endP, sealsP_app p r (sealP b t)]
theorem endP_bd (p : List (List Nat)) : ∀ b : Int, 0 ≤ b → b < 1000003 → 0 ≤ endP b p ∧ endP b p < 1000003 := by
  induction p with
  | nil => intro b h1 h2; exact ⟨h1, h2⟩
  | cons t p ih => intro b _ _; exact ih _ (seal_bd b t).1 (seal_bd b t).2
theorem seals_bd : ∀ (ts : List (List Nat)) (b : Int), ∀ i ∈ sealsP b ts, 0 ≤ i ∧ i < 1000003
  | [], b, i, h => by simp [asg_v, noneW, allD, eqAll, nodAll, depAll, varW, idxW, seqW, cmpW, cmpP, vw, cmpD, eqOk, nod, dep, eqD, truW, truD, b1W, binW, binD, lenW, srcW, rcv1, tyOf, Fr.pur, ofP, m1W, int?, slW, slD, isiW, isTy, kindOk, isD, isW, inStr, nod_ones, T_beq, nod_strs, dep_strs, b2W, eq_nil, sealsP] at h
  | t :: ts, b, i, h => by
    simp only [sealsP, List.mem_cons] at h
    rcases h with rfl | h
    · exact seal_bd b t
    · exact seals_bd ts _ i h
theorem seals_diff : ∀ (q : List (List Nat)) (b c : Int), 0 ≤ b → b < 1000003 → 0 ≤ c → c < 1000003 → b ≠ c → ∀ (k : Nat) (x y : Int), (sealsP b q)[k]? = some x → (sealsP c q)[k]? = some y → x ≠ y
  | [], b, c, _, _, _, _, _, k, x, y, h, _ => by simp [asg_v, noneW, allD, eqAll, nodAll, depAll, varW, idxW, seqW, cmpW, cmpP, vw, cmpD, eqOk, nod, dep, eqD, truW, truD, b1W, binW, binD, lenW, srcW, rcv1, tyOf, Fr.pur, ofP, m1W, int?, slW, slD, isiW, isTy, kindOk, isD, isW, inStr, nod_ones, T_beq, nod_strs, dep_strs, b2W, eq_nil, sealsP] at h
  | t :: q, b, c, h1, h2, h3, h4, hn, k, x, y, e1, e2 => by
    have hd : sealP b t ≠ sealP c t := fun z => hn (seal_inj h1 h2 h3 h4 z)
    cases k with
    | zero =>
      simp [asg_v, noneW, allD, eqAll, nodAll, depAll, varW, idxW, seqW, cmpW, cmpP, vw, cmpD, eqOk, nod, dep, eqD, truW, truD, b1W, binW, binD, lenW, srcW, rcv1, tyOf, Fr.pur, ofP, m1W, int?, slW, slD, isiW, isTy, kindOk, isD, isW, inStr, nod_ones, T_beq, nod_strs, dep_strs, b2W, eq_nil, sealsP] at e1 e2
      rw [← e1, ← e2]
      exact hd
    | succ k =>
      simp [asg_v, noneW, allD, eqAll, nodAll, depAll, varW, idxW, seqW, cmpW, cmpP, vw, cmpD, eqOk, nod, dep, eqD, truW, truD, b1W, binW, binD, lenW, srcW, rcv1, tyOf, Fr.pur, ofP, m1W, int?, slW, slD, isiW, isTy, kindOk, isD, isW, inStr, nod_ones, T_beq, nod_strs, dep_strs, b2W, eq_nil, sealsP] at e1 e2
      exact seals_diff q _ _ (seal_bd b t).1 (seal_bd b t).2 (seal_bd c t).1 (seal_bd c t).2 hd k x y e1 e2
theorem fbP_self : ∀ (us : List Int) (k : Int), fbP k us us = .none
  | [], k => rfl
  | u :: us, k => by simp [asg_v, noneW, allD, eqAll, nodAll, depAll, varW, idxW, seqW, cmpW, cmpP, vw, cmpD, eqOk, nod, dep, eqD, truW, truD, b1W, binW, binD, lenW, srcW, rcv1, tyOf, Fr.pur, ofP, m1W, int?, slW, slD, isiW, isTy, kindOk, isD, isW, inStr, nod_ones, T_beq, nod_strs, dep_strs, b2W, eq_nil, fbP, fbP_self us]
theorem fbP_at : ∀ (A : List Int) (k : Int) {x y : Int} {X Y : List Int}, x ≠ y → fbP k (A ++ x :: X) (A ++ y :: Y) = .int (k + A.length)
  | [], k, x, y, X, Y, h => by simp [asg_v, noneW, allD, eqAll, nodAll, depAll, varW, idxW, seqW, cmpW, cmpP, vw, cmpD, eqOk, nod, dep, eqD, truW, truD, b1W, binW, binD, lenW, srcW, rcv1, tyOf, Fr.pur, ofP, m1W, int?, slW, slD, isiW, isTy, kindOk, isD, isW, inStr, nod_ones, T_beq, nod_strs, dep_strs, b2W, eq_nil, fbP, h]
  | a :: A, k, x, y, X, Y, h => by
    simp only [List.cons_append, fbP, if_true]
    rw [fbP_at A (k + 1) h]
    simp [asg_v, noneW, allD, eqAll, nodAll, depAll, varW, idxW, seqW, cmpW, cmpP, vw, cmpD, eqOk, nod, dep, eqD, truW, truD, b1W, binW, binD, lenW, srcW, rcv1, tyOf, Fr.pur, ofP, m1W, int?, slW, slD, isiW, isTy, kindOk, isD, isW, inStr, nod_ones, T_beq, nod_strs, dep_strs, b2W, eq_nil]
    omega
/-- a record with one sign changed -/
theorem wrong_facts {p q : List (List Nat)} {l r : List Nat} {c d : Nat} (hc : c < 1000) (hd : d < 1000) (h : c ≠ d) :
    (∃ x y X Y, sealsP 0 (p ++ (l ++ c :: r) :: q) = sealsP 0 p ++ x :: X ∧ sealsP 0 (p ++ (l ++ d :: r) :: q) = sealsP 0 p ++ y :: Y ∧ x ≠ y ∧ X.length = q.length ∧ Y.length = q.length ∧ ∀ (k : Nat) (u v : Int), (x :: X)[k]? = some u → (y :: Y)[k]? = some v → u ≠ v) := by
  have hb := endP_bd p 0 (by decide) (by decide)
  have hn : sealP (endP 0 p) (l ++ c :: r) ≠ sealP (endP 0 p) (l ++ d :: r) := fun z => h (seal_chg hb.1 hb.2 hc hd z)
  have b1 := seal_bd (endP 0 p) (l ++ c :: r)
  have b2 := seal_bd (endP 0 p) (l ++ d :: r)
  refine ⟨sealP (endP 0 p) (l ++ c :: r), sealP (endP 0 p) (l ++ d :: r), sealsP (sealP (endP 0 p) (l ++ c :: r)) q, sealsP (sealP (endP 0 p) (l ++ d :: r)) q, by rw [sealsP_app]; rfl, by rw [sealsP_app]; rfl, hn, sealsP_len _ _, sealsP_len _ _, fun k u v e1 e2 => ?_⟩
  cases k with
  | zero =>
    simp [asg_v, noneW, allD, eqAll, nodAll, depAll, varW, idxW, seqW, cmpW, cmpP, vw, cmpD, eqOk, nod, dep, eqD, truW, truD, b1W, binW, binD, lenW, srcW, rcv1, tyOf, Fr.pur, ofP, m1W, int?, slW, slD, isiW, isTy, kindOk, isD, isW, inStr, nod_ones, T_beq, nod_strs, dep_strs, b2W, eq_nil] at e1 e2
    rw [← e1, ← e2]
    exact hn
  | succ k =>
    simp [asg_v, noneW, allD, eqAll, nodAll, depAll, varW, idxW, seqW, cmpW, cmpP, vw, cmpD, eqOk, nod, dep, eqD, truW, truD, b1W, binW, binD, lenW, srcW, rcv1, tyOf, Fr.pur, ofP, m1W, int?, slW, slD, isiW, isTy, kindOk, isD, isW, inStr, nod_ones, T_beq, nod_strs, dep_strs, b2W, eq_nil] at e1 e2
    exact seals_diff q _ _ b1.1 b1.2 b2.1 b2.2 hn k u v e1 e2
end HT
end

section
set_option Elab.async false
set_option linter.all false
set_option maxRecDepth 100000
set_option autoImplicit false
set_option maxHeartbeats 4000000
namespace HT
open PySem FM
def txC (ts : List (List Nat)) : Cell := .lst (ts.map fun t => .d (dStr t))
def duC (us : List Int) : Cell := .lst (us.map fun i => .d (.int i))
theorem txC_row {ts : List (List Nat)} {c : Cell} {r : Sto} : RowW (c :: txC ts :: r) (.ref 1) (ts.map dStr) := RowW.cell (by simp [asg_v, noneW, allD, eqAll, nodAll, depAll, varW, idxW, seqW, cmpW, cmpP, vw, cmpD, eqOk, nod, dep, eqD, truW, truD, b1W, binW, binD, lenW, srcW, rcv1, tyOf, Fr.pur, ofP, m1W, int?, slW, slD, isiW, isTy, kindOk, isD, isW, inStr, nod_ones, T_beq, nod_strs, dep_strs, b2W, eq_nil, txC, Function.comp_def])
theorem duC_row {us : List Int} {c d : Cell} {r : Sto} : RowW (c :: d :: duC us :: r) (.ref 2) (us.map .int) := RowW.cell (by simp [asg_v, noneW, allD, eqAll, nodAll, depAll, varW, idxW, seqW, cmpW, cmpP, vw, cmpD, eqOk, nod, dep, eqD, truW, truD, b1W, binW, binD, lenW, srcW, rcv1, tyOf, Fr.pur, ofP, m1W, int?, slW, slD, isiW, isTy, kindOk, isD, isW, inStr, nod_ones, T_beq, nod_strs, dep_strs, b2W, eq_nil, duC, Function.comp_def])
theorem tx_vw {ts : List (List Nat)} : allD (ts.map fun t => W.d (dStr t)) = some (ts.map dStr) := allD_mapd dStr ts
theorem du_vw {us : List Int} : allD (us.map fun i => W.d (PyData.int i)) = some (us.map .int) := allD_mapd (fun i => .int i) us
theorem cut_up1 {α : Type} (l : List α) (a : Nat) : cut l (some ((a : Int) + 1)) none = l.drop (a + 1) := cut_up l (a + 1)
theorem alike_int {i : Int} {st : Sto} {j : Nat} : callD EP R0 (j + 1) "_law_alike" [.d (.int i), .d (.int i)] st = .ok (.d (.bool true)) st := alike_refl (R := R0) hA 0 (.int i) (.d (.int i)) (.d (.int i)) st j (by simp [asg_v, noneW, allD, eqAll, nodAll, depAll, varW, idxW, seqW, cmpW, cmpP, vw, cmpD, eqOk, nod, dep, eqD, truW, truD, b1W, binW, binD, lenW, srcW, rcv1, tyOf, Fr.pur, ofP, m1W, int?, slW, slD, isiW, isTy, kindOk, isD, isW, inStr, nod_ones, T_beq, nod_strs, dep_strs, b2W, eq_nil]) rfl rfl rfl
theorem nod_ints (us : List Int) : nodAll (us.map PyData.int) = true ∧ depAll (us.map PyData.int) = 0 ∧ smAll (us.map PyData.int) = true := by
  induction us with
  | nil => exact ⟨rfl, rfl, rfl⟩
  | cons u us ih => simp [asg_v, noneW, allD, eqAll, nodAll, depAll, varW, idxW, seqW, cmpW, cmpP, vw, cmpD, eqOk, nod, dep, eqD, truW, truD, b1W, binW, binD, lenW, srcW, rcv1, tyOf, Fr.pur, ofP, m1W, int?, slW, slD, isiW, isTy, kindOk, isD, isW, inStr, nod_ones, T_beq, nod_strs, dep_strs, b2W, eq_nil, ih, smAll, sm]
theorem alike_du {us : List Int} {w v : W} {st : Sto} {j : Nat} (h1 : vw st w = some (.list (us.map .int))) (h2 : vw st v = some (.list (us.map .int))) (hl : us.length ≤ 1000) : callD EP R0 (j + 2) "_law_alike" [w, v] st = .ok (.d (.bool true)) st := by
  obtain ⟨a, b, c⟩ := nod_ints us
  refine alike_refl (R := R0) hA 1 (.list (us.map .int)) w v st j (by simp [asg_v, noneW, allD, eqAll, nodAll, depAll, varW, idxW, seqW, cmpW, cmpP, vw, cmpD, eqOk, nod, dep, eqD, truW, truD, b1W, binW, binD, lenW, srcW, rcv1, tyOf, Fr.pur, ofP, m1W, int?, slW, slD, isiW, isTy, kindOk, isD, isW, inStr, nod_ones, T_beq, nod_strs, dep_strs, b2W, eq_nil, b]) ?_ h1 h2
  have hSZ : SZ = 16777216 := rfl
  simp [asg_v, noneW, allD, eqAll, nodAll, depAll, varW, idxW, seqW, cmpW, cmpP, vw, cmpD, eqOk, nod, dep, eqD, truW, truD, b1W, binW, binD, lenW, srcW, rcv1, tyOf, Fr.pur, ofP, m1W, int?, slW, slD, isiW, isTy, kindOk, isD, isW, inStr, nod_ones, T_beq, nod_strs, dep_strs, b2W, eq_nil, sm, c]
  omega
theorem eq_ints (us vs : List Int) : eqAll (us.map PyData.int) (vs.map PyData.int) = decide (us = vs) := by
  induction us generalizing vs with
  | nil => cases vs <;> simp [asg_v, noneW, allD, eqAll, nodAll, depAll, varW, idxW, seqW, cmpW, cmpP, vw, cmpD, eqOk, nod, dep, eqD, truW, truD, b1W, binW, binD, lenW, srcW, rcv1, tyOf, Fr.pur, ofP, m1W, int?, slW, slD, isiW, isTy, kindOk, isD, isW, inStr, nod_ones, T_beq, nod_strs, dep_strs, b2W, eq_nil]
  | cons u us ih =>
    cases vs with
    | nil => simp [asg_v, noneW, allD, eqAll, nodAll, depAll, varW, idxW, seqW, cmpW, cmpP, vw, cmpD, eqOk, nod, dep, eqD, truW, truD, b1W, binW, binD, lenW, srcW, rcv1, tyOf, Fr.pur, ofP, m1W, int?, slW, slD, isiW, isTy, kindOk, isD, isW, inStr, nod_ones, T_beq, nod_strs, dep_strs, b2W, eq_nil]
    | cons v vs =>
      simp only [List.map_cons, eqAll, eqD, ih]
      by_cases h : u = v <;> simp [asg_v, noneW, allD, eqAll, nodAll, depAll, varW, idxW, seqW, cmpW, cmpP, vw, cmpD, eqOk, nod, dep, eqD, truW, truD, b1W, binW, binD, lenW, srcW, rcv1, tyOf, Fr.pur, ofP, m1W, int?, slW, slD, isiW, isTy, kindOk, isD, isW, inStr, nod_ones, T_beq, nod_strs, dep_strs, b2W, eq_nil, h]
def Tx (t : List Nat) : Prop := t.all pr = true ∧ t.length ≤ 200
theorem Tx.rec {t : List Nat} (h : Tx t) : recP t = true ∧ t.length ≤ 1000 := ⟨by simp [asg_v, noneW, allD, eqAll, nodAll, depAll, varW, idxW, seqW, cmpW, cmpP, vw, cmpD, eqOk, nod, dep, eqD, truW, truD, b1W, binW, binD, lenW, srcW, rcv1, tyOf, Fr.pur, ofP, m1W, int?, slW, slD, isiW, isTy, kindOk, isD, isW, inStr, nod_ones, T_beq, nod_strs, dep_strs, b2W, eq_nil, recP, h.1, h.2], by have := h.2; omega⟩
theorem Tx.lt {t : List Nat} (h : Tx t) {c : Nat} (hc : c ∈ t) : c < 1000 := by
  have := List.all_eq_true.mp h.1 c hc
  simp [asg_v, noneW, allD, eqAll, nodAll, depAll, varW, idxW, seqW, cmpW, cmpP, vw, cmpD, eqOk, nod, dep, eqD, truW, truD, b1W, binW, binD, lenW, srcW, rcv1, tyOf, Fr.pur, ofP, m1W, int?, slW, slD, isiW, isTy, kindOk, isD, isW, inStr, nod_ones, T_beq, nod_strs, dep_strs, b2W, eq_nil, pr] at this
  omega
/-! ### the texts, their seals -/
def PI (ns : List Int) (v0 v3 v4 v5 v6 v7 v8 : Option W) (ws : List W) (ρ : FM.Env) (st : Sto) : Prop := ∃ (ts : List (List Nat)) (v2 v18 : Option W), (∀ t ∈ ts, Tx t) ∧ ts.length + ws.length ≤ 12 ∧ ρ = [v0, some (.ref 0), v2, v3, v4, v5, v6, v7, v8, some (.ref 1), none, none, none, none, none, none, none, none, v18, none] ∧ Row ns [txC ts] st
theorem strs_of2 {l : List W} {Q : List Nat → Prop} (h : ∀ y ∈ l, ∃ g : List Nat, Q g ∧ y = .d (dStr g)) : ∃ gs : List (List Nat), (∀ g ∈ gs, Q g) ∧ gs.length = l.length ∧ l = gs.map fun c => .d (dStr c) := by
  induction l with
  | nil => exact ⟨[], (fun c hc => (by simp [asg_v, noneW, allD, eqAll, nodAll, depAll, varW, idxW, seqW, cmpW, cmpP, vw, cmpD, eqOk, nod, dep, eqD, truW, truD, b1W, binW, binD, lenW, srcW, rcv1, tyOf, Fr.pur, ofP, m1W, int?, slW, slD, isiW, isTy, kindOk, isD, isW, inStr, nod_ones, T_beq, nod_strs, dep_strs, b2W, eq_nil] at hc)), rfl, rfl⟩
  | cons a l ih =>
    obtain ⟨c, hc, rfl⟩ := h a List.mem_cons_self
    obtain ⟨ds, h1, h2, rfl⟩ := ih fun y hy => h y (List.mem_cons_of_mem _ hy)
    refine ⟨c :: ds, fun x hx => ?_, by simp [asg_v, noneW, allD, eqAll, nodAll, depAll, varW, idxW, seqW, cmpW, cmpP, vw, cmpD, eqOk, nod, dep, eqD, truW, truD, b1W, binW, binD, lenW, srcW, rcv1, tyOf, Fr.pur, ofP, m1W, int?, slW, slD, isiW, isTy, kindOk, isD, isW, inStr, nod_ones, T_beq, nod_strs, dep_strs, b2W, eq_nil], rfl⟩
    rcases List.mem_cons.mp hx with rfl | hx
    · exact hc
    · exact h1 x hx
theorem tx_flat {gs : List (List Nat)} (h : ∀ g ∈ gs, g.all pr = true ∧ g.length = 1) (hl : gs.length ≤ 200) : Tx gs.flatten ∧ (gs.map List.length).sum ≤ 200 := by
  have h1 : gs.flatten.length = gs.length := by
    clear hl
    induction gs with
    | nil => rfl
    | cons g gs ih =>
      simp only [List.flatten_cons, List.length_append, List.length_cons]
      rw [ih fun x hx => h x (List.mem_cons_of_mem _ hx), (h g List.mem_cons_self).2]
      omega
  refine ⟨⟨?_, by omega⟩, by rw [← List.length_flatten]; omega⟩
  rw [List.all_eq_true]
  intro c hc
  obtain ⟨g, hg, hcg⟩ := List.mem_flatten.mp hc
  exact List.all_eq_true.mp (h g hg).1 c hcg
theorem law_texts {ns : List Int} {v0 v3 v4 v5 v6 v7 : Option W} {most : Int} {st : Sto} (hm : 0 ≤ most) (hm2 : most ≤ 200) (h : Row ns [txC []] st) :
    okO (evS EP R0 (callD EP R0 10) (.for (.v 2) (.rng1 (.call "_law_taken" (.cons (.var 1) (.cons (.int 13) (.nil))))) (.cons (.ex (.m1 .append (.var 9) (.m1 .join (.str []) (.pur (.lc [18] (.v 18) (.rng1 (.call "_law_taken" (.cons (.var 1) (.cons (.bin .add (.var 8) (.int 1)) (.nil))))) (.no) (.call "_law_pick" (.cons (.var 1) (.cons (.pur (.lst (.cons (.str [32]) (.cons (.str [97]) (.cons (.str [98]) (.cons (.str [126]) (.cons (.str [90]) (.cons (.str [48]) (.nil))))))))) (.nil))))))))) (.nil)))
      [v0, some (.ref 0), none, v3, v4, v5, v6, v7, some (.d (.int most)), some (.ref 1), none, none, none, none, none, none, none, none, none, none] st) (PI ns v0 v3 v4 v5 v6 v7 (some (.d (.int most))) []) (fun _ _ => False) := by
  have hSZ : SZ = 16777216 := rfl
  simp only [evS, evI, evE, evEs, okO_out, okR_bind]
  simp [asg_v, noneW, allD, eqAll, nodAll, depAll, varW, idxW, seqW, cmpW, cmpP, vw, cmpD, eqOk, nod, dep, eqD, truW, truD, b1W, binW, binD, lenW, srcW, rcv1, tyOf, Fr.pur, ofP, m1W, int?, slW, slD, isiW, isTy, kindOk, isD, isW, inStr, nod_ones, T_beq, nod_strs, dep_strs, b2W, eq_nil]
  refine okR_imp (taken hT h (m := 13) (by omega) (by omega)) fun w st' ⟨⟨k, k1, k2, hw⟩, h⟩ => ?_
  subst hw
  have hr : rngOk k = true := by
    simp [asg_v, noneW, allD, eqAll, nodAll, depAll, varW, idxW, seqW, cmpW, cmpP, vw, cmpD, eqOk, nod, dep, eqD, truW, truD, b1W, binW, binD, lenW, srcW, rcv1, tyOf, Fr.pur, ofP, m1W, int?, slW, slD, isiW, isTy, kindOk, isD, isW, inStr, nod_ones, T_beq, nod_strs, dep_strs, b2W, eq_nil, rngOk]
    omega
  have hlen : (rngL 0 k.toNat).length = k.toNat := by simp [asg_v, noneW, allD, eqAll, nodAll, depAll, varW, idxW, seqW, cmpW, cmpP, vw, cmpD, eqOk, nod, dep, eqD, truW, truD, b1W, binW, binD, lenW, srcW, rcv1, tyOf, Fr.pur, ofP, m1W, int?, slW, slD, isiW, isTy, kindOk, isD, isW, inStr, nod_ones, T_beq, nod_strs, dep_strs, b2W, eq_nil, rngL]
  simp [asg_v, noneW, allD, eqAll, nodAll, depAll, varW, idxW, seqW, cmpW, cmpP, vw, cmpD, eqOk, nod, dep, eqD, truW, truD, b1W, binW, binD, lenW, srcW, rcv1, tyOf, Fr.pur, ofP, m1W, int?, slW, slD, isiW, isTy, kindOk, isD, isW, inStr, nod_ones, T_beq, nod_strs, dep_strs, b2W, eq_nil, hr]
  refine okO_imp (for_inv (Rt := fun _ _ => False) (PI ns v0 v3 v4 v5 v6 v7 (some (.d (.int most)))) _ _ _ ?_ ?_) (fun _ _ h => h) (fun _ _ h => h.elim)
  · exact ⟨[], none, none, by simp [asg_v, noneW, allD, eqAll, nodAll, depAll, varW, idxW, seqW, cmpW, cmpP, vw, cmpD, eqOk, nod, dep, eqD, truW, truD, b1W, binW, binD, lenW, srcW, rcv1, tyOf, Fr.pur, ofP, m1W, int?, slW, slD, isiW, isTy, kindOk, isD, isW, inStr, nod_ones, T_beq, nod_strs, dep_strs, b2W, eq_nil], by rw [hlen]; simp [asg_v, noneW, allD, eqAll, nodAll, depAll, varW, idxW, seqW, cmpW, cmpP, vw, cmpD, eqOk, nod, dep, eqD, truW, truD, b1W, binW, binD, lenW, srcW, rcv1, tyOf, Fr.pur, ofP, m1W, int?, slW, slD, isiW, isTy, kindOk, isD, isW, inStr, nod_ones, T_beq, nod_strs, dep_strs, b2W, eq_nil]; omega, rfl, h⟩
  · rintro u us ρ st ⟨ts, v2, v18, t1, t2, rfl, h⟩
    simp [asg_v, noneW, allD, eqAll, nodAll, depAll, varW, idxW, seqW, cmpW, cmpP, vw, cmpD, eqOk, nod, dep, eqD, truW, truD, b1W, binW, binD, lenW, srcW, rcv1, tyOf, Fr.pur, ofP, m1W, int?, slW, slD, isiW, isTy, kindOk, isD, isW, inStr, nod_ones, T_beq, nod_strs, dep_strs, b2W, eq_nil] at t2
    have ht : st[1]? = some (txC ts) := by
      obtain ⟨a', b', c', ha', rfl⟩ := h
      simp [asg_v, noneW, allD, eqAll, nodAll, depAll, varW, idxW, seqW, cmpW, cmpP, vw, cmpD, eqOk, nod, dep, eqD, truW, truD, b1W, binW, binD, lenW, srcW, rcv1, tyOf, Fr.pur, ofP, m1W, int?, slW, slD, isiW, isTy, kindOk, isD, isW, inStr, nod_ones, T_beq, nod_strs, dep_strs, b2W, eq_nil]
    simp only [asg_v, evSs, evS, evE, evEs, evF, evI, evC, evCs, okO_next, okO_out, okR_bind]
    simp [asg_v, noneW, allD, eqAll, nodAll, depAll, varW, idxW, seqW, cmpW, cmpP, vw, cmpD, eqOk, nod, dep, eqD, truW, truD, b1W, binW, binD, lenW, srcW, rcv1, tyOf, Fr.pur, ofP, m1W, int?, slW, slD, isiW, isTy, kindOk, isD, isW, inStr, nod_ones, T_beq, nod_strs, dep_strs, b2W, eq_nil, ht, txC]
    refine okR_imp (taken hT h (m := most + 1) (by omega) (by omega)) fun w st' ⟨⟨k, k1, k2, hw⟩, h⟩ => ?_
    subst hw
    have hr : rngOk k = true := by
      simp [asg_v, noneW, allD, eqAll, nodAll, depAll, varW, idxW, seqW, cmpW, cmpP, vw, cmpD, eqOk, nod, dep, eqD, truW, truD, b1W, binW, binD, lenW, srcW, rcv1, tyOf, Fr.pur, ofP, m1W, int?, slW, slD, isiW, isTy, kindOk, isD, isW, inStr, nod_ones, T_beq, nod_strs, dep_strs, b2W, eq_nil, rngOk]
      omega
    have hlen : (rngL 0 k.toNat).length = k.toNat := by simp [asg_v, noneW, allD, eqAll, nodAll, depAll, varW, idxW, seqW, cmpW, cmpP, vw, cmpD, eqOk, nod, dep, eqD, truW, truD, b1W, binW, binD, lenW, srcW, rcv1, tyOf, Fr.pur, ofP, m1W, int?, slW, slD, isiW, isTy, kindOk, isD, isW, inStr, nod_ones, T_beq, nod_strs, dep_strs, b2W, eq_nil, rngL]
    simp [asg_v, noneW, allD, eqAll, nodAll, depAll, varW, idxW, seqW, cmpW, cmpP, vw, cmpD, eqOk, nod, dep, eqD, truW, truD, b1W, binW, binD, lenW, srcW, rcv1, tyOf, Fr.pur, ofP, m1W, int?, slW, slD, isiW, isTy, kindOk, isD, isW, inStr, nod_ones, T_beq, nod_strs, dep_strs, b2W, eq_nil, hr, hlen, hSZ, show ¬ 16777216 < k.toNat by omega]
    refine okR_imp (lc_inv (I := Row ns [txC ts]) (Pw := fun y => ∃ g : List Nat, (g.all pr = true ∧ g.length = 1) ∧ y = W.d (dStr g)) _ _ h ?_) ?_
    · intro w _ st h
      simp [asg_v, noneW, allD, eqAll, nodAll, depAll, varW, idxW, seqW, cmpW, cmpP, vw, cmpD, eqOk, nod, dep, eqD, truW, truD, b1W, binW, binD, lenW, srcW, rcv1, tyOf, Fr.pur, ofP, m1W, int?, slW, slD, isiW, isTy, kindOk, isD, isW, inStr, nod_ones, T_beq, nod_strs, dep_strs, b2W, eq_nil, wip, hSZ]
      refine okR_imp (pick hT hP h (by simp [asg_v, noneW, allD, eqAll, nodAll, depAll, varW, idxW, seqW, cmpW, cmpP, vw, cmpD, eqOk, nod, dep, eqD, truW, truD, b1W, binW, binD, lenW, srcW, rcv1, tyOf, Fr.pur, ofP, m1W, int?, slW, slD, isiW, isTy, kindOk, isD, isW, inStr, nod_ones, T_beq, nod_strs, dep_strs, b2W, eq_nil]) (by simp [asg_v, noneW, allD, eqAll, nodAll, depAll, varW, idxW, seqW, cmpW, cmpP, vw, cmpD, eqOk, nod, dep, eqD, truW, truD, b1W, binW, binD, lenW, srcW, rcv1, tyOf, Fr.pur, ofP, m1W, int?, slW, slD, isiW, isTy, kindOk, isD, isW, inStr, nod_ones, T_beq, nod_strs, dep_strs, b2W, eq_nil])) fun w st' ⟨⟨x, hx, hw⟩, h⟩ => ?_
      subst hw
      simp [asg_v, noneW, allD, eqAll, nodAll, depAll, varW, idxW, seqW, cmpW, cmpP, vw, cmpD, eqOk, nod, dep, eqD, truW, truD, b1W, binW, binD, lenW, srcW, rcv1, tyOf, Fr.pur, ofP, m1W, int?, slW, slD, isiW, isTy, kindOk, isD, isW, inStr, nod_ones, T_beq, nod_strs, dep_strs, b2W, eq_nil] at hx
      refine ⟨h, ?_⟩
      rcases hx with h | h | h | h | h | h <;> subst h <;> exact ⟨_, ⟨by decide, rfl⟩, rfl⟩
    · rintro ys st ⟨h, hl, hy⟩
      obtain ⟨gs, g1, g2, rfl⟩ := strs_of2 hy
      simp [asg_v, noneW, allD, eqAll, nodAll, depAll, varW, idxW, seqW, cmpW, cmpP, vw, cmpD, eqOk, nod, dep, eqD, truW, truD, b1W, binW, binD, lenW, srcW, rcv1, tyOf, Fr.pur, ofP, m1W, int?, slW, slD, isiW, isTy, kindOk, isD, isW, inStr, nod_ones, T_beq, nod_strs, dep_strs, b2W, eq_nil] at g2 hl
      obtain ⟨f1, f2⟩ := tx_flat g1 (by omega)
      obtain ⟨a', b', c', ha', rfl⟩ := h
      simp [asg_v, noneW, allD, eqAll, nodAll, depAll, varW, idxW, seqW, cmpW, cmpP, vw, cmpD, eqOk, nod, dep, eqD, truW, truD, b1W, binW, binD, lenW, srcW, rcv1, tyOf, Fr.pur, ofP, m1W, int?, slW, slD, isiW, isTy, kindOk, isD, isW, inStr, nod_ones, T_beq, nod_strs, dep_strs, b2W, eq_nil, hSZ, show (gs.map List.length).sum ≤ 16777216 by omega, join_flat, txC, show ts.length < 16777216 by omega]
      refine ⟨by simp [asg_v, noneW, allD, eqAll, nodAll, depAll, varW, idxW, seqW, cmpW, cmpP, vw, cmpD, eqOk, nod, dep, eqD, truW, truD, b1W, binW, binD, lenW, srcW, rcv1, tyOf, Fr.pur, ofP, m1W, int?, slW, slD, isiW, isTy, kindOk, isD, isW, inStr, nod_ones, T_beq, nod_strs, dep_strs, b2W, eq_nil, still], ts ++ [gs.flatten], _, _, fun t ht => (List.mem_append.mp ht).elim (t1 t) (fun h => by simp [asg_v, noneW, allD, eqAll, nodAll, depAll, varW, idxW, seqW, cmpW, cmpP, vw, cmpD, eqOk, nod, dep, eqD, truW, truD, b1W, binW, binD, lenW, srcW, rcv1, tyOf, Fr.pur, ofP, m1W, int?, slW, slD, isiW, isTy, kindOk, isD, isW, inStr, nod_ones, T_beq, nod_strs, dep_strs, b2W, eq_nil] at h; subst h; exact f1), by simp [asg_v, noneW, allD, eqAll, nodAll, depAll, varW, idxW, seqW, cmpW, cmpP, vw, cmpD, eqOk, nod, dep, eqD, truW, truD, b1W, binW, binD, lenW, srcW, rcv1, tyOf, Fr.pur, ofP, m1W, int?, slW, slD, isiW, isTy, kindOk, isD, isW, inStr, nod_ones, T_beq, nod_strs, dep_strs, b2W, eq_nil]; omega, rfl, a', b', c', ha', by simp [asg_v, noneW, allD, eqAll, nodAll, depAll, varW, idxW, seqW, cmpW, cmpP, vw, cmpD, eqOk, nod, dep, eqD, truW, truD, b1W, binW, binD, lenW, srcW, rcv1, tyOf, Fr.pur, ofP, m1W, int?, slW, slD, isiW, isTy, kindOk, isD, isW, inStr, nod_ones, T_beq, nod_strs, dep_strs, b2W, eq_nil, txC]⟩
def QI (ns : List Int) (ts : List (List Nat)) (v0 v2 v4 v5 v6 v7 v8 v18 : Option W) (ws : List W) (ρ : FM.Env) (st : Sto) : Prop := ∃ (l : List (List Nat)) (done : List Int) (b : Int) (v3 : Option W), ws = l.map (fun t => .d (dStr t)) ∧ (∀ t ∈ l, Tx t) ∧ 0 ≤ b ∧ b < 1000003 ∧ done ++ sealsP b l = sealsP 0 ts ∧ done.length + l.length ≤ 20 ∧ ρ = [v0, some (.ref 0), v2, v3, v4, v5, v6, v7, v8, some (.ref 1), some (.ref 2), some (.d (.int b)), none, none, none, none, none, none, v18, none] ∧ Row ns [txC ts, duC done] st
theorem law_due {ns : List Int} {ts : List (List Nat)} {v0 v2 v3 v4 v5 v6 v7 v8 v18 : Option W} {st : Sto} (ht : ∀ t ∈ ts, Tx t) (hl : ts.length ≤ 12) (h : Row ns [txC ts, duC []] st) :
    okO (evS EP R0 (callD EP R0 10) (.for (.v 3) (.e (.var 9)) (.cons (.ife (.not (.e (.call "_law_alike" (.cons (.call "seal" (.cons (.var 11) (.cons (.var 3) (.nil)))) (.cons (.call "_law_seal" (.cons (.var 11) (.cons (.var 3) (.nil)))) (.nil)))))) (.cons (.ret (.bl false)) (.nil)) (.nil)) (.cons (.set (.v 11) (.call "_law_seal" (.cons (.var 11) (.cons (.var 3) (.nil))))) (.cons (.ex (.m1 .append (.var 10) (.var 11))) (.nil)))))
      [v0, some (.ref 0), v2, v3, v4, v5, v6, v7, v8, some (.ref 1), some (.ref 2), some (.d (.int 0)), none, none, none, none, none, none, v18, none] st) (QI ns ts v0 v2 v4 v5 v6 v7 v8 v18 []) (fun _ _ => False) := by
  have hSZ : SZ = 16777216 := rfl
  obtain ⟨a, b, c, ha, rfl⟩ := h
  rw [evS, evI, evE]
  simp only [varW, List.getElem?_cons_zero, List.getElem?_cons_succ, Res.of_some, Res.bind_ok, txC_row.src, okO_out, okR_ok]
  refine okO_imp (for_inv (Rt := fun _ _ => False) (QI ns ts v0 v2 v4 v5 v6 v7 v8 v18) _ _ _ ?_ ?_) (fun _ _ h => h) (fun _ _ h => h.elim)
  · exact ⟨ts, [], 0, _, by simp [asg_v, noneW, allD, eqAll, nodAll, depAll, varW, idxW, seqW, cmpW, cmpP, vw, cmpD, eqOk, nod, dep, eqD, truW, truD, b1W, binW, binD, lenW, srcW, rcv1, tyOf, Fr.pur, ofP, m1W, int?, slW, slD, isiW, isTy, kindOk, isD, isW, inStr, nod_ones, T_beq, nod_strs, dep_strs, b2W, eq_nil, Function.comp_def], ht, by omega, by omega, rfl, by simp [asg_v, noneW, allD, eqAll, nodAll, depAll, varW, idxW, seqW, cmpW, cmpP, vw, cmpD, eqOk, nod, dep, eqD, truW, truD, b1W, binW, binD, lenW, srcW, rcv1, tyOf, Fr.pur, ofP, m1W, int?, slW, slD, isiW, isTy, kindOk, isD, isW, inStr, nod_ones, T_beq, nod_strs, dep_strs, b2W, eq_nil]; omega, rfl, a, b, c, ha, rfl⟩
  · rintro u us ρ st ⟨l, done, f, v3, e1, e2, e3, e4, e5, e6, rfl, h⟩
    cases l with
    | nil => simp [asg_v, noneW, allD, eqAll, nodAll, depAll, varW, idxW, seqW, cmpW, cmpP, vw, cmpD, eqOk, nod, dep, eqD, truW, truD, b1W, binW, binD, lenW, srcW, rcv1, tyOf, Fr.pur, ofP, m1W, int?, slW, slD, isiW, isTy, kindOk, isD, isW, inStr, nod_ones, T_beq, nod_strs, dep_strs, b2W, eq_nil] at e1
    | cons t l =>
      simp [asg_v, noneW, allD, eqAll, nodAll, depAll, varW, idxW, seqW, cmpW, cmpP, vw, cmpD, eqOk, nod, dep, eqD, truW, truD, b1W, binW, binD, lenW, srcW, rcv1, tyOf, Fr.pur, ofP, m1W, int?, slW, slD, isiW, isTy, kindOk, isD, isW, inStr, nod_ones, T_beq, nod_strs, dep_strs, b2W, eq_nil] at e1 e6
      obtain ⟨rfl, rfl⟩ := e1
      have tt := e2 t List.mem_cons_self
      have s1 := fun st => seal_ok (st := st) (j := 7) e3 e4 tt.rec.2 tt.rec.1
      have s2 := fun st => law_seal_ok (b := f) (st := st) (j := 9) tt.rec.2
      have s3 := fun st => alike_int (i := sealP f t) (st := st) (j := 9)
      obtain ⟨a, b, c, ha, rfl⟩ := h
      simp [asg_v, noneW, allD, eqAll, nodAll, depAll, varW, idxW, seqW, cmpW, cmpP, vw, cmpD, eqOk, nod, dep, eqD, truW, truD, b1W, binW, binD, lenW, srcW, rcv1, tyOf, Fr.pur, ofP, m1W, int?, slW, slD, isiW, isTy, kindOk, isD, isW, inStr, nod_ones, T_beq, nod_strs, dep_strs, b2W, eq_nil, evSs, evS, evC, evE, evEs, s1, s2, s3, hSZ, duC, show done.length < 16777216 by omega, still, guardOf]
      exact ⟨l, done ++ [sealP f t], sealP f t, _, rfl, fun x hx => e2 x (List.mem_cons_of_mem _ hx), (seal_bd f t).1, (seal_bd f t).2, by rw [← e5]; simp [asg_v, noneW, allD, eqAll, nodAll, depAll, varW, idxW, seqW, cmpW, cmpP, vw, cmpD, eqOk, nod, dep, eqD, truW, truD, b1W, binW, binD, lenW, srcW, rcv1, tyOf, Fr.pur, ofP, m1W, int?, slW, slD, isiW, isTy, kindOk, isD, isW, inStr, nod_ones, T_beq, nod_strs, dep_strs, b2W, eq_nil, sealsP], by simp [asg_v, noneW, allD, eqAll, nodAll, depAll, varW, idxW, seqW, cmpW, cmpP, vw, cmpD, eqOk, nod, dep, eqD, truW, truD, b1W, binW, binD, lenW, srcW, rcv1, tyOf, Fr.pur, ofP, m1W, int?, slW, slD, isiW, isTy, kindOk, isD, isW, inStr, nod_ones, T_beq, nod_strs, dep_strs, b2W, eq_nil]; omega, rfl, a, b, c, ha, by simp [asg_v, noneW, allD, eqAll, nodAll, depAll, varW, idxW, seqW, cmpW, cmpP, vw, cmpD, eqOk, nod, dep, eqD, truW, truD, b1W, binW, binD, lenW, srcW, rcv1, tyOf, Fr.pur, ofP, m1W, int?, slW, slD, isiW, isTy, kindOk, isD, isW, inStr, nod_ones, T_beq, nod_strs, dep_strs, b2W, eq_nil, duC]⟩
end HT
end

section
set_option Elab.async false
set_option linter.all false
set_option maxRecDepth 100000
set_option autoImplicit false
set_option maxHeartbeats 4000000
namespace HT
open PySem FM
/-- the state behind the seals -/
def St2 (ns : List Int) (ts : List (List Nat)) (st : Sto) : Prop := Row ns [txC ts, duC (sealsP 0 ts)] st
theorem law_first {ns : List Int} {ts : List (List Nat)} {ρ : FM.Env} {st : Sto} (ht : ∀ t ∈ ts, Tx t) (hl : ts.length ≤ 12) (h : St2 ns ts st) (h9 : ρ[9]? = some (some (.ref 1))) (h10 : ρ[10]? = some (some (.ref 2))) :
    evC EP R0 (callD EP R0 10) (.or (.not (.e (.call "_law_alike" (.cons (.call "seals" (.cons (.b1 .tuple (.var 9)) (.nil))) (.cons (.var 10) (.nil)))))) (.e (.cmp .isnot (.call "first_broken" (.cons (.var 9) (.cons (.b1 .tuple (.var 10)) (.nil)))) (.none)))) ρ st = .ok false st := by
  obtain ⟨a, b, c, ha, rfl⟩ := h
  have hr : ∀ t ∈ ts, recP t = true ∧ t.length ≤ 1000 := fun t h => (ht t h).rec
  have s1 := seals_ok (w := .d (.tuple (ts.map dStr))) (st := rowC ns a b c :: [txC ts, duC (sealsP 0 ts)]) (j := 7) RowW.tup (by omega) hr
  have s2 := alike_du (us := sealsP 0 ts) (w := .d (.list ((sealsP 0 ts).map .int))) (v := .ref 2) (st := rowC ns a b c :: [txC ts, duC (sealsP 0 ts)]) (j := 8) rfl (by simp [asg_v, noneW, allD, eqAll, nodAll, depAll, varW, idxW, seqW, cmpW, cmpP, vw, cmpD, eqOk, nod, dep, eqD, truW, truD, b1W, binW, binD, lenW, srcW, rcv1, tyOf, Fr.pur, ofP, m1W, int?, slW, slD, isiW, isTy, kindOk, isD, isW, inStr, nod_ones, T_beq, nod_strs, dep_strs, b2W, eq_nil, duC, du_vw]) (by rw [sealsP_len]; omega)
  have s3 := fb_ok (w := .ref 1) (v := .d (.tuple ((sealsP 0 ts).map .int))) (us := sealsP 0 ts) (st := rowC ns a b c :: [txC ts, duC (sealsP 0 ts)]) (j := 7) txC_row RowW.tup (by omega) hr (sealsP_len _ _) (seals_bd ts 0)
  rw [fbP_self] at s3
  have v1 : b1W R0 (rowC ns a b c :: [txC ts, duC (sealsP 0 ts)]) .tuple (.ref 1) = some (.d (.tuple (ts.map dStr))) := by simp [asg_v, noneW, allD, eqAll, nodAll, depAll, varW, idxW, seqW, cmpW, cmpP, vw, cmpD, eqOk, nod, dep, eqD, truW, truD, b1W, binW, binD, lenW, srcW, rcv1, tyOf, Fr.pur, ofP, m1W, int?, slW, slD, isiW, isTy, kindOk, isD, isW, inStr, nod_ones, T_beq, nod_strs, dep_strs, b2W, eq_nil, txC, tx_vw]
  have v2 : b1W R0 (rowC ns a b c :: [txC ts, duC (sealsP 0 ts)]) .tuple (.ref 2) = some (.d (.tuple ((sealsP 0 ts).map .int))) := by simp [asg_v, noneW, allD, eqAll, nodAll, depAll, varW, idxW, seqW, cmpW, cmpP, vw, cmpD, eqOk, nod, dep, eqD, truW, truD, b1W, binW, binD, lenW, srcW, rcv1, tyOf, Fr.pur, ofP, m1W, int?, slW, slD, isiW, isTy, kindOk, isD, isW, inStr, nod_ones, T_beq, nod_strs, dep_strs, b2W, eq_nil, duC, du_vw]
  simp only [evC, evE, evEs, varW, h9, h10, Res.of_some, Res.bind_ok, v1, v2, s1, s2, s3]
  simp only [truW, truD, Res.of_some, Res.bind_ok, Bool.not_true, Bool.false_eq_true, if_false, v2, s3]
  simp [asg_v, noneW, allD, eqAll, nodAll, depAll, varW, idxW, seqW, cmpW, cmpP, vw, cmpD, eqOk, nod, dep, eqD, truW, truD, b1W, binW, binD, lenW, srcW, rcv1, tyOf, Fr.pur, ofP, m1W, int?, slW, slD, isiW, isTy, kindOk, isD, isW, inStr, nod_ones, T_beq, nod_strs, dep_strs, b2W, eq_nil]
theorem list_split {α : Type} {l : List α} {a : Nat} (h : a < l.length) : l = l.take a ++ l[a] :: l.drop (a + 1) := by
  rw [← List.drop_eq_getElem_cons h, List.take_append_drop]
/-- a seal changed -/
theorem law_other {ns : List Int} {ts : List (List Nat)} {a : Nat} {x : Int} {st : Sto} (ht : ∀ t ∈ ts, Tx t) (hl : ts.length ≤ 12) (h : St2 ns ts st) (ha : a < (sealsP 0 ts).length) (hx : x ≠ (sealsP 0 ts)[a]) (hx0 : 0 ≤ x) (hx1 : x < 1000003) :
    callD EP R0 10 "first_broken" [.ref 1, .d (.list (((sealsP 0 ts).take a ++ x :: (sealsP 0 ts).drop (a + 1)).map .int))] st = .ok (.d (.int a)) st := by
  obtain ⟨p, b, c, hp, rfl⟩ := h
  have hr : ∀ t ∈ ts, recP t = true ∧ t.length ≤ 1000 := fun t h => (ht t h).rec
  have hsp := list_split ha
  have bd := seals_bd ts 0
  have s3 := fb_ok (w := .ref 1) (v := .d (.list (((sealsP 0 ts).take a ++ x :: (sealsP 0 ts).drop (a + 1)).map .int))) (us := (sealsP 0 ts).take a ++ x :: (sealsP 0 ts).drop (a + 1)) (st := rowC ns p b c :: [txC ts, duC (sealsP 0 ts)]) (j := 7) txC_row RowW.lst (by omega) hr (by
    have := sealsP_len ts 0
    simp [asg_v, noneW, allD, eqAll, nodAll, depAll, varW, idxW, seqW, cmpW, cmpP, vw, cmpD, eqOk, nod, dep, eqD, truW, truD, b1W, binW, binD, lenW, srcW, rcv1, tyOf, Fr.pur, ofP, m1W, int?, slW, slD, isiW, isTy, kindOk, isD, isW, inStr, nod_ones, T_beq, nod_strs, dep_strs, b2W, eq_nil]
    omega) (fun i hi => by
    simp only [List.mem_append, List.mem_cons] at hi
    rcases hi with hi | rfl | hi
    · exact bd i (List.mem_of_mem_take hi)
    · exact ⟨hx0, hx1⟩
    · exact bd i (List.mem_of_mem_drop hi))
  have e : fbP 0 ((sealsP 0 ts).take a ++ x :: (sealsP 0 ts).drop (a + 1)) (sealsP 0 ts) = .int a := by
    have h2 : fbP 0 ((sealsP 0 ts).take a ++ x :: (sealsP 0 ts).drop (a + 1)) ((sealsP 0 ts).take a ++ (sealsP 0 ts)[a] :: (sealsP 0 ts).drop (a + 1)) = .int (0 + ((sealsP 0 ts).take a).length) := fbP_at _ _ hx
    rw [← hsp] at h2
    rw [h2]
    simp [asg_v, noneW, allD, eqAll, nodAll, depAll, varW, idxW, seqW, cmpW, cmpP, vw, cmpD, eqOk, nod, dep, eqD, truW, truD, b1W, binW, binD, lenW, srcW, rcv1, tyOf, Fr.pur, ofP, m1W, int?, slW, slD, isiW, isTy, kindOk, isD, isW, inStr, nod_ones, T_beq, nod_strs, dep_strs, b2W, eq_nil]
    omega
  rw [e] at s3
  exact s3
/-- a text with one sign changed -/
def wrongT (ts : List (List Nat)) (a k d : Nat) (h : a < ts.length) : List (List Nat) := ts.take a ++ (ts[a].take k ++ d :: ts[a].drop (k + 1)) :: ts.drop (a + 1)
theorem wrong_tx {ts : List (List Nat)} {a k d : Nat} {h : a < ts.length} (ht : ∀ t ∈ ts, Tx t) (hk : k < ts[a].length) (hd : pr d = true) : (∀ t ∈ wrongT ts a k d h, Tx t) ∧ (wrongT ts a k d h).length = ts.length := by
  refine ⟨fun t hm => ?_, by simp [asg_v, noneW, allD, eqAll, nodAll, depAll, varW, idxW, seqW, cmpW, cmpP, vw, cmpD, eqOk, nod, dep, eqD, truW, truD, b1W, binW, binD, lenW, srcW, rcv1, tyOf, Fr.pur, ofP, m1W, int?, slW, slD, isiW, isTy, kindOk, isD, isW, inStr, nod_ones, T_beq, nod_strs, dep_strs, b2W, eq_nil, wrongT]; omega⟩
  simp only [wrongT, List.mem_append, List.mem_cons] at hm
  rcases hm with hm | rfl | hm
  · exact ht t (List.mem_of_mem_take hm)
  · have h0 := ht _ (List.getElem_mem h)
    refine ⟨?_, ?_⟩
    · rw [List.all_eq_true]
      intro c hc
      simp only [List.mem_append, List.mem_cons] at hc
      rcases hc with hc | rfl | hc
      · exact List.all_eq_true.mp h0.1 c (List.mem_of_mem_take hc)
      · exact hd
      · exact List.all_eq_true.mp h0.1 c (List.mem_of_mem_drop hc)
    · have := h0.2
      simp [asg_v, noneW, allD, eqAll, nodAll, depAll, varW, idxW, seqW, cmpW, cmpP, vw, cmpD, eqOk, nod, dep, eqD, truW, truD, b1W, binW, binD, lenW, srcW, rcv1, tyOf, Fr.pur, ofP, m1W, int?, slW, slD, isiW, isTy, kindOk, isD, isW, inStr, nod_ones, T_beq, nod_strs, dep_strs, b2W, eq_nil]
      omega
  · exact ht t (List.mem_of_mem_drop hm)
theorem wrong_seals {ts : List (List Nat)} {a k d : Nat} {h : a < ts.length} (ht : ∀ t ∈ ts, Tx t) (hk : k < ts[a].length) (hd : pr d = true) (hne : d ≠ ts[a][k]) :
    fbP 0 (sealsP 0 ts) (sealsP 0 (wrongT ts a k d h)) = .int a ∧ (sealsP 0 (wrongT ts a k d h)).take a = (sealsP 0 ts).take a ∧ ∀ (i : Nat) (u v : Int), a ≤ i → (sealsP 0 (wrongT ts a k d h))[i]? = some u → (sealsP 0 ts)[i]? = some v → u ≠ v := by
  have h0 := ht _ (List.getElem_mem h)
  have hc : ts[a][k] < 1000 := h0.lt (List.getElem_mem hk)
  have hd2 : d < 1000 := by
    simp [asg_v, noneW, allD, eqAll, nodAll, depAll, varW, idxW, seqW, cmpW, cmpP, vw, cmpD, eqOk, nod, dep, eqD, truW, truD, b1W, binW, binD, lenW, srcW, rcv1, tyOf, Fr.pur, ofP, m1W, int?, slW, slD, isiW, isTy, kindOk, isD, isW, inStr, nod_ones, T_beq, nod_strs, dep_strs, b2W, eq_nil, pr] at hd
    omega
  obtain ⟨x, y, X, Y, e1, e2, hxy, lX, lY, hall⟩ := wrong_facts (p := ts.take a) (q := ts.drop (a + 1)) (l := ts[a].take k) (r := ts[a].drop (k + 1)) hc hd2 (fun z => hne z.symm)
  rw [← list_split hk, ← list_split h] at e1
  have e2' : sealsP 0 (wrongT ts a k d h) = sealsP 0 (ts.take a) ++ y :: Y := e2
  have la : (sealsP 0 (ts.take a)).length = a := by
    rw [sealsP_len, List.length_take]
    omega
  rw [e1, e2']
  refine ⟨?_, ?_, fun i u v hi hu hv => ?_⟩
  · rw [fbP_at _ _ hxy, la]
    simp [asg_v, noneW, allD, eqAll, nodAll, depAll, varW, idxW, seqW, cmpW, cmpP, vw, cmpD, eqOk, nod, dep, eqD, truW, truD, b1W, binW, binD, lenW, srcW, rcv1, tyOf, Fr.pur, ofP, m1W, int?, slW, slD, isiW, isTy, kindOk, isD, isW, inStr, nod_ones, T_beq, nod_strs, dep_strs, b2W, eq_nil]
  · rw [List.take_append_of_le_length (by omega), List.take_append_of_le_length (by omega)]
  · rw [List.getElem?_append_right (by omega)] at hu hv
    exact fun z => hall _ v u hv hu z.symm
end HT
end

section
set_option Elab.async false
set_option linter.all false
set_option maxRecDepth 100000
set_option autoImplicit false
set_option maxHeartbeats 4000000
namespace HT
open PySem FM
theorem atI_nat {α : Type} (l : List α) (n : Nat) : FM.atI l (n : Int) = l[n]? := by simp [asg_v, noneW, allD, eqAll, nodAll, depAll, varW, idxW, seqW, cmpW, cmpP, vw, cmpD, eqOk, nod, dep, eqD, truW, truD, b1W, binW, binD, lenW, srcW, rcv1, tyOf, Fr.pur, ofP, m1W, int?, slW, slD, isiW, isTy, kindOk, isD, isW, inStr, nod_ones, T_beq, nod_strs, dep_strs, b2W, eq_nil, FM.atI]
/-- the other seals -/
theorem turn_other {ns : List Int} {ts : List (List Nat)} {ρ : FM.Env} {st : Sto} {a : Nat} (ht : ∀ t ∈ ts, Tx t) (hl : ts.length ≤ 12) (h : St2 ns ts st) (h1 : ρ[1]? = some (some (.ref 0))) (h10 : ρ[10]? = some (some (.ref 2))) (h12 : ρ[12]? = some (some (.d (.int a)))) (ha : a < (sealsP 0 ts).length) :
    okR (evE EP R0 (callD EP R0 10) (.bin .add (.bin .add (.sl (.var 10) (.no) (.e (.var 12))) (.pur (.lst (.cons (.bin .mod (.b1 .int (.bin .add (.bin .add (.idx (.var 10) (.var 12)) (.int 1)) (.call "_law_taken" (.cons (.var 1) (.cons (.int 1000) (.nil)))))) (.int 1000003)) (.nil))))) (.sl (.var 10) (.e (.bin .add (.var 12) (.int 1))) (.no))) ρ st) fun w st' => (∃ x : Int, x ≠ (sealsP 0 ts)[a] ∧ 0 ≤ x ∧ x < 1000003 ∧ w = .d (.list (((sealsP 0 ts).take a ++ x :: (sealsP 0 ts).drop (a + 1)).map .int))) ∧ St2 ns ts st' := by
  have hSZ : SZ = 16777216 := rfl
  have hc : ∀ st, St2 ns ts st → st[2]? = some (duC (sealsP 0 ts)) := by
    rintro _ ⟨a', b', c', ha', rfl⟩
    rfl
  have bd := seals_bd ts 0 _ (List.getElem_mem ha)
  simp only [evE, evEs, evF, evO, okR_bind, okR_some, varW, h1, h10, h12]
  simp [asg_v, noneW, allD, eqAll, nodAll, depAll, varW, idxW, seqW, cmpW, cmpP, vw, cmpD, eqOk, nod, dep, eqD, truW, truD, b1W, binW, binD, lenW, srcW, rcv1, tyOf, Fr.pur, ofP, m1W, int?, slW, slD, isiW, isTy, kindOk, isD, isW, inStr, nod_ones, T_beq, nod_strs, dep_strs, b2W, eq_nil, hc st h, duC, du_vw, cut_to, atI_nat, ha]
  refine okR_imp (taken hT h (m := 1000) (by omega) (by omega)) fun w st' ⟨⟨k, k1, k2, hw⟩, h'⟩ => ?_
  subst hw
  have ln := sealsP_len ts 0
  simp [asg_v, noneW, allD, eqAll, nodAll, depAll, varW, idxW, seqW, cmpW, cmpP, vw, cmpD, eqOk, nod, dep, eqD, truW, truD, b1W, binW, binD, lenW, srcW, rcv1, tyOf, Fr.pur, ofP, m1W, int?, slW, slD, isiW, isTy, kindOk, isD, isW, inStr, nod_ones, T_beq, nod_strs, dep_strs, b2W, eq_nil, hc st' h', duC, du_vw, hSZ, show min a (sealsP 0 ts).length + 1 ≤ 16777216 by omega, cut_up1, show min a (sealsP 0 ts).length + 1 + ((sealsP 0 ts).length - (a + 1)) ≤ 16777216 by omega]
  exact ⟨⟨_, by omega, by omega, by omega, rfl⟩, h'⟩
theorem map_dStr_tx (l : List (List Nat)) : (l.map fun t => W.d (dStr t)) = l.map (W.d ∘ dStr) := rfl
/-- the other sign -/
theorem turn_sign {ns : List Int} {ts : List (List Nat)} {ρ : FM.Env} {st : Sto} {t : List Nat} {k : Nat} (h : St2 ns ts st) (h1 : ρ[1]? = some (some (.ref 0))) (h3 : ρ[3]? = some (some (.d (dStr t)))) (h14 : ρ[14]? = some (some (.d (.int k)))) (hr : ρ.length = 20) (ht : t.length ≤ 200) (hk : k < t.length) :
    okR (evE EP R0 (callD EP R0 10) (.call "_law_pick" (.cons (.var 1) (.cons (.pur (.lc [19] (.v 19) (.e (.pur (.lst (.cons (.str [97]) (.cons (.str [98]) (.cons (.str [33]) (.cons (.str [126]) (.cons (.str [32]) (.nil))))))))) (.c (.e (.cmp .ne (.var 19) (.idx (.var 3) (.var 14))))) (.var 19))) (.nil)))) ρ st) fun w st' => (∃ d : Nat, d ≠ t[k] ∧ pr d = true ∧ w = .d (dStr [d])) ∧ St2 ns ts st' := by
  have hSZ : SZ = 16777216 := rfl
  have e : evF EP R0 (callD EP R0 10) (.lc [19] (.v 19) (.e (.pur (.lst (.cons (.str [97]) (.cons (.str [98]) (.cons (.str [33]) (.cons (.str [126]) (.cons (.str [32]) (.nil))))))))) (.c (.e (.cmp .ne (.var 19) (.idx (.var 3) (.var 14))))) (.var 19)) ρ st = .ok (.l ((([[97], [98], [33], [126], [32]] : List (List Nat)).filter fun w => !decide (w = [t[k]])).map fun w => .d (dStr w))) st := by
    have e0 : evI EP R0 (callD EP R0 10) (.e (.pur (.lst (.cons (.str [97]) (.cons (.str [98]) (.cons (.str [33]) (.cons (.str [126]) (.cons (.str [32]) (.nil))))))))) ρ st = .ok (([[97], [98], [33], [126], [32]] : List (List Nat)).map (W.d ∘ dStr), none) st := by
      simp only [evI, evEs, evE, evF, Res.bind_ok]
      simp [asg_v, noneW, allD, eqAll, nodAll, depAll, varW, idxW, seqW, cmpW, cmpP, vw, cmpD, eqOk, nod, dep, eqD, truW, truD, b1W, binW, binD, lenW, srcW, rcv1, tyOf, Fr.pur, ofP, m1W, int?, slW, slD, isiW, isTy, kindOk, isD, isW, inStr, nod_ones, T_beq, nod_strs, dep_strs, b2W, eq_nil, hSZ]
    rw [evF, e0, Res.bind_ok]
    rw [if_neg (by simp [asg_v, noneW, allD, eqAll, nodAll, depAll, varW, idxW, seqW, cmpW, cmpP, vw, cmpD, eqOk, nod, dep, eqD, truW, truD, b1W, binW, binD, lenW, srcW, rcv1, tyOf, Fr.pur, ofP, m1W, int?, slW, slD, isiW, isTy, kindOk, isD, isW, inStr, nod_ones, T_beq, nod_strs, dep_strs, b2W, eq_nil, hSZ]), lc_strs (fun w => !decide (w = [t[k]])) (fun w => W.d (dStr w))]
    · rfl
    · intro u _
      have b3 : varW ((wip ρ [19]).set 19 (some (.d (dStr u)))) 3 = some (.d (dStr t)) := by simp [asg_v, noneW, allD, eqAll, nodAll, depAll, varW, idxW, seqW, cmpW, cmpP, vw, cmpD, eqOk, nod, dep, eqD, truW, truD, b1W, binW, binD, lenW, srcW, rcv1, tyOf, Fr.pur, ofP, m1W, int?, slW, slD, isiW, isTy, kindOk, isD, isW, inStr, nod_ones, T_beq, nod_strs, dep_strs, b2W, eq_nil, wip, h3]
      have b14 : varW ((wip ρ [19]).set 19 (some (.d (dStr u)))) 14 = some (.d (.int k)) := by simp [asg_v, noneW, allD, eqAll, nodAll, depAll, varW, idxW, seqW, cmpW, cmpP, vw, cmpD, eqOk, nod, dep, eqD, truW, truD, b1W, binW, binD, lenW, srcW, rcv1, tyOf, Fr.pur, ofP, m1W, int?, slW, slD, isiW, isTy, kindOk, isD, isW, inStr, nod_ones, T_beq, nod_strs, dep_strs, b2W, eq_nil, wip, h14]
      have b19 : varW ((wip ρ [19]).set 19 (some (.d (dStr u)))) 19 = some (.d (dStr u)) := by simp [asg_v, noneW, allD, eqAll, nodAll, depAll, varW, idxW, seqW, cmpW, cmpP, vw, cmpD, eqOk, nod, dep, eqD, truW, truD, b1W, binW, binD, lenW, srcW, rcv1, tyOf, Fr.pur, ofP, m1W, int?, slW, slD, isiW, isTy, kindOk, isD, isW, inStr, nod_ones, T_beq, nod_strs, dep_strs, b2W, eq_nil, wip, hr]
      have bi : idxW st (.d (dStr t)) (.d (.int k)) = some (.d (dStr [t[k]])) := by
        simp [asg_v, noneW, allD, eqAll, nodAll, depAll, varW, idxW, seqW, cmpW, cmpP, vw, cmpD, eqOk, nod, dep, eqD, truW, truD, b1W, binW, binD, lenW, srcW, rcv1, tyOf, Fr.pur, ofP, m1W, int?, slW, slD, isiW, isTy, kindOk, isD, isW, inStr, nod_ones, T_beq, nod_strs, dep_strs, b2W, eq_nil, hSZ, show t.length ≤ 16777216 by omega, atI_nat, hk]
      simp only [asg_v, evCs, evC, evE, b3, b14, b19, Res.of_some, Res.bind_ok, bi]
      by_cases hh : u = [t[k]] <;> simp [asg_v, noneW, allD, eqAll, nodAll, depAll, varW, idxW, seqW, cmpW, cmpP, vw, cmpD, eqOk, nod, dep, eqD, truW, truD, b1W, binW, binD, lenW, srcW, rcv1, tyOf, Fr.pur, ofP, m1W, int?, slW, slD, isiW, isTy, kindOk, isD, isW, inStr, nod_ones, T_beq, nod_strs, dep_strs, b2W, eq_nil, hh]
  simp only [evE, evEs, okR_bind, okR_some, varW, h1, e, Res.bind_ok, okR_ok]
  generalize hf : ([[97], [98], [33], [126], [32]] : List (List Nat)).filter (fun w => !decide (w = [t[k]])) = fs
  have f1 : ∀ f ∈ fs, ∃ d : Nat, d ≠ t[k] ∧ pr d = true ∧ f = [d] := by
    intro f hm
    rw [← hf] at hm
    simp only [List.mem_filter, List.mem_cons, List.not_mem_nil, or_false, Bool.not_eq_true', decide_eq_false_iff_not] at hm
    obtain ⟨hm, hn⟩ := hm
    rcases hm with rfl | rfl | rfl | rfl | rfl <;> exact ⟨_, fun z => hn (by rw [z]), by decide, rfl⟩
  have f2 : fs ≠ [] := by
    intro z
    rw [z] at hf
    have q1 : [97] = [t[k]] := by
      have := List.filter_eq_nil_iff.mp hf [97] (by simp [asg_v, noneW, allD, eqAll, nodAll, depAll, varW, idxW, seqW, cmpW, cmpP, vw, cmpD, eqOk, nod, dep, eqD, truW, truD, b1W, binW, binD, lenW, srcW, rcv1, tyOf, Fr.pur, ofP, m1W, int?, slW, slD, isiW, isTy, kindOk, isD, isW, inStr, nod_ones, T_beq, nod_strs, dep_strs, b2W, eq_nil])
      simpa [asg_v, noneW, allD, eqAll, nodAll, depAll, varW, idxW, seqW, cmpW, cmpP, vw, cmpD, eqOk, nod, dep, eqD, truW, truD, b1W, binW, binD, lenW, srcW, rcv1, tyOf, Fr.pur, ofP, m1W, int?, slW, slD, isiW, isTy, kindOk, isD, isW, inStr, nod_ones, T_beq, nod_strs, dep_strs, b2W, eq_nil] using this
    have q2 : [98] = [t[k]] := by
      have := List.filter_eq_nil_iff.mp hf [98] (by simp [asg_v, noneW, allD, eqAll, nodAll, depAll, varW, idxW, seqW, cmpW, cmpP, vw, cmpD, eqOk, nod, dep, eqD, truW, truD, b1W, binW, binD, lenW, srcW, rcv1, tyOf, Fr.pur, ofP, m1W, int?, slW, slD, isiW, isTy, kindOk, isD, isW, inStr, nod_ones, T_beq, nod_strs, dep_strs, b2W, eq_nil])
      simpa [asg_v, noneW, allD, eqAll, nodAll, depAll, varW, idxW, seqW, cmpW, cmpP, vw, cmpD, eqOk, nod, dep, eqD, truW, truD, b1W, binW, binD, lenW, srcW, rcv1, tyOf, Fr.pur, ofP, m1W, int?, slW, slD, isiW, isTy, kindOk, isD, isW, inStr, nod_ones, T_beq, nod_strs, dep_strs, b2W, eq_nil] using this
    simp [asg_v, noneW, allD, eqAll, nodAll, depAll, varW, idxW, seqW, cmpW, cmpP, vw, cmpD, eqOk, nod, dep, eqD, truW, truD, b1W, binW, binD, lenW, srcW, rcv1, tyOf, Fr.pur, ofP, m1W, int?, slW, slD, isiW, isTy, kindOk, isD, isW, inStr, nod_ones, T_beq, nod_strs, dep_strs, b2W, eq_nil] at q1 q2
    omega
  have f3 : fs.length ≤ 5 := by
    rw [← hf]
    exact List.length_filter_le _ _
  have a1 : allD (fs.map fun u => W.d (dStr u)) = some (fs.map dStr) := allD_mapd dStr _
  simp only [Fr.pur, a1, Option.map_some, okR_some, okR_ok]
  refine okR_imp (pick hT hP h (by simpa [asg_v, noneW, allD, eqAll, nodAll, depAll, varW, idxW, seqW, cmpW, cmpP, vw, cmpD, eqOk, nod, dep, eqD, truW, truD, b1W, binW, binD, lenW, srcW, rcv1, tyOf, Fr.pur, ofP, m1W, int?, slW, slD, isiW, isTy, kindOk, isD, isW, inStr, nod_ones, T_beq, nod_strs, dep_strs, b2W, eq_nil] using f2) (by simp [asg_v, noneW, allD, eqAll, nodAll, depAll, varW, idxW, seqW, cmpW, cmpP, vw, cmpD, eqOk, nod, dep, eqD, truW, truD, b1W, binW, binD, lenW, srcW, rcv1, tyOf, Fr.pur, ofP, m1W, int?, slW, slD, isiW, isTy, kindOk, isD, isW, inStr, nod_ones, T_beq, nod_strs, dep_strs, b2W, eq_nil]; omega)) fun w st' ⟨⟨x, hx, hw⟩, h⟩ => ?_
  subst hw
  obtain ⟨f, hm, rfl⟩ := List.mem_map.mp hx
  obtain ⟨d, d1, d2, rfl⟩ := f1 f hm
  exact ⟨⟨d, d1, d2, rfl⟩, h⟩
/-- the wrong texts -/
theorem turn_wrong {ns : List Int} {ts : List (List Nat)} {ρ : FM.Env} {st : Sto} {a k d : Nat} (ht : ∀ t ∈ ts, Tx t) (hl : ts.length ≤ 12) (h : St2 ns ts st) (ha : a < ts.length) (hk : k < ts[a].length) (h9 : ρ[9]? = some (some (.ref 1))) (h12 : ρ[12]? = some (some (.d (.int a)))) (h3 : ρ[3]? = some (some (.d (dStr ts[a])))) (h14 : ρ[14]? = some (some (.d (.int k)))) (h15 : ρ[15]? = some (some (.d (dStr [d])))) :
    evE EP R0 (callD EP R0 10) (.bin .add (.bin .add (.sl (.var 9) (.no) (.e (.var 12))) (.pur (.lst (.cons (.bin .add (.bin .add (.sl (.var 3) (.no) (.e (.var 14))) (.var 15)) (.sl (.var 3) (.e (.bin .add (.var 14) (.int 1))) (.no))) (.nil))))) (.sl (.var 9) (.e (.bin .add (.var 12) (.int 1))) (.no))) ρ st = .ok (.d (.list ((wrongT ts a k d ha).map dStr))) st := by
  have hSZ : SZ = 16777216 := rfl
  obtain ⟨p, b, c, hp, rfl⟩ := h
  have l0 := (ht _ (List.getElem_mem ha)).2
  simp only [evE, evEs, evF, evO, varW, h9, h12, h3, h14, h15, Res.of_some, Res.bind_ok]
  simp [asg_v, noneW, allD, eqAll, nodAll, depAll, varW, idxW, seqW, cmpW, cmpP, vw, cmpD, eqOk, nod, dep, eqD, truW, truD, b1W, binW, binD, lenW, srcW, rcv1, tyOf, Fr.pur, ofP, m1W, int?, slW, slD, isiW, isTy, kindOk, isD, isW, inStr, nod_ones, T_beq, nod_strs, dep_strs, b2W, eq_nil, txC, tx_vw, cut_to, cut_up1, hSZ, show ts[a].length ≤ 16777216 by omega, Nat.min_eq_left (Nat.le_of_lt hk), Nat.min_eq_left (Nat.le_of_lt ha), show k ≤ 16777215 by omega, show a ≤ 16777215 by omega, show k + 1 + (ts[a].length - (k + 1)) ≤ 16777216 by omega, show a + 1 + (ts.length - (a + 1)) ≤ 16777216 by omega]
  simp [asg_v, noneW, allD, eqAll, nodAll, depAll, varW, idxW, seqW, cmpW, cmpP, vw, cmpD, eqOk, nod, dep, eqD, truW, truD, b1W, binW, binD, lenW, srcW, rcv1, tyOf, Fr.pur, ofP, m1W, int?, slW, slD, isiW, isTy, kindOk, isD, isW, inStr, nod_ones, T_beq, nod_strs, dep_strs, b2W, eq_nil, wrongT, List.map_take, List.map_drop]
theorem rng_ok (i : Int) (h : 0 ≤ i) (h2 : i ≤ 1000) : rngOk i = true := by
  simp [asg_v, noneW, allD, eqAll, nodAll, depAll, varW, idxW, seqW, cmpW, cmpP, vw, cmpD, eqOk, nod, dep, eqD, truW, truD, b1W, binW, binD, lenW, srcW, rcv1, tyOf, Fr.pur, ofP, m1W, int?, slW, slD, isiW, isTy, kindOk, isD, isW, inStr, nod_ones, T_beq, nod_strs, dep_strs, b2W, eq_nil, rngOk]
  omega
theorem rng2_ok {x y : FM.E} {ρ : FM.Env} {st : Sto} {i n : Int} {Φ : Call} (h1 : evE EP R0 Φ x ρ st = .ok (.d (.int i)) st) (h2 : evE EP R0 Φ y ρ st = .ok (.d (.int n)) st) (r1 : rngOk i = true) (r2 : rngOk n = true) : evI EP R0 Φ (.rng2 x y) ρ st = .ok (rngL i (n - i).toNat, none) st := by
  rw [evI, h1, Res.bind_ok, h2, Res.bind_ok]
  exact if_pos (by rw [r1, r2]; rfl)
theorem turn_src {ns : List Int} {ts : List (List Nat)} {ρ : FM.Env} {st : Sto} {a : Nat} (hl : ts.length ≤ 12) (h : St2 ns ts st) (ha : a < ts.length) (h9 : ρ[9]? = some (some (.ref 1))) (h12 : ρ[12]? = some (some (.d (.int a)))) : evI EP R0 (callD EP R0 10) (.rng2 (.var 12) (.b1 .len (.var 9))) ρ st = .ok (rngL a ((ts.length : Int) - a).toNat, none) st := by
  refine rng2_ok ?_ ?_ (rng_ok _ (by omega) (by omega)) (rng_ok _ (by omega) (by omega))
  · simp only [evE, varW, h12, Res.of_some]
  · obtain ⟨p, b, c, hp, rfl⟩ := h
    simp only [evE, varW, h9, Res.of_some, Res.bind_ok]
    simp [asg_v, noneW, allD, eqAll, nodAll, depAll, varW, idxW, seqW, cmpW, cmpP, vw, cmpD, eqOk, nod, dep, eqD, truW, truD, b1W, binW, binD, lenW, srcW, rcv1, tyOf, Fr.pur, ofP, m1W, int?, slW, slD, isiW, isTy, kindOk, isD, isW, inStr, nod_ones, T_beq, nod_strs, dep_strs, b2W, eq_nil, txC]
/-- the wrong seals -/
theorem turn_last {ns : List Int} {ts : List (List Nat)} {vs : List Int} {ρ : FM.Env} {st : Sto} {a : Nat} (hl : ts.length ≤ 12) (h : St2 ns ts st) (ha : a < ts.length) (hv : vs.length = ts.length) (h1 : vs.take a = (sealsP 0 ts).take a) (h2 : ∀ (i : Nat) (u v : Int), a ≤ i → vs[i]? = some u → (sealsP 0 ts)[i]? = some v → u ≠ v) (h9 : ρ[9]? = some (some (.ref 1))) (h10 : ρ[10]? = some (some (.ref 2))) (h12 : ρ[12]? = some (some (.d (.int a)))) (h17 : ρ[17]? = some (some (.d (.list (vs.map .int))))) (hr : ρ.length = 20) :
    evC EP R0 (callD EP R0 10) (.or (.e (.cmp .ne (.pur (.lc [2] (.v 2) (.rng2 (.var 12) (.b1 .len (.var 9))) (.c (.e (.cmp .eq (.idx (.var 17) (.var 2)) (.idx (.var 10) (.var 2))))) (.var 2))) (.pur (.lst (.nil))))) (.e (.cmp .ne (.sl (.var 17) (.no) (.e (.var 12))) (.sl (.var 10) (.no) (.e (.var 12)))))) ρ st = .ok false st := by
  have hSZ : SZ = 16777216 := rfl
  obtain ⟨p, b, c, hp, rfl⟩ := h
  have ln := sealsP_len ts 0
  have e0 := turn_src (ns := ns) (st := rowC ns p b c :: [txC ts, duC (sealsP 0 ts)]) (ρ := ρ) hl ⟨p, b, c, hp, rfl⟩ ha h9 h12
  have e1 : evF EP R0 (callD EP R0 10) (.lc [2] (.v 2) (.rng2 (.var 12) (.b1 .len (.var 9))) (.c (.e (.cmp .eq (.idx (.var 17) (.var 2)) (.idx (.var 10) (.var 2))))) (.var 2)) ρ (rowC ns p b c :: [txC ts, duC (sealsP 0 ts)]) = .ok (.l []) (rowC ns p b c :: [txC ts, duC (sealsP 0 ts)]) := by
    rw [evF, e0, Res.bind_ok]
    rw [if_neg (by simp [asg_v, noneW, allD, eqAll, nodAll, depAll, varW, idxW, seqW, cmpW, cmpP, vw, cmpD, eqOk, nod, dep, eqD, truW, truD, b1W, binW, binD, lenW, srcW, rcv1, tyOf, Fr.pur, ofP, m1W, int?, slW, slD, isiW, isTy, kindOk, isD, isW, inStr, nod_ones, T_beq, nod_strs, dep_strs, b2W, eq_nil, rngL, hSZ]; omega), lc_pure (fun _ => none)]
    · simp [asg_v, noneW, allD, eqAll, nodAll, depAll, varW, idxW, seqW, cmpW, cmpP, vw, cmpD, eqOk, nod, dep, eqD, truW, truD, b1W, binW, binD, lenW, srcW, rcv1, tyOf, Fr.pur, ofP, m1W, int?, slW, slD, isiW, isTy, kindOk, isD, isW, inStr, nod_ones, T_beq, nod_strs, dep_strs, b2W, eq_nil]
    · intro w hw
      simp only [rngL, List.mem_map, List.mem_range] at hw
      obtain ⟨i, hi, rfl⟩ := hw
      have b2 : varW ((wip ρ [2]).set 2 (some (.d (.int (a + (i : Nat)))))) 2 = some (.d (.int ((a + i : Nat) : Int))) := by simp [asg_v, noneW, allD, eqAll, nodAll, depAll, varW, idxW, seqW, cmpW, cmpP, vw, cmpD, eqOk, nod, dep, eqD, truW, truD, b1W, binW, binD, lenW, srcW, rcv1, tyOf, Fr.pur, ofP, m1W, int?, slW, slD, isiW, isTy, kindOk, isD, isW, inStr, nod_ones, T_beq, nod_strs, dep_strs, b2W, eq_nil, wip, hr]
      have b17 : varW ((wip ρ [2]).set 2 (some (.d (.int (a + (i : Nat)))))) 17 = some (.d (.list (vs.map .int))) := by simp [asg_v, noneW, allD, eqAll, nodAll, depAll, varW, idxW, seqW, cmpW, cmpP, vw, cmpD, eqOk, nod, dep, eqD, truW, truD, b1W, binW, binD, lenW, srcW, rcv1, tyOf, Fr.pur, ofP, m1W, int?, slW, slD, isiW, isTy, kindOk, isD, isW, inStr, nod_ones, T_beq, nod_strs, dep_strs, b2W, eq_nil, wip, h17]
      have b10 : varW ((wip ρ [2]).set 2 (some (.d (.int (a + (i : Nat)))))) 10 = some (.ref 2) := by simp [asg_v, noneW, allD, eqAll, nodAll, depAll, varW, idxW, seqW, cmpW, cmpP, vw, cmpD, eqOk, nod, dep, eqD, truW, truD, b1W, binW, binD, lenW, srcW, rcv1, tyOf, Fr.pur, ofP, m1W, int?, slW, slD, isiW, isTy, kindOk, isD, isW, inStr, nod_ones, T_beq, nod_strs, dep_strs, b2W, eq_nil, wip, h10]
      have q1 : a + i < vs.length := by omega
      have q2 : a + i < (sealsP 0 ts).length := by omega
      have i1 : idxW (rowC ns p b c :: [txC ts, duC (sealsP 0 ts)]) (.d (.list (vs.map .int))) (.d (.int ((a + i : Nat) : Int))) = some (.d (.int vs[a + i])) := by
        rw [idxW]
        · simp only [seqW, atI_nat]
          simp [asg_v, noneW, allD, eqAll, nodAll, depAll, varW, idxW, seqW, cmpW, cmpP, vw, cmpD, eqOk, nod, dep, eqD, truW, truD, b1W, binW, binD, lenW, srcW, rcv1, tyOf, Fr.pur, ofP, m1W, int?, slW, slD, isiW, isTy, kindOk, isD, isW, inStr, nod_ones, T_beq, nod_strs, dep_strs, b2W, eq_nil, q1]
        · intro s hs
          cases hs
      have i2 : idxW (rowC ns p b c :: [txC ts, duC (sealsP 0 ts)]) (.ref 2) (.d (.int ((a + i : Nat) : Int))) = some (.d (.int (sealsP 0 ts)[a + i])) := by
        rw [idxW]
        · simp only [seqW, atI_nat, duC, List.getElem?_cons_zero, List.getElem?_cons_succ]
          simp [asg_v, noneW, allD, eqAll, nodAll, depAll, varW, idxW, seqW, cmpW, cmpP, vw, cmpD, eqOk, nod, dep, eqD, truW, truD, b1W, binW, binD, lenW, srcW, rcv1, tyOf, Fr.pur, ofP, m1W, int?, slW, slD, isiW, isTy, kindOk, isD, isW, inStr, nod_ones, T_beq, nod_strs, dep_strs, b2W, eq_nil, q2]
        · intro s hs
          cases hs
      have hne := h2 (a + i) _ _ (by omega) (List.getElem?_eq_getElem q1) (List.getElem?_eq_getElem q2)
      simp only [asg_v, evCs, evC, evE, b2, b17, b10, Res.of_some, Res.bind_ok, i1, i2]
      simp [asg_v, noneW, allD, eqAll, nodAll, depAll, varW, idxW, seqW, cmpW, cmpP, vw, cmpD, eqOk, nod, dep, eqD, truW, truD, b1W, binW, binD, lenW, srcW, rcv1, tyOf, Fr.pur, ofP, m1W, int?, slW, slD, isiW, isTy, kindOk, isD, isW, inStr, nod_ones, T_beq, nod_strs, dep_strs, b2W, eq_nil, hne]
  have ev : vw (rowC ns p b c :: [txC ts, duC (sealsP 0 ts)]) (.ref 2) = some (.list ((sealsP 0 ts).map .int)) := by simp [asg_v, noneW, allD, eqAll, nodAll, depAll, varW, idxW, seqW, cmpW, cmpP, vw, cmpD, eqOk, nod, dep, eqD, truW, truD, b1W, binW, binD, lenW, srcW, rcv1, tyOf, Fr.pur, ofP, m1W, int?, slW, slD, isiW, isTy, kindOk, isD, isW, inStr, nod_ones, T_beq, nod_strs, dep_strs, b2W, eq_nil, duC, du_vw]
  generalize hL : F.lc [2] (.v 2) (.rng2 (.var 12) (.b1 .len (.var 9))) (.c (.e (.cmp .eq (.idx (.var 17) (.var 2)) (.idx (.var 10) (.var 2))))) (.var 2) = L at e1 ⊢
  simp only [evC, evE, e1, Res.bind_ok, evF, evEs, evO, varW, h17, h10, h12, Res.of_some, ev, slW]
  simp [asg_v, noneW, allD, eqAll, nodAll, depAll, varW, idxW, seqW, cmpW, cmpP, vw, cmpD, eqOk, nod, dep, eqD, truW, truD, b1W, binW, binD, lenW, srcW, rcv1, tyOf, Fr.pur, ofP, m1W, int?, slW, slD, isiW, isTy, kindOk, isD, isW, inStr, nod_ones, T_beq, nod_strs, dep_strs, b2W, eq_nil, hSZ, cut_to, ← List.map_take, h1, eq_ints, nod_ints, duC, du_vw]
end HT
end

section
set_option Elab.async false
set_option linter.all false
set_option maxRecDepth 100000
set_option autoImplicit false
set_option maxHeartbeats 4000000
namespace HT
open PySem FM
def QT (ns : List Int) (ts : List (List Nat)) (v0 v5 v6 v7 v8 v11 : Option W) (ws : List W) (ρ : FM.Env) (st : Sto) : Prop := ∃ v2 v3 v4 v12 v13 v14 v15 v16 v17 v18 v19 : Option W, (ws ≠ [] → ts ≠ []) ∧ ρ = [v0, some (.ref 0), v2, v3, v4, v5, v6, v7, v8, some (.ref 1), some (.ref 2), v11, v12, v13, v14, v15, v16, v17, v18, v19] ∧ St2 ns ts st
theorem setS {x : FM.E} {k : Nat} {r : FM.Ss} {ρ : FM.Env} {st : Sto} {Φ : Call} {Q : W → Sto → Prop} {N : FM.Env → Sto → Prop} {Rt : W → Sto → Prop} (h : okR (evE EP R0 Φ x ρ st) Q) (hn : ∀ w st, Q w st → okO (evSs EP R0 Φ r (ρ.set k (some w)) st) N Rt) : okO (evSs EP R0 Φ (.cons (.set (.v k) x) r) ρ st) N Rt := by
  rw [evSs, evS]
  simp only [okO_next, okO_out, asg_v, okO_nx]
  exact okR_imp h fun w st q => hn w st q
theorem ifeS {c : FM.C} {b r : FM.Ss} {ρ : FM.Env} {st : Sto} {Φ : Call} {N : FM.Env → Sto → Prop} {Rt : W → Sto → Prop} (h : evC EP R0 Φ c ρ st = .ok false st) (hn : okO (evSs EP R0 Φ r ρ st) N Rt) : okO (evSs EP R0 Φ (.cons (.ife c b .nil) r) ρ st) N Rt := by
  rw [evSs, evS, h]
  exact hn
theorem ifeY {c : FM.C} {b r : FM.Ss} {ρ : FM.Env} {st : Sto} {Φ : Call} {N N' : FM.Env → Sto → Prop} {Rt : W → Sto → Prop} (h : evC EP R0 Φ c ρ st = .ok true st) (hb : okO (evSs EP R0 Φ b ρ st) N' Rt) (hn : ∀ ρ st, N' ρ st → okO (evSs EP R0 Φ r ρ st) N Rt) : okO (evSs EP R0 Φ (.cons (.ife c b .nil) r) ρ st) N Rt := by
  rw [evSs, evS, h]
  simp only [okO_next]
  exact okO_imp hb hn fun _ _ h => h
/-- one turn -/
theorem law_turn {ns : List Int} {ts : List (List Nat)} {v0 v5 v6 v7 v8 v11 : Option W} {u : W} {us : List W} {ρ : FM.Env} {st : Sto} (ht : ∀ t ∈ ts, Tx t) (hl : ts.length ≤ 12) (h : QT ns ts v0 v5 v6 v7 v8 v11 (u :: us) ρ st) :
    okO (evSs EP R0 (callD EP R0 10) (.cons (.set (.v 12) (.call "_law_taken" (.cons (.var 1) (.cons (.b1 .len (.var 9)) (.nil))))) (.cons (.set (.v 13) (.bin .add (.bin .add (.sl (.var 10) (.no) (.e (.var 12))) (.pur (.lst (.cons (.bin .mod (.b1 .int (.bin .add (.bin .add (.idx (.var 10) (.var 12)) (.int 1)) (.call "_law_taken" (.cons (.var 1) (.cons (.int 1000) (.nil)))))) (.int 1000003)) (.nil))))) (.sl (.var 10) (.e (.bin .add (.var 12) (.int 1))) (.no)))) (.cons (.ife (.not (.e (.call "_law_alike" (.cons (.call "first_broken" (.cons (.var 9) (.cons (.var 13) (.nil)))) (.cons (.var 12) (.nil)))))) (.cons (.ret (.bl false)) (.nil)) (.nil)) (.cons (.set (.v 3) (.idx (.var 9) (.var 12))) (.cons (.ife (.e (.cmp .ne (.var 3) (.str []))) (.cons (.set (.v 14) (.call "_law_taken" (.cons (.var 1) (.cons (.b1 .len (.var 3)) (.nil))))) (.cons (.set (.v 15) (.call "_law_pick" (.cons (.var 1) (.cons (.pur (.lc [19] (.v 19) (.e (.pur (.lst (.cons (.str [97]) (.cons (.str [98]) (.cons (.str [33]) (.cons (.str [126]) (.cons (.str [32]) (.nil))))))))) (.c (.e (.cmp .ne (.var 19) (.idx (.var 3) (.var 14))))) (.var 19))) (.nil))))) (.cons (.set (.v 16) (.bin .add (.bin .add (.sl (.var 9) (.no) (.e (.var 12))) (.pur (.lst (.cons (.bin .add (.bin .add (.sl (.var 3) (.no) (.e (.var 14))) (.var 15)) (.sl (.var 3) (.e (.bin .add (.var 14) (.int 1))) (.no))) (.nil))))) (.sl (.var 9) (.e (.bin .add (.var 12) (.int 1))) (.no)))) (.cons (.ife (.not (.e (.call "_law_alike" (.cons (.call "first_broken" (.cons (.var 16) (.cons (.var 10) (.nil)))) (.cons (.var 12) (.nil)))))) (.cons (.ret (.bl false)) (.nil)) (.nil)) (.cons (.set (.v 17) (.call "seals" (.cons (.var 16) (.nil)))) (.cons (.ife (.or (.e (.cmp .ne (.pur (.lc [2] (.v 2) (.rng2 (.var 12) (.b1 .len (.var 9))) (.c (.e (.cmp .eq (.idx (.var 17) (.var 2)) (.idx (.var 10) (.var 2))))) (.var 2))) (.pur (.lst (.nil))))) (.e (.cmp .ne (.sl (.var 17) (.no) (.e (.var 12))) (.sl (.var 10) (.no) (.e (.var 12)))))) (.cons (.ret (.bl false)) (.nil)) (.nil)) (.nil))))))) (.nil)) (.nil)))))) ρ st) (QT ns ts v0 v5 v6 v7 v8 v11 us) (fun _ _ => False) := by
  have hSZ : SZ = 16777216 := rfl
  obtain ⟨v2, v3, v4, v12, v13, v14, v15, v16, v17, v18, v19, hne, rfl, h⟩ := h
  have hne : ts ≠ [] := hne (by simp [asg_v, noneW, allD, eqAll, nodAll, depAll, varW, idxW, seqW, cmpW, cmpP, vw, cmpD, eqOk, nod, dep, eqD, truW, truD, b1W, binW, binD, lenW, srcW, rcv1, tyOf, Fr.pur, ofP, m1W, int?, slW, slD, isiW, isTy, kindOk, isD, isW, inStr, nod_ones, T_beq, nod_strs, dep_strs, b2W, eq_nil])
  have hpos : 0 < ts.length := List.length_pos_iff.mpr hne
  have ln := sealsP_len ts 0
  have hlen : ∀ st, St2 ns ts st → b1W R0 st .len (.ref 1) = some (.d (.int ts.length)) := by
    rintro _ ⟨a', b', c', ha', rfl⟩
    simp [asg_v, noneW, allD, eqAll, nodAll, depAll, varW, idxW, seqW, cmpW, cmpP, vw, cmpD, eqOk, nod, dep, eqD, truW, truD, b1W, binW, binD, lenW, srcW, rcv1, tyOf, Fr.pur, ofP, m1W, int?, slW, slD, isiW, isTy, kindOk, isD, isW, inStr, nod_ones, T_beq, nod_strs, dep_strs, b2W, eq_nil, txC]
  have hidx : ∀ st (a : Nat) (ha : a < ts.length), St2 ns ts st → idxW st (.ref 1) (.d (.int a)) = some (.d (dStr ts[a])) := by
    rintro _ a ha ⟨a', b', c', ha', rfl⟩
    rw [idxW]
    · simp only [seqW, atI_nat, txC, List.getElem?_cons_zero, List.getElem?_cons_succ]
      simp [asg_v, noneW, allD, eqAll, nodAll, depAll, varW, idxW, seqW, cmpW, cmpP, vw, cmpD, eqOk, nod, dep, eqD, truW, truD, b1W, binW, binD, lenW, srcW, rcv1, tyOf, Fr.pur, ofP, m1W, int?, slW, slD, isiW, isTy, kindOk, isD, isW, inStr, nod_ones, T_beq, nod_strs, dep_strs, b2W, eq_nil, ha]
    · intro s hs
      cases hs
  refine setS (Q := fun w st => (∃ a : Nat, a < ts.length ∧ w = .d (.int a)) ∧ St2 ns ts st) ?_ ?_
  · simp only [evE, evEs, varW, List.getElem?_cons_zero, List.getElem?_cons_succ, Res.of_some, Res.bind_ok, hlen st h]
    refine okR_imp (taken hT h (m := ts.length) (by omega) (by omega)) fun w st' ⟨⟨k, k1, k2, hw⟩, h⟩ => ⟨⟨k.toNat, by omega, by rw [hw, Int.toNat_of_nonneg k1]⟩, h⟩
  rintro w st ⟨⟨a, ha, rfl⟩, h⟩
  have ha' : a < (sealsP 0 ts).length := by omega
  refine setS (turn_other ht hl h rfl rfl rfl ha') ?_
  rintro w st ⟨⟨x, x1, x2, x3, rfl⟩, h⟩
  refine ifeS ?_ ?_
  · have s1 := law_other ht hl h ha' x1 x2 x3
    have s2 := alike_int (i := a) (st := st) (j := 9)
    simp only [evC, evE, evEs, varW, List.set, List.getElem?_cons_zero, List.getElem?_cons_succ, Res.of_some, Res.bind_ok, s1, s2]
    rfl
  refine setS (Q := fun w st => w = .d (dStr ts[a]) ∧ St2 ns ts st) ?_ ?_
  · simp only [evE, evEs, varW, List.set, List.getElem?_cons_zero, List.getElem?_cons_succ, Res.of_some, Res.bind_ok, hidx st a ha h, okR_ok]
    exact ⟨trivial, h⟩
  rintro w st ⟨rfl, h⟩
  by_cases he : ts[a] = []
  · refine ifeS ?_ ?_
    · simp only [evC, evE, evEs, varW, List.set, List.getElem?_cons_zero, List.getElem?_cons_succ, Res.of_some, Res.bind_ok]
      simp [asg_v, noneW, allD, eqAll, nodAll, depAll, varW, idxW, seqW, cmpW, cmpP, vw, cmpD, eqOk, nod, dep, eqD, truW, truD, b1W, binW, binD, lenW, srcW, rcv1, tyOf, Fr.pur, ofP, m1W, int?, slW, slD, isiW, isTy, kindOk, isD, isW, inStr, nod_ones, T_beq, nod_strs, dep_strs, b2W, eq_nil, he]
    · exact ⟨_, _, _, _, _, _, _, _, _, _, _, fun _ => hne, rfl, h⟩
  have tx := ht _ (List.getElem_mem ha)
  have tpos : 0 < ts[a].length := List.length_pos_iff.mpr he
  refine ifeY (N' := QT ns ts v0 v5 v6 v7 v8 v11 us) ?_ ?_ (fun ρ st h => h)
  · simp only [evC, evE, evEs, varW, List.set, List.getElem?_cons_zero, List.getElem?_cons_succ, Res.of_some, Res.bind_ok]
    simp [asg_v, noneW, allD, eqAll, nodAll, depAll, varW, idxW, seqW, cmpW, cmpP, vw, cmpD, eqOk, nod, dep, eqD, truW, truD, b1W, binW, binD, lenW, srcW, rcv1, tyOf, Fr.pur, ofP, m1W, int?, slW, slD, isiW, isTy, kindOk, isD, isW, inStr, nod_ones, T_beq, nod_strs, dep_strs, b2W, eq_nil, he]
  refine setS (Q := fun w st => (∃ k : Nat, k < ts[a].length ∧ w = .d (.int k)) ∧ St2 ns ts st) ?_ ?_
  · have e : b1W R0 st .len (.d (dStr ts[a])) = some (.d (.int ts[a].length)) := by
      have := tx.2
      simp [asg_v, noneW, allD, eqAll, nodAll, depAll, varW, idxW, seqW, cmpW, cmpP, vw, cmpD, eqOk, nod, dep, eqD, truW, truD, b1W, binW, binD, lenW, srcW, rcv1, tyOf, Fr.pur, ofP, m1W, int?, slW, slD, isiW, isTy, kindOk, isD, isW, inStr, nod_ones, T_beq, nod_strs, dep_strs, b2W, eq_nil, hSZ, show ts[a].length ≤ 16777216 by omega]
    simp only [evE, evEs, varW, List.set, List.getElem?_cons_zero, List.getElem?_cons_succ, Res.of_some, Res.bind_ok, e]
    have := tx.2
    refine okR_imp (taken hT h (m := ts[a].length) (by omega) (by omega)) fun w st' ⟨⟨k, k1, k2, hw⟩, h⟩ => ⟨⟨k.toNat, by omega, by rw [hw, Int.toNat_of_nonneg k1]⟩, h⟩
  rintro w st ⟨⟨k, hk, rfl⟩, h⟩
  refine setS (turn_sign h rfl rfl rfl rfl tx.2 hk) ?_
  rintro w st ⟨⟨d, d1, d2, rfl⟩, h⟩
  refine setS (Q := fun w st => w = .d (.list ((wrongT ts a k d ha).map dStr)) ∧ St2 ns ts st) (okR_eq (turn_wrong ht hl h ha hk rfl rfl rfl rfl rfl) ⟨rfl, h⟩) ?_
  rintro w st ⟨rfl, h⟩
  obtain ⟨w1, w2⟩ := wrong_tx ht hk d2 (h := ha)
  obtain ⟨f1, f2, f3⟩ := wrong_seals ht hk d2 d1 (h := ha)
  have hr : ∀ t ∈ wrongT ts a k d ha, recP t = true ∧ t.length ≤ 1000 := fun t h => (w1 t h).rec
  refine ifeS ?_ ?_
  · have s1 : callD EP R0 10 "first_broken" [.d (.list ((wrongT ts a k d ha).map dStr)), .ref 2] st = .ok (.d (.int a)) st := by
      obtain ⟨p, b, c, hp, rfl⟩ := h
      rw [← f1]
      exact fb_ok (j := 7) RowW.lst duC_row (by omega) hr (by omega) (seals_bd ts 0)
    have s2 := alike_int (i := a) (st := st) (j := 9)
    simp only [evC, evE, evEs, varW, List.set, List.getElem?_cons_zero, List.getElem?_cons_succ, Res.of_some, Res.bind_ok, s1, s2]
    rfl
  refine setS (Q := fun w st => w = .d (.list ((sealsP 0 (wrongT ts a k d ha)).map .int)) ∧ St2 ns ts st) ?_ ?_
  · have s1 : callD EP R0 10 "seals" [.d (.list ((wrongT ts a k d ha).map dStr))] st = .ok (.d (.list ((sealsP 0 (wrongT ts a k d ha)).map .int))) st := seals_ok (j := 7) RowW.lst (by omega) hr
    simp only [evC, evE, evEs, varW, List.set, List.getElem?_cons_zero, List.getElem?_cons_succ, Res.of_some, Res.bind_ok, s1, okR_ok]
    exact ⟨trivial, h⟩
  rintro w st ⟨rfl, h⟩
  refine ifeS (turn_last hl h ha (by rw [sealsP_len, w2]) f2 f3 rfl rfl rfl rfl rfl) ?_
  exact ⟨_, _, _, _, _, _, _, _, _, _, _, fun _ => hne, rfl, h⟩
end HT
end

section
set_option Elab.async false
set_option linter.all false
set_option maxRecDepth 100000
set_option autoImplicit false
set_option maxHeartbeats 4000000
namespace HT
open PySem FM
theorem row_exn {ns : List Int} {rest st st' : Sto} {c : String} {x : D} (h : Row ns rest st) (h' : Row ns rest st') : exitR .eff st (.exn (bad1 c x) st') = .exn (bad1 c x) st' := by
  obtain ⟨a, b, d, ha, rfl⟩ := h
  obtain ⟨a', b', d', ha', rfl⟩ := h'
  have : okOld (rowC ns a b d :: rest) (rowC ns a' b' d' :: rest) := old_row
  simp [asg_v, noneW, allD, eqAll, nodAll, depAll, varW, idxW, seqW, cmpW, cmpP, vw, cmpD, eqOk, nod, dep, eqD, truW, truD, b1W, binW, binD, lenW, srcW, rcv1, tyOf, Fr.pur, ofP, m1W, int?, slW, slD, isiW, isTy, kindOk, isD, isW, inStr, nod_ones, T_beq, nod_strs, dep_strs, b2W, eq_nil, exitR, exitExn, frzF, this, bad1]
theorem gR : EP.refused "_law_refused" = some hs := by simp [asg_v, noneW, allD, eqAll, nodAll, depAll, varW, idxW, seqW, cmpW, cmpP, vw, cmpD, eqOk, nod, dep, eqD, truW, truD, b1W, binW, binD, lenW, srcW, rcv1, tyOf, Fr.pur, ofP, m1W, int?, slW, slD, isiW, isTy, kindOk, isD, isW, inStr, nod_ones, T_beq, nod_strs, dep_strs, b2W, eq_nil, EP]
theorem hNum {x : D} {st : Sto} : FM.handled hs (bad1 "BadNumber" x) st = some (.d (.tuple [dStr [110, 117, 109, 98, 101, 114], x])) := by simp [asg_v, noneW, allD, eqAll, nodAll, depAll, varW, idxW, seqW, cmpW, cmpP, vw, cmpD, eqOk, nod, dep, eqD, truW, truD, b1W, binW, binD, lenW, srcW, rcv1, tyOf, Fr.pur, ofP, m1W, int?, slW, slD, isiW, isTy, kindOk, isD, isW, inStr, nod_ones, T_beq, nod_strs, dep_strs, b2W, eq_nil, FM.handled, hs, bad1]
theorem hSeals {x : D} {st : Sto} : FM.handled hs (bad1 "BadSeals" x) st = some (.d (.tuple [dStr [115, 101, 97, 108, 115], x])) := by simp [asg_v, noneW, allD, eqAll, nodAll, depAll, varW, idxW, seqW, cmpW, cmpP, vw, cmpD, eqOk, nod, dep, eqD, truW, truD, b1W, binW, binD, lenW, srcW, rcv1, tyOf, Fr.pur, ofP, m1W, int?, slW, slD, isiW, isTy, kindOk, isD, isW, inStr, nod_ones, T_beq, nod_strs, dep_strs, b2W, eq_nil, FM.handled, hs, bad1]
theorem hText {x : D} {st : Sto} : FM.handled hs (bad1 "BadText" x) st = some (.d (.tuple [dStr [116, 101, 120, 116], x])) := by simp [asg_v, noneW, allD, eqAll, nodAll, depAll, varW, idxW, seqW, cmpW, cmpP, vw, cmpD, eqOk, nod, dep, eqD, truW, truD, b1W, binW, binD, lenW, srcW, rcv1, tyOf, Fr.pur, ofP, m1W, int?, slW, slD, isiW, isTy, kindOk, isD, isW, inStr, nod_ones, T_beq, nod_strs, dep_strs, b2W, eq_nil, FM.handled, hs, bad1]
theorem hTexts {x : D} {st : Sto} : FM.handled hs (bad1 "BadTexts" x) st = some (.d (.tuple [dStr [116, 101, 120, 116, 115], x])) := by simp [asg_v, noneW, allD, eqAll, nodAll, depAll, varW, idxW, seqW, cmpW, cmpP, vw, cmpD, eqOk, nod, dep, eqD, truW, truD, b1W, binW, binD, lenW, srcW, rcv1, tyOf, Fr.pur, ofP, m1W, int?, slW, slD, isiW, isTy, kindOk, isD, isW, inStr, nod_ones, T_beq, nod_strs, dep_strs, b2W, eq_nil, FM.handled, hs, bad1]
theorem rep_big (w : List Nat) (x : D) (hn : nod x = true) (hd : dep x ≤ 50) (hs : x.showable = true) (hl : x.shown.length ≤ 5000) (hw : ∀ c ∈ w, c < 1114112) (hw2 : w.length ≤ 100) : reprOk R0 (PyData.tuple [dStr w, x]) = true := by
  have h1 := repr_le w hw
  have h2 := StrLaws.join_length_le (Str.ofString ", ") [reprText (T w), x.shown]
  have h3 : (Str.ofString ", ").length = 2 := by decide
  have h4 : (Str.ofString "(").length = 1 := by decide
  have h5 : (Str.ofString ")").length = 1 := by decide
  have hSZ : SZ = 16777216 := rfl
  simp [asg_v, noneW, allD, eqAll, nodAll, depAll, varW, idxW, seqW, cmpW, cmpP, vw, cmpD, eqOk, nod, dep, eqD, truW, truD, b1W, binW, binD, lenW, srcW, rcv1, tyOf, Fr.pur, ofP, m1W, int?, slW, slD, isiW, isTy, kindOk, isD, isW, inStr, nod_ones, T_beq, nod_strs, dep_strs, b2W, eq_nil, h3] at h2
  simp [asg_v, noneW, allD, eqAll, nodAll, depAll, varW, idxW, seqW, cmpW, cmpP, vw, cmpD, eqOk, nod, dep, eqD, truW, truD, b1W, binW, binD, lenW, srcW, rcv1, tyOf, Fr.pur, ofP, m1W, int?, slW, slD, isiW, isTy, kindOk, isD, isW, inStr, nod_ones, T_beq, nod_strs, dep_strs, b2W, eq_nil, reprOk, R0, PyData.showable, PyData.shown, nod, nodAll, dep, depAll, dStr, PyData.showableAll, PyData.shownAll, tupleText, hn, hs]
  rw [app_len, app_len]
  omega
theorem rep_num {x : D} (hx : x ∈ noNum) : reprOk R0 (.tuple [dStr [110, 117, 109, 98, 101, 114], x]) = true := by
  simp only [noNum, List.mem_cons, List.not_mem_nil, or_false] at hx
  rcases hx with rfl | rfl | rfl | rfl
  · exact rep_big _ _ (by simp [asg_v, noneW, allD, eqAll, nodAll, depAll, varW, idxW, seqW, cmpW, cmpP, vw, cmpD, eqOk, nod, dep, eqD, truW, truD, b1W, binW, binD, lenW, srcW, rcv1, tyOf, Fr.pur, ofP, m1W, int?, slW, slD, isiW, isTy, kindOk, isD, isW, inStr, nod_ones, T_beq, nod_strs, dep_strs, b2W, eq_nil]) (by simp [asg_v, noneW, allD, eqAll, nodAll, depAll, varW, idxW, seqW, cmpW, cmpP, vw, cmpD, eqOk, nod, dep, eqD, truW, truD, b1W, binW, binD, lenW, srcW, rcv1, tyOf, Fr.pur, ofP, m1W, int?, slW, slD, isiW, isTy, kindOk, isD, isW, inStr, nod_ones, T_beq, nod_strs, dep_strs, b2W, eq_nil]) (by simp [asg_v, noneW, allD, eqAll, nodAll, depAll, varW, idxW, seqW, cmpW, cmpP, vw, cmpD, eqOk, nod, dep, eqD, truW, truD, b1W, binW, binD, lenW, srcW, rcv1, tyOf, Fr.pur, ofP, m1W, int?, slW, slD, isiW, isTy, kindOk, isD, isW, inStr, nod_ones, T_beq, nod_strs, dep_strs, b2W, eq_nil, PyData.showable]; decide) (by simp only [PyData.shown]; decide) (by decide) (by decide)
  · exact rep_big _ _ (by simp [asg_v, noneW, allD, eqAll, nodAll, depAll, varW, idxW, seqW, cmpW, cmpP, vw, cmpD, eqOk, nod, dep, eqD, truW, truD, b1W, binW, binD, lenW, srcW, rcv1, tyOf, Fr.pur, ofP, m1W, int?, slW, slD, isiW, isTy, kindOk, isD, isW, inStr, nod_ones, T_beq, nod_strs, dep_strs, b2W, eq_nil]) (by simp [asg_v, noneW, allD, eqAll, nodAll, depAll, varW, idxW, seqW, cmpW, cmpP, vw, cmpD, eqOk, nod, dep, eqD, truW, truD, b1W, binW, binD, lenW, srcW, rcv1, tyOf, Fr.pur, ofP, m1W, int?, slW, slD, isiW, isTy, kindOk, isD, isW, inStr, nod_ones, T_beq, nod_strs, dep_strs, b2W, eq_nil]) (by simp [asg_v, noneW, allD, eqAll, nodAll, depAll, varW, idxW, seqW, cmpW, cmpP, vw, cmpD, eqOk, nod, dep, eqD, truW, truD, b1W, binW, binD, lenW, srcW, rcv1, tyOf, Fr.pur, ofP, m1W, int?, slW, slD, isiW, isTy, kindOk, isD, isW, inStr, nod_ones, T_beq, nod_strs, dep_strs, b2W, eq_nil, PyData.showable]; decide) (by simp only [PyData.shown]; decide) (by decide) (by decide)
  · exact rep_big _ _ (by simp [asg_v, noneW, allD, eqAll, nodAll, depAll, varW, idxW, seqW, cmpW, cmpP, vw, cmpD, eqOk, nod, dep, eqD, truW, truD, b1W, binW, binD, lenW, srcW, rcv1, tyOf, Fr.pur, ofP, m1W, int?, slW, slD, isiW, isTy, kindOk, isD, isW, inStr, nod_ones, T_beq, nod_strs, dep_strs, b2W, eq_nil]) (by simp [asg_v, noneW, allD, eqAll, nodAll, depAll, varW, idxW, seqW, cmpW, cmpP, vw, cmpD, eqOk, nod, dep, eqD, truW, truD, b1W, binW, binD, lenW, srcW, rcv1, tyOf, Fr.pur, ofP, m1W, int?, slW, slD, isiW, isTy, kindOk, isD, isW, inStr, nod_ones, T_beq, nod_strs, dep_strs, b2W, eq_nil]) (by simp [asg_v, noneW, allD, eqAll, nodAll, depAll, varW, idxW, seqW, cmpW, cmpP, vw, cmpD, eqOk, nod, dep, eqD, truW, truD, b1W, binW, binD, lenW, srcW, rcv1, tyOf, Fr.pur, ofP, m1W, int?, slW, slD, isiW, isTy, kindOk, isD, isW, inStr, nod_ones, T_beq, nod_strs, dep_strs, b2W, eq_nil, PyData.showable]) (by simp only [PyData.shown]; decide) (by decide) (by decide)
  · exact rep_big _ _ (by simp [asg_v, noneW, allD, eqAll, nodAll, depAll, varW, idxW, seqW, cmpW, cmpP, vw, cmpD, eqOk, nod, dep, eqD, truW, truD, b1W, binW, binD, lenW, srcW, rcv1, tyOf, Fr.pur, ofP, m1W, int?, slW, slD, isiW, isTy, kindOk, isD, isW, inStr, nod_ones, T_beq, nod_strs, dep_strs, b2W, eq_nil]) (by simp [asg_v, noneW, allD, eqAll, nodAll, depAll, varW, idxW, seqW, cmpW, cmpP, vw, cmpD, eqOk, nod, dep, eqD, truW, truD, b1W, binW, binD, lenW, srcW, rcv1, tyOf, Fr.pur, ofP, m1W, int?, slW, slD, isiW, isTy, kindOk, isD, isW, inStr, nod_ones, T_beq, nod_strs, dep_strs, b2W, eq_nil]) (by simp [asg_v, noneW, allD, eqAll, nodAll, depAll, varW, idxW, seqW, cmpW, cmpP, vw, cmpD, eqOk, nod, dep, eqD, truW, truD, b1W, binW, binD, lenW, srcW, rcv1, tyOf, Fr.pur, ofP, m1W, int?, slW, slD, isiW, isTy, kindOk, isD, isW, inStr, nod_ones, T_beq, nod_strs, dep_strs, b2W, eq_nil, PyData.showable]) (by simp only [PyData.shown]; decide) (by decide) (by decide)
theorem rep_txt {x : D} (hx : x ∈ noRec) : reprOk R0 (.tuple [dStr [116, 101, 120, 116], x]) = true := by
  simp only [noRec, List.mem_cons, List.not_mem_nil, or_false] at hx
  rcases hx with rfl | rfl | rfl | rfl | rfl
  · exact rep_big _ _ (by simp [asg_v, noneW, allD, eqAll, nodAll, depAll, varW, idxW, seqW, cmpW, cmpP, vw, cmpD, eqOk, nod, dep, eqD, truW, truD, b1W, binW, binD, lenW, srcW, rcv1, tyOf, Fr.pur, ofP, m1W, int?, slW, slD, isiW, isTy, kindOk, isD, isW, inStr, nod_ones, T_beq, nod_strs, dep_strs, b2W, eq_nil]) (by simp [asg_v, noneW, allD, eqAll, nodAll, depAll, varW, idxW, seqW, cmpW, cmpP, vw, cmpD, eqOk, nod, dep, eqD, truW, truD, b1W, binW, binD, lenW, srcW, rcv1, tyOf, Fr.pur, ofP, m1W, int?, slW, slD, isiW, isTy, kindOk, isD, isW, inStr, nod_ones, T_beq, nod_strs, dep_strs, b2W, eq_nil]) (by simp [asg_v, noneW, allD, eqAll, nodAll, depAll, varW, idxW, seqW, cmpW, cmpP, vw, cmpD, eqOk, nod, dep, eqD, truW, truD, b1W, binW, binD, lenW, srcW, rcv1, tyOf, Fr.pur, ofP, m1W, int?, slW, slD, isiW, isTy, kindOk, isD, isW, inStr, nod_ones, T_beq, nod_strs, dep_strs, b2W, eq_nil, PyData.showable]) (by simp only [PyData.shown]; decide) (by decide) (by decide)
  · exact rep_big _ _ (by simp [asg_v, noneW, allD, eqAll, nodAll, depAll, varW, idxW, seqW, cmpW, cmpP, vw, cmpD, eqOk, nod, dep, eqD, truW, truD, b1W, binW, binD, lenW, srcW, rcv1, tyOf, Fr.pur, ofP, m1W, int?, slW, slD, isiW, isTy, kindOk, isD, isW, inStr, nod_ones, T_beq, nod_strs, dep_strs, b2W, eq_nil]) (by simp [asg_v, noneW, allD, eqAll, nodAll, depAll, varW, idxW, seqW, cmpW, cmpP, vw, cmpD, eqOk, nod, dep, eqD, truW, truD, b1W, binW, binD, lenW, srcW, rcv1, tyOf, Fr.pur, ofP, m1W, int?, slW, slD, isiW, isTy, kindOk, isD, isW, inStr, nod_ones, T_beq, nod_strs, dep_strs, b2W, eq_nil]) (by simp [asg_v, noneW, allD, eqAll, nodAll, depAll, varW, idxW, seqW, cmpW, cmpP, vw, cmpD, eqOk, nod, dep, eqD, truW, truD, b1W, binW, binD, lenW, srcW, rcv1, tyOf, Fr.pur, ofP, m1W, int?, slW, slD, isiW, isTy, kindOk, isD, isW, inStr, nod_ones, T_beq, nod_strs, dep_strs, b2W, eq_nil, PyData.showable]; decide) (by simp only [PyData.shown]; decide) (by decide) (by decide)
  · exact rep_str _ _ (by decide) (by decide) (by decide) (by decide)
  · refine rep_big _ _ (by simp [asg_v, noneW, allD, eqAll, nodAll, depAll, varW, idxW, seqW, cmpW, cmpP, vw, cmpD, eqOk, nod, dep, eqD, truW, truD, b1W, binW, binD, lenW, srcW, rcv1, tyOf, Fr.pur, ofP, m1W, int?, slW, slD, isiW, isTy, kindOk, isD, isW, inStr, nod_ones, T_beq, nod_strs, dep_strs, b2W, eq_nil]) (by simp [asg_v, noneW, allD, eqAll, nodAll, depAll, varW, idxW, seqW, cmpW, cmpP, vw, cmpD, eqOk, nod, dep, eqD, truW, truD, b1W, binW, binD, lenW, srcW, rcv1, tyOf, Fr.pur, ofP, m1W, int?, slW, slD, isiW, isTy, kindOk, isD, isW, inStr, nod_ones, T_beq, nod_strs, dep_strs, b2W, eq_nil]) (by simp [asg_v, noneW, allD, eqAll, nodAll, depAll, varW, idxW, seqW, cmpW, cmpP, vw, cmpD, eqOk, nod, dep, eqD, truW, truD, b1W, binW, binD, lenW, srcW, rcv1, tyOf, Fr.pur, ofP, m1W, int?, slW, slD, isiW, isTy, kindOk, isD, isW, inStr, nod_ones, T_beq, nod_strs, dep_strs, b2W, eq_nil, PyData.showable]) ?_ (by decide) (by decide)
    have := repr_le (List.replicate 201 120) (by intro c hc; rw [List.eq_of_mem_replicate hc]; decide)
    simp only [PyData.shown, dStr]
    rw [List.length_replicate] at this
    omega
  · refine rep_big _ _ (by simp [asg_v, noneW, allD, eqAll, nodAll, depAll, varW, idxW, seqW, cmpW, cmpP, vw, cmpD, eqOk, nod, dep, eqD, truW, truD, b1W, binW, binD, lenW, srcW, rcv1, tyOf, Fr.pur, ofP, m1W, int?, slW, slD, isiW, isTy, kindOk, isD, isW, inStr, nod_ones, T_beq, nod_strs, dep_strs, b2W, eq_nil]) (by simp [asg_v, noneW, allD, eqAll, nodAll, depAll, varW, idxW, seqW, cmpW, cmpP, vw, cmpD, eqOk, nod, dep, eqD, truW, truD, b1W, binW, binD, lenW, srcW, rcv1, tyOf, Fr.pur, ofP, m1W, int?, slW, slD, isiW, isTy, kindOk, isD, isW, inStr, nod_ones, T_beq, nod_strs, dep_strs, b2W, eq_nil]) (by simp [asg_v, noneW, allD, eqAll, nodAll, depAll, varW, idxW, seqW, cmpW, cmpP, vw, cmpD, eqOk, nod, dep, eqD, truW, truD, b1W, binW, binD, lenW, srcW, rcv1, tyOf, Fr.pur, ofP, m1W, int?, slW, slD, isiW, isTy, kindOk, isD, isW, inStr, nod_ones, T_beq, nod_strs, dep_strs, b2W, eq_nil, PyData.showable, PyData.showableAll]) ?_ (by decide) (by decide)
    have := repr_le [120] (by decide)
    have h4 : (Str.ofString "(").length = 1 := by decide
    have h5 : (Str.ofString ",)").length = 2 := by decide
    have h2 := StrLaws.join_length_le (Str.ofString ", ") [reprText (T [120])]
    have h3 : (Str.ofString ", ").length = 2 := by decide
    rw [h3] at h2
    show (Str.ofString "(" ++ (Str.ofString ", ").join [reprText (T [120])] ++ Str.ofString ",)").length ≤ 5000
    rw [app_len, app_len, h4, h5]
    simp [asg_v, noneW, allD, eqAll, nodAll, depAll, varW, idxW, seqW, cmpW, cmpP, vw, cmpD, eqOk, nod, dep, eqD, truW, truD, b1W, binW, binD, lenW, srcW, rcv1, tyOf, Fr.pur, ofP, m1W, int?, slW, slD, isiW, isTy, kindOk, isD, isW, inStr, nod_ones, T_beq, nod_strs, dep_strs, b2W, eq_nil] at h2 this
    omega
theorem law_num {x : D} {ρ : FM.Env} {st : Sto} (hx : x ∈ noNum) (h5 : ρ[5]? = some (some (.d x))) :
    evC EP R0 (callD EP R0 10) (.e (.cmp .ne (.b1 .repr (.refused "_law_refused" (.call "seal" (.cons (.var 5) (.cons (.none) (.nil)))))) (.b1 .repr (.tup (.cons (.str [110, 117, 109, 98, 101, 114]) (.cons (.var 5) (.nil))))))) ρ st = .ok false st := by
  have f := seal_num (y := .none) (st := st) (j := 7) hx
  have hr := rep_num hx
  simp only [evC, evE, evEs, varW, h5, Res.of_some, Res.bind_ok, noneW, f, gR, exit_eff_exn, hNum]
  have hSZ : SZ = 16777216 := rfl
  simp [asg_v, noneW, allD, eqAll, nodAll, depAll, varW, idxW, seqW, cmpW, cmpP, vw, cmpD, eqOk, nod, dep, eqD, truW, truD, b1W, binW, binD, lenW, srcW, rcv1, tyOf, Fr.pur, ofP, m1W, int?, slW, slD, isiW, isTy, kindOk, isD, isW, inStr, nod_ones, T_beq, nod_strs, dep_strs, b2W, eq_nil, hr, hSZ]
theorem law_txt {x : D} {ρ : FM.Env} {st : Sto} (hx : x ∈ noRec) (h6 : ρ[6]? = some (some (.d x))) :
    evC EP R0 (callD EP R0 10) (.e (.cmp .ne (.b1 .repr (.refused "_law_refused" (.call "seal" (.cons (.int 0) (.cons (.var 6) (.nil)))))) (.b1 .repr (.tup (.cons (.str [116, 101, 120, 116]) (.cons (.var 6) (.nil))))))) ρ st = .ok false st := by
  have f := seal_txt (st := st) (j := 7) hx
  have hr := rep_txt hx
  simp only [evC, evE, evEs, varW, h6, Res.of_some, Res.bind_ok, noneW, f, gR, exit_eff_exn, hText]
  have hSZ : SZ = 16777216 := rfl
  simp [asg_v, noneW, allD, eqAll, nodAll, depAll, varW, idxW, seqW, cmpW, cmpP, vw, cmpD, eqOk, nod, dep, eqD, truW, truD, b1W, binW, binD, lenW, srcW, rcv1, tyOf, Fr.pur, ofP, m1W, int?, slW, slD, isiW, isTy, kindOk, isD, isW, inStr, nod_ones, T_beq, nod_strs, dep_strs, b2W, eq_nil, hr, hSZ]
def badRows : List D := [.none, .int 5, .list (List.replicate 101 (dStr []))]
theorem badRows_no {x : D} (h : x ∈ badRows) : x = .none ∨ x = .int 5 ∨ ∃ xs, x = .list xs ∧ 100 < xs.length := by
  simp only [badRows, List.mem_cons, List.not_mem_nil, or_false] at h
  rcases h with rfl | rfl | rfl
  · exact .inl rfl
  · exact .inr (.inl rfl)
  · exact .inr (.inr ⟨_, rfl, by simp [asg_v, noneW, allD, eqAll, nodAll, depAll, varW, idxW, seqW, cmpW, cmpP, vw, cmpD, eqOk, nod, dep, eqD, truW, truD, b1W, binW, binD, lenW, srcW, rcv1, tyOf, Fr.pur, ofP, m1W, int?, slW, slD, isiW, isTy, kindOk, isD, isW, inStr, nod_ones, T_beq, nod_strs, dep_strs, b2W, eq_nil]⟩)
theorem row_cell {ns : List Int} {c : Cell} {r : Sto} {st : Sto} (h : Row ns (c :: r) st) : st[1]? = some c := by
  obtain ⟨a, b, d, ha, rfl⟩ := h
  rfl
theorem law_ask {ns : List Int} {ts : List (List Nat)} {us : List Int} {x : D} {ρ : FM.Env} {st : Sto} {N : FM.Env → Sto → Prop} (ht : ∀ t ∈ ts, Tx t) (hl : ts.length ≤ 12) (hx : x ∈ noRec) (h : Row ns [txC ts, duC us] st) (h1 : ρ[1]? = some (some (.ref 0))) (h9 : ρ[9]? = some (some (.ref 1))) (h6 : ρ[6]? = some (some (.d x))) (hr : ρ.length = 20)
    (hN : ∀ st, Row ns [txC ts, duC us, .lst [.fn "seals"]] st → N (ρ.set 7 (some (.fn "seals"))) st) :
    okO (evS EP R0 (callD EP R0 10) (.for (.v 7) (.e (.new (.lst (.cons (.glob "seals") (.nil))))) (.cons (.ife (.e (.cmp .ne (.refused "_law_refused" (.callv 7 ["seals"] (.cons (.bin .add (.var 9) (.pur (.lst (.cons (.var 6) (.nil))))) (.nil)))) (.tup (.cons (.str [116, 101, 120, 116, 115]) (.cons (.b1 .len (.var 9)) (.nil)))))) (.cons (.ret (.bl false)) (.nil)) (.nil)) (.cons (.ife (.e (.cmp .ne (.refused "_law_refused" (.callv 7 ["seals"] (.cons (.call "_law_pick" (.cons (.var 1) (.cons (.pur (.lst (.cons (.none) (.cons (.int 5) (.cons (.bin .mul (.pur (.lst (.cons (.str []) (.nil)))) (.int 101)) (.nil)))))) (.nil)))) (.nil)))) (.tup (.cons (.str [116, 101, 120, 116, 115]) (.cons (.neg (.int 1)) (.nil)))))) (.cons (.ret (.bl false)) (.nil)) (.nil)) (.nil)))) ρ st) N (fun _ _ => False) := by
  have hSZ : SZ = 16777216 := rfl
  obtain ⟨a, b, c, ha, rfl⟩ := h
  have hg : EP.glob "seals" = some (.fn "seals") := by simp [asg_v, noneW, allD, eqAll, nodAll, depAll, varW, idxW, seqW, cmpW, cmpP, vw, cmpD, eqOk, nod, dep, eqD, truW, truD, b1W, binW, binD, lenW, srcW, rcv1, tyOf, Fr.pur, ofP, m1W, int?, slW, slD, isiW, isTy, kindOk, isD, isW, inStr, nod_ones, T_beq, nod_strs, dep_strs, b2W, eq_nil, EP]
  have e0 : evI EP R0 (callD EP R0 10) (.e (.new (.lst (.cons (.glob "seals") (.nil))))) ρ (rowC ns a b c :: [txC ts, duC us]) = .ok ([.fn "seals"], some 3) (rowC ns a b c :: [txC ts, duC us, .lst [.fn "seals"]]) := by
    simp only [evI, evE, evF, evEs, hg, Res.of_some, Res.bind_ok]
    simp [asg_v, noneW, allD, eqAll, nodAll, depAll, varW, idxW, seqW, cmpW, cmpP, vw, cmpD, eqOk, nod, dep, eqD, truW, truD, b1W, binW, binD, lenW, srcW, rcv1, tyOf, Fr.pur, ofP, m1W, int?, slW, slD, isiW, isTy, kindOk, isD, isW, inStr, nod_ones, T_beq, nod_strs, dep_strs, b2W, eq_nil, hSZ, Fr.cell]
  rw [evS, e0]
  simp only [okO_out, okR_ok]
  generalize hst : (rowC ns a b c :: [txC ts, duC us, .lst [.fn "seals"]] : Sto) = st
  have h : Row ns [txC ts, duC us, .lst [.fn "seals"]] st := ⟨a, b, c, ha, hst.symm⟩
  have hstill : ∀ st', Row ns [txC ts, duC us, .lst [.fn "seals"]] st' → still (some 3) st st' = true := by
    rintro _ ⟨a', b', c', ha', rfl⟩
    subst hst
    simp [asg_v, noneW, allD, eqAll, nodAll, depAll, varW, idxW, seqW, cmpW, cmpP, vw, cmpD, eqOk, nod, dep, eqD, truW, truD, b1W, binW, binD, lenW, srcW, rcv1, tyOf, Fr.pur, ofP, m1W, int?, slW, slD, isiW, isTy, kindOk, isD, isW, inStr, nod_ones, T_beq, nod_strs, dep_strs, b2W, eq_nil, still]
  rw [forL]
  simp only [asg_v]
  have k1 : varW (ρ.set 7 (some (.fn "seals"))) 1 = some (.ref 0) := by simp [asg_v, noneW, allD, eqAll, nodAll, depAll, varW, idxW, seqW, cmpW, cmpP, vw, cmpD, eqOk, nod, dep, eqD, truW, truD, b1W, binW, binD, lenW, srcW, rcv1, tyOf, Fr.pur, ofP, m1W, int?, slW, slD, isiW, isTy, kindOk, isD, isW, inStr, nod_ones, T_beq, nod_strs, dep_strs, b2W, eq_nil, h1]
  have k9 : varW (ρ.set 7 (some (.fn "seals"))) 9 = some (.ref 1) := by simp [asg_v, noneW, allD, eqAll, nodAll, depAll, varW, idxW, seqW, cmpW, cmpP, vw, cmpD, eqOk, nod, dep, eqD, truW, truD, b1W, binW, binD, lenW, srcW, rcv1, tyOf, Fr.pur, ofP, m1W, int?, slW, slD, isiW, isTy, kindOk, isD, isW, inStr, nod_ones, T_beq, nod_strs, dep_strs, b2W, eq_nil, h9]
  have k6 : varW (ρ.set 7 (some (.fn "seals"))) 6 = some (.d x) := by simp [asg_v, noneW, allD, eqAll, nodAll, depAll, varW, idxW, seqW, cmpW, cmpP, vw, cmpD, eqOk, nod, dep, eqD, truW, truD, b1W, binW, binD, lenW, srcW, rcv1, tyOf, Fr.pur, ofP, m1W, int?, slW, slD, isiW, isTy, kindOk, isD, isW, inStr, nod_ones, T_beq, nod_strs, dep_strs, b2W, eq_nil, h6]
  have k7 : varW (ρ.set 7 (some (.fn "seals"))) 7 = some (.fn "seals") := by simp [asg_v, noneW, allD, eqAll, nodAll, depAll, varW, idxW, seqW, cmpW, cmpP, vw, cmpD, eqOk, nod, dep, eqD, truW, truD, b1W, binW, binD, lenW, srcW, rcv1, tyOf, Fr.pur, ofP, m1W, int?, slW, slD, isiW, isTy, kindOk, isD, isW, inStr, nod_ones, T_beq, nod_strs, dep_strs, b2W, eq_nil, hr]
  have hN' : ∀ st, Row ns [txC ts, duC us, .lst [.fn "seals"]] st → N (ρ.set 7 (some (.fn "seals"))) st := hN
  generalize ρ.set 7 (some (.fn "seals")) = ρ' at k1 k9 k6 k7 hN' ⊢
  have hq : okO (evSs EP R0 (callD EP R0 10) (.cons (.ife (.e (.cmp .ne (.refused "_law_refused" (.callv 7 ["seals"] (.cons (.bin .add (.var 9) (.pur (.lst (.cons (.var 6) (.nil))))) (.nil)))) (.tup (.cons (.str [116, 101, 120, 116, 115]) (.cons (.b1 .len (.var 9)) (.nil)))))) (.cons (.ret (.bl false)) (.nil)) (.nil)) (.cons (.ife (.e (.cmp .ne (.refused "_law_refused" (.callv 7 ["seals"] (.cons (.call "_law_pick" (.cons (.var 1) (.cons (.pur (.lst (.cons (.none) (.cons (.int 5) (.cons (.bin .mul (.pur (.lst (.cons (.str []) (.nil)))) (.int 101)) (.nil)))))) (.nil)))) (.nil)))) (.tup (.cons (.str [116, 101, 120, 116, 115]) (.cons (.neg (.int 1)) (.nil)))))) (.cons (.ret (.bl false)) (.nil)) (.nil)) (.nil))) ρ' st) (fun ρ st => ρ = ρ' ∧ Row ns [txC ts, duC us, .lst [.fn "seals"]] st) (fun _ _ => False) := by
    have hrec : ∀ t ∈ ts, recP t = true ∧ t.length ≤ 1000 := fun t h => (ht t h).rec
    refine ifeS ?_ ?_
    · have f := seals_bad (st := st) (j := 7) (by omega) hrec hx
      have hb : binW st .add (.ref 1) (.d (.list [x])) = some (.d (.list (ts.map dStr ++ [x]))) := by
        subst hst
        simp [asg_v, noneW, allD, eqAll, nodAll, depAll, varW, idxW, seqW, cmpW, cmpP, vw, cmpD, eqOk, nod, dep, eqD, truW, truD, b1W, binW, binD, lenW, srcW, rcv1, tyOf, Fr.pur, ofP, m1W, int?, slW, slD, isiW, isTy, kindOk, isD, isW, inStr, nod_ones, T_beq, nod_strs, dep_strs, b2W, eq_nil, txC, tx_vw, hSZ, show ts.length + 1 ≤ 16777216 by omega]
      have hlen : b1W R0 st .len (.ref 1) = some (.d (.int ts.length)) := by
        subst hst
        simp [asg_v, noneW, allD, eqAll, nodAll, depAll, varW, idxW, seqW, cmpW, cmpP, vw, cmpD, eqOk, nod, dep, eqD, truW, truD, b1W, binW, binD, lenW, srcW, rcv1, tyOf, Fr.pur, ofP, m1W, int?, slW, slD, isiW, isTy, kindOk, isD, isW, inStr, nod_ones, T_beq, nod_strs, dep_strs, b2W, eq_nil, txC]
      have hl1 : evE EP R0 (callD EP R0 10) (.pur (.lst (.cons (.var 6) (.nil)))) ρ' st = .ok (.d (.list [x])) st := by
        simp only [evE, evEs, evF, k6, Res.of_some, Res.bind_ok]
        simp [asg_v, noneW, allD, eqAll, nodAll, depAll, varW, idxW, seqW, cmpW, cmpP, vw, cmpD, eqOk, nod, dep, eqD, truW, truD, b1W, binW, binD, lenW, srcW, rcv1, tyOf, Fr.pur, ofP, m1W, int?, slW, slD, isiW, isTy, kindOk, isD, isW, inStr, nod_ones, T_beq, nod_strs, dep_strs, b2W, eq_nil, hSZ]
      generalize FM.E.pur (.lst (.cons (.var 6) (.nil))) = L at hl1
      have hc : evE EP R0 (callD EP R0 10) (.callv 7 ["seals"] (.cons (.bin .add (.var 9) L) (.nil))) ρ' st = .exn (bad1 "BadTexts" (.int ts.length)) st := by
        simp only [evE, evEs, k7, k9, hl1, hb, Res.of_some, Res.bind_ok]
        rw [if_pos (by decide)]
        exact f
      generalize FM.E.callv 7 ["seals"] (.cons (.bin .add (.var 9) L) (.nil)) = L2 at hc
      simp only [evC, evE, evEs, hc, k9, hlen, gR, exit_eff_exn, hTexts, Res.of_some, Res.bind_ok]
      simp [asg_v, noneW, allD, eqAll, nodAll, depAll, varW, idxW, seqW, cmpW, cmpP, vw, cmpD, eqOk, nod, dep, eqD, truW, truD, b1W, binW, binD, lenW, srcW, rcv1, tyOf, Fr.pur, ofP, m1W, int?, slW, slD, isiW, isTy, kindOk, isD, isW, inStr, nod_ones, T_beq, nod_strs, dep_strs, b2W, eq_nil, hSZ]
    · have hpk : ∃ x ∈ badRows, ∃ st', callD EP R0 10 "_law_pick" [.ref 0, .d (.list badRows)] st = .ok (.d x) st' ∧ Row ns [txC ts, duC us, .lst [.fn "seals"]] st' := by
        obtain ⟨w, st', e, ⟨y, hy, rfl⟩, hr⟩ := okR_ex (pick hT hP (xs := badRows) (j := 8) h (by simp [asg_v, noneW, allD, eqAll, nodAll, depAll, varW, idxW, seqW, cmpW, cmpP, vw, cmpD, eqOk, nod, dep, eqD, truW, truD, b1W, binW, binD, lenW, srcW, rcv1, tyOf, Fr.pur, ofP, m1W, int?, slW, slD, isiW, isTy, kindOk, isD, isW, inStr, nod_ones, T_beq, nod_strs, dep_strs, b2W, eq_nil, badRows]) (by simp [asg_v, noneW, allD, eqAll, nodAll, depAll, varW, idxW, seqW, cmpW, cmpP, vw, cmpD, eqOk, nod, dep, eqD, truW, truD, b1W, binW, binD, lenW, srcW, rcv1, tyOf, Fr.pur, ofP, m1W, int?, slW, slD, isiW, isTy, kindOk, isD, isW, inStr, nod_ones, T_beq, nod_strs, dep_strs, b2W, eq_nil, badRows]))
        exact ⟨y, hy, st', e, hr⟩
      obtain ⟨y, hy, st', e5, h5⟩ := hpk
      have f := seals_no (st := st') (j := 7) (badRows_no hy)
      have hl1 : evE EP R0 (callD EP R0 10) (.pur (.lst (.cons (.none) (.cons (.int 5) (.cons (.bin .mul (.pur (.lst (.cons (.str []) (.nil)))) (.int 101)) (.nil)))))) ρ' st = .ok (.d (.list badRows)) st := by
        simp [asg_v, noneW, allD, eqAll, nodAll, depAll, varW, idxW, seqW, cmpW, cmpP, vw, cmpD, eqOk, nod, dep, eqD, truW, truD, b1W, binW, binD, lenW, srcW, rcv1, tyOf, Fr.pur, ofP, m1W, int?, slW, slD, isiW, isTy, kindOk, isD, isW, inStr, nod_ones, T_beq, nod_strs, dep_strs, b2W, eq_nil, evE, evF, evEs, hSZ, badRows]
      generalize FM.E.pur (.lst (.cons (.none) (.cons (.int 5) (.cons (.bin .mul (.pur (.lst (.cons (.str []) (.nil)))) (.int 101)) (.nil))))) = L at hl1
      have hc : evE EP R0 (callD EP R0 10) (.callv 7 ["seals"] (.cons (.call "_law_pick" (.cons (.var 1) (.cons L (.nil)))) (.nil))) ρ' st = .exn (bad1 "BadTexts" (.int (-1))) st' := by
        simp only [evE, evEs, k7, k1, hl1, e5, Res.of_some, Res.bind_ok]
        rw [if_pos (by decide)]
        exact f
      generalize FM.E.callv 7 ["seals"] (.cons (.call "_law_pick" (.cons (.var 1) (.cons L (.nil)))) (.nil)) = L2 at hc
      have hq : evE EP R0 (callD EP R0 10) (.refused "_law_refused" L2) ρ' st = .ok (.d (.tuple [dStr [116, 101, 120, 116, 115], .int (-1)])) st' := by
        simp only [evE, hc, gR, row_exn h h5, hTexts, Res.of_some]
      generalize FM.E.refused "_law_refused" L2 = L3 at hq
      simp only [evSs, evS, evC, evE, evEs, hq, Res.of_some, Res.bind_ok]
      simp [asg_v, noneW, allD, eqAll, nodAll, depAll, varW, idxW, seqW, cmpW, cmpP, vw, cmpD, eqOk, nod, dep, eqD, truW, truD, b1W, binW, binD, lenW, srcW, rcv1, tyOf, Fr.pur, ofP, m1W, int?, slW, slD, isiW, isTy, kindOk, isD, isW, inStr, nod_ones, T_beq, nod_strs, dep_strs, b2W, eq_nil, hSZ, h5]
  revert hq
  generalize evSs EP R0 (callD EP R0 10) _ ρ' st = o
  intro hq
  cases o with
  | nx ρ2 st2 =>
    obtain ⟨rfl, h2⟩ := hq
    simp only [hstill _ h2, if_true, forL]
    exact hN' _ h2
  | ct ρ2 st2 => exact hq.elim
  | bk ρ2 st2 => exact hq.elim
  | rt w st2 => exact hq.elim
  | exn x st2 => exact hq.elim
  | bad => exact hq.elim
end HT
end

section
set_option Elab.async false
set_option linter.all false
set_option maxRecDepth 100000
set_option autoImplicit false
set_option maxHeartbeats 4000000
namespace HT
open PySem FM
/-- the end -/
theorem law_end {ns : List Int} {ts : List (List Nat)} {x : D} {ρ : FM.Env} {st : Sto} {N : FM.Env → Sto → Prop} (ht : ∀ t ∈ ts, Tx t) (hl : ts.length ≤ 12) (hx : x ∈ noNum) (h : Row ns [txC ts, duC (sealsP 0 ts), .lst [.fn "seals"]] st) (h9 : ρ[9]? = some (some (.ref 1))) (h10 : ρ[10]? = some (some (.ref 2))) (h5 : ρ[5]? = some (some (.d x))) :
    okO (evSs EP R0 (callD EP R0 10) (.cons (.ife (.e (.cmp .ne (.refused "_law_refused" (.call "first_broken" (.cons (.var 9) (.cons (.bin .add (.var 10) (.pur (.lst (.cons (.int 1) (.nil))))) (.nil))))) (.tup (.cons (.str [115, 101, 97, 108, 115]) (.cons (.neg (.int 1)) (.nil)))))) (.cons (.ret (.bl false)) (.nil)) (.nil)) (.cons (.ife (.e (.cmp .ne (.refused "_law_refused" (.call "first_broken" (.cons (.pur (.lst (.cons (.str [97]) (.nil)))) (.cons (.pur (.lst (.cons (.var 5) (.nil)))) (.nil))))) (.tup (.cons (.str [115, 101, 97, 108, 115]) (.cons (.int 0) (.nil)))))) (.cons (.ret (.bl false)) (.nil)) (.nil)) (.cons (.ret (.and (.cmp .eq (.call "seal" (.cons (.int 0) (.cons (.str []) (.nil)))) (.int 1)) (.cmp .eq (.call "seals" (.cons (.pur (.lst (.nil))) (.nil))) (.pur (.lst (.nil)))))) (.nil)))) ρ st) N (fun w _ => w = .d (.bool true)) := by
  have hSZ : SZ = 16777216 := rfl
  have ln := sealsP_len ts 0
  have hrec : ∀ t ∈ ts, recP t = true ∧ t.length ≤ 1000 := fun t h => (ht t h).rec
  obtain ⟨a, b, c, ha, rfl⟩ := h
  refine ifeS ?_ (ifeS ?_ ?_)
  · have f := fb_len (w := .ref 1) (v := .d (.list ((sealsP 0 ts).map .int ++ [.int 1]))) (ts := ts) (st := rowC ns a b c :: [txC ts, duC (sealsP 0 ts), .lst [.fn "seals"]]) (j := 7) txC_row RowW.lst (by omega) hrec (by simp [asg_v, noneW, allD, eqAll, nodAll, depAll, varW, idxW, seqW, cmpW, cmpP, vw, cmpD, eqOk, nod, dep, eqD, truW, truD, b1W, binW, binD, lenW, srcW, rcv1, tyOf, Fr.pur, ofP, m1W, int?, slW, slD, isiW, isTy, kindOk, isD, isW, inStr, nod_ones, T_beq, nod_strs, dep_strs, b2W, eq_nil]; omega)
    have hl1 : evE EP R0 (callD EP R0 10) (.bin .add (.var 10) (.pur (.lst (.cons (.int 1) (.nil))))) ρ (rowC ns a b c :: [txC ts, duC (sealsP 0 ts), .lst [.fn "seals"]]) = .ok (.d (.list ((sealsP 0 ts).map .int ++ [.int 1]))) (rowC ns a b c :: [txC ts, duC (sealsP 0 ts), .lst [.fn "seals"]]) := by
      simp only [evE, evEs, evF, varW, h10, Res.of_some, Res.bind_ok]
      simp [asg_v, noneW, allD, eqAll, nodAll, depAll, varW, idxW, seqW, cmpW, cmpP, vw, cmpD, eqOk, nod, dep, eqD, truW, truD, b1W, binW, binD, lenW, srcW, rcv1, tyOf, Fr.pur, ofP, m1W, int?, slW, slD, isiW, isTy, kindOk, isD, isW, inStr, nod_ones, T_beq, nod_strs, dep_strs, b2W, eq_nil, duC, du_vw, hSZ, show (sealsP 0 ts).length + 1 ≤ 16777216 by omega]
    generalize FM.E.bin .add (.var 10) (.pur (.lst (.cons (.int 1) (.nil)))) = L at hl1
    have hc : evE EP R0 (callD EP R0 10) (.call "first_broken" (.cons (.var 9) (.cons L (.nil)))) ρ (rowC ns a b c :: [txC ts, duC (sealsP 0 ts), .lst [.fn "seals"]]) = .exn (bad1 "BadSeals" (.int (-1))) (rowC ns a b c :: [txC ts, duC (sealsP 0 ts), .lst [.fn "seals"]]) := by
      simp only [evE, evEs, varW, h9, hl1, Res.of_some, Res.bind_ok]
      exact f
    generalize FM.E.call "first_broken" (.cons (.var 9) (.cons L (.nil))) = L2 at hc
    simp only [evC, evE, evEs, hc, gR, exit_eff_exn, hSeals, Res.of_some, Res.bind_ok]
    simp [asg_v, noneW, allD, eqAll, nodAll, depAll, varW, idxW, seqW, cmpW, cmpP, vw, cmpD, eqOk, nod, dep, eqD, truW, truD, b1W, binW, binD, lenW, srcW, rcv1, tyOf, Fr.pur, ofP, m1W, int?, slW, slD, isiW, isTy, kindOk, isD, isW, inStr, nod_ones, T_beq, nod_strs, dep_strs, b2W, eq_nil, hSZ]
  · have f := fb_odd (st := rowC ns a b c :: [txC ts, duC (sealsP 0 ts), .lst [.fn "seals"]]) (j := 7) hx
    have hc : evE EP R0 (callD EP R0 10) (.call "first_broken" (.cons (.pur (.lst (.cons (.str [97]) (.nil)))) (.cons (.pur (.lst (.cons (.var 5) (.nil)))) (.nil)))) ρ (rowC ns a b c :: [txC ts, duC (sealsP 0 ts), .lst [.fn "seals"]]) = .exn (bad1 "BadSeals" (.int 0)) (rowC ns a b c :: [txC ts, duC (sealsP 0 ts), .lst [.fn "seals"]]) := by
      simp only [evE, evEs, evF, varW, h5, Res.of_some, Res.bind_ok]
      simp [asg_v, noneW, allD, eqAll, nodAll, depAll, varW, idxW, seqW, cmpW, cmpP, vw, cmpD, eqOk, nod, dep, eqD, truW, truD, b1W, binW, binD, lenW, srcW, rcv1, tyOf, Fr.pur, ofP, m1W, int?, slW, slD, isiW, isTy, kindOk, isD, isW, inStr, nod_ones, T_beq, nod_strs, dep_strs, b2W, eq_nil, hSZ]
      exact f
    generalize FM.E.call "first_broken" _ = L2 at hc
    simp only [evC, evE, evEs, hc, gR, exit_eff_exn, hSeals, Res.of_some, Res.bind_ok]
    simp [asg_v, noneW, allD, eqAll, nodAll, depAll, varW, idxW, seqW, cmpW, cmpP, vw, cmpD, eqOk, nod, dep, eqD, truW, truD, b1W, binW, binD, lenW, srcW, rcv1, tyOf, Fr.pur, ofP, m1W, int?, slW, slD, isiW, isTy, kindOk, isD, isW, inStr, nod_ones, T_beq, nod_strs, dep_strs, b2W, eq_nil, hSZ]
  · have s1 : callD EP R0 10 "seal" [.d (.int 0), .d (dStr [])] (rowC ns a b c :: [txC ts, duC (sealsP 0 ts), .lst [.fn "seals"]]) = .ok (.d (.int 1)) (rowC ns a b c :: [txC ts, duC (sealsP 0 ts), .lst [.fn "seals"]]) := seal_ok (t := []) (j := 7) (by decide) (by decide) (by simp [asg_v, noneW, allD, eqAll, nodAll, depAll, varW, idxW, seqW, cmpW, cmpP, vw, cmpD, eqOk, nod, dep, eqD, truW, truD, b1W, binW, binD, lenW, srcW, rcv1, tyOf, Fr.pur, ofP, m1W, int?, slW, slD, isiW, isTy, kindOk, isD, isW, inStr, nod_ones, T_beq, nod_strs, dep_strs, b2W, eq_nil]) (by decide)
    have s2 : callD EP R0 10 "seals" [.d (.list [])] (rowC ns a b c :: [txC ts, duC (sealsP 0 ts), .lst [.fn "seals"]]) = .ok (.d (.list [])) (rowC ns a b c :: [txC ts, duC (sealsP 0 ts), .lst [.fn "seals"]]) := seals_ok (ts := []) (j := 7) RowW.lst (by simp [asg_v, noneW, allD, eqAll, nodAll, depAll, varW, idxW, seqW, cmpW, cmpP, vw, cmpD, eqOk, nod, dep, eqD, truW, truD, b1W, binW, binD, lenW, srcW, rcv1, tyOf, Fr.pur, ofP, m1W, int?, slW, slD, isiW, isTy, kindOk, isD, isW, inStr, nod_ones, T_beq, nod_strs, dep_strs, b2W, eq_nil]) (by simp [asg_v, noneW, allD, eqAll, nodAll, depAll, varW, idxW, seqW, cmpW, cmpP, vw, cmpD, eqOk, nod, dep, eqD, truW, truD, b1W, binW, binD, lenW, srcW, rcv1, tyOf, Fr.pur, ofP, m1W, int?, slW, slD, isiW, isTy, kindOk, isD, isW, inStr, nod_ones, T_beq, nod_strs, dep_strs, b2W, eq_nil])
    simp only [evSs, evS, evE, evEs, s1, Res.of_some, Res.bind_ok]
    simp [asg_v, noneW, allD, eqAll, nodAll, depAll, varW, idxW, seqW, cmpW, cmpP, vw, cmpD, eqOk, nod, dep, eqD, truW, truD, b1W, binW, binD, lenW, srcW, rcv1, tyOf, Fr.pur, ofP, m1W, int?, slW, slD, isiW, isTy, kindOk, isD, isW, inStr, nod_ones, T_beq, nod_strs, dep_strs, b2W, eq_nil, evF, evEs, s2]
def Fin (w : W) (st : Sto) : Prop := w = .d (.bool true)
theorem nof {o : Out} {N : FM.Env → Sto → Prop} {Rt : W → Sto → Prop} (h : okO o N fun _ _ => False) : okO o N Rt := okO_imp h (fun _ _ h => h) fun _ _ h => h.elim
theorem law_ok {ns : List Int} : okR (callD EP R0 11 "law" [.d (.list (ns.map .int))] []) fun w _ => w = .d (.bool true) := by
  have hSZ : SZ = 16777216 := rfl
  rw [callD_fn (fn := flaw) rfl _ _ rfl]
  apply exit_pure
  show okO (evSs EP R0 (callD EP R0 10) blaw [some (.d (.list (ns.map .int))), none, none, none, none, none, none, none, none, none, none, none, none, none, none, none, none, none, none, none] []) _ _
  suffices h : okO (evSs EP R0 (callD EP R0 10) blaw [some (.d (.list (ns.map .int))), none, none, none, none, none, none, none, none, none, none, none, none, none, none, none, none, none, none, none] []) (fun _ _ => False) Fin by
    refine okO_imp h (fun _ _ h => h.elim) fun w st' h => ?_
    subst h
    exact ⟨by simp [asg_v, noneW, allD, eqAll, nodAll, depAll, varW, idxW, seqW, cmpW, cmpP, vw, cmpD, eqOk, nod, dep, eqD, truW, truD, b1W, binW, binD, lenW, srcW, rcv1, tyOf, Fr.pur, ofP, m1W, int?, slW, slD, isiW, isTy, kindOk, isD, isW, inStr, nod_ones, T_beq, nod_strs, dep_strs, b2W, eq_nil], _, rfl, rfl⟩
  unfold blaw
  apply seqS (N' := fun ρ st => ρ = [some (.d (.list (ns.map .int))), some (.ref 0), none, none, none, none, none, none, none, none, none, none, none, none, none, none, none, none, none, none] ∧ Row ns [] st)
  · simp [asg_v, noneW, allD, eqAll, nodAll, depAll, varW, idxW, seqW, cmpW, cmpP, vw, cmpD, eqOk, nod, dep, eqD, truW, truD, b1W, binW, binD, lenW, srcW, rcv1, tyOf, Fr.pur, ofP, m1W, int?, slW, slD, isiW, isTy, kindOk, isD, isW, inStr, nod_ones, T_beq, nod_strs, dep_strs, b2W, eq_nil, evS, evE, evEs, evF]
    exact ⟨0, 137, 0, by omega, rfl⟩
  rintro ρ st ⟨rfl, h⟩
  generalize some (W.d (.list (ns.map .int))) = v0
  apply seqS (N' := fun ρ st => ∃ most : Int, 0 ≤ most ∧ most ≤ 200 ∧ ρ = [v0, some (.ref 0), none, none, none, none, none, none, some (.d (.int most)), some (.ref 1), none, none, none, none, none, none, none, none, none, none] ∧ Row ns [txC []] st)
  · simp only [evS, evE, evEs, evF, evC, okO_out, okR_bind]
    simp [asg_v, noneW, allD, eqAll, nodAll, depAll, varW, idxW, seqW, cmpW, cmpP, vw, cmpD, eqOk, nod, dep, eqD, truW, truD, b1W, binW, binD, lenW, srcW, rcv1, tyOf, Fr.pur, ofP, m1W, int?, slW, slD, isiW, isTy, kindOk, isD, isW, inStr, nod_ones, T_beq, nod_strs, dep_strs, b2W, eq_nil]
    refine okR_imp (taken hT h (m := 5) (by omega) (by omega)) fun w st' ⟨⟨k, k1, k2, hw⟩, h⟩ => ?_
    subst hw
    obtain ⟨a', b', c', ha', rfl⟩ := h
    by_cases hk : k = 0
    · simp [asg_v, noneW, allD, eqAll, nodAll, depAll, varW, idxW, seqW, cmpW, cmpP, vw, cmpD, eqOk, nod, dep, eqD, truW, truD, b1W, binW, binD, lenW, srcW, rcv1, tyOf, Fr.pur, ofP, m1W, int?, slW, slD, isiW, isTy, kindOk, isD, isW, inStr, nod_ones, T_beq, nod_strs, dep_strs, b2W, eq_nil, hk, Fr.cell]
      exact ⟨200, by decide, by decide, rfl, a', b', c', ha', rfl⟩
    · simp [asg_v, noneW, allD, eqAll, nodAll, depAll, varW, idxW, seqW, cmpW, cmpP, vw, cmpD, eqOk, nod, dep, eqD, truW, truD, b1W, binW, binD, lenW, srcW, rcv1, tyOf, Fr.pur, ofP, m1W, int?, slW, slD, isiW, isTy, kindOk, isD, isW, inStr, nod_ones, T_beq, nod_strs, dep_strs, b2W, eq_nil, hk, Fr.cell]
      exact ⟨30, by decide, by decide, rfl, a', b', c', ha', rfl⟩
  rintro ρ st ⟨most, m1, m2, rfl, h⟩
  refine seqS (nof (law_texts m1 m2 h)) ?_
  rintro ρ st ⟨ts, v2, v18, ht, hl, rfl, h⟩
  simp [asg_v, noneW, allD, eqAll, nodAll, depAll, varW, idxW, seqW, cmpW, cmpP, vw, cmpD, eqOk, nod, dep, eqD, truW, truD, b1W, binW, binD, lenW, srcW, rcv1, tyOf, Fr.pur, ofP, m1W, int?, slW, slD, isiW, isTy, kindOk, isD, isW, inStr, nod_ones, T_beq, nod_strs, dep_strs, b2W, eq_nil] at hl
  generalize some (W.d (.int most)) = v8
  apply seqS (N' := fun ρ st => ρ = [v0, some (.ref 0), v2, none, none, none, none, none, v8, some (.ref 1), some (.ref 2), some (.d (.int 0)), none, none, none, none, none, none, v18, none] ∧ Row ns [txC ts, duC []] st)
  · obtain ⟨a', b', c', ha', rfl⟩ := h
    simp [asg_v, noneW, allD, eqAll, nodAll, depAll, varW, idxW, seqW, cmpW, cmpP, vw, cmpD, eqOk, nod, dep, eqD, truW, truD, b1W, binW, binD, lenW, srcW, rcv1, tyOf, Fr.pur, ofP, m1W, int?, slW, slD, isiW, isTy, kindOk, isD, isW, inStr, nod_ones, T_beq, nod_strs, dep_strs, b2W, eq_nil, evS, evE, evF, evEs, Fr.cell]
    exact ⟨a', b', c', ha', rfl⟩
  rintro ρ st ⟨rfl, h⟩
  refine seqS (nof (law_due ht hl h)) ?_
  rintro ρ st ⟨l, done, b, v3, e1, -, -, -, e2, -, rfl, h⟩
  have hl0 : l = [] := by
    cases l with
    | nil => rfl
    | cons a l => simp [asg_v, noneW, allD, eqAll, nodAll, depAll, varW, idxW, seqW, cmpW, cmpP, vw, cmpD, eqOk, nod, dep, eqD, truW, truD, b1W, binW, binD, lenW, srcW, rcv1, tyOf, Fr.pur, ofP, m1W, int?, slW, slD, isiW, isTy, kindOk, isD, isW, inStr, nod_ones, T_beq, nod_strs, dep_strs, b2W, eq_nil] at e1
  subst hl0
  simp [asg_v, noneW, allD, eqAll, nodAll, depAll, varW, idxW, seqW, cmpW, cmpP, vw, cmpD, eqOk, nod, dep, eqD, truW, truD, b1W, binW, binD, lenW, srcW, rcv1, tyOf, Fr.pur, ofP, m1W, int?, slW, slD, isiW, isTy, kindOk, isD, isW, inStr, nod_ones, T_beq, nod_strs, dep_strs, b2W, eq_nil, sealsP] at e2
  subst e2
  have h : St2 ns ts st := h
  refine ifeS (law_first ht hl h rfl rfl) ?_
  apply seqS (N' := QT ns ts v0 none none none v8 (some (.d (.int b))) [])
  · generalize hn : (if ts = [] then (0 : Int) else 5) = n
    have e0 : evI EP R0 (callD EP R0 10) (.rng1 (.ife (.e (.cmp .ne (.var 9) (.pur (.lst (.nil))))) (.int 5) (.int 0))) [v0, some (.ref 0), v2, v3, none, none, none, none, v8, some (.ref 1), some (.ref 2), some (.d (.int b)), none, none, none, none, none, none, v18, none] st = .ok (rngL 0 n.toNat, none) st := by
      obtain ⟨a', b', c', ha', rfl⟩ := h
      have hr : rngOk n = true := rng_ok _ (by split at hn <;> omega) (by split at hn <;> omega)
      by_cases hz : ts = []
      · subst hz
        simp [asg_v, noneW, allD, eqAll, nodAll, depAll, varW, idxW, seqW, cmpW, cmpP, vw, cmpD, eqOk, nod, dep, eqD, truW, truD, b1W, binW, binD, lenW, srcW, rcv1, tyOf, Fr.pur, ofP, m1W, int?, slW, slD, isiW, isTy, kindOk, isD, isW, inStr, nod_ones, T_beq, nod_strs, dep_strs, b2W, eq_nil] at hn
        subst hn
        simp [asg_v, noneW, allD, eqAll, nodAll, depAll, varW, idxW, seqW, cmpW, cmpP, vw, cmpD, eqOk, nod, dep, eqD, truW, truD, b1W, binW, binD, lenW, srcW, rcv1, tyOf, Fr.pur, ofP, m1W, int?, slW, slD, isiW, isTy, kindOk, isD, isW, inStr, nod_ones, T_beq, nod_strs, dep_strs, b2W, eq_nil, evI, evE, evC, evF, evEs, txC, hr]
      · simp [asg_v, noneW, allD, eqAll, nodAll, depAll, varW, idxW, seqW, cmpW, cmpP, vw, cmpD, eqOk, nod, dep, eqD, truW, truD, b1W, binW, binD, lenW, srcW, rcv1, tyOf, Fr.pur, ofP, m1W, int?, slW, slD, isiW, isTy, kindOk, isD, isW, inStr, nod_ones, T_beq, nod_strs, dep_strs, b2W, eq_nil, hz] at hn
        subst hn
        simp [asg_v, noneW, allD, eqAll, nodAll, depAll, varW, idxW, seqW, cmpW, cmpP, vw, cmpD, eqOk, nod, dep, eqD, truW, truD, b1W, binW, binD, lenW, srcW, rcv1, tyOf, Fr.pur, ofP, m1W, int?, slW, slD, isiW, isTy, kindOk, isD, isW, inStr, nod_ones, T_beq, nod_strs, dep_strs, b2W, eq_nil, evI, evE, evC, evF, evEs, txC, hr, hz]
    rw [evS, e0]
    simp only [okO_out, okR_ok]
    refine nof (okO_imp (for_inv (Rt := fun _ _ => False) (QT ns ts v0 none none none v8 (some (.d (.int b)))) _ _ _ ?_ ?_) (fun _ _ h => h) (fun _ _ h => h))
    · refine ⟨_, _, _, _, _, _, _, _, _, _, _, fun hne hz => hne ?_, rfl, h⟩
      rw [if_pos hz] at hn
      subst hn
      rfl
    · intro u us ρ st h
      have h' : QT ns ts v0 none none none v8 (some (.d (.int b))) (u :: us) (ρ.set 4 (some u)) st := by
        obtain ⟨v2, v3, v4, v12, v13, v14, v15, v16, v17, v18, v19, q, rfl, h⟩ := h
        exact ⟨_, _, _, _, _, _, _, _, _, _, _, q, rfl, h⟩
      simp only [asg_v]
      exact okO_imp (law_turn ht hl h') (fun ρ' st' h => by simpa [asg_v, noneW, allD, eqAll, nodAll, depAll, varW, idxW, seqW, cmpW, cmpP, vw, cmpD, eqOk, nod, dep, eqD, truW, truD, b1W, binW, binD, lenW, srcW, rcv1, tyOf, Fr.pur, ofP, m1W, int?, slW, slD, isiW, isTy, kindOk, isD, isW, inStr, nod_ones, T_beq, nod_strs, dep_strs, b2W, eq_nil, still] using h) fun _ _ h => h
  rintro ρ st ⟨v2, v3, v4, v12, v13, v14, v15, v16, v17, v18, v19, -, rfl, h⟩
  refine setS (Q := fun w st => (∃ x ∈ noNum, w = .d x) ∧ St2 ns ts st) ?_ ?_
  · simp only [evE, evEs, evF, okR_bind]
    simp [asg_v, noneW, allD, eqAll, nodAll, depAll, varW, idxW, seqW, cmpW, cmpP, vw, cmpD, eqOk, nod, dep, eqD, truW, truD, b1W, binW, binD, lenW, srcW, rcv1, tyOf, Fr.pur, ofP, m1W, int?, slW, slD, isiW, isTy, kindOk, isD, isW, inStr, nod_ones, T_beq, nod_strs, dep_strs, b2W, eq_nil, hSZ, Fr.cell]
    refine okR_imp (pick hT hP h (by simp [asg_v, noneW, allD, eqAll, nodAll, depAll, varW, idxW, seqW, cmpW, cmpP, vw, cmpD, eqOk, nod, dep, eqD, truW, truD, b1W, binW, binD, lenW, srcW, rcv1, tyOf, Fr.pur, ofP, m1W, int?, slW, slD, isiW, isTy, kindOk, isD, isW, inStr, nod_ones, T_beq, nod_strs, dep_strs, b2W, eq_nil]) (by simp [asg_v, noneW, allD, eqAll, nodAll, depAll, varW, idxW, seqW, cmpW, cmpP, vw, cmpD, eqOk, nod, dep, eqD, truW, truD, b1W, binW, binD, lenW, srcW, rcv1, tyOf, Fr.pur, ofP, m1W, int?, slW, slD, isiW, isTy, kindOk, isD, isW, inStr, nod_ones, T_beq, nod_strs, dep_strs, b2W, eq_nil])) fun w st' ⟨⟨x, hx, hw⟩, h⟩ => ?_
    subst hw
    exact ⟨⟨x, by simpa [asg_v, noneW, allD, eqAll, nodAll, depAll, varW, idxW, seqW, cmpW, cmpP, vw, cmpD, eqOk, nod, dep, eqD, truW, truD, b1W, binW, binD, lenW, srcW, rcv1, tyOf, Fr.pur, ofP, m1W, int?, slW, slD, isiW, isTy, kindOk, isD, isW, inStr, nod_ones, T_beq, nod_strs, dep_strs, b2W, eq_nil, noNum] using hx, rfl⟩, h⟩
  rintro w st ⟨⟨x, hx, rfl⟩, h⟩
  refine ifeS (law_num hx rfl) ?_
  refine setS (Q := fun w st => (∃ x ∈ noRec, w = .d x) ∧ St2 ns ts st) ?_ ?_
  · simp only [evE, evEs, evF, okR_bind]
    simp [asg_v, noneW, allD, eqAll, nodAll, depAll, varW, idxW, seqW, cmpW, cmpP, vw, cmpD, eqOk, nod, dep, eqD, truW, truD, b1W, binW, binD, lenW, srcW, rcv1, tyOf, Fr.pur, ofP, m1W, int?, slW, slD, isiW, isTy, kindOk, isD, isW, inStr, nod_ones, T_beq, nod_strs, dep_strs, b2W, eq_nil, hSZ, Fr.cell]
    refine okR_imp (pick hT hP h (by simp [asg_v, noneW, allD, eqAll, nodAll, depAll, varW, idxW, seqW, cmpW, cmpP, vw, cmpD, eqOk, nod, dep, eqD, truW, truD, b1W, binW, binD, lenW, srcW, rcv1, tyOf, Fr.pur, ofP, m1W, int?, slW, slD, isiW, isTy, kindOk, isD, isW, inStr, nod_ones, T_beq, nod_strs, dep_strs, b2W, eq_nil]) (by simp [asg_v, noneW, allD, eqAll, nodAll, depAll, varW, idxW, seqW, cmpW, cmpP, vw, cmpD, eqOk, nod, dep, eqD, truW, truD, b1W, binW, binD, lenW, srcW, rcv1, tyOf, Fr.pur, ofP, m1W, int?, slW, slD, isiW, isTy, kindOk, isD, isW, inStr, nod_ones, T_beq, nod_strs, dep_strs, b2W, eq_nil])) fun w st' ⟨⟨x, hx, hw⟩, h⟩ => ?_
    subst hw
    exact ⟨⟨x, by simpa [asg_v, noneW, allD, eqAll, nodAll, depAll, varW, idxW, seqW, cmpW, cmpP, vw, cmpD, eqOk, nod, dep, eqD, truW, truD, b1W, binW, binD, lenW, srcW, rcv1, tyOf, Fr.pur, ofP, m1W, int?, slW, slD, isiW, isTy, kindOk, isD, isW, inStr, nod_ones, T_beq, nod_strs, dep_strs, b2W, eq_nil, noRec] using hx, rfl⟩, h⟩
  rintro w st ⟨⟨y, hy, rfl⟩, h⟩
  refine ifeS (law_txt hy rfl) ?_
  refine seqS (nof (law_ask (N := fun ρ st => ρ[9]? = some (some (.ref 1)) ∧ ρ[10]? = some (some (.ref 2)) ∧ ρ[5]? = some (some (.d x)) ∧ Row ns [txC ts, duC (sealsP 0 ts), .lst [.fn "seals"]] st) ht hl hy h rfl rfl rfl rfl fun st h => ⟨rfl, rfl, rfl, h⟩)) ?_
  rintro ρ st ⟨q1, q2, q3, h⟩
  exact law_end ht hl hx h q1 q2 q3
end HT
end

section
set_option Elab.async false
set_option linter.all false
set_option maxRecDepth 100000
set_option maxHeartbeats 0
namespace HT
open PySem PySem.Spec PyProof.Rows L2 FM
abbrev prog : Program := PySem.Challenge.pw_folkmeld_k37_whole_seals
def top (i : Nat) : Stmt := prog.main.body.getD i (.Pass ⟨0, 0, 0, 0⟩)

def d0 : He.DefD := ⟨("is_integer", none), "is_integer", "is_integer", defArgs (top 1), defBody (top 1), defScope (top 1), [], []⟩
def d1 : He.DefD := ⟨("is_within", none), "is_within", "is_within", defArgs (top 2), defBody (top 2), defScope (top 2), [], []⟩
def d2 : He.DefD := ⟨("is_row", none), "is_row", "is_row", defArgs (top 3), defBody (top 3), defScope (top 3), [], []⟩
def d3 : He.DefD := ⟨("FolkError", some "__init__"), "__init__", "FolkError.__init__", defArgs (inClass (top 5) 0), defBody (inClass (top 5) 0), defScope (inClass (top 5) 0), [.non], []⟩
def d4 : He.DefD := ⟨("is_record", none), "is_record", "is_record", defArgs (top 15), defBody (top 15), defScope (top 15), [], []⟩
def d5 : He.DefD := ⟨("told_seal", none), "told_seal", "told_seal", defArgs (top 16), defBody (top 16), defScope (top 16), [], []⟩
def d6 : He.DefD := ⟨("seal", none), "seal", "seal", defArgs (top 17), defBody (top 17), defScope (top 17), [], []⟩
def d7 : He.DefD := ⟨("check_texts", none), "check_texts", "check_texts", defArgs (top 18), defBody (top 18), defScope (top 18), [], []⟩
def d8 : He.DefD := ⟨("told_seals", none), "told_seals", "told_seals", defArgs (top 19), defBody (top 19), defScope (top 19), [], []⟩
def d9 : He.DefD := ⟨("seals", none), "seals", "seals", defArgs (top 20), defBody (top 20), defScope (top 20), [], []⟩
def d10 : He.DefD := ⟨("first_broken", none), "first_broken", "first_broken", defArgs (top 21), defBody (top 21), defScope (top 21), [], []⟩
def d11 : He.DefD := ⟨("_law_taken", none), "_law_taken", "_law_taken", defArgs (top 23), defBody (top 23), defScope (top 23), [], []⟩
def d12 : He.DefD := ⟨("_law_pick", none), "_law_pick", "_law_pick", defArgs (top 24), defBody (top 24), defScope (top 24), [], []⟩
def d13 : He.DefD := ⟨("_law_alike", none), "_law_alike", "_law_alike", defArgs (top 25), defBody (top 25), defScope (top 25), [], []⟩
def d14 : He.DefD := ⟨("_law_seal", none), "_law_seal", "_law_seal", defArgs (top 26), defBody (top 26), defScope (top 26), [], []⟩
def d15 : He.DefD := ⟨("_law_refused", none), "_law_refused", "_law_refused", defArgs (top 27), defBody (top 27), defScope (top 27), [], []⟩
def d16 : He.DefD := ⟨("law", none), "law", "law", defArgs (top 28), defBody (top 28), defScope (top 28), [], []⟩
def fn : List He.DefD := [d0, d1, d2, d3, d4, d5, d6, d7, d8, d9, d10, d11, d12, d13, d14, d15, d16]
def names : List PySem.Str := (["is_integer", "is_within", "is_row", "FolkError", "BadNumber", "BadTexts", "BadSeals", "BadText", "TIMES", "WHOLE", "MOST_TEXT", "MOST_TEXTS", "is_record", "told_seal", "seal", "check_texts", "told_seals", "seals", "first_broken", "_law_taken"] : List PySem.Str) ++ (["_law_pick", "_law_alike", "_law_seal", "_law_refused"] : List PySem.Str)

section
variable {G : Gd} {P : Program} {w : World} {K : PySem.W.Frag} {mg : Str → Option Value} {base : Heap} {Φ : FM.Call} {k : Nat} {A : Around} {outer : List PySem.Env} {s : Shared} {H : Hp} {E : XK} {cdv : Value} {fA : Addr}
theorem deris_integer (C : Cxt G (cxOf (L2.CX P w) P w K mg base ["thing"] "is_integer" (defScope (top 1)) fA cdv A outer s H E) EP Φ k tb ci cs ex)
    : FSs G (cxOf (L2.CX P w) P w K mg base ["thing"] "is_integer" (defScope (top 1)) fA cdv A outer s H E) (wE E) EP R0 Φ (defBody (top 1)) bis_integer := by
  have tk : Takes (cxOf (L2.CX P w) P w K mg base ["thing"] "is_integer" (defScope (top 1)) fA cdv A outer s H E) (wE E) := takes_of rfl rfl rfl rfl
  exact fss_cons (fs_ret (fe_and (xe_isi1 C.B (fe_var) (ty_int C.B)) (fe_one (fe_not (xe_isi1 C.B (fe_var) (ty_bool C.B)))))) (fss_nil)
theorem scis_integer : FnScope ["thing"] ["thing"] (defScope (top 1)) := ⟨rfl, rfl, rfl, by decide +kernel, rfl, by decide +kernel, by decide +kernel⟩
theorem deris_within (C : Cxt G (cxOf (L2.CX P w) P w K mg base ["thing", "least", "most"] "is_within" (defScope (top 2)) fA cdv A outer s H E) EP Φ k tb ci cs ex)
    : FSs G (cxOf (L2.CX P w) P w K mg base ["thing", "least", "most"] "is_within" (defScope (top 2)) fA cdv A outer s H E) (wE E) EP R0 Φ (defBody (top 2)) bis_within := by
  have tk : Takes (cxOf (L2.CX P w) P w K mg base ["thing", "least", "most"] "is_within" (defScope (top 2)) fA cdv A outer s H E) (wE E) := takes_of rfl rfl rfl rfl
  exact fss_cons (fs_ret (fe_and (xe_call 0 C tk (fl_cons (fe_var) (fl_nil))) (fe_one (fe_chain (o1 := .le) (o2 := .le) C.hu (fe_var) (fe_var) (fe_var))))) (fss_nil)
theorem scis_within : FnScope ["thing", "least", "most"] ["thing", "least", "most"] (defScope (top 2)) := ⟨rfl, rfl, rfl, by decide +kernel, rfl, by decide +kernel, by decide +kernel⟩
theorem deris_row (C : Cxt G (cxOf (L2.CX P w) P w K mg base ["thing"] "is_row" (defScope (top 3)) fA cdv A outer s H E) EP Φ k tb ci cs ex)
    : FSs G (cxOf (L2.CX P w) P w K mg base ["thing"] "is_row" (defScope (top 3)) fA cdv A outer s H E) (wE E) EP R0 Φ (defBody (top 3)) bis_row := by
  have tk : Takes (cxOf (L2.CX P w) P w K mg base ["thing"] "is_row" (defScope (top 3)) fA cdv A outer s H E) (wE E) := takes_of rfl rfl rfl rfl
  exact fss_cons (fs_ret (xe_isi2 C.B (fe_var) (ty_list C.B) (ty_tuple C.B))) (fss_nil)
theorem scis_row : FnScope ["thing"] ["thing"] (defScope (top 3)) := ⟨rfl, rfl, rfl, by decide +kernel, rfl, by decide +kernel, by decide +kernel⟩
theorem deris_record (C : Cxt G (cxOf (L2.CX P w) P w K mg base ["thing", "sign"] "is_record" (defScope (top 15)) fA cdv A outer s H E) EP Φ k tb ci cs ex)
    : FSs G (cxOf (L2.CX P w) P w K mg base ["thing", "sign"] "is_record" (defScope (top 15)) fA cdv A outer s H E) (wE E) EP R0 Φ (defBody (top 15)) bis_record := by
  have tk : Takes (cxOf (L2.CX P w) P w K mg base ["thing", "sign"] "is_record" (defScope (top 15)) fA cdv A outer s H E) (wE E) := takes_of rfl rfl rfl rfl
  exact fss_cons (fs_if (fc_w (fw_or (fc_not (fc_val (xe_isi1 C.B (fe_var) (ty_str C.B)))) (fw_or1 (fc_cmp (op := .gt) C.hu (xe_len C.B (fe_var)) (fe_gi (i := 2) C rfl rfl))))) (fss_cons (fs_ret (fe_bl)) (fss_nil)) (fss_nil)) (fss_cons (fs_ret (xe_all C.B C.hc (fe_pur (ff_lc C.hc C.nd (fi_e (fe_var)) (own := [("sign", 1)]) (blkOk_by (by kernel_rfl)) (by decide) (fun _ _ _ _ _ => fg_v C.blk.nd) (fun _ _ _ _ _ => fp_no) (fun _ _ _ _ _ => fe_chain (o1 := .le) (o2 := .le) C.blk.hu (fe_str) (fe_var) (fe_str)))))) (fss_nil))
theorem scis_record : FnScope ["thing", "sign"] ["thing"] (defScope (top 15)) := ⟨rfl, rfl, rfl, by decide +kernel, rfl, by decide +kernel, by decide +kernel⟩
theorem dertold_seal (C : Cxt G (cxOf (L2.CX P w) P w K mg base ["before", "text", "found", "number", "sign"] "told_seal" (defScope (top 16)) fA cdv A outer s H E) EP Φ k tb ci cs ex)
    : FSs G (cxOf (L2.CX P w) P w K mg base ["before", "text", "found", "number", "sign"] "told_seal" (defScope (top 16)) fA cdv A outer s H E) (wE E) EP R0 Φ (defBody (top 16)) btold_seal := by
  have tk : Takes (cxOf (L2.CX P w) P w K mg base ["before", "text", "found", "number", "sign"] "told_seal" (defScope (top 16)) fA cdv A outer s H E) (wE E) := takes_of rfl rfl rfl rfl
  exact fss_cons (fs_set (fe_var) (fg_v C.nd)) (fss_cons (fs_for (k := 0) (passes_of rfl) C.hc (fi_e (fe_pur (ff_lst (fl_star C.hc (fe_pur (ff_lc C.hc C.nd (fi_e (fe_var)) (own := [("sign", 4)]) (blkOk_by (by kernel_rfl)) (by decide) (fun _ _ _ _ _ => fg_v C.blk.nd) (fun _ _ _ _ _ => fp_no) (fun _ _ _ _ _ => xe_ord C.blk.B (fe_var)))) (fl_cons (fe_int) (fl_nil)))))) (fg_v C.nd) (fss_cons (fs_set (fe_bin (op := .mod) C.hu (fe_bin (op := .add) C.hu (fe_bin (op := .mul) C.hu (fe_var) (fe_gi (i := 0) C rfl rfl)) (fe_var)) (fe_gi (i := 1) C rfl rfl)) (fg_v C.nd)) (fss_nil))) (fss_cons (fs_ret (fe_var)) (fss_nil)))
theorem sctold_seal : FnScope ["before", "text", "found", "number", "sign"] ["before", "text"] (defScope (top 16)) := ⟨rfl, rfl, rfl, by decide +kernel, rfl, by decide +kernel, by decide +kernel⟩
theorem derseal (C : Cxt G (cxOf (L2.CX P w) P w K mg base ["before", "text"] "seal" (defScope (top 17)) fA cdv A outer s H E) EP Φ k tb ci cs ex)
    : FSs G (cxOf (L2.CX P w) P w K mg base ["before", "text"] "seal" (defScope (top 17)) fA cdv A outer s H E) (wE E) EP R0 Φ (defBody (top 17)) bseal := by
  have tk : Takes (cxOf (L2.CX P w) P w K mg base ["before", "text"] "seal" (defScope (top 17)) fA cdv A outer s H E) (wE E) := takes_of rfl rfl rfl rfl
  exact fss_cons (fs_if (fc_not (fc_val (xe_call 1 C tk (fl_cons (fe_var) (fl_cons (fe_int) (fl_cons (fe_bin (op := .sub) C.hu (fe_gi (i := 1) C rfl rfl) (fe_int)) (fl_nil))))))) (fss_cons (xs_raise 0 C tk (fe_var)) (fss_nil)) (fss_nil)) (fss_cons (fs_if (fc_not (fc_val (xe_call 3 C tk (fl_cons (fe_var) (fl_nil))))) (fss_cons (xs_raise 3 C tk (fe_var)) (fss_nil)) (fss_nil)) (fss_cons (fs_ret (xe_call 4 C tk (fl_cons (fe_var) (fl_cons (fe_var) (fl_nil))))) (fss_nil)))
theorem scseal : FnScope ["before", "text"] ["before", "text"] (defScope (top 17)) := ⟨rfl, rfl, rfl, by decide +kernel, rfl, by decide +kernel, by decide +kernel⟩
theorem dercheck_texts (C : Cxt G (cxOf (L2.CX P w) P w K mg base ["texts", "index", "text"] "check_texts" (defScope (top 18)) fA cdv A outer s H E) EP Φ k tb ci cs ex)
    : FSs G (cxOf (L2.CX P w) P w K mg base ["texts", "index", "text"] "check_texts" (defScope (top 18)) fA cdv A outer s H E) (wE E) EP R0 Φ (defBody (top 18)) bcheck_texts := by
  have tk : Takes (cxOf (L2.CX P w) P w K mg base ["texts", "index", "text"] "check_texts" (defScope (top 18)) fA cdv A outer s H E) (wE E) := takes_of rfl rfl rfl rfl
  exact fss_cons (fs_if (fc_w (fw_or (fc_not (fc_val (xe_call 2 C tk (fl_cons (fe_var) (fl_nil))))) (fw_or1 (fc_cmp (op := .gt) C.hu (xe_len C.B (fe_var)) (fe_gi (i := 3) C rfl rfl))))) (fss_cons (xs_raise 1 C tk (fe_neg (fe_int))) (fss_nil)) (fss_nil)) (fss_cons (fs_for (k := 0) (passes_of rfl) C.hc (xi_enum C.B (fe_var)) (fg_t C.hc (fgs_cons (fg_v C.nd) (fgs_cons (fg_v C.nd) (fgs_nil)))) (fss_cons (fs_if (fc_not (fc_val (xe_call 3 C tk (fl_cons (fe_var) (fl_nil))))) (fss_cons (xs_raise 1 C tk (fe_var)) (fss_nil)) (fss_nil)) (fss_nil))) (fss_nil))
theorem sccheck_texts : FnScope ["texts", "index", "text"] ["texts"] (defScope (top 18)) := ⟨rfl, rfl, rfl, by decide +kernel, rfl, by decide +kernel, by decide +kernel⟩
theorem dertold_seals (C : Cxt G (cxOf (L2.CX P w) P w K mg base ["texts", "found", "before", "text"] "told_seals" (defScope (top 19)) fA cdv A outer s H E) EP Φ k tb ci cs ex)
    : FSs G (cxOf (L2.CX P w) P w K mg base ["texts", "found", "before", "text"] "told_seals" (defScope (top 19)) fA cdv A outer s H E) (wE E) EP R0 Φ (defBody (top 19)) btold_seals := by
  have tk : Takes (cxOf (L2.CX P w) P w K mg base ["texts", "found", "before", "text"] "told_seals" (defScope (top 19)) fA cdv A outer s H E) (wE E) := takes_of rfl rfl rfl rfl
  exact fss_cons (fs_set (fe_new (ff_lst (fl_nil))) (fg_v C.nd)) (fss_cons (fs_set (fe_int) (fg_v C.nd)) (fss_cons (fs_for (k := 0) (passes_of rfl) C.hc (fi_e (fe_var)) (fg_v C.nd) (fss_cons (fs_set (xe_call 4 C tk (fl_cons (fe_var) (fl_cons (fe_var) (fl_nil)))) (fg_v C.nd)) (fss_cons (fs_ex (fe_append (fe_var) (fe_var))) (fss_nil)))) (fss_cons (fs_ret (fe_var)) (fss_nil))))
theorem sctold_seals : FnScope ["texts", "found", "before", "text"] ["texts"] (defScope (top 19)) := ⟨rfl, rfl, rfl, by decide +kernel, rfl, by decide +kernel, by decide +kernel⟩
theorem derseals (C : Cxt G (cxOf (L2.CX P w) P w K mg base ["texts"] "seals" (defScope (top 20)) fA cdv A outer s H E) EP Φ k tb ci cs ex)
    : FSs G (cxOf (L2.CX P w) P w K mg base ["texts"] "seals" (defScope (top 20)) fA cdv A outer s H E) (wE E) EP R0 Φ (defBody (top 20)) bseals := by
  have tk : Takes (cxOf (L2.CX P w) P w K mg base ["texts"] "seals" (defScope (top 20)) fA cdv A outer s H E) (wE E) := takes_of rfl rfl rfl rfl
  exact fss_cons (fs_ex (xe_call 6 C tk (fl_cons (fe_var) (fl_nil)))) (fss_cons (fs_ret (xe_call 7 C tk (fl_cons (fe_var) (fl_nil)))) (fss_nil))
theorem scseals : FnScope ["texts"] ["texts"] (defScope (top 20)) := ⟨rfl, rfl, rfl, by decide +kernel, rfl, by decide +kernel, by decide +kernel⟩
theorem derfirst_broken (C : Cxt G (cxOf (L2.CX P w) P w K mg base ["texts", "some", "index", "one", "right"] "first_broken" (defScope (top 21)) fA cdv A outer s H E) EP Φ k tb ci cs ex)
    : FSs G (cxOf (L2.CX P w) P w K mg base ["texts", "some", "index", "one", "right"] "first_broken" (defScope (top 21)) fA cdv A outer s H E) (wE E) EP R0 Φ (defBody (top 21)) bfirst_broken := by
  have tk : Takes (cxOf (L2.CX P w) P w K mg base ["texts", "some", "index", "one", "right"] "first_broken" (defScope (top 21)) fA cdv A outer s H E) (wE E) := takes_of rfl rfl rfl rfl
  exact fss_cons (fs_ex (xe_call 6 C tk (fl_cons (fe_var) (fl_nil)))) (fss_cons (fs_if (fc_w (fw_or (fc_not (fc_val (xe_call 2 C tk (fl_cons (fe_var) (fl_nil))))) (fw_or1 (fc_cmp (op := .ne) C.hu (xe_len C.B (fe_var)) (xe_len C.B (fe_var)))))) (fss_cons (xs_raise 2 C tk (fe_neg (fe_int))) (fss_nil)) (fss_nil)) (fss_cons (fs_for (k := 0) (passes_of rfl) C.hc (xi_enum C.B (fe_var)) (fg_t C.hc (fgs_cons (fg_v C.nd) (fgs_cons (fg_v C.nd) (fgs_nil)))) (fss_cons (fs_if (fc_not (fc_val (xe_call 1 C tk (fl_cons (fe_var) (fl_cons (fe_int) (fl_cons (fe_bin (op := .sub) C.hu (fe_gi (i := 1) C rfl rfl) (fe_int)) (fl_nil))))))) (fss_cons (xs_raise 2 C tk (fe_var)) (fss_nil)) (fss_nil)) (fss_nil))) (fss_cons (fs_for (k := 0) (passes_of rfl) C.hc (xi_enumz C.B (fe_var) (xe_call 7 C tk (fl_cons (fe_var) (fl_nil)))) (fg_t C.hc (fgs_cons (fg_v C.nd) (fgs_cons (fg_t C.hc (fgs_cons (fg_v C.nd) (fgs_cons (fg_v C.nd) (fgs_nil)))) (fgs_nil)))) (fss_cons (fs_if (fc_cmp (op := .ne) C.hu (fe_var) (fe_var)) (fss_cons (fs_ret (fe_var)) (fss_nil)) (fss_nil)) (fss_nil))) (fss_cons (fs_ret (fe_none)) (fss_nil)))))
theorem scfirst_broken : FnScope ["texts", "some", "index", "one", "right"] ["texts", "some"] (defScope (top 21)) := ⟨rfl, rfl, rfl, by decide +kernel, rfl, by decide +kernel, by decide +kernel⟩
theorem der_law_taken (C : Cxt G (cxOf (L2.CX P w) P w K mg base ["row", "many", "cell", "found"] "_law_taken" (defScope (top 23)) fA cdv A outer s H E) EP Φ k tb ci cs ex)
    : FSs G (cxOf (L2.CX P w) P w K mg base ["row", "many", "cell", "found"] "_law_taken" (defScope (top 23)) fA cdv A outer s H E) (wE E) EP R0 Φ (defBody (top 23)) b_law_taken := by
  have tk : Takes (cxOf (L2.CX P w) P w K mg base ["row", "many", "cell", "found"] "_law_taken" (defScope (top 23)) fA cdv A outer s H E) (wE E) := takes_of rfl rfl rfl rfl
  exact fss_cons (fs_if (fc_cmp (op := .gt) C.hu (fe_idx (fe_var) (fe_int)) (fe_int)) (fss_cons (fs_set (fe_bin (op := .mod) C.hu (xe_int C.B (fe_idx (fe_var) (fe_int))) (fe_var)) (fg_v C.nd)) (fss_cons (fs_setIx (fe_bin (op := .fdiv) C.hu (fe_idx (fe_var) (fe_int)) (fe_var)) (fe_var) (fe_int)) (fss_cons (fs_ret (fe_var)) (fss_nil)))) (fss_nil)) (fss_cons (fs_setIx (fe_bin (op := .add) C.hu (fe_idx (fe_var) (fe_int)) (fe_int)) (fe_var) (fe_int)) (fss_cons (fs_if (fc_cmp (op := .gt) C.hu (fe_idx (fe_var) (fe_int)) (xe_len C.B (fe_idx (fe_var) (fe_int)))) (fss_cons (fs_setIx (fe_bin (op := .mod) C.hu (xe_int C.B (fe_bin (op := .add) C.hu (fe_bin (op := .mul) C.hu (fe_idx (fe_var) (fe_int)) (fe_int)) (fe_int))) (fe_int)) (fe_var) (fe_int)) (fss_cons (fs_ret (fe_bin (op := .mod) C.hu (xe_int C.B (fe_bin (op := .fdiv) C.hu (fe_idx (fe_var) (fe_int)) (fe_int))) (fe_var))) (fss_nil))) (fss_nil)) (fss_cons (fs_set (fe_idx (fe_idx (fe_var) (fe_int)) (fe_bin (op := .sub) C.hu (fe_idx (fe_var) (fe_int)) (fe_int))) (fg_v C.nd)) (fss_cons (fs_setIx (fe_bin (op := .mod) C.hu (xe_int C.B (fe_bin (op := .add) C.hu (fe_bin (op := .add) C.hu (fe_bin (op := .mul) C.hu (fe_idx (fe_var) (fe_int)) (fe_int)) (fe_var)) (fe_int))) (fe_int)) (fe_var) (fe_int)) (fss_cons (fs_if (fc_cmp (op := .ge) C.hu (fe_var) (fe_bin (op := .pow) C.hu (fe_int) (fe_int))) (fss_cons (fs_setIx (fe_bin (op := .fdiv) C.hu (fe_var) (fe_var)) (fe_var) (fe_int)) (fss_nil)) (fss_nil)) (fss_cons (fs_ret (fe_bin (op := .mod) C.hu (xe_int C.B (fe_var)) (fe_var))) (fss_nil)))))))
theorem sc_law_taken : FnScope ["row", "many", "cell", "found"] ["row", "many"] (defScope (top 23)) := ⟨rfl, rfl, rfl, by decide +kernel, rfl, by decide +kernel, by decide +kernel⟩
theorem der_law_pick (C : Cxt G (cxOf (L2.CX P w) P w K mg base ["row", "some"] "_law_pick" (defScope (top 24)) fA cdv A outer s H E) EP Φ k tb ci cs ex)
    : FSs G (cxOf (L2.CX P w) P w K mg base ["row", "some"] "_law_pick" (defScope (top 24)) fA cdv A outer s H E) (wE E) EP R0 Φ (defBody (top 24)) b_law_pick := by
  have tk : Takes (cxOf (L2.CX P w) P w K mg base ["row", "some"] "_law_pick" (defScope (top 24)) fA cdv A outer s H E) (wE E) := takes_of rfl rfl rfl rfl
  exact fss_cons (fs_ret (fe_idx (fe_var) (xe_call 10 C tk (fl_cons (fe_var) (fl_cons (xe_len C.B (fe_var)) (fl_nil)))))) (fss_nil)
theorem sc_law_pick : FnScope ["row", "some"] ["row", "some"] (defScope (top 24)) := ⟨rfl, rfl, rfl, by decide +kernel, rfl, by decide +kernel, by decide +kernel⟩
theorem der_law_alike (C : Cxt G (cxOf (L2.CX P w) P w K mg base ["found", "due", "k", "key"] "_law_alike" (defScope (top 25)) fA cdv A outer s H E) EP Φ k tb ci cs ex)
    : FSs G (cxOf (L2.CX P w) P w K mg base ["found", "due", "k", "key"] "_law_alike" (defScope (top 25)) fA cdv A outer s H E) (wE E) EP R0 Φ (defBody (top 25)) b_law_alike := by
  have tk : Takes (cxOf (L2.CX P w) P w K mg base ["found", "due", "k", "key"] "_law_alike" (defScope (top 25)) fA cdv A outer s H E) (wE E) := takes_of rfl rfl rfl rfl
  exact fss_cons (fs_if (fc_val (xe_isi2 C.B (fe_var) (ty_tuple C.B) (ty_list C.B))) (fss_cons (fs_if (fc_w (fw_or (fc_not (fc_val (xe_isi2 C.B (fe_var) (ty_tuple C.B) (ty_list C.B)))) (fw_or1 (fc_cmp (op := .ne) C.hu (xe_isi1 C.B (fe_var) (ty_list C.B)) (xe_isi1 C.B (fe_var) (ty_list C.B)))))) (fss_cons (fs_ret (fe_bl)) (fss_nil)) (fss_nil)) (fss_cons (fs_if (fc_cmp (op := .ne) C.hu (xe_len C.B (fe_var)) (xe_len C.B (fe_var))) (fss_cons (fs_ret (fe_bl)) (fss_nil)) (fss_nil)) (fss_cons (fs_ret (fe_cmp (op := .eq) C.hu (fe_pur (ff_lc C.hc C.nd (xi_rng1 C.B (xe_len C.B (fe_var))) (own := [("k", 2)]) (blkOk_by (by kernel_rfl)) (by decide) (fun _ _ _ _ _ => fg_v C.blk.nd) (fun _ _ _ _ _ => fp_c (fc_not (fc_val (xe_call 12 C.blk takes_none5 (fl_cons (fe_idx (fe_var) (fe_var)) (fl_cons (fe_idx (fe_var) (fe_var)) (fl_nil))))))) (fun _ _ _ _ _ => fe_var))) (fe_pur (ff_lst (fl_nil))))) (fss_nil)))) (fss_nil)) (fss_cons (fs_if (fc_val (xe_isi1 C.B (fe_var) (ty_dict C.B))) (fss_cons (fs_if (fc_w (fw_or (fc_not (fc_val (xe_isi1 C.B (fe_var) (ty_dict C.B)))) (fw_or1 (fc_cmp (op := .ne) C.hu (fe_pur (xf_list C.B C.hc (fe_var))) (fe_pur (xf_list C.B C.hc (fe_var))))))) (fss_cons (fs_ret (fe_bl)) (fss_nil)) (fss_nil)) (fss_cons (fs_ret (fe_cmp (op := .eq) C.hu (fe_pur (ff_lc C.hc C.nd (fi_e (fe_var)) (own := [("key", 3)]) (blkOk_by (by kernel_rfl)) (by decide) (fun _ _ _ _ _ => fg_v C.blk.nd) (fun _ _ _ _ _ => fp_c (fc_not (fc_val (xe_call 12 C.blk takes_none5 (fl_cons (fe_idx (fe_var) (fe_var)) (fl_cons (fe_idx (fe_var) (fe_var)) (fl_nil))))))) (fun _ _ _ _ _ => fe_var))) (fe_pur (ff_lst (fl_nil))))) (fss_nil))) (fss_nil)) (fss_cons (fs_if (fc_w (fw_or (fc_cmp (op := .is) C.hu (fe_var) (fe_none)) (fw_or1 (fc_val (xe_isi1 C.B (fe_var) (ty_str C.B)))))) (fss_cons (fs_ret (fe_and (fe_cmp (op := .eq) C.hu (fe_var) (fe_var)) (fe_one (fe_cmp (op := .eq) C.hu (xe_isi1 C.B (fe_var) (ty_str C.B)) (xe_isi1 C.B (fe_var) (ty_str C.B)))))) (fss_nil)) (fss_nil)) (fss_cons (fs_ret (fe_and (xe_isi1 C.B (fe_var) (ty_int C.B)) (fe_and (fe_cmp (op := .eq) C.hu (xe_isi1 C.B (fe_var) (ty_bool C.B)) (xe_isi1 C.B (fe_var) (ty_bool C.B))) (fe_one (fe_cmp (op := .eq) C.hu (fe_var) (fe_var)))))) (fss_nil))))
theorem sc_law_alike : FnScope ["found", "due", "k", "key"] ["found", "due"] (defScope (top 25)) := ⟨rfl, rfl, rfl, by decide +kernel, rfl, by decide +kernel, by decide +kernel⟩
theorem der_law_seal (C : Cxt G (cxOf (L2.CX P w) P w K mg base ["before", "text", "found", "sign"] "_law_seal" (defScope (top 26)) fA cdv A outer s H E) EP Φ k tb ci cs ex)
    : FSs G (cxOf (L2.CX P w) P w K mg base ["before", "text", "found", "sign"] "_law_seal" (defScope (top 26)) fA cdv A outer s H E) (wE E) EP R0 Φ (defBody (top 26)) b_law_seal := by
  have tk : Takes (cxOf (L2.CX P w) P w K mg base ["before", "text", "found", "sign"] "_law_seal" (defScope (top 26)) fA cdv A outer s H E) (wE E) := takes_of rfl rfl rfl rfl
  exact fss_cons (fs_set (fe_var) (fg_v C.nd)) (fss_cons (fs_for (k := 0) (passes_of rfl) C.hc (fi_e (fe_var)) (fg_v C.nd) (fss_cons (fs_set (fe_bin (op := .mod) C.hu (xe_int C.B (fe_bin (op := .add) C.hu (fe_bin (op := .mul) C.hu (fe_var) (fe_int)) (xe_ord C.B (fe_var)))) (fe_int)) (fg_v C.nd)) (fss_nil))) (fss_cons (fs_ret (fe_bin (op := .mod) C.hu (xe_int C.B (fe_bin (op := .add) C.hu (fe_bin (op := .mul) C.hu (fe_var) (fe_int)) (fe_int))) (fe_int))) (fss_nil)))
theorem sc_law_seal : FnScope ["before", "text", "found", "sign"] ["before", "text"] (defScope (top 26)) := ⟨rfl, rfl, rfl, by decide +kernel, rfl, by decide +kernel, by decide +kernel⟩
theorem derlaw (C : Cxt G (cxOf (L2.CX P w) P w K mg base ["script", "row", "k", "text", "turn", "odd", "none", "ask", "most", "texts", "due", "before", "at", "other", "place", "sign", "wrong", "told", "j", "one"] "law" (defScope (top 28)) fA cdv A outer s H E) EP Φ k tb ci cs ex)
    (hr2 : Room (k + 2) (cxOf (L2.CX P w) P w K mg base ["script", "row", "k", "text", "turn", "odd", "none", "ask", "most", "texts", "due", "before", "at", "other", "place", "sign", "wrong", "told", "j", "one"] "law" (defScope (top 28)) fA cdv A outer s H E).A) (RF : RefK G (cxOf (L2.CX P w) P w K mg base ["script", "row", "k", "text", "turn", "odd", "none", "ask", "most", "texts", "due", "before", "at", "other", "place", "sign", "wrong", "told", "j", "one"] "law" (defScope (top 28)) fA cdv A outer s H E) "_law_refused" hs) {c P0 : Addr} (LT : LamX.TabB base mg c P0) (hcode : (cxOf (L2.CX P w) P w K mg base ["script", "row", "k", "text", "turn", "odd", "none", "ask", "most", "texts", "due", "before", "at", "other", "place", "sign", "wrong", "told", "j", "one"] "law" (defScope (top 28)) fA cdv A outer s H E).env.code = .ref c) (hmT : (P0, (cxOf (L2.CX P w) P w K mg base ["script", "row", "k", "text", "turn", "odd", "none", "ask", "most", "texts", "due", "before", "at", "other", "place", "sign", "wrong", "told", "j", "one"] "law" (defScope (top 28)) fA cdv A outer s H E).env.qual ++ "<lambda>") ∈ G.tabs) (hu : ∀ p ∈ G.tabs, p.1 = P0 → p.2 = (cxOf (L2.CX P w) P w K mg base ["script", "row", "k", "text", "turn", "odd", "none", "ask", "most", "texts", "due", "before", "at", "other", "place", "sign", "wrong", "told", "j", "one"] "law" (defScope (top 28)) fA cdv A outer s H E).env.qual ++ "<lambda>")
    : FSs G (cxOf (L2.CX P w) P w K mg base ["script", "row", "k", "text", "turn", "odd", "none", "ask", "most", "texts", "due", "before", "at", "other", "place", "sign", "wrong", "told", "j", "one"] "law" (defScope (top 28)) fA cdv A outer s H E) (wE E) EP R0 Φ (defBody (top 28)) blaw := by
  have tk : Takes (cxOf (L2.CX P w) P w K mg base ["script", "row", "k", "text", "turn", "odd", "none", "ask", "most", "texts", "due", "before", "at", "other", "place", "sign", "wrong", "told", "j", "one"] "law" (defScope (top 28)) fA cdv A outer s H E) (wE E) := takes_of rfl rfl rfl rfl
  exact fss_cons (fs_set (fe_new (ff_lst (fl_cons (fe_var) (fl_cons (fe_int) (fl_cons (fe_int) (fl_cons (fe_int) (fl_nil))))))) (fg_v C.nd)) (fss_cons (fs_parC C.hc C.nd (fe_ife (fc_cmp (op := .eq) C.hu (xe_call 10 C tk (fl_cons (fe_var) (fl_cons (fe_int) (fl_nil)))) (fe_int)) (fe_int) (fe_int)) (fe_new (ff_lst (fl_nil)))) (fss_cons (fs_for (k := 0) (passes_of rfl) C.hc (xi_rng1 C.B (xe_call 10 C tk (fl_cons (fe_var) (fl_cons (fe_int) (fl_nil))))) (fg_v C.nd) (fss_cons (fs_ex (fe_append (fe_var) (fe_join (fe_str) (fe_pur (ff_lc C.hc C.nd (xi_rng1 C.B (xe_call 10 C tk (fl_cons (fe_var) (fl_cons (fe_bin (op := .add) C.hu (fe_var) (fe_int)) (fl_nil))))) (own := [("j", 18)]) (blkOk_by (by kernel_rfl)) (by decide) (fun _ _ _ _ _ => fg_v C.blk.nd) (fun _ _ _ _ _ => fp_no) (fun _ _ _ _ _ => xe_call 11 C.blk takes_none5 (fl_cons (fe_var) (fl_cons (fe_pur (ff_lst (fl_cons (fe_str) (fl_cons (fe_str) (fl_cons (fe_str) (fl_cons (fe_str) (fl_cons (fe_str) (fl_cons (fe_str) (fl_nil))))))))) (fl_nil))))))))) (fss_nil))) (fss_cons (fs_parC C.hc C.nd (fe_new (ff_lst (fl_nil))) (fe_int)) (fss_cons (fs_for (k := 0) (passes_of rfl) C.hc (fi_e (fe_var)) (fg_v C.nd) (fss_cons (fs_if (fc_not (fc_val (xe_call 12 C tk (fl_cons (xe_call 5 C tk (fl_cons (fe_var) (fl_cons (fe_var) (fl_nil)))) (fl_cons (xe_call 13 C tk (fl_cons (fe_var) (fl_cons (fe_var) (fl_nil)))) (fl_nil)))))) (fss_cons (fs_ret (fe_bl)) (fss_nil)) (fss_nil)) (fss_cons (fs_set (xe_call 13 C tk (fl_cons (fe_var) (fl_cons (fe_var) (fl_nil)))) (fg_v C.nd)) (fss_cons (fs_ex (fe_append (fe_var) (fe_var))) (fss_nil))))) (fss_cons (fs_if (fc_w (fw_or (fc_not (fc_val (xe_call 12 C tk (fl_cons (xe_call 8 C tk (fl_cons (xe_tuple C.B (fe_var)) (fl_nil))) (fl_cons (fe_var) (fl_nil)))))) (fw_or1 (fc_cmp (op := .isnot) C.hu (xe_call 9 C tk (fl_cons (fe_var) (fl_cons (xe_tuple C.B (fe_var)) (fl_nil)))) (fe_none))))) (fss_cons (fs_ret (fe_bl)) (fss_nil)) (fss_nil)) (fss_cons (fs_for (k := 0) (passes_of rfl) C.hc (xi_rng1 C.B (fe_ife (fc_cmp (op := .ne) C.hu (fe_var) (fe_pur (ff_lst (fl_nil)))) (fe_int) (fe_int))) (fg_v C.nd) (fss_cons (fs_set (xe_call 10 C tk (fl_cons (fe_var) (fl_cons (xe_len C.B (fe_var)) (fl_nil)))) (fg_v C.nd)) (fss_cons (fs_set (fe_bin (op := .add) C.hu (fe_bin (op := .add) C.hu (fe_sl (fe_var) (fo_no) (fo_e (fe_var))) (fe_pur (ff_lst (fl_cons (fe_bin (op := .mod) C.hu (xe_int C.B (fe_bin (op := .add) C.hu (fe_bin (op := .add) C.hu (fe_idx (fe_var) (fe_var)) (fe_int)) (xe_call 10 C tk (fl_cons (fe_var) (fl_cons (fe_int) (fl_nil)))))) (fe_int)) (fl_nil))))) (fe_sl (fe_var) (fo_e (fe_bin (op := .add) C.hu (fe_var) (fe_int))) (fo_no))) (fg_v C.nd)) (fss_cons (fs_if (fc_not (fc_val (xe_call 12 C tk (fl_cons (xe_call 9 C tk (fl_cons (fe_var) (fl_cons (fe_var) (fl_nil)))) (fl_cons (fe_var) (fl_nil)))))) (fss_cons (fs_ret (fe_bl)) (fss_nil)) (fss_nil)) (fss_cons (fs_set (fe_idx (fe_var) (fe_var)) (fg_v C.nd)) (fss_cons (fs_if (fc_cmp (op := .ne) C.hu (fe_var) (fe_str)) (fss_cons (fs_set (xe_call 10 C tk (fl_cons (fe_var) (fl_cons (xe_len C.B (fe_var)) (fl_nil)))) (fg_v C.nd)) (fss_cons (fs_set (xe_call 11 C tk (fl_cons (fe_var) (fl_cons (fe_pur (ff_lc C.hc C.nd (fi_e (fe_pur (ff_lst (fl_cons (fe_str) (fl_cons (fe_str) (fl_cons (fe_str) (fl_cons (fe_str) (fl_cons (fe_str) (fl_nil))))))))) (own := [("one", 19)]) (blkOk_by (by kernel_rfl)) (by decide) (fun _ _ _ _ _ => fg_v C.blk.nd) (fun _ _ _ _ _ => fp_c (fc_cmp (op := .ne) C.blk.hu (fe_var) (fe_idx (fe_var) (fe_var)))) (fun _ _ _ _ _ => fe_var))) (fl_nil)))) (fg_v C.nd)) (fss_cons (fs_set (fe_bin (op := .add) C.hu (fe_bin (op := .add) C.hu (fe_sl (fe_var) (fo_no) (fo_e (fe_var))) (fe_pur (ff_lst (fl_cons (fe_bin (op := .add) C.hu (fe_bin (op := .add) C.hu (fe_sl (fe_var) (fo_no) (fo_e (fe_var))) (fe_var)) (fe_sl (fe_var) (fo_e (fe_bin (op := .add) C.hu (fe_var) (fe_int))) (fo_no))) (fl_nil))))) (fe_sl (fe_var) (fo_e (fe_bin (op := .add) C.hu (fe_var) (fe_int))) (fo_no))) (fg_v C.nd)) (fss_cons (fs_if (fc_not (fc_val (xe_call 12 C tk (fl_cons (xe_call 9 C tk (fl_cons (fe_var) (fl_cons (fe_var) (fl_nil)))) (fl_cons (fe_var) (fl_nil)))))) (fss_cons (fs_ret (fe_bl)) (fss_nil)) (fss_nil)) (fss_cons (fs_set (xe_call 8 C tk (fl_cons (fe_var) (fl_nil))) (fg_v C.nd)) (fss_cons (fs_if (fc_w (fw_or (fc_cmp (op := .ne) C.hu (fe_pur (ff_lc C.hc C.nd (xi_rng2 C.B (fe_var) (xe_len C.B (fe_var))) (own := [("k", 2)]) (blkOk_by (by kernel_rfl)) (by decide) (fun _ _ _ _ _ => fg_v C.blk.nd) (fun _ _ _ _ _ => fp_c (fc_cmp (op := .eq) C.blk.hu (fe_idx (fe_var) (fe_var)) (fe_idx (fe_var) (fe_var)))) (fun _ _ _ _ _ => fe_var))) (fe_pur (ff_lst (fl_nil)))) (fw_or1 (fc_cmp (op := .ne) C.hu (fe_sl (fe_var) (fo_no) (fo_e (fe_var))) (fe_sl (fe_var) (fo_no) (fo_e (fe_var))))))) (fss_cons (fs_ret (fe_bl)) (fss_nil)) (fss_nil)) (fss_nil))))))) (fss_nil)) (fss_nil))))))) (fss_cons (fs_set (xe_call 11 C tk (fl_cons (fe_var) (fl_cons (fe_pur (ff_lst (fl_cons (fe_neg (fe_int)) (fl_cons (fe_int) (fl_cons (fe_none) (fl_cons (fe_bl) (fl_nil))))))) (fl_nil)))) (fg_v C.nd)) (fss_cons (fs_if (fc_cmp (op := .ne) C.hu (xe_repr C.B C.hgd C.hu (fe_refused RF rfl hr2 C.hgd LT hcode hmT hu (LamX.lamS_by (by kernel_rfl)) (fun _ _ _ _ _ _ _ hl hgl => xe_call 5 (C.lam hl hgl) (takes_of rfl rfl rfl rfl) (fl_cons (fe_var) (fl_cons (fe_none) (fl_nil)))))) (xe_repr C.B C.hgd C.hu (fe_tup (fl_cons (fe_str) (fl_cons (fe_var) (fl_nil)))))) (fss_cons (fs_ret (fe_bl)) (fss_nil)) (fss_nil)) (fss_cons (fs_set (xe_call 11 C tk (fl_cons (fe_var) (fl_cons (fe_pur (ff_lst (fl_cons (fe_none) (fl_cons (fe_int) (fl_cons (fe_str) (fl_cons (fe_bin (op := .mul) C.hu (fe_str) (fe_int)) (fl_cons (fe_tup (fl_cons (fe_str) (fl_nil))) (fl_nil)))))))) (fl_nil)))) (fg_v C.nd)) (fss_cons (fs_if (fc_cmp (op := .ne) C.hu (xe_repr C.B C.hgd C.hu (fe_refused RF rfl hr2 C.hgd LT hcode hmT hu (LamX.lamS_by (by kernel_rfl)) (fun _ _ _ _ _ _ _ hl hgl => xe_call 5 (C.lam hl hgl) (takes_of rfl rfl rfl rfl) (fl_cons (fe_int) (fl_cons (fe_var) (fl_nil)))))) (xe_repr C.B C.hgd C.hu (fe_tup (fl_cons (fe_str) (fl_cons (fe_var) (fl_nil)))))) (fss_cons (fs_ret (fe_bl)) (fss_nil)) (fss_nil)) (fss_cons (fs_for (k := 0) (passes_of rfl) C.hc (fi_e (fe_new (ff_lst (fl_cons (fe_gfn (C.fns 8 _ rfl) rfl) (fl_nil))))) (fg_v C.nd) (fss_cons (fs_if (fc_cmp (op := .ne) C.hu (fe_refused RF rfl hr2 C.hgd LT hcode hmT hu (LamX.lamS_by (by kernel_rfl)) (fun _ _ _ _ _ _ _ hl hgl => fe_callv (cand_cons ((C.lam hl hgl).fns 8 _ rfl) (cand_nil)) (C.lam hl hgl).hr (C.lam hl hgl).hgd (takes_of rfl rfl rfl rfl) (fl_cons (fe_bin (op := .add) (C.lam hl hgl).hu (fe_var) (fe_pur (ff_lst (fl_cons (fe_var) (fl_nil))))) (fl_nil)))) (fe_tup (fl_cons (fe_str) (fl_cons (xe_len C.B (fe_var)) (fl_nil))))) (fss_cons (fs_ret (fe_bl)) (fss_nil)) (fss_nil)) (fss_cons (fs_if (fc_cmp (op := .ne) C.hu (fe_refused RF rfl hr2 C.hgd LT hcode hmT hu (LamX.lamS_by (by kernel_rfl)) (fun _ _ _ _ _ _ _ hl hgl => fe_callv (cand_cons ((C.lam hl hgl).fns 8 _ rfl) (cand_nil)) (C.lam hl hgl).hr (C.lam hl hgl).hgd (takes_of rfl rfl rfl rfl) (fl_cons (xe_call 11 (C.lam hl hgl) (takes_of rfl rfl rfl rfl) (fl_cons (fe_var) (fl_cons (fe_pur (ff_lst (fl_cons (fe_none) (fl_cons (fe_int) (fl_cons (fe_bin (op := .mul) (C.lam hl hgl).hu (fe_pur (ff_lst (fl_cons (fe_str) (fl_nil)))) (fe_int)) (fl_nil)))))) (fl_nil)))) (fl_nil)))) (fe_tup (fl_cons (fe_str) (fl_cons (fe_neg (fe_int)) (fl_nil))))) (fss_cons (fs_ret (fe_bl)) (fss_nil)) (fss_nil)) (fss_nil)))) (fss_cons (fs_if (fc_cmp (op := .ne) C.hu (fe_refused RF rfl hr2 C.hgd LT hcode hmT hu (LamX.lamS_by (by kernel_rfl)) (fun _ _ _ _ _ _ _ hl hgl => xe_call 9 (C.lam hl hgl) (takes_of rfl rfl rfl rfl) (fl_cons (fe_var) (fl_cons (fe_bin (op := .add) (C.lam hl hgl).hu (fe_var) (fe_pur (ff_lst (fl_cons (fe_int) (fl_nil))))) (fl_nil))))) (fe_tup (fl_cons (fe_str) (fl_cons (fe_neg (fe_int)) (fl_nil))))) (fss_cons (fs_ret (fe_bl)) (fss_nil)) (fss_nil)) (fss_cons (fs_if (fc_cmp (op := .ne) C.hu (fe_refused RF rfl hr2 C.hgd LT hcode hmT hu (LamX.lamS_by (by kernel_rfl)) (fun _ _ _ _ _ _ _ hl hgl => xe_call 9 (C.lam hl hgl) (takes_of rfl rfl rfl rfl) (fl_cons (fe_pur (ff_lst (fl_cons (fe_str) (fl_nil)))) (fl_cons (fe_pur (ff_lst (fl_cons (fe_var) (fl_nil)))) (fl_nil))))) (fe_tup (fl_cons (fe_str) (fl_cons (fe_int) (fl_nil))))) (fss_cons (fs_ret (fe_bl)) (fss_nil)) (fss_nil)) (fss_cons (fs_ret (fe_and (fe_cmp (op := .eq) C.hu (xe_call 5 C tk (fl_cons (fe_int) (fl_cons (fe_str) (fl_nil)))) (fe_int)) (fe_one (fe_cmp (op := .eq) C.hu (xe_call 8 C tk (fl_cons (fe_pur (ff_lst (fl_nil))) (fl_nil))) (fe_pur (ff_lst (fl_nil))))))) (fss_nil)))))))))))))))
theorem sclaw : FnScope ["script", "row", "k", "text", "turn", "odd", "none", "ask", "most", "texts", "due", "before", "at", "other", "place", "sign", "wrong", "told", "j", "one"] ["script"] (defScope (top 28)) := ⟨rfl, rfl, rfl, by decide +kernel, rfl, by decide +kernel, by decide +kernel⟩
end
def glo : List PySem.Str := (["is_integer", "is_within", "is_row", "is_record", "told_seal", "seal", "check_texts", "told_seals", "seals", "first_broken", "_law_taken", "_law_pick", "_law_alike", "_law_seal", "_law_refused", "law", "FolkError", "BadNumber", "BadTexts", "BadSeals"] : List PySem.Str) ++ (["BadText"] : List PySem.Str)
abbrev fx : List He.Fa := faOf glo ci cs
abbrev tf : List He.Defn := [("law", none)]
def exF (K : PySem.W.Frag) : Bool := excB K ex && noLst K
abbrev R : PySem.W.OpenRow := PySem.W.OpenLaw.row PySem.Challenge.rw_folkmeld_k37_whole_seals
abbrev hk : PySem.W.Hook := He.hookX 4 fx fn [] tf exF
def ob (s : PySem.W.SharedT) : He.AlX := He.obsX 4 fx fn [] tf exF (HandSHeadRun.getT s)
theorem ob_eq (s : PySem.W.SharedT) : ob s = hk.obs s.abs := He.obsX_eq (HandSHeadRun.getT_eq s)
theorem run (w : World) : HandSHeadRun.RunEq R (PySem.W.view R.prog [28]) hk ob 20000 names w := by
  intro os
  kernel_rfl
abbrev gOf (K : PySem.W.Frag) : Gd := ⟨fun f => He.ga K (Str.ofString f), fun c => He.ga K (Str.ofString c), [((He.cT K ("law", none)).2, ("law" : Str) ++ ".<locals>." ++ "<lambda>")]⟩
theorem exOk : ∀ q ∈ ex, q.1 = Str.ofString q.2 ∧ q.1 ∈ glo ∧ EP.exc q.2 = some 1 := by
  intro q hq
  simp only [ex, List.mem_cons, List.not_mem_nil, or_false] at hq
  rcases hq with rfl | rfl | rfl | rfl <;> exact ⟨by decide +kernel, by decide +kernel, by decide +kernel⟩
section
variable {P : Program} {w : World} {K : PySem.W.Frag} {h base : Heap} {mg : Str → Option Value}
theorem exK (X : K.In h) (Gn : h.Ns mainGlobals mg) (c : He.SaysX fx fn [] tf exF w h K) : ∀ q ∈ ex, Ex1 K ((gOf K).ca q.2) ∧ mg q.1 = some (.ref ((gOf K).ca q.2)) ∧ EP.exc q.2 = some 1 := fun q hq => by
  obtain ⟨h1, h2, h3⟩ := exOk q hq
  have hm := (Bool.and_eq_true_iff.mp c.more).1
  refine ⟨excB_1 hm hq, ?_, h3⟩
  have e := head_glo c.t.d X Gn h2
  rw [e, h1]
theorem initK (c : He.SaysX fx fn [] tf exF w h K) : ∃ fd ps, FnOk P w K mg base CX0 1 (He.ma K (He.ga K "FolkError") "__init__") fd ps (spI K) ∧ L2.Binds K fd ps [] := by
  obtain ⟨fd, F⟩ := c.t.d.def_ 3 (d := d3) rfl
  refine ⟨fd, ["self", "value"], folk_init F ⟨rfl, rfl, rfl, by decide +kernel, rfl, by decide +kernel, by decide +kernel⟩ rfl rfl, ?_⟩
  obtain ⟨ds, h1, h2⟩ := F.binds1 (ps := ["self", "value"]) 2 1 (by intro z; cases z) rfl fun T kV doc pm an cdv ct us its hu hi => match us, hu, its, hi with | [_, _], _, [_], _ => ⟨_, rfl, rfl⟩
  cases h1
  exact h2
theorem table (X : K.In h) (Gn : h.Ns mainGlobals mg) (c : He.SaysX fx fn [] tf exF w h K) : ∀ (j i : Nat) (q : Str × String × Nat), tb[i]? = some q → FnT (gOf K) P w K mg base (callD EP R0 j) (3 * j + 3) q.1 q.2.1 q.2.2 := by
  intro j
  induction j with
  | zero =>
    intro i q hq
    match i, hq with
    | 0, hq =>
      cases hq
      obtain ⟨fd, F⟩ := c.t.d.def_ 0 (d := d0) rfl
      exact FnT.zero (ps := ["thing"]) ⟨head_glo c.t.d X Gn (by decide +kernel), F.kp, F.bindsN fun _ _ _ _ _ _ us hl => match us, hl with | [_], _ => rfl⟩
    | 1, hq =>
      cases hq
      obtain ⟨fd, F⟩ := c.t.d.def_ 1 (d := d1) rfl
      exact FnT.zero (ps := ["thing", "least", "most"]) ⟨head_glo c.t.d X Gn (by decide +kernel), F.kp, F.bindsN fun _ _ _ _ _ _ us hl => match us, hl with | [_, _, _], _ => rfl⟩
    | 2, hq =>
      cases hq
      obtain ⟨fd, F⟩ := c.t.d.def_ 2 (d := d2) rfl
      exact FnT.zero (ps := ["thing"]) ⟨head_glo c.t.d X Gn (by decide +kernel), F.kp, F.bindsN fun _ _ _ _ _ _ us hl => match us, hl with | [_], _ => rfl⟩
    | 3, hq =>
      cases hq
      obtain ⟨fd, F⟩ := c.t.d.def_ 4 (d := d4) rfl
      exact FnT.zero (ps := ["thing"]) ⟨head_glo c.t.d X Gn (by decide +kernel), F.kp, F.bindsN fun _ _ _ _ _ _ us hl => match us, hl with | [_], _ => rfl⟩
    | 4, hq =>
      cases hq
      obtain ⟨fd, F⟩ := c.t.d.def_ 5 (d := d5) rfl
      exact FnT.zero (ps := ["before", "text"]) ⟨head_glo c.t.d X Gn (by decide +kernel), F.kp, F.bindsN fun _ _ _ _ _ _ us hl => match us, hl with | [_, _], _ => rfl⟩
    | 5, hq =>
      cases hq
      obtain ⟨fd, F⟩ := c.t.d.def_ 6 (d := d6) rfl
      exact FnT.zero (ps := ["before", "text"]) ⟨head_glo c.t.d X Gn (by decide +kernel), F.kp, F.bindsN fun _ _ _ _ _ _ us hl => match us, hl with | [_, _], _ => rfl⟩
    | 6, hq =>
      cases hq
      obtain ⟨fd, F⟩ := c.t.d.def_ 7 (d := d7) rfl
      exact FnT.zero (ps := ["texts"]) ⟨head_glo c.t.d X Gn (by decide +kernel), F.kp, F.bindsN fun _ _ _ _ _ _ us hl => match us, hl with | [_], _ => rfl⟩
    | 7, hq =>
      cases hq
      obtain ⟨fd, F⟩ := c.t.d.def_ 8 (d := d8) rfl
      exact FnT.zero (ps := ["texts"]) ⟨head_glo c.t.d X Gn (by decide +kernel), F.kp, F.bindsN fun _ _ _ _ _ _ us hl => match us, hl with | [_], _ => rfl⟩
    | 8, hq =>
      cases hq
      obtain ⟨fd, F⟩ := c.t.d.def_ 9 (d := d9) rfl
      exact FnT.zero (ps := ["texts"]) ⟨head_glo c.t.d X Gn (by decide +kernel), F.kp, F.bindsN fun _ _ _ _ _ _ us hl => match us, hl with | [_], _ => rfl⟩
    | 9, hq =>
      cases hq
      obtain ⟨fd, F⟩ := c.t.d.def_ 10 (d := d10) rfl
      exact FnT.zero (ps := ["texts", "some"]) ⟨head_glo c.t.d X Gn (by decide +kernel), F.kp, F.bindsN fun _ _ _ _ _ _ us hl => match us, hl with | [_, _], _ => rfl⟩
    | 10, hq =>
      cases hq
      obtain ⟨fd, F⟩ := c.t.d.def_ 11 (d := d11) rfl
      exact FnT.zero (ps := ["row", "many"]) ⟨head_glo c.t.d X Gn (by decide +kernel), F.kp, F.bindsN fun _ _ _ _ _ _ us hl => match us, hl with | [_, _], _ => rfl⟩
    | 11, hq =>
      cases hq
      obtain ⟨fd, F⟩ := c.t.d.def_ 12 (d := d12) rfl
      exact FnT.zero (ps := ["row", "some"]) ⟨head_glo c.t.d X Gn (by decide +kernel), F.kp, F.bindsN fun _ _ _ _ _ _ us hl => match us, hl with | [_, _], _ => rfl⟩
    | 12, hq =>
      cases hq
      obtain ⟨fd, F⟩ := c.t.d.def_ 13 (d := d13) rfl
      exact FnT.zero (ps := ["found", "due"]) ⟨head_glo c.t.d X Gn (by decide +kernel), F.kp, F.bindsN fun _ _ _ _ _ _ us hl => match us, hl with | [_, _], _ => rfl⟩
    | 13, hq =>
      cases hq
      obtain ⟨fd, F⟩ := c.t.d.def_ 14 (d := d14) rfl
      exact FnT.zero (ps := ["before", "text"]) ⟨head_glo c.t.d X Gn (by decide +kernel), F.kp, F.bindsN fun _ _ _ _ _ _ us hl => match us, hl with | [_, _], _ => rfl⟩
    | i + 14, hq => simp [tb] at hq
  | succ j ih =>
    intro i q hq
    match i, hq with
    | 0, hq =>
      cases hq
      obtain ⟨fd, F⟩ := c.t.d.def_ 0 (d := d0) rfl
      exact FnT.succ (k := 3 * j + 5) (ps := ["thing"]) (f := "is_integer") (fn := fis_integer) ⟨head_glo c.t.d X Gn (by decide +kernel), F.kp, F.bindsN fun _ _ _ _ _ _ us hl => match us, hl with | [_], _ => rfl⟩ F scis_integer rfl rfl (by intro z; cases z) (by simp [EP]) fun cdv A outer s H E hr hg _ => deris_integer (mkC ih (by omega) (head_blt c.t.d X Gn) (head_int c.t.d X Gn) (head_str c.t.d X Gn) (exK X Gn c) (initK c) hr hg scis_integer.nd)
    | 1, hq =>
      cases hq
      obtain ⟨fd, F⟩ := c.t.d.def_ 1 (d := d1) rfl
      exact FnT.succ (k := 3 * j + 5) (ps := ["thing", "least", "most"]) (f := "is_within") (fn := fis_within) ⟨head_glo c.t.d X Gn (by decide +kernel), F.kp, F.bindsN fun _ _ _ _ _ _ us hl => match us, hl with | [_, _, _], _ => rfl⟩ F scis_within rfl rfl (by intro z; cases z) (by simp [EP]) fun cdv A outer s H E hr hg _ => deris_within (mkC ih (by omega) (head_blt c.t.d X Gn) (head_int c.t.d X Gn) (head_str c.t.d X Gn) (exK X Gn c) (initK c) hr hg scis_within.nd)
    | 2, hq =>
      cases hq
      obtain ⟨fd, F⟩ := c.t.d.def_ 2 (d := d2) rfl
      exact FnT.succ (k := 3 * j + 5) (ps := ["thing"]) (f := "is_row") (fn := fis_row) ⟨head_glo c.t.d X Gn (by decide +kernel), F.kp, F.bindsN fun _ _ _ _ _ _ us hl => match us, hl with | [_], _ => rfl⟩ F scis_row rfl rfl (by intro z; cases z) (by simp [EP]) fun cdv A outer s H E hr hg _ => deris_row (mkC ih (by omega) (head_blt c.t.d X Gn) (head_int c.t.d X Gn) (head_str c.t.d X Gn) (exK X Gn c) (initK c) hr hg scis_row.nd)
    | 3, hq =>
      cases hq
      obtain ⟨fd, F⟩ := c.t.d.def_ 4 (d := d4) rfl
      exact FnT.succ (k := 3 * j + 5) (ps := ["thing"]) (f := "is_record") (fn := fis_record) ⟨head_glo c.t.d X Gn (by decide +kernel), F.kp, F.bindsN fun _ _ _ _ _ _ us hl => match us, hl with | [_], _ => rfl⟩ F scis_record rfl rfl (by intro z; cases z) (by simp [EP]) fun cdv A outer s H E hr hg _ => deris_record (mkC ih (by omega) (head_blt c.t.d X Gn) (head_int c.t.d X Gn) (head_str c.t.d X Gn) (exK X Gn c) (initK c) hr hg scis_record.nd)
    | 4, hq =>
      cases hq
      obtain ⟨fd, F⟩ := c.t.d.def_ 5 (d := d5) rfl
      exact FnT.succ (k := 3 * j + 5) (ps := ["before", "text"]) (f := "told_seal") (fn := ftold_seal) ⟨head_glo c.t.d X Gn (by decide +kernel), F.kp, F.bindsN fun _ _ _ _ _ _ us hl => match us, hl with | [_, _], _ => rfl⟩ F sctold_seal rfl rfl (by intro z; cases z) (by simp [EP]) fun cdv A outer s H E hr hg _ => dertold_seal (mkC ih (by omega) (head_blt c.t.d X Gn) (head_int c.t.d X Gn) (head_str c.t.d X Gn) (exK X Gn c) (initK c) hr hg sctold_seal.nd)
    | 5, hq =>
      cases hq
      obtain ⟨fd, F⟩ := c.t.d.def_ 6 (d := d6) rfl
      exact FnT.succ (k := 3 * j + 5) (ps := ["before", "text"]) (f := "seal") (fn := fseal) ⟨head_glo c.t.d X Gn (by decide +kernel), F.kp, F.bindsN fun _ _ _ _ _ _ us hl => match us, hl with | [_, _], _ => rfl⟩ F scseal rfl rfl (by intro z; cases z) (by simp [EP]) fun cdv A outer s H E hr hg _ => derseal (mkC ih (by omega) (head_blt c.t.d X Gn) (head_int c.t.d X Gn) (head_str c.t.d X Gn) (exK X Gn c) (initK c) hr hg scseal.nd)
    | 6, hq =>
      cases hq
      obtain ⟨fd, F⟩ := c.t.d.def_ 7 (d := d7) rfl
      exact FnT.succ (k := 3 * j + 5) (ps := ["texts"]) (f := "check_texts") (fn := fcheck_texts) ⟨head_glo c.t.d X Gn (by decide +kernel), F.kp, F.bindsN fun _ _ _ _ _ _ us hl => match us, hl with | [_], _ => rfl⟩ F sccheck_texts rfl rfl (by intro z; cases z) (by simp [EP]) fun cdv A outer s H E hr hg _ => dercheck_texts (mkC ih (by omega) (head_blt c.t.d X Gn) (head_int c.t.d X Gn) (head_str c.t.d X Gn) (exK X Gn c) (initK c) hr hg sccheck_texts.nd)
    | 7, hq =>
      cases hq
      obtain ⟨fd, F⟩ := c.t.d.def_ 8 (d := d8) rfl
      exact FnT.succ (k := 3 * j + 5) (ps := ["texts"]) (f := "told_seals") (fn := ftold_seals) ⟨head_glo c.t.d X Gn (by decide +kernel), F.kp, F.bindsN fun _ _ _ _ _ _ us hl => match us, hl with | [_], _ => rfl⟩ F sctold_seals rfl rfl (by intro z; cases z) (by simp [EP]) fun cdv A outer s H E hr hg _ => dertold_seals (mkC ih (by omega) (head_blt c.t.d X Gn) (head_int c.t.d X Gn) (head_str c.t.d X Gn) (exK X Gn c) (initK c) hr hg sctold_seals.nd)
    | 8, hq =>
      cases hq
      obtain ⟨fd, F⟩ := c.t.d.def_ 9 (d := d9) rfl
      exact FnT.succ (k := 3 * j + 5) (ps := ["texts"]) (f := "seals") (fn := fseals) ⟨head_glo c.t.d X Gn (by decide +kernel), F.kp, F.bindsN fun _ _ _ _ _ _ us hl => match us, hl with | [_], _ => rfl⟩ F scseals rfl rfl (by intro z; cases z) (by simp [EP]) fun cdv A outer s H E hr hg _ => derseals (mkC ih (by omega) (head_blt c.t.d X Gn) (head_int c.t.d X Gn) (head_str c.t.d X Gn) (exK X Gn c) (initK c) hr hg scseals.nd)
    | 9, hq =>
      cases hq
      obtain ⟨fd, F⟩ := c.t.d.def_ 10 (d := d10) rfl
      exact FnT.succ (k := 3 * j + 5) (ps := ["texts", "some"]) (f := "first_broken") (fn := ffirst_broken) ⟨head_glo c.t.d X Gn (by decide +kernel), F.kp, F.bindsN fun _ _ _ _ _ _ us hl => match us, hl with | [_, _], _ => rfl⟩ F scfirst_broken rfl rfl (by intro z; cases z) (by simp [EP]) fun cdv A outer s H E hr hg _ => derfirst_broken (mkC ih (by omega) (head_blt c.t.d X Gn) (head_int c.t.d X Gn) (head_str c.t.d X Gn) (exK X Gn c) (initK c) hr hg scfirst_broken.nd)
    | 10, hq =>
      cases hq
      obtain ⟨fd, F⟩ := c.t.d.def_ 11 (d := d11) rfl
      exact FnT.succ (k := 3 * j + 5) (ps := ["row", "many"]) (f := "_law_taken") (fn := f_law_taken) ⟨head_glo c.t.d X Gn (by decide +kernel), F.kp, F.bindsN fun _ _ _ _ _ _ us hl => match us, hl with | [_, _], _ => rfl⟩ F sc_law_taken rfl rfl (by intro z; cases z) (by simp [EP]) fun cdv A outer s H E hr hg _ => der_law_taken (mkC ih (by omega) (head_blt c.t.d X Gn) (head_int c.t.d X Gn) (head_str c.t.d X Gn) (exK X Gn c) (initK c) hr hg sc_law_taken.nd)
    | 11, hq =>
      cases hq
      obtain ⟨fd, F⟩ := c.t.d.def_ 12 (d := d12) rfl
      exact FnT.succ (k := 3 * j + 5) (ps := ["row", "some"]) (f := "_law_pick") (fn := f_law_pick) ⟨head_glo c.t.d X Gn (by decide +kernel), F.kp, F.bindsN fun _ _ _ _ _ _ us hl => match us, hl with | [_, _], _ => rfl⟩ F sc_law_pick rfl rfl (by intro z; cases z) (by simp [EP]) fun cdv A outer s H E hr hg _ => der_law_pick (mkC ih (by omega) (head_blt c.t.d X Gn) (head_int c.t.d X Gn) (head_str c.t.d X Gn) (exK X Gn c) (initK c) hr hg sc_law_pick.nd)
    | 12, hq =>
      cases hq
      obtain ⟨fd, F⟩ := c.t.d.def_ 13 (d := d13) rfl
      exact FnT.succ (k := 3 * j + 5) (ps := ["found", "due"]) (f := "_law_alike") (fn := f_law_alike) ⟨head_glo c.t.d X Gn (by decide +kernel), F.kp, F.bindsN fun _ _ _ _ _ _ us hl => match us, hl with | [_, _], _ => rfl⟩ F sc_law_alike rfl rfl (by intro z; cases z) (by simp [EP]) fun cdv A outer s H E hr hg _ => der_law_alike (mkC ih (by omega) (head_blt c.t.d X Gn) (head_int c.t.d X Gn) (head_str c.t.d X Gn) (exK X Gn c) (initK c) hr hg sc_law_alike.nd)
    | 13, hq =>
      cases hq
      obtain ⟨fd, F⟩ := c.t.d.def_ 14 (d := d14) rfl
      exact FnT.succ (k := 3 * j + 5) (ps := ["before", "text"]) (f := "_law_seal") (fn := f_law_seal) ⟨head_glo c.t.d X Gn (by decide +kernel), F.kp, F.bindsN fun _ _ _ _ _ _ us hl => match us, hl with | [_, _], _ => rfl⟩ F sc_law_seal rfl rfl (by intro z; cases z) (by simp [EP]) fun cdv A outer s H E hr hg _ => der_law_seal (mkC ih (by omega) (head_blt c.t.d X Gn) (head_int c.t.d X Gn) (head_str c.t.d X Gn) (exK X Gn c) (initK c) hr hg sc_law_seal.nd)
    | i + 14, hq => simp [tb] at hq
theorem hsOk : ∀ q ∈ hs, (Str.ofString q.1, q.1) ∈ ex := by decide +kernel
theorem lawOk (X : K.In h) (Gn : h.Ns mainGlobals mg) (c : He.SaysX fx fn [] tf exF w h K) {fa : Addr} (hfa : mg ("law" : Str) = some (.ref fa)) (j : Nat) : ∃ fd, (∀ (s : Shared) (u : Value), BindsTo s fd ⟨[u], []⟩ [("script", u)]) ∧ ∀ base : Heap, LamX.TabB base mg (He.cT K ("law", none)).1 (He.cT K ("law", none)).2 → FnG P w K mg base (3 * j + 6) fa fd ["script"] (spF ⟨P, w, K, (gOf K).fa, (gOf K).ca, (gOf K).tabs⟩ (callD EP R0 (j + 1)) "law" 1) := by
  obtain ⟨fd, F⟩ := c.t.d.def_ 16 (d := d16) rfl
  have e := hfa.symm.trans (head_glo c.t.d X Gn (x := "law") (by decide +kernel))
  cases e
  have hb := FunD.bindsA (ps := ["script"]) F fun _ _ _ _ _ _ us hl => match us, hl with | [_], _ => rfl
  refine ⟨fd, fun s u => hb s [u] rfl, fun base TB => ?_⟩
  exact FnG.succ (G := gOf K) (P := P) (w := w) (base := base) (EP := EP) (R := R0) (j := j) (k := 3 * j + 5) (ps := ["script"]) (f := "law") (fn := flaw) F sclaw rfl rfl (by intro z; cases z) (by simp [EP]) fun cdv A outer s H E hr hg hcd => by
    obtain ⟨fr, FR⟩ := c.t.d.def_ 15 (d := d15) rfl
    have hbr : L2.Binds K fr ["ask"] [] := FR.bindsN fun _ _ _ _ _ _ us hl => match us, hl with | [_], _ => rfl
    have hcode : cdv = .ref (He.cT K ("law", none)).1 := by
      obtain ⟨oc, od, dV, kV, doc, pm, an, cd2, ct, osl, e1, lk, hcd2, _, _⟩ := F.ex
      obtain ⟨c0, e2⟩ := He.codeIn_ref hcd2
      have e3 : fd.code = .ref c0 := by rw [e1]; exact e2
      have e4 := He.codeOf_eq (K := K) (p := ("law", none)) lk e3
      rw [← hcd, e3]
      show Value.ref c0 = Value.ref (He.codeOf K ("law", none))
      rw [e4]
    exact derlaw (mkC (table X Gn c j) (by omega) (head_blt c.t.d X Gn) (head_int c.t.d X Gn) (head_str c.t.d X Gn) (exK X Gn c) (initK c) hr hg sclaw.nd) hr
      (RefK.of FR (head_glo c.t.d X Gn (by decide +kernel)) hbr (Ng := ["ask", "e"]) ⟨rfl, rfl, rfl, by decide +kernel, rfl, by decide +kernel, by decide +kernel⟩ rfl (by decide) (.inl rfl) (by decide) (by decide)
        (HdT.cons (c := "BadNumber") rfl (by decide) (head_glo c.t.d X Gn (by decide +kernel)) rfl rfl (by decide) (by decide) rfl (excB_1 (Bool.and_eq_true_iff.mp c.more).1 (q := ("BadNumber", "BadNumber")) (by decide +kernel)).xf (excB_1 (Bool.and_eq_true_iff.mp c.more).1 (q := ("BadNumber", "BadNumber")) (by decide +kernel)).no (HdT.cons (c := "BadSeals") rfl (by decide) (head_glo c.t.d X Gn (by decide +kernel)) rfl rfl (by decide) (by decide) rfl (excB_1 (Bool.and_eq_true_iff.mp c.more).1 (q := ("BadSeals", "BadSeals")) (by decide +kernel)).xf (excB_1 (Bool.and_eq_true_iff.mp c.more).1 (q := ("BadSeals", "BadSeals")) (by decide +kernel)).no (HdT.cons (c := "BadText") rfl (by decide) (head_glo c.t.d X Gn (by decide +kernel)) rfl rfl (by decide) (by decide) rfl (excB_1 (Bool.and_eq_true_iff.mp c.more).1 (q := ("BadText", "BadText")) (by decide +kernel)).xf (excB_1 (Bool.and_eq_true_iff.mp c.more).1 (q := ("BadText", "BadText")) (by decide +kernel)).no (HdT.cons (c := "BadTexts") rfl (by decide) (head_glo c.t.d X Gn (by decide +kernel)) rfl rfl (by decide) (by decide) rfl (excB_1 (Bool.and_eq_true_iff.mp c.more).1 (q := ("BadTexts", "BadTexts")) (by decide +kernel)).xf (excB_1 (Bool.and_eq_true_iff.mp c.more).1 (q := ("BadTexts", "BadTexts")) (by decide +kernel)).no (HdT.nil))))) fun q hq r hr => excB_2 (Bool.and_eq_true_iff.mp c.more).1 (hsOk q hq) (hsOk r hr)) TB hcode (List.mem_singleton.mpr rfl) fun p hp _ => by rw [List.mem_singleton.mp hp]; rfl
end
theorem room_ok {j : Nat} (hj : j ≤ 40) : Room (3 * j + 6) callerA := by
  refine ⟨rfl, ?_, ?_⟩
  · show 1 + claimMargin + 3 * (3 * j + 6) + 5 < recursionLimit
    have h : 1 + claimMargin + 3 * (3 * 40 + 6) + 5 < recursionLimit := by decide
    omega
  · show 4 + 16 * (3 * j + 6) + 200 < cLine
    have h : 4 + 16 * (3 * 40 + 6) + 200 < cLine := by decide
    omega
/-- the law's row holds, if the evaluator says so of each script -/
theorem holds_of {j : Nat} (hj : j ≤ 40) (hlaw : ∀ ns : List Int, ns.length ≤ 63 → (∀ z ∈ ns, Builtin.Int.intBits z ≤ 1048576) → ∃ st, callD EP R0 (j + 1) "law" [.d (.list (ns.map .int))] [] = .ok (.d (.bool true)) st) : PySem.Challenge.rw_folkmeld_k37_whole_seals.Holds := by
  w_on; o_law
  refine HandSHeadRun.head_any (r := PySem.W.OpenLaw.row PySem.Challenge.rw_folkmeld_k37_whole_seals) (q := PySem.W.view (PySem.W.OpenLaw.row PySem.Challenge.rw_folkmeld_k37_whole_seals).prog [28]) (H := hk) (ob := ob) (M := 20000) (loose := names) (d := HandSHeadRun.topDef (PySem.W.OpenLaw.row PySem.Challenge.rw_folkmeld_k37_whole_seals).prog 28) (kwd := []) ob_eq
    (by kernel_rfl) (fun s => by kernel_rfl) run (by kernel_rfl) (by kernel_rfl) (by kernel_rfl) (by rfl) (by first | assumption | decide +kernel) (by decide +kernel) ⟨rfl, rfl, rfl, rfl, rfl, by decide +kernel⟩ ?hw ?hc
  case hw => w_witness2
  case hc =>
    refine walkG (l := PySem.Challenge.rw_folkmeld_k37_whole_seals) (n := 63) (k := 3 * j + 6) (N := j + 1) (EP := EP) rfl (by decide) (by kernel_rfl) (room_ok hj) ?F hlaw
    intro w mg fa h Y Gn hmg0
    obtain ⟨K, KX, c⟩ := Y
    have hmg : mg ("law" : PySem.Str) = some (.ref fa) := by
      have e : (HandSHeadRun.topDef (PySem.W.OpenLaw.row PySem.Challenge.rw_folkmeld_k37_whole_seals).prog 28).name = ("law" : PySem.Str) := by kernel_rfl
      rw [← e]
      exact hmg0
    have hb0 : ∃ fd, (∀ (s : Shared) (u : Value), BindsTo s fd ⟨[u], []⟩ [("script", u)]) ∧ ∀ base : Heap, K.In base → base.Ns mainGlobals mg → LamX.TabB base mg (He.cT K ("law", none)).1 (He.cT K ("law", none)).2 → FnG PySem.Challenge.rw_folkmeld_k37_whole_seals.prog w K mg base (3 * j + 6) fa fd ["script"] (spF ⟨PySem.Challenge.rw_folkmeld_k37_whole_seals.prog, w, K, (gOf K).fa, (gOf K).ca, (gOf K).tabs⟩ (callD EP R0 (j + 1)) "law" 1) := by
      obtain ⟨fd, h1, h2⟩ := lawOk (P := PySem.Challenge.rw_folkmeld_k37_whole_seals.prog) (w := w) KX Gn c hmg j
      exact ⟨fd, h1, fun base _ _ TB => h2 base TB⟩
    obtain ⟨fd, hb, hF⟩ := hb0
    exact ⟨K, gOf K, fd, [He.cT K ("law", none)], "script", KX, (Bool.and_eq_true_iff.mp c.more).2, fun p hp => by rw [List.mem_singleton.mp hp]; exact c.empty _ (List.mem_singleton.mpr rfl), fun p hp => by rw [List.mem_singleton.mp hp]; exact c.out _ (List.mem_singleton.mpr rfl),
      fun p hp => by rw [List.mem_singleton.mp hp]; exact PySem.W.codeHd_of_K KX (c.hd _ (List.mem_singleton.mpr rfl)), hb, fun H hH p hp => by rw [List.mem_singleton.mp hp]; exact LamX.TabS.nil (hH _ (List.mem_singleton.mpr rfl)), fun base h1 h2 h3 => hF base h1 h2 (h3 _ (List.mem_singleton.mpr rfl))⟩
end HT
end
theorem PySem.Challenge.cw_folkmeld_k37_whole_seals_holds : PySem.Challenge.rw_folkmeld_k37_whole_seals.Holds := by
  exact HT.holds_of (j := 10) (by decide) fun ns _ _ => let ⟨w, st, h, e⟩ := FM.okR_ex (HT.law_ok (ns := ns)); ⟨st, by rw [h, e]⟩
