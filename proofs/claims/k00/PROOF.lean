import PyProof.Rows.All
import Wide.All
import OpenK.AllK
import Wide.FinOn
import HandS.ForMost
import HandS.Exc
import HandS.IsInst
import HandS.Lambda
import HandS.HeadHook4
import HandS.TupAny
import HandS.TupMul
import HandS.Deep
import PyProof.ReprRoads
import HandS.ExcIs
import HandS.Zip
import HandS.ExcOwn
import HandS.ListItems
import HandS.HeadWalk
import HandS.Head0
import HandS.Head1
import HandS.Head2
import HandS.HeadEnd
import PySem.Challenge.RW_oncefound_k00_tables_and_what_is_none
set_option Elab.async false
set_option linter.all false
set_option maxRecDepth 100000
set_option maxHeartbeats 0
/-! Oi, part A: deep data, the IR of Python bodies, its meaning. Plain Lean. -/
namespace Oi
open PySem

/-! ### data -/
inductive D where
  | non
  | bl (b : Bool)
  | int (i : Int)
  | str (x : Str)
  | tup (xs : List D)
  | lst (xs : List D)
  | dct (kvs : List (D × D))
  | obj (c : String) (fs : List (String × D))
  | exc (c : String) (fs : List (String × D))
  | st
  /-- the script -/
  | scr (ns : List Int)
  deriving Inhabited

mutual
/-- the plain data within -/
def D.toPy : D → Option PyData
  | .non => some .none
  | .bl b => some (.bool b)
  | .int i => some (.int i)
  | .str x => some (.str x)
  | .tup xs => (D.toPys xs).map .tuple
  | .lst xs => (D.toPys xs).map .list
  | .dct _ => none
  | .obj _ _ => none
  | .exc _ _ => none
  | .st => none
  | .scr _ => none
def D.toPys : List D → Option (List PyData)
  | [] => some []
  | x :: xs => match D.toPy x, D.toPys xs with
    | some a, some b => some (a :: b)
    | _, _ => none
end

/-! ### the draws' state, results -/
structure DS where
  large : List Int
  left : Int
  turn : Nat

inductive Rs (α : Type) where
  | ok (a : α)
  | ex (c : String) (fs : List (String × D))

abbrev M (α : Type) : Type := DS → Option (Rs α × DS)
def ret {α : Type} (a : α) : M α := fun S => some (.ok a, S)
def stk {α : Type} : M α := fun _ => none
def rse {α : Type} (c : String) (fs : List (String × D)) : M α := fun S => some (.ex c fs, S)
def bnd {α β : Type} (m : M α) (f : α → M β) : M β := fun S => match m S with
  | some (.ok a, S') => f a S'
  | some (.ex c fs, S') => some (.ex c fs, S')
  | none => none
def lft {α : Type} (o : Option α) : M α := match o with
  | some a => ret a
  | none => stk
@[simp] theorem bnd_ret {α β : Type} (a : α) (f : α → M β) : bnd (ret a) f = f a := rfl
@[simp] theorem bnd_stk {α β : Type} (f : α → M β) : bnd stk f = stk := rfl
@[simp] theorem bnd_rse {α β : Type} (c : String) (fs : List (String × D)) (f : α → M β) : bnd (rse c fs) f = rse c fs := rfl
@[simp] theorem ret_bnd {α : Type} (m : M α) : bnd m ret = m := by
  funext S
  unfold bnd
  cases h : m S with
  | none => rfl
  | some r =>
    obtain ⟨r, S'⟩ := r
    cases r <;> rfl
@[simp] theorem bnd_bnd {α β γ : Type} (m : M α) (f : α → M β) (g : β → M γ) : bnd (bnd m f) g = bnd m fun a => bnd (f a) g := by
  funext S
  unfold bnd
  cases h : m S with
  | none => rfl
  | some r =>
    obtain ⟨r, S'⟩ := r
    cases r <;> rfl
@[simp] theorem lft_some {α : Type} (a : α) : lft (some a) = ret a := rfl
@[simp] theorem lft_none {α : Type} : (lft none : M α) = stk := rfl

/-! ### slots -/
inductive Sl where
  | no
  | val (d : D)
  /-- a list of our own, that nobody else knows -/
  | own (ds : List D)
  /-- the instance that __init__ fills -/
  | slf (c : String) (fs : List (String × D))
  deriving Inhabited
abbrev Rho := List Sl

/-! ### the IR -/
inductive BOp where
  | add | sub | mul | fdiv | mod | pow | shl | shr | band | bor
  deriving DecidableEq
inductive COp where
  | eq | ne | lt | le | gt | ge | isN | notN | isIn | notIn
  deriving DecidableEq

/-- built-in functions -/
inductive Bf where
  | len | abs | int | min | max | tuple | list | all | any | repr | reprB
  deriving DecidableEq
/-- a constant key -/
inductive Ky where
  | s (x : String)
  | i (x : Int)
  deriving DecidableEq
def Ky.d : Ky → D
  | .s x => .str (Str.ofString x)
  | .i x => .int x
inductive I where
  /-- a list's end; one more -/
  | nil
  | cons (a r : I)
  | nm (i : Nat)
  | kI (i : Int)
  | kB (b : Bool)
  | kN
  | kS (x : String)
  | neg (a : I)
  | tup (es : I)
  | lst (es : I)
  | dct (ks : List Ky) (es : I)
  | bin (op : BOp) (a b : I)
  | cmp (op : COp) (a b : I)
  | chain (o1 o2 : COp) (a b c : I)
  | and (a b : I)
  | or (a b : I)
  | not (a : I)
  | ite (c a b : I)
  | ix (a b : I)
  /-- a["k"] of a dict -/
  | key (a : I) (k : String)
  /-- a[lo:hi]; nil: left out -/
  | sl (a lo hi : I)
  | fld (a : I) (f : String)
  | call (f : String) (es : I)
  /-- f(e, .., k = v, ..): the values put into the parameters' order by ps -/
  | callK (f : String) (ks : List String) (ps : List Nat) (es ws : I)
  | bi (f : Bf) (es : I)
  /-- isinstance -/
  | isA (a : I) (t : String)
  /-- [elt for target in iter if ifs]: the target's slots, whether it is a tuple -/
  | comp (elt : I) (tg : List Nat) (tup : Bool) (iter : I) (ifs : I)
  /-- what is walked -/
  | itS (a : I)
  | itR (es : I)
  | itZ (a b : I)
  | itE (a : I)
  /-- list(..) of what is walked -/
  | lstI (it : I)
  /-- list(zip(a, b)), tuples -/
  | lzip (a b : I)
  /-- the caught error of a lambda's body -/
  | caught (a : I)
  deriving Inhabited

/-! ### operations on data -/
def sz (n : Nat) : Bool := decide (n < 10000000)
theorem sz_of {n : Nat} (h : n < 10000000) : sz n = true := decide_eq_true h
def okPy (d : D) : Option PyData := match d.toPy with
  | some p => if SeqAt.shaped p = true then some p else none
  | none => none
def eqD (x y : D) : Option Bool := match okPy x, okPy y with
  | some a, some b => some (PyData.eqv a b)
  | _, _ => none
/-- x in ys: the left-most equal one is sought -/
def inD (x y : D) : Option Bool := match okPy x, okPy y with
  | some a, some (.list ds) => some (ds.any fun z => PyData.eqv z a)
  | some a, some (.tuple ds) => some (ds.any fun z => PyData.eqv z a)
  | _, _ => none
def binD (op : BOp) (x y : D) : Option D := match op, x, y with
  | .add, .int i, .int j => some (.int (i + j))
  | .add, .str i, .str j => if i.length + j.length < 10000000 then some (.str (i ++ j)) else none
  | .add, .tup a, .tup b => if sz (a.length + b.length) then some (.tup (a ++ b)) else none
  | .add, .lst a, .lst b => if sz (a.length + b.length) then some (.lst (a ++ b)) else none
  | .sub, .int i, .int j => some (.int (i - j))
  | .mul, .int i, .int j => if (-(2 ^ 64) < i ∧ i < 2 ^ 64) ∨ (-(2 ^ 64) < j ∧ j < 2 ^ 64) then some (.int (i * j)) else none
  | .mul, .tup a, .int j => if 2 ≤ j ∧ j ≤ 1000 ∧ a ≠ [] ∧ a.length ≤ 1000 then some (.tup (List.replicate j.toNat a).flatten) else none
  | .fdiv, .int i, .int j => if 0 < j ∧ j < 1073741824 then some (.int (i / j)) else none
  | .mod, .int i, .int j => if 0 < j then some (.int (i % j)) else none
  | .pow, .int i, .int j => if 0 ≤ j ∧ j ≤ 1000000 ∧ i.natAbs < 2 ^ 64 then some (.int (i ^ j.toNat)) else none
  | .shl, .int i, .int j => if 0 ≤ j ∧ j ≤ 1000000 ∧ i.natAbs < 2 ^ 64 then some (.int (i * 2 ^ j.toNat)) else none
  | .shr, .int i, .int j => if 0 ≤ j then some (.int (i / 2 ^ j.toNat)) else none
  | .band, .int i, .int j => some (.int (Builtin.bitAnd i j))
  | .bor, .int i, .int j => some (.int (Builtin.bitOr i j))
  | _, _, _ => none
def D.isNon : D → Bool
  | .non => true
  | _ => false
def isNo (y x : D) : Option Bool := match y with
  | .non => some x.isNon
  | _ => none
def cmpD (op : COp) (x y : D) : Option Bool := match op with
  | .eq => eqD x y
  | .ne => (eqD x y).map not
  | .lt => match x, y with | .int i, .int j => some (decide (i < j)) | _, _ => none
  | .le => match x, y with | .int i, .int j => some (decide (i ≤ j)) | _, _ => none
  | .gt => match x, y with | .int i, .int j => some (decide (j < i)) | _, _ => none
  | .ge => match x, y with | .int i, .int j => some (decide (j ≤ i)) | _, _ => none
  | .isN => isNo y x
  | .notN => (isNo y x).map not
  | .isIn => inD x y
  | .notIn => (inD x y).map not
def lookD (k : Str) : List (D × D) → Option D
  | [] => none
  | (.str a, v) :: r => if a = k then some v else lookD k r
  | _ :: r => lookD k r
def keyD (x : D) (k : String) : Option D := match x with
  | .dct kvs => lookD (Str.ofString k) kvs
  | _ => none
def ixD (x y : D) : Option D := match x, y with
  | .tup xs, .int i => L2.atI xs i
  | .lst xs, .int i => L2.atI xs i
  | _, _ => none
def slD (x : D) (lo hi : Option Int) : Option D :=
  let cut (xs : List D) : List D := (xs.drop (HT.sIx xs.length 0 lo)).take (HT.sIx xs.length xs.length hi - HT.sIx xs.length 0 lo)
  match x with
  | .tup xs => some (.tup (cut xs))
  | .lst xs => some (.lst (cut xs))
  | _ => none
def truD (x : D) : Option Bool := match x with
  | .bl b => some b
  | _ => none
def allBl : List D → Option (List Bool)
  | [] => some []
  | .bl b :: r => (allBl r).map (b :: ·)
  | _ :: _ => none
def lenD : List D → Option D
  | [.tup ys] => some (.int ys.length)
  | [.lst ys] => some (.int ys.length)
  | [.scr ys] => some (.int ys.length)
  | _ => none
def absD : List D → Option D
  | [.int i] => some (.int (if i < 0 then -i else i))
  | _ => none
def intiD : List D → Option D
  | [.int i] => some (.int i)
  | _ => none
def minD : List D → Option D
  | [.int i, .int j] => some (.int (if j < i then j else i))
  | _ => none
def maxD : List D → Option D
  | [.int i, .int j] => some (.int (if j > i then j else i))
  | _ => none
def tupleD : List D → Option D
  | [.tup ys] => some (.tup ys)
  | [.lst ys] => some (.tup ys)
  | _ => none
def listD : List D → Option D
  | [.tup ys] => some (.lst ys)
  | [.lst ys] => some (.lst ys)
  | _ => none
def allD : List D → Option D
  | [.lst ys] => (allBl ys).map fun bs => .bl (bs.all id)
  | _ => none
def anyD : List D → Option D
  | [.lst ys] => (allBl ys).map fun bs => .bl (bs.any id)
  | _ => none
/-- repr's text -/
def reprD (x : D) : Option Str := match okPy x with
  | some p => if p.showable = true ∧ p.shown.length ≤ sizeLine then some p.shown else none
  | none => none
/-! ### the meaning -/
/-- a call with keywords: n values, keywords ks, put into the order ps -/
structure KwS where
  f : String
  n : Nat
  ks : List String
  ps : List Nat
  deriving DecidableEq
/-- what is known of the text's names -/
structure Tb where
  /-- built-in functions and types that it calls by name -/
  bl : List String
  /-- its functions, the classes that it makes: the number of parameters (without self) -/
  fn : List (String × Nat)
  cs : List (String × Nat)
  /-- the own classes that have instances; those of errors -/
  obs : List String
  exs : List String
  /-- what isinstance tells of a class and another one, one of them an own one -/
  tab : List ((String × String) × Bool)
  /-- fields -/
  fl : List String
  /-- defs that want the guards known -/
  gr : List String
  /-- errors without an __init__ of their own, that are raised -/
  rs : List String
  /-- calls with keywords -/
  kw : List KwS
  /-- the errors that are caught -/
  fe : List String
structure Gm extends Tb where
  /-- the functions by name, the classes that are made -/
  ft : String → List D → M D
def Tb.own (G : Tb) (c : String) : Bool := G.obs.contains c || G.exs.contains c
/-- a datum's class -/
def clN (G : Tb) (x : D) : Option String := match x with
  | .non => some "NoneType"
  | .bl _ => some "bool"
  | .int _ => some "int"
  | .str _ => some "str"
  | .tup _ => some "tuple"
  | .lst _ => some "list"
  | .dct _ => some "dict"
  | .obj c _ => if G.obs.contains c then some c else none
  | .exc c fs => if G.exs.contains c && fs.isEmpty then some c else none
  | .st => none
  | .scr _ => none
def isN (G : Tb) (c t : String) : Option Bool := if G.own c || G.own t then G.tab.lookup (c, t) else L2.kitB c t
def isD (G : Tb) (x : D) (t : String) : Option Bool := match clN G x with
  | some c => isN G c t
  | none => none
/-- a field of an instance -/
def fldD (G : Tb) (x : D) (f : String) : Option D := match x with
  | .obj c fs => if G.obs.contains c && G.fl.contains f then fs.lookup f else none
  | _ => none
def I.isNil : I → Bool
  | .nil => true
  | _ => false
def pk (ρ : Rho) : I → Option D
  | .nm i => (match ρ[i]? with
    | some (.own ds) => some (.lst ds)
    | _ => none)
  | _ => none
def nmD (ρ : Rho) (i : Nat) : Option D := match ρ[i]? with
  | some (.val d) => some d
  | _ => none
/-- a target's store: one slot, or a tuple of as many -/
def bindS : Rho → List Nat → List D → Option Rho
  | ρ, [], [] => some ρ
  | ρ, i :: is, d :: ds => bindS (ρ.set i (.val d)) is ds
  | _, _, _ => none
def bindT (ρ : Rho) (tg : List Nat) (tup : Bool) (d : D) : Option Rho := match tup with
  | false => (match tg with
    | [i] => some (ρ.set i (.val d))
    | _ => none)
  | true => (match d with
    | .tup ds => bindS ρ tg ds
    | _ => none)
def wipeR (ρ : Rho) : List Nat → Rho
  | [] => ρ
  | i :: is => (wipeR ρ is).set i .no
/-- no exception leaves -/
def nox {α : Type} (m : M α) : M α := fun S => match m S with
  | some (.ok a, S') => some (.ok a, S')
  | _ => none
theorem nox_ok {α : Type} {m : M α} {S S' : DS} {a : α} (h : m S = some (.ok a, S')) : nox m S = some (.ok a, S') := by
  unfold nox
  rw [h]
def compM (b : D → Option Rho) (t : Rho → M Bool) (e : Rho → M D) : List D → M (List D)
  | [] => ret []
  | x :: xs => bnd (lft (b x)) fun ρ => bnd (nox (t ρ)) fun c => match c with
    | true => bnd (nox (e ρ)) fun y => bnd (compM b t e xs) fun ys => ret (y :: ys)
    | false => compM b t e xs
def elems : D → Option (List D)
  | .tup xs => some xs
  | .lst xs => some xs
  | _ => none
def zipD (x y : D) : Option (List D) := match x, y with
  | .tup xs, .tup ys => some (xs.zipWith (fun p q => .tup [p, q]) ys)
  | .lst xs, .lst ys => some (xs.zipWith (fun p q => .tup [p, q]) ys)
  | _, _ => none
def enuD (x : D) : Option (List D) := match x with
  | .lst xs => if sz xs.length then some ((List.range xs.length).zipWith (fun (k : Nat) q => .tup [.int k, q]) xs) else none
  | _ => none
def rngD : List D → Option (List D)
  | [.int n] => if sz n.toNat ∧ -10000000 < n then some ((List.range n.toNat).map fun (k : Nat) => .int k) else none
  | [.int a, .int b] => if sz (b - a).toNat ∧ -10000000 < a ∧ a < 10000000 ∧ -10000000 < b then some ((List.range (b - a).toNat).map fun (k : Nat) => .int (a + k)) else none
  | _ => none
def perm {α : Type} : List Nat → List α → Option (List α)
  | [], _ => some []
  | p :: ps, xs => match xs[p]?, perm ps xs with
    | some a, some as => some (a :: as)
    | _, _ => none
/-- a caught error becomes a value -/
def cat (G : Gm) (m : M D) : M D := fun S => match m S with
  | some (.ok _, S') => some (.ok .non, S')
  | some (.ex c fs, S') => if (G.fe.contains c && fs.isEmpty) = true then some (.ok (.exc c []), S') else none
  | none => none
def lzipD : D → D → Option D
  | .tup xs, .tup ys => if sz xs.length then some (.lst (xs.zipWith (fun p q => .tup [p, q]) ys)) else none
  | _, _ => none
def intD : D → Option Int
  | .int i => some i
  | _ => none

/-- a list of our own is just looked at -/
def pe (ρ : Rho) (a : I) (m : M D) : M D := match pk ρ a with
  | some d => ret d
  | none => m
/-- .. if it may be -/
def peW (w : Bool) (ρ : Rho) (a : I) (m : M D) : M D := match w with
  | true => pe ρ a m
  | false => m
def oe (a : I) (m : M D) : M (Option Int) := match a.isNil with
  | true => ret none
  | false => bnd m fun x => lft ((intD x).map some)
def tst (m : M D) : M Bool := bnd m fun x => lft (truD x)
def ifsM (a : I) (m : M D) : M Bool := match a.isNil with
  | true => ret true
  | false => tst m
def negD : D → Option D
  | .int i => some (.int (-i))
  | _ => none
def dctD (ks : List Ky) (ds : List D) : Option D := if ks.length = ds.length ∧ ks.length ≤ 15 ∧ ks.Nodup then some (.dct ((ks.map Ky.d).zip ds)) else none
def reprLD : List D → Option D
  | [x] => (reprD x).map .str
  | _ => none
/-- of a bool -/
def reprBD : List D → Option D
  | [.bl b] => some (.str (if b then "True" else "False"))
  | _ => none
def Bf.f : Bf → List D → Option D
  | .len => lenD | .abs => absD | .int => intiD | .min => minD | .max => maxD | .tuple => tupleD | .list => listD | .all => allD | .any => anyD | .repr => reprLD | .reprB => reprBD
def andM (x : D) (m : M D) : M D := match x with
  | .bl true => m
  | .bl false => ret (.bl false)
  | _ => stk
def orM (x : D) (m : M D) : M D := match x with
  | .bl false => m
  | .bl true => ret (.bl true)
  | _ => stk
def notD : D → Option D
  | .bl b => some (.bl !b)
  | _ => none
def iteM {α : Type} (t : Bool) (a b : M α) : M α := match t with
  | true => a
  | false => b

mutual
def ev (G : Gm) : I → Rho → M D
  | .nil, _ => stk
  | .cons _ _, _ => stk
  | .nm i, ρ => lft (nmD ρ i)
  | .kI i, _ => ret (.int i)
  | .kB b, _ => ret (.bl b)
  | .kN, _ => ret .non
  | .kS x, _ => ret (.str (Str.ofString x))
  | .neg a, ρ => bnd (ev G a ρ) fun x => lft (negD x)
  | .tup es, ρ => bnd (evL G es ρ) fun ds => ret (.tup ds)
  | .lst es, ρ => bnd (evL G es ρ) fun ds => ret (.lst ds)
  | .dct ks es, ρ => bnd (evL G es ρ) fun ds => lft (dctD ks ds)
  | .bin op a b, ρ => bnd (ev G a ρ) fun x => bnd (ev G b ρ) fun y => lft (binD op x y)
  | .cmp op a b, ρ => bnd (pe ρ a (ev G a ρ)) fun x => bnd (pe ρ b (ev G b ρ)) fun y => lft ((cmpD op x y).map .bl)
  | .chain o1 o2 a b c, ρ => bnd (ev G a ρ) fun x => bnd (ev G b ρ) fun y => bnd (lft (cmpD o1 x y)) fun k => iteM k (bnd (ev G c ρ) fun z => lft ((cmpD o2 y z).map .bl)) (ret (.bl false))
  | .and a b, ρ => bnd (ev G a ρ) fun x => andM x (ev G b ρ)
  | .or a b, ρ => bnd (ev G a ρ) fun x => orM x (ev G b ρ)
  | .not a, ρ => bnd (ev G a ρ) fun x => lft (notD x)
  | .ite c a b, ρ => bnd (tst (ev G c ρ)) fun t => iteM t (ev G a ρ) (ev G b ρ)
  | .ix a b, ρ => bnd (pe ρ a (ev G a ρ)) fun x => bnd (ev G b ρ) fun y => lft (ixD x y)
  | .key a k, ρ => bnd (ev G a ρ) fun x => lft (keyD x k)
  | .sl a lo hi, ρ => bnd (pe ρ a (ev G a ρ)) fun x => bnd (oe lo (ev G lo ρ)) fun l => bnd (oe hi (ev G hi ρ)) fun h => lft (slD x l h)
  | .fld a f, ρ => bnd (ev G a ρ) fun x => lft (fldD G.toTb x f)
  | .call f es, ρ => bnd (evL G es ρ) fun ds => G.ft f ds
  | .callK f _ ps es ws, ρ => bnd (evL G es ρ) fun ds => bnd (evL G ws ρ) fun zs => bnd (lft (perm ps (ds ++ zs))) fun as => G.ft f as
  | .bi f es, ρ => bnd (evLP G es ρ) fun ds => lft (f.f ds)
  | .isA a t, ρ => bnd (ev G a ρ) fun x => lft ((isD G.toTb x t).map .bl)
  | .comp elt tg tup iter ifs, ρ => bnd (evI G true iter ρ) fun xs => iteM (sz xs.length)
      (bnd (compM (bindT (wipeR ρ tg) tg tup) (fun ρ => ifsM ifs (ev G ifs ρ)) (fun ρ => ev G elt ρ) xs) fun ys => ret (.lst ys)) stk
  | .itS _, _ => stk
  | .itR _, _ => stk
  | .itZ _ _, _ => stk
  | .itE _, _ => stk
  | .lstI it, ρ => bnd (evI G true it ρ) fun xs => iteM (sz xs.length) (ret (.lst xs)) stk
  | .lzip a b, ρ => bnd (pe ρ a (ev G a ρ)) fun x => bnd (pe ρ b (ev G b ρ)) fun y => lft (lzipD x y)
  | .caught a, ρ => cat G (ev G a ρ)
def evL (G : Gm) : I → Rho → M (List D)
  | .nil, _ => ret []
  | .cons a r, ρ => bnd (ev G a ρ) fun x => bnd (evL G r ρ) fun xs => ret (x :: xs)
  | _, _ => stk
def evLP (G : Gm) : I → Rho → M (List D)
  | .nil, _ => ret []
  | .cons a r, ρ => bnd (pe ρ a (ev G a ρ)) fun x => bnd (evLP G r ρ) fun xs => ret (x :: xs)
  | _, _ => stk
def evI (G : Gm) (w : Bool) : I → Rho → M (List D)
  | .itS a, ρ => bnd (peW w ρ a (ev G a ρ)) fun x => lft (elems x)
  | .itR es, ρ => bnd (evL G es ρ) fun ds => lft (rngD ds)
  | .itZ a b, ρ => bnd (peW w ρ a (ev G a ρ)) fun x => bnd (peW w ρ b (ev G b ρ)) fun y => lft (zipD x y)
  | .itE a, ρ => bnd (peW w ρ a (ev G a ρ)) fun x => lft (enuD x)
  | _, _ => stk
end

/-! ### statements -/
inductive Sm where
  | nil
  | seq (a r : Sm)
  | set (i : Nat) (e : I)
  /-- a list of our own -/
  | setO (i : Nat) (e : I)
  | par (i j : Nat) (a b : I)
  | unp (is : List Nat) (e : I)
  | ex (e : I)
  | ifs (c : I) (a b : Sm)
  | for_ (tg : List Nat) (tup : Bool) (it : I) (body : Sm)
  | whl (c : I) (body : Sm)
  | rt (e : I)
  | rtN
  | app (i : Nat) (e : I)
  | stx (i : Nat) (k e : I)
  | fldS (i : Nat) (f : String) (e : I)
  | rse (c : String)
  | brk
  | cnt
  | pass
  /-- no statement: from here on the list of our own is anybody's -/
  | frz (i : Nat)
  deriving Inhabited
inductive Fl where
  | nx
  | rt (d : D)
  | bk
  | ct
def setR (ρ : Rho) (i : Nat) (s : Sl) : Option Rho := if i < ρ.length then some (ρ.set i s) else none
def lstD : D → Option (List D)
  | .lst ds => some ds
  | _ => none
/-- behind a statement -/
def seqM (m : M (Fl × Rho)) (k : Rho → M (Fl × Rho)) : M (Fl × Rho) := bnd m fun r => match r with
  | (.nx, ρ) => k ρ
  | r => ret r
def forM (b : D → Rho → Option Rho) (body : Rho → M (Fl × Rho)) : List D → Rho → M (Fl × Rho)
  | [], ρ => ret (.nx, ρ)
  | d :: ds, ρ => bnd (lft (b d ρ)) fun ρ => bnd (body ρ) fun r => match r with
    | (.nx, ρ) => forM b body ds ρ
    | (.ct, ρ) => forM b body ds ρ
    | (.bk, ρ) => ret (.nx, ρ)
    | (.rt d, ρ) => ret (.rt d, ρ)
def whlN (c : Rho → M Bool) (body : Rho → M (Fl × Rho)) : Nat → Rho → M (Fl × Rho)
  | 0, _ => stk
  | n + 1, ρ => bnd (c ρ) fun t => iteM t (bnd (body ρ) fun r => match r with
    | (.nx, ρ) => whlN c body n ρ
    | (.ct, ρ) => whlN c body n ρ
    | (.bk, ρ) => ret (.nx, ρ)
    | (.rt d, ρ) => ret (.rt d, ρ)) (ret (.nx, ρ))
open Classical in
noncomputable def whlM (c : Rho → M Bool) (body : Rho → M (Fl × Rho)) (ρ : Rho) : M (Fl × Rho) := fun S =>
  if h : ∃ n r, whlN c body n ρ S = some r then some h.choose_spec.choose else none
def ownR (ρ : Rho) (i : Nat) : Option (List D) := match ρ[i]? with
  | some (.own ds) => some ds
  | _ => none
def appS (ρ : Rho) (i : Nat) (d : D) : Option Rho := match ρ[i]? with
  | some (.own ds) => if sz ds.length then some (ρ.set i (.own (ds ++ [d]))) else none
  | _ => none
def stxS (ρ : Rho) (i : Nat) (k d : D) : Option Rho := match ρ[i]?, k with
  | some (.own ds), .int k => (match L2.ixN ds.length k with
    | some j => some (ρ.set i (.own (ds.set j d)))
    | none => none)
  | _, _ => none
def fldS (G : Tb) (ρ : Rho) (i : Nat) (f : String) (d : D) : Option Rho := match ρ[i]? with
  | some (.slf c fs) => if f ∉ fs.map (·.1) ∧ fs.length < 100 ∧ (G.obs.contains c && G.fl.contains f) = true then some (ρ.set i (.slf c (fs ++ [(f, d)]))) else none
  | _ => none
def frzS (ρ : Rho) (i : Nat) : Option Rho := match ρ[i]? with
  | some (.own ds) => some (ρ.set i (.val (.lst ds)))
  | some (.val d) => some ρ
  | _ => none
noncomputable def exec (G : Gm) : Sm → Rho → M (Fl × Rho)
  | .nil, ρ => ret (.nx, ρ)
  | .seq a r, ρ => seqM (exec G a ρ) fun ρ => exec G r ρ
  | .set i e, ρ => bnd (ev G e ρ) fun d => bnd (lft (setR ρ i (.val d))) fun ρ => ret (.nx, ρ)
  | .setO i e, ρ => bnd (ev G e ρ) fun d => bnd (lft (lstD d)) fun ds => bnd (lft (setR ρ i (.own ds))) fun ρ => ret (.nx, ρ)
  | .par i j a b, ρ => bnd (ev G a ρ) fun x => bnd (ev G b ρ) fun y => bnd (lft (setR ρ i (.val x))) fun ρ => bnd (lft (setR ρ j (.val y))) fun ρ => ret (.nx, ρ)
  | .unp is e, ρ => bnd (ev G e ρ) fun d => bnd (lft (bindT ρ is true d)) fun ρ => ret (.nx, ρ)
  | .ex e, ρ => bnd (ev G e ρ) fun _ => ret (.nx, ρ)
  | .ifs c a b, ρ => bnd (tst (ev G c ρ)) fun t => iteM t (exec G a ρ) (exec G b ρ)
  | .for_ tg tup it body, ρ => bnd (evI G false it ρ) fun xs => forM (fun d ρ => bindT ρ tg tup d) (fun ρ => exec G body ρ) xs ρ
  | .whl c body, ρ => whlM (fun ρ => tst (ev G c ρ)) (fun ρ => exec G body ρ) ρ
  | .rt e, ρ => bnd (ev G e ρ) fun d => ret (.rt d, ρ)
  | .rtN, ρ => ret (.rt .non, ρ)
  | .app i e, ρ => bnd (lft (ownR ρ i)) fun _ => bnd (ev G e ρ) fun d => bnd (lft (appS ρ i d)) fun ρ => ret (.nx, ρ)
  | .stx i k e, ρ => bnd (ev G e ρ) fun d => bnd (lft (ownR ρ i)) fun _ => bnd (ev G k ρ) fun k => bnd (lft (stxS ρ i k d)) fun ρ => ret (.nx, ρ)
  | .fldS i f e, ρ => bnd (ev G e ρ) fun d => bnd (lft (fldS G.toTb ρ i f d)) fun ρ => ret (.nx, ρ)
  | .rse c, _ => rse c []
  | .brk, ρ => ret (.bk, ρ)
  | .cnt, ρ => ret (.ct, ρ)
  | .pass, ρ => ret (.nx, ρ)
  | .frz i, ρ => bnd (lft (frzS ρ i)) fun ρ => ret (.nx, ρ)
/-- a def: its parameters, its slots, its body -/
structure Df where
  np : Nat
  ns : Nat
  body : Sm
def resM (r : Fl × Rho) : M D := match r.1 with
  | .nx => ret .non
  | .rt d => ret d
  | _ => stk
noncomputable def runD (G : Gm) (d : Df) (args : List D) : M D := iteM (decide (args.length = d.np))
  (bnd (exec G d.body (args.map Sl.val ++ List.replicate (d.ns - d.np) Sl.no)) resM) stk
/-- a class: __init__ over a new instance, slot 0; nothing else is handed back -/
def madeM (r : Fl × Rho) : M D := match r.1, (List.head? r.2 : Option Sl) with
  | .nx, some (.slf c fs) => ret (.obj c fs)
  | _, _ => stk
noncomputable def makeD (G : Gm) (c : String) (d : Df) (args : List D) : M D := iteM (decide (args.length + 1 = d.np))
  (bnd (exec G d.body (Sl.slf c [] :: args.map Sl.val ++ List.replicate (d.ns - d.np) Sl.no)) madeM) stk

/-! ### while -/
theorem whlN_mono {c : Rho → M Bool} {body : Rho → M (Fl × Rho)} : ∀ {n : Nat} {ρ : Rho} {S : DS} {r : Rs (Fl × Rho) × DS}, whlN c body n ρ S = some r → ∀ k, whlN c body (n + k) ρ S = some r
  | 0, ρ, S, r, h, _ => by cases h
  | n + 1, ρ, S, r, h, k => by
    rw [Nat.add_right_comm]
    unfold whlN at h ⊢
    unfold bnd at h ⊢
    cases e : c ρ S with
    | none => rw [e] at h; cases h
    | some q =>
      obtain ⟨q, S1⟩ := q
      rw [e] at h
      cases q with
      | ex c fs => exact h
      | ok t =>
        cases t with
        | false => exact h
        | true =>
          dsimp only [iteM] at h ⊢
          cases e2 : body ρ S1 with
          | none => rw [e2] at h; cases h
          | some q2 =>
            obtain ⟨q2, S2⟩ := q2
            rw [e2] at h
            cases q2 with
            | ex c fs => exact h
            | ok fr =>
              obtain ⟨f, ρ2⟩ := fr
              cases f with
              | nx => exact whlN_mono h k
              | ct => exact whlN_mono h k
              | bk => exact h
              | rt d => exact h
theorem whlM_of {c : Rho → M Bool} {body : Rho → M (Fl × Rho)} {n : Nat} {ρ : Rho} {S : DS} {r : Rs (Fl × Rho) × DS} (h : whlN c body n ρ S = some r) : whlM c body ρ S = some r := by
  have hx : ∃ n r, whlN c body n ρ S = some r := ⟨n, r, h⟩
  unfold whlM
  rw [dif_pos hx]
  have h2 := hx.choose_spec.choose_spec
  have h3 := whlN_mono h hx.choose
  have h4 := whlN_mono h2 n
  rw [Nat.add_comm] at h4
  exact h4.symm.trans h3
theorem whlM_some {c : Rho → M Bool} {body : Rho → M (Fl × Rho)} {ρ : Rho} {S : DS} {r : Rs (Fl × Rho) × DS} (h : whlM c body ρ S = some r) : ∃ n, whlN c body n ρ S = some r := by
  unfold whlM at h
  split at h
  · rename_i hx
    have h2 := hx.choose_spec.choose_spec
    have e := Option.some.inj h
    exact ⟨hx.choose, e ▸ h2⟩
  · cases h
end Oi

/-! Oi, part B: how the heap bears the data; the state between two steps; what is wanted behind one. -/
namespace Oi
open PySem PySem.Spec PyProof.Rows L2

/-! ### the world of a law: where the draws' state stands, the tables of code objects -/
structure Wd where
  st : Addr
  l1 : Addr
  l2 : Addr
  cells : List Int
  T : List (Addr × Str)
  ne : l1 ≠ l2
def stKvs (W : Wd) (S : DS) : List (Key × V) := [(.inr "large", .ref W.l1), (.inr "cells", .ref W.l2), (.inr "left", .int S.left), (.inr "turn", .int S.turn)]
structure DOk (W : Wd) (S : DS) (H : Hp) : Prop where
  st : H W.st = some (.dK (stKvs W S))
  l1 : H W.l1 = some (.lst (S.large.map V.int))
  l2 : H W.l2 = some (.lst (W.cells.map V.int))
  tabs : LamX.Tabs W.T H

/-- what a step leaves: all but the state, its list and the tables -/
structure Kp (W : Wd) (H H' : Hp) : Prop where
  keep : ∀ a o, H a = some o → a ≠ W.st → a ≠ W.l1 → (∀ ps, o ≠ .tbl ps) → H' a = some o
  back : ∀ a, H' a = none → H a = none
theorem Kp.refl {W : Wd} (H : Hp) : Kp W H H := ⟨fun _ _ h _ _ _ => h, fun _ h => h⟩
theorem Kp.trans {W : Wd} {H H1 H2 : Hp} (a : Kp W H H1) (b : Kp W H1 H2) : Kp W H H2 :=
  ⟨fun x o h n1 n2 n3 => b.keep x o (a.keep x o h n1 n2 n3) n1 n2 n3, fun x h => a.back x (b.back x h)⟩
theorem Kp.of {W : Wd} {H H' : Hp} (e : ∀ b o, H b = some o → H' b = some o) : Kp W H H' := ⟨fun b o h _ _ _ => e b o h, fun a h => by
  cases q : H a with
  | none => rfl
  | some o => rw [e a o q] at h; cases h⟩
theorem Kp.new {W : Wd} {H : Hp} {p : Addr} {o : HO} (h : H p = none) : Kp W H (upd H p o) := Kp.of fun b u e => by
  rw [upd_ne (ne_of_none e h)]; exact e

/-- a part of the heap that nobody changes -/
structure Fz (W : Wd) (Hf H : Hp) : Prop where
  le : ∀ a o, Hf a = some o → H a = some o
  st : Hf W.st = none
  l1 : Hf W.l1 = none
  tbl : ∀ a ps, Hf a ≠ some (.tbl ps)
def Le (Hf Hf' : Hp) : Prop := ∀ a o, Hf a = some o → Hf' a = some o
theorem Le.refl (H : Hp) : Le H H := fun _ _ h => h
theorem Le.trans {H H1 H2 : Hp} (a : Le H H1) (b : Le H1 H2) : Le H H2 := fun x o h => b x o (a x o h)
theorem Le.new {H : Hp} {p : Addr} {o : HO} (h : H p = none) : Le H (upd H p o) := fun b u e => by
  rw [upd_ne (ne_of_none e h)]; exact e
theorem Fz.kp {W : Wd} {Hf H H' : Hp} (f : Fz W Hf H) (k : Kp W H H') : Fz W Hf H' :=
  ⟨fun a o h => k.keep a o (f.le a o h) (fun z => by rw [z, f.st] at h; cases h) (fun z => by rw [z, f.l1] at h; cases h) (fun ps z => f.tbl a ps (z ▸ h)), f.st, f.l1, f.tbl⟩

/-- from (H, Hf) to (H', Hf') -/
structure Stp (W : Wd) (H Hf H' Hf' : Hp) : Prop where
  kp : Kp W H H'
  le : Le Hf Hf'
  fz : Fz W Hf' H'
  nw : ∀ a, Hf' a ≠ none → Hf a ≠ none ∨ H a = none
theorem Stp.refl {W : Wd} {H Hf : Hp} (f : Fz W Hf H) : Stp W H Hf H Hf := ⟨Kp.refl H, Le.refl Hf, f, fun _ h => .inl h⟩
theorem Stp.trans {W : Wd} {H Hf H1 Hf1 H2 Hf2 : Hp} (a : Stp W H Hf H1 Hf1) (b : Stp W H1 Hf1 H2 Hf2) : Stp W H Hf H2 Hf2 :=
  ⟨a.kp.trans b.kp, a.le.trans b.le, b.fz, fun x h => (b.nw x h).elim (a.nw x) fun z => .inr (a.kp.back x z)⟩
/-- a new object that stays as it is -/
theorem Stp.new {W : Wd} {H Hf : Hp} {p : Addr} {o : HO} (f : Fz W Hf H) (h : H p = none) (d1 : H W.st ≠ none) (d2 : H W.l1 ≠ none) (nt : ∀ ps, o ≠ .tbl ps) : Stp W H Hf (upd H p o) (upd Hf p o) := by
  have hf : Hf p = none := by
    cases q : Hf p with
    | none => rfl
    | some u => rw [f.le p u q] at h; cases h
  refine ⟨Kp.new h, Le.new hf, ⟨fun a u e => ?_, ?_, ?_, fun a ps e => ?_⟩, fun a e => ?_⟩
  · by_cases z : a = p
    · subst z; rw [upd_same] at e ⊢; exact e
    · rw [upd_ne z] at e ⊢; exact f.le a u e
  · rw [upd_ne (fun z : W.st = p => d1 (by rw [z]; exact h))]; exact f.st
  · rw [upd_ne (fun z : W.l1 = p => d2 (by rw [z]; exact h))]; exact f.l1
  · by_cases z : a = p
    · subst z; rw [upd_same] at e; exact nt ps (Option.some.inj e)
    · rw [upd_ne z] at e; exact f.tbl a ps e
  · by_cases z : a = p
    · subst z; exact .inr h
    · rw [upd_ne z] at e; exact .inl e
/-- a new object that may change later -/
theorem Stp.newO {W : Wd} {H Hf : Hp} {p : Addr} {o : HO} (f : Fz W Hf H) (h : H p = none) : Stp W H Hf (upd H p o) Hf :=
  ⟨Kp.new h, Le.refl Hf, f.kp (Kp.new h), fun _ e => .inl e⟩
theorem DOk.new {W : Wd} {S : DS} {H : Hp} {p : Addr} {o : HO} (d : DOk W S H) (h : H p = none) : DOk W S (upd H p o) :=
  ⟨by rw [upd_ne (ne_of_none d.st h)]; exact d.st, by rw [upd_ne (ne_of_none d.l1 h)]; exact d.l1, by rw [upd_ne (ne_of_none d.l2 h)]; exact d.l2,
    d.tabs.ext fun b u e => by rw [upd_ne (ne_of_none e h)]; exact e⟩
theorem DOk.n1 {W : Wd} {S : DS} {H : Hp} (d : DOk W S H) : H W.st ≠ none := by rw [d.st]; exact fun z => nomatch z
theorem DOk.n2 {W : Wd} {S : DS} {H : Hp} (d : DOk W S H) : H W.l1 ≠ none := by rw [d.l1]; exact fun z => nomatch z

/-! ### how the heap bears a datum -/
/-- an error object of the class cls, its dict at dx -/
def exHO (cls : Value) (dx : Option Addr) (a : Addr) : HO := .ext fun h => ∃ (oe : Obj) (vs : Array Value), h.get? a = some oe ∧ Zc cls dx oe ∧ oe.data = .fields vs
mutual
inductive Rep (K : PySem.W.Frag) (W : Wd) (Hf : Hp) : V → D → Prop where
  | non : Rep K W Hf .non .non
  | bl (b : Bool) : Rep K W Hf (.bl b) (.bl b)
  | int (i : Int) : Rep K W Hf (.int i) (.int i)
  | str (x : Str) : Rep K W Hf (.str x) (.str x)
  | st : Rep K W Hf (.ref W.st) .st
  | scr {a : Addr} {ns : List Int} : SqL K Hf a (ns.map V.int) → Rep K W Hf (.ref a) (.scr ns)
  | tup {a : Addr} {xs : List V} {ds : List D} : Hf a = some (.tup xs) → RepL K W Hf xs ds → Rep K W Hf (.ref a) (.tup ds)
  | lst {a : Addr} {xs : List V} {ds : List D} : Hf a = some (.lst xs) → RepL K W Hf xs ds → Rep K W Hf (.ref a) (.lst ds)
  | dct {a : Addr} {kvs : List (Key × V)} {ds : List (D × D)} : Hf a = some (.dK kvs) → RepK K W Hf kvs ds → Rep K W Hf (.ref a) (.dct ds)
  | obj {a dx : Addr} {c : String} {fs : List (Str × V)} {ds : List (String × D)} : Hf a = some (.ins (He.ga K (Str.ofString c)) dx fs) → RepF K W Hf fs ds → Rep K W Hf (.ref a) (.obj c ds)
  | exc0 {a : Addr} {c : String} : Hf a = some (exHO (.ref (He.ga K (Str.ofString c))) none a) → Rep K W Hf (.ref a) (.exc c [])
  | exc1 {a dx : Addr} {c : String} {fs : List (Str × V)} {ds : List (String × D)} : Hf a = some (exHO (.ref (He.ga K (Str.ofString c))) (some dx) a) → Hf dx = some (.xd fs) → RepF K W Hf fs ds → ds ≠ [] → Rep K W Hf (.ref a) (.exc c ds)
inductive RepL (K : PySem.W.Frag) (W : Wd) (Hf : Hp) : List V → List D → Prop where
  | nil : RepL K W Hf [] []
  | cons {v : V} {vs : List V} {d : D} {ds : List D} : Rep K W Hf v d → RepL K W Hf vs ds → RepL K W Hf (v :: vs) (d :: ds)
inductive RepK (K : PySem.W.Frag) (W : Wd) (Hf : Hp) : List (Key × V) → List (D × D) → Prop where
  | nil : RepK K W Hf [] []
  | str {x : Str} {v : V} {vs : List (Key × V)} {d : D} {ds : List (D × D)} : Rep K W Hf v d → RepK K W Hf vs ds → RepK K W Hf ((.inr x, v) :: vs) ((.str x, d) :: ds)
  | int {x : Int} {v : V} {vs : List (Key × V)} {d : D} {ds : List (D × D)} : Rep K W Hf v d → RepK K W Hf vs ds → RepK K W Hf ((.inl x, v) :: vs) ((.int x, d) :: ds)
inductive RepF (K : PySem.W.Frag) (W : Wd) (Hf : Hp) : List (Str × V) → List (String × D) → Prop where
  | nil : RepF K W Hf [] []
  | cons {x : String} {v : V} {vs : List (Str × V)} {d : D} {ds : List (String × D)} : Rep K W Hf v d → RepF K W Hf vs ds → RepF K W Hf ((Str.ofString x, v) :: vs) ((x, d) :: ds)
end

section
variable {K : PySem.W.Frag} {W : Wd} {Hf Hf' : Hp}
theorem rd_le (e : Le Hf Hf') {a : Addr} {u : HO} (h : Rd Hf a u) : Rd Hf' a u := by
  rcases h with h | ⟨o, h⟩
  · exact .inl (e a _ h)
  · exact .inr ⟨o, e a _ h⟩
theorem sqL_le (e : Le Hf Hf') {a : Addr} {xs : List V} (h : SqL K Hf a xs) : SqL K Hf' a xs := by
  rcases h with h | h
  · exact .inl (rd_le e h)
  · exact .inr h
mutual
theorem Rep.mono (e : Le Hf Hf') : ∀ {v : V} {d : D}, Rep K W Hf v d → Rep K W Hf' v d
  | _, _, .non => .non
  | _, _, .bl b => .bl b
  | _, _, .int i => .int i
  | _, _, .str x => .str x
  | _, _, .st => .st
  | _, _, .scr h => .scr (sqL_le e h)
  | _, _, .tup h r => .tup (e _ _ h) (RepL.mono e r)
  | _, _, .lst h r => .lst (e _ _ h) (RepL.mono e r)
  | _, _, .dct h r => .dct (e _ _ h) (RepK.mono e r)
  | _, _, .obj h r => .obj (e _ _ h) (RepF.mono e r)
  | _, _, .exc0 h => .exc0 (e _ _ h)
  | _, _, .exc1 h h2 r n => .exc1 (e _ _ h) (e _ _ h2) (RepF.mono e r) n
theorem RepL.mono (e : Le Hf Hf') : ∀ {v : List V} {d : List D}, RepL K W Hf v d → RepL K W Hf' v d
  | _, _, .nil => .nil
  | _, _, .cons r t => .cons (Rep.mono e r) (RepL.mono e t)
theorem RepK.mono (e : Le Hf Hf') : ∀ {v : List (Key × V)} {d : List (D × D)}, RepK K W Hf v d → RepK K W Hf' v d
  | _, _, .nil => .nil
  | _, _, .str r t => .str (Rep.mono e r) (RepK.mono e t)
  | _, _, .int r t => .int (Rep.mono e r) (RepK.mono e t)
theorem RepF.mono (e : Le Hf Hf') : ∀ {v : List (Str × V)} {d : List (String × D)}, RepF K W Hf v d → RepF K W Hf' v d
  | _, _, .nil => .nil
  | _, _, .cons r t => .cons (Rep.mono e r) (RepF.mono e t)
end
theorem RepL.length : ∀ {xs : List V} {ds : List D}, RepL K W Hf xs ds → xs.length = ds.length
  | _, _, .nil => rfl
  | _, _, .cons _ t => congrArg (· + 1) (RepL.length t)
theorem RepL.append : ∀ {xs ys : List V} {ds es : List D}, RepL K W Hf xs ds → RepL K W Hf ys es → RepL K W Hf (xs ++ ys) (ds ++ es)
  | _, _, _, _, .nil, s => s
  | _, _, _, _, .cons r t, s => .cons r (RepL.append t s)
theorem RepL.get : ∀ {xs : List V} {ds : List D} {i : Nat} {x : V}, RepL K W Hf xs ds → xs[i]? = some x → ∃ d, ds[i]? = some d ∧ Rep K W Hf x d
  | _, _, _, _, .nil, e => by simp at e
  | _, _, 0, _, .cons r _, e => by simp at e; subst e; exact ⟨_, rfl, r⟩
  | _, _, i + 1, x, .cons _ t, e => by
    obtain ⟨d, h1, h2⟩ := RepL.get (i := i) (x := x) t (by simpa using e)
    exact ⟨d, by simpa using h1, h2⟩
theorem RepL.get' : ∀ {xs : List V} {ds : List D} {i : Nat} {d : D}, RepL K W Hf xs ds → ds[i]? = some d → ∃ x, xs[i]? = some x ∧ Rep K W Hf x d
  | _, _, _, _, .nil, e => by simp at e
  | _, _, 0, _, .cons r _, e => by simp at e; subst e; exact ⟨_, rfl, r⟩
  | _, _, i + 1, d, .cons _ t, e => by
    obtain ⟨x, h1, h2⟩ := RepL.get' (i := i) (d := d) t (by simpa using e)
    exact ⟨x, by simpa using h1, h2⟩
theorem RepL.take : ∀ {xs : List V} {ds : List D} (n : Nat), RepL K W Hf xs ds → RepL K W Hf (xs.take n) (ds.take n)
  | _, _, 0, _ => .nil
  | _, _, _ + 1, .nil => .nil
  | _, _, n + 1, .cons r t => .cons r (RepL.take n t)
theorem RepL.drop : ∀ {xs : List V} {ds : List D} (n : Nat), RepL K W Hf xs ds → RepL K W Hf (xs.drop n) (ds.drop n)
  | _, _, 0, r => r
  | _, _, _ + 1, .nil => .nil
  | _, _, n + 1, .cons _ t => RepL.drop n t
theorem RepL.set {x : V} {d : D} (r : Rep K W Hf x d) : ∀ {xs : List V} {ds : List D} (i : Nat), RepL K W Hf xs ds → RepL K W Hf (xs.set i x) (ds.set i d)
  | _, _, _, .nil => .nil
  | _, _, 0, .cons _ t => .cons r t
  | _, _, i + 1, .cons q t => .cons q (RepL.set r i t)
theorem RepL.rep {xs : List V} {ds : List D} (h : RepL K W Hf xs ds) : ∀ k : Nat, RepL K W Hf (List.replicate k xs).flatten (List.replicate k ds).flatten
  | 0 => .nil
  | k + 1 => by
    rw [List.replicate_succ, List.replicate_succ, List.flatten_cons, List.flatten_cons]
    exact h.append (RepL.rep h k)
mutual
/-- plain data -/
theorem Rep.dp : ∀ {v : V} {d : D} {p : PyData}, Rep K W Hf v d → d.toPy = some p → Dp K Hf v p
  | _, _, _, .non, e => by cases e; exact .non
  | _, _, _, .bl b, e => by cases e; exact .bl b
  | _, _, _, .int i, e => by cases e; exact .int i
  | _, _, _, .str x, e => by cases e; exact .str x
  | _, _, _, .st, e => by cases e
  | _, _, _, .scr _, e => by cases e
  | _, _, p, .tup (ds := ds) h r, e => by
    have e1 : (D.toPys ds).map PyData.tuple = some p := e
    cases q : D.toPys ds with
    | none => rw [q] at e1; cases e1
    | some ps => rw [q] at e1; cases e1; exact .tup (SqT.of h) (RepL.dp r q)
  | _, _, p, .lst (ds := ds) h r, e => by
    have e1 : (D.toPys ds).map PyData.list = some p := e
    cases q : D.toPys ds with
    | none => rw [q] at e1; cases e1
    | some ps => rw [q] at e1; cases e1; exact .lst (SqL.of h) (RepL.dp r q)
  | _, _, _, .dct _ _, e => by cases e
  | _, _, _, .obj _ _, e => by cases e
  | _, _, _, .exc0 _, e => by cases e
  | _, _, _, .exc1 _ _ _ _, e => by cases e
theorem RepL.dp : ∀ {vs : List V} {ds : List D} {ps : List PyData}, RepL K W Hf vs ds → D.toPys ds = some ps → DpAll K Hf vs ps
  | _, _, _, .nil, e => by cases e; exact .nil
  | _, _, ps, .cons (d := d) (ds := ds) r t, e => by
    have e1 : (match D.toPy d, D.toPys ds with
      | some a, some b => some (a :: b)
      | _, _ => none) = some ps := e
    cases q1 : D.toPy d with
    | none => rw [q1] at e1; cases e1
    | some a =>
      cases q2 : D.toPys ds with
      | none => rw [q1, q2] at e1; cases e1
      | some b => rw [q1, q2] at e1; cases e1; exact .cons (Rep.dp r q1) (RepL.dp t q2)
end

/-! ### slots -/
/-- what a def is entered with: the heap, the instance that it fills -/
structure En where
  h : Hp
  sx : Addr
instance : CoeFun En (fun _ => Addr → Option HO) := ⟨En.h⟩
instance : Coe En Hp := ⟨En.h⟩
/-- .. a slot's value; own: nobody else knows the list -/
inductive SlOk (K : PySem.W.Frag) (W : Wd) (H0 : En) (H Hf : Hp) : Sl → Option V → Prop where
  | no (o : Option V) : SlOk K W H0 H Hf .no o
  | val {v : V} {d : D} : Rep K W Hf v d → SlOk K W H0 H Hf (.val d) (some v)
  | own {a : Addr} {xs : List V} {ds : List D} : H a = some (.lst xs) → RepL K W Hf xs ds → Hf a = none → H0 a = none → SlOk K W H0 H Hf (.own ds) (some (.ref a))
  | slf {a dx : Addr} {c : String} {fs : List (Str × V)} {ds : List (String × D)} : H a = some (.ins (He.ga K (Str.ofString c)) dx fs) → RepF K W Hf fs ds → Hf a = none → H0 a = none → a = H0.sx → SlOk K W H0 H Hf (.slf c ds) (some (.ref a))
def Sl.mine : Sl → Bool
  | .own _ => true
  | .slf _ _ => true
  | _ => false
/-- the state between two steps of a def entered at H0 -/
structure StOk (K : PySem.W.Frag) (W : Wd) (H0 : En) (ρ : Rho) (S : DS) (σ : L2.St) (H Hf : Hp) : Prop where
  kp : Kp W H0 H
  fz : Fz W Hf H
  dok : DOk W S H
  n1 : H0 W.st ≠ none
  n2 : H0 W.l1 ≠ none
  n3 : H0 W.l2 ≠ none
  len : σ.length = ρ.length
  sl : ∀ (i : Nat) (s : Sl) (o : Option V), ρ[i]? = some s → σ[i]? = some o → SlOk K W H0 H Hf s o
  ap : ∀ (i j : Nat) (s t : Sl) (a : Addr), ρ[i]? = some s → ρ[j]? = some t → s.mine = true → t.mine = true → σ[i]? = some (some (.ref a)) → σ[j]? = some (some (.ref a)) → i = j
theorem SlOk.step {H0 : En} {H H' : Hp} {s : Sl} {o : Option V} (h : SlOk K W H0 H Hf s o) (st : Stp W H Hf H' Hf') (n1 : H0 W.st ≠ none) (n2 : H0 W.l1 ≠ none) : SlOk K W H0 H' Hf' s o := by
  cases h with
  | no o => exact .no o
  | val r => exact .val (r.mono st.le)
  | own h r hf h0 =>
    refine .own (st.kp.keep _ _ h (fun z => n1 (z ▸ h0)) (fun z => n2 (z ▸ h0)) (fun ps z => nomatch z)) (r.mono st.le) ?_ h0
    cases q : Hf' _ with
    | none => rfl
    | some u => exact ((st.nw _ (by rw [q]; exact fun z => nomatch z)).elim (fun z => z hf) fun z => by rw [z] at h; cases h).elim
  | slf h r hf h0 hx =>
    refine .slf (st.kp.keep _ _ h (fun z => n1 (z ▸ h0)) (fun z => n2 (z ▸ h0)) (fun ps z => nomatch z)) (r.mono st.le) ?_ h0 hx
    cases q : Hf' _ with
    | none => rfl
    | some u => exact ((st.nw _ (by rw [q]; exact fun z => nomatch z)).elim (fun z => z hf) fun z => by rw [z] at h; cases h).elim
theorem StOk.step {H0 : En} {H H' : Hp} {ρ : Rho} {S S' : DS} {σ : L2.St} (I : StOk K W H0 ρ S σ H Hf) (st : Stp W H Hf H' Hf') (d : DOk W S' H') : StOk K W H0 ρ S' σ H' Hf' :=
  ⟨I.kp.trans st.kp, st.fz, d, I.n1, I.n2, I.n3, I.len, fun i s o h1 h2 => (I.sl i s o h1 h2).step st I.n1 I.n2, I.ap⟩
theorem StOk.slot {H0 : En} {H : Hp} {ρ : Rho} {S : DS} {σ : L2.St} (I : StOk K W H0 ρ S σ H Hf) {i : Nat} {s : Sl} (e : ρ[i]? = some s) : ∃ o, σ[i]? = some o ∧ SlOk K W H0 H Hf s o := by
  have hi : i < σ.length := by rw [I.len]; exact (List.getElem?_eq_some_iff.mp e).1
  exact ⟨σ[i], List.getElem?_eq_getElem hi, I.sl i _ _ e (List.getElem?_eq_getElem hi)⟩
end

/-! ### what is wanted behind a step -/
/-- an error's own dict -/
inductive ExcAt (K : PySem.W.Frag) (W : Wd) (H : Hp) : List (String × D) → Option Addr → Prop where
  | none : ExcAt K W H [] none
  | some {dx : Addr} {fs : List (Str × V)} {ds : List (String × D)} {Hf : Hp} : H dx = some (.xd fs) → Fz W Hf H → RepF K W Hf fs ds → ds ≠ [] → ExcAt K W H ds (some dx)
def ExP (K : PySem.W.Frag) (W : Wd) (E : XK) (H : Hp) (S : DS) (c : String) (fs : List (String × D)) : Prop :=
  ∀ dx H', Kp W H H' → DOk W S H' → ExcAt K W H' fs dx → E (.ref (He.ga K (Str.ofString c))) dx H'
def PostG {α β : Type} (K : PySem.W.Frag) (W : Wd) (E : XK) (R : Hp → Hp → β → α → Prop) (H Hf : Hp) (r : Option (Rs α × DS)) (Q : β → Hp → Prop) : Prop := match r with
  | none => False
  | some (.ok d, S') => ∀ v H' Hf', Stp W H Hf H' Hf' → DOk W S' H' → R H' Hf' v d → Q v H'
  | some (.ex c fs, S') => ExP K W E H S' c fs
theorem ExP.step {K : PySem.W.Frag} {W : Wd} {E : XK} {H H1 : Hp} {S : DS} {c : String} {fs : List (String × D)} (h : ExP K W E H S c fs) (k : Kp W H H1) : ExP K W E H1 S c fs :=
  fun dx H' k' d e => h dx H' (k.trans k') d e
section
variable {K : PySem.W.Frag} {W : Wd} {E : XK} {α β γ δ : Type} {R : Hp → Hp → β → α → Prop} {H Hf H1 Hf1 : Hp}
theorem PostG.mono {r : Option (Rs α × DS)} {Q Q' : β → Hp → Prop} (h : PostG K W E R H Hf r Q) (hq : ∀ v H, Q v H → Q' v H) : PostG K W E R H Hf r Q' := by
  cases r with
  | none => exact h
  | some q =>
    obtain ⟨q, S'⟩ := q
    cases q with
    | ok d => exact fun v H' Hf' a b c => hq _ _ (h v H' Hf' a b c)
    | ex c fs => exact h
theorem PostG.step {r : Option (Rs α × DS)} {Q : β → Hp → Prop} (h : PostG K W E R H Hf r Q) (st : Stp W H Hf H1 Hf1) : PostG K W E R H1 Hf1 r Q := by
  cases r with
  | none => exact h
  | some q =>
    obtain ⟨q, S'⟩ := q
    cases q with
    | ok d => exact fun v H' Hf' a b c => h v H' Hf' (st.trans a) b c
    | ex c fs => exact ExP.step h st.kp
/-- two steps -/
theorem PostG.bind {R' : Hp → Hp → δ → γ → Prop} {m : M α} {f : α → M γ} {S : DS} {Q : δ → Hp → Prop} (h : PostG K W E R' H Hf (bnd m f S) Q) :
    PostG K W E R H Hf (m S) (fun v H1 => ∃ d S1 Hf1, m S = some (.ok d, S1) ∧ Stp W H Hf H1 Hf1 ∧ DOk W S1 H1 ∧ R H1 Hf1 v d ∧ PostG K W E R' H1 Hf1 (f d S1) Q) := by
  unfold bnd at h
  cases e : m S with
  | none => rw [e] at h; exact h
  | some q =>
    obtain ⟨q, S'⟩ := q
    rw [e] at h
    cases q with
    | ok d => exact fun v H' Hf' a b c => ⟨d, S', Hf', rfl, a, b, c, h.step a⟩
    | ex c fs => exact h
end
end Oi

/-! Oi, part C: a reading keeps a meaning. -/
namespace Oi
open PySem PySem.Spec PyProof.Rows L2

/-! ### relations -/
abbrev RE (K : PySem.W.Frag) (W : Wd) : Hp → Hp → V → D → Prop := fun _ Hf v d => Rep K W Hf v d
abbrev RA (K : PySem.W.Frag) (W : Wd) : Hp → Hp → List V → List D → Prop := fun _ Hf v d => RepL K W Hf v d
abbrev RT : Hp → Hp → Bool → Bool → Prop := fun _ _ b c => b = c
/-- .. or a list of our own, looked at -/
inductive RP (K : PySem.W.Frag) (W : Wd) (H Hf : Hp) : V → D → Prop where
  | rep {v : V} {d : D} : Rep K W Hf v d → RP K W H Hf v d
  | own {a : Addr} {xs : List V} {ds : List D} : H a = some (.lst xs) → RepL K W Hf xs ds → a ≠ W.st → a ≠ W.l1 → RP K W H Hf (.ref a) (.lst ds)
inductive RPL (K : PySem.W.Frag) (W : Wd) (H Hf : Hp) : List V → List D → Prop where
  | nil : RPL K W H Hf [] []
  | cons {v : V} {vs : List V} {d : D} {ds : List D} : RP K W H Hf v d → RPL K W H Hf vs ds → RPL K W H Hf (v :: vs) (d :: ds)
section
variable {K : PySem.W.Frag} {W : Wd} {H Hf H' Hf' : Hp}
theorem RP.step {v : V} {d : D} (h : RP K W H Hf v d) (s : Stp W H Hf H' Hf') : RP K W H' Hf' v d := by
  cases h with
  | rep r => exact .rep (r.mono s.le)
  | own h r n1 n2 => exact .own (s.kp.keep _ _ h n1 n2 fun ps z => nomatch z) (r.mono s.le) n1 n2
theorem RPL.step : ∀ {v : List V} {d : List D}, RPL K W H Hf v d → Stp W H Hf H' Hf' → RPL K W H' Hf' v d
  | _, _, .nil, _ => .nil
  | _, _, .cons r t, s => .cons (r.step s) (RPL.step t s)
theorem Fz.toLe (f : Fz W Hf H) : Le Hf H := f.le
/-- over the whole heap -/
theorem RP.full {v : V} {d : D} (h : RP K W H Hf v d) (f : Fz W Hf H) : Rep K W H v d := by
  cases h with
  | rep r => exact r.mono f.le
  | own h r n1 n2 => exact .lst h (r.mono f.le)
/-- its items -/
theorem RP.els {v : V} {d : D} {ds : List D} (h : RP K W H Hf v d) (f : Fz W Hf H) (e : elems d = some ds) :
    ∃ a xs, v = .ref a ∧ RepL K W Hf xs ds ∧ ((d = .lst ds ∧ H a = some (.lst xs)) ∨ (d = .tup ds ∧ H a = some (.tup xs))) := by
  cases h with
  | rep r =>
    cases r with
    | tup h r => cases e; exact ⟨_, _, rfl, r, .inr ⟨rfl, f.le _ _ h⟩⟩
    | lst h r => cases e; exact ⟨_, _, rfl, r, .inl ⟨rfl, f.le _ _ h⟩⟩
    | _ => cases e
  | own h r n1 n2 => cases e; exact ⟨_, _, rfl, r, .inl ⟨rfl, h⟩⟩
end

/-! ### a reading keeps a meaning -/
section
variable (K : PySem.W.Frag) (W : Wd) (E : XK)
def Sat (t : TE) (m : Rho → M D) : Prop := ∀ (H0 : En) (ρ : Rho) (S : DS) (σ : L2.St) (H Hf : Hp) (Q : VK), StOk K W H0 ρ S σ H Hf → PostG K W E (RE K W) H Hf (m ρ S) Q → t σ H Q
def SatP (t : TE) (m : Rho → M D) : Prop := ∀ (H0 : En) (ρ : Rho) (S : DS) (σ : L2.St) (H Hf : Hp) (Q : VK), StOk K W H0 ρ S σ H Hf → PostG K W E (RP K W) H Hf (m ρ S) Q → t σ H Q
def SatT (t : TT) (m : Rho → M Bool) : Prop := ∀ (H0 : En) (ρ : Rho) (S : DS) (σ : L2.St) (H Hf : Hp) (Q : Bool → Hp → Prop), StOk K W H0 ρ S σ H Hf → PostG K W E RT H Hf (m ρ S) Q → t σ H Q
def SatA (t : TA) (m : Rho → M (List D)) : Prop := ∀ (H0 : En) (ρ : Rho) (S : DS) (σ : L2.St) (H Hf : Hp) (Q : List V → Hp → Prop), StOk K W H0 ρ S σ H Hf → PostG K W E (RA K W) H Hf (m ρ S) Q → t σ H Q
def SatAP (t : TA) (m : Rho → M (List D)) : Prop := ∀ (H0 : En) (ρ : Rho) (S : DS) (σ : L2.St) (H Hf : Hp) (Q : List V → Hp → Prop), StOk K W H0 ρ S σ H Hf → PostG K W E (RPL K W) H Hf (m ρ S) Q → t σ H Q
def SatO (t : TO) (m : Rho → M (Option Int)) : Prop := ∀ (H0 : En) (ρ : Rho) (S : DS) (σ : L2.St) (H Hf : Hp) (Q : Option Int → Hp → Prop), StOk K W H0 ρ S σ H Hf → PostG K W E (fun _ _ v d => v = d) H Hf (m ρ S) Q → t σ H Q
end
section
variable {K : PySem.W.Frag} {W : Wd} {E : XK}
/-- an operation on data: what its reading asks -/
def OpS (K : PySem.W.Frag) (W : Wd) (r : R2) (g : D → D → Option D) : Prop := ∀ (S : DS) (H Hf : Hp) (x y : V) (a b d : D) (Q : VK), Fz W Hf H → DOk W S H → RP K W H Hf x a → RP K W H Hf y b → g a b = some d →
  (∀ v H' Hf', Stp W H Hf H' Hf' → DOk W S H' → Rep K W Hf' v d → Q v H') → r x y H Q
def CalS (K : PySem.W.Frag) (W : Wd) (r : List V → Hp → VK → Prop) (g : List D → Option D) : Prop := ∀ (S : DS) (H Hf : Hp) (xs : List V) (as : List D) (d : D) (Q : VK), Fz W Hf H → DOk W S H → RPL K W H Hf xs as → g as = some d →
  (∀ v H' Hf', Stp W H Hf H' Hf' → DOk W S H' → Rep K W Hf' v d → Q v H') → r xs H Q

theorem PostG.lft {α β : Type} {R : Hp → Hp → β → α → Prop} {H Hf : Hp} {o : Option α} {S : DS} {Q : β → Hp → Prop} (h : PostG K W E R H Hf (Oi.lft o S) Q) :
    ∃ a, o = some a ∧ ∀ v H' Hf', Stp W H Hf H' Hf' → DOk W S H' → R H' Hf' v a → Q v H' := by
  cases o with
  | none => exact False.elim h
  | some a => exact ⟨a, rfl, h⟩
theorem PostG.ret {α β : Type} {R : Hp → Hp → β → α → Prop} {H Hf : Hp} {a : α} {S : DS} {Q : β → Hp → Prop} (h : PostG K W E R H Hf (Oi.ret a S) Q) :
    ∀ v H' Hf', Stp W H Hf H' Hf' → DOk W S H' → R H' Hf' v a → Q v H' := h
/-- the value wanted more loosely is had -/
theorem PostG.weak {α β : Type} {R R' : Hp → Hp → β → α → Prop} {H Hf : Hp} {r : Option (Rs α × DS)} {Q : β → Hp → Prop} (h : PostG K W E R' H Hf r Q) (hr : ∀ H Hf v d, R H Hf v d → R' H Hf v d) : PostG K W E R H Hf r Q := by
  cases r with
  | none => exact h
  | some q =>
    obtain ⟨q, S'⟩ := q
    cases q with
    | ok d => exact fun v H' Hf' a b c => h v H' Hf' a b (hr _ _ _ _ c)
    | ex c fs => exact h

theorem Sat.toP {t : TE} {m : Rho → M D} (h : Sat K W E t m) : SatP K W E t m := fun H0 ρ S σ H Hf Q I p => h H0 ρ S σ H Hf Q I (p.weak fun _ _ _ _ r => .rep r)
theorem sat_var {i : Nat} : Sat K W E (tVar i) (fun ρ => lft (nmD ρ i)) := fun H0 ρ S σ H Hf Q I p => by
  obtain ⟨d, e, k⟩ := p.lft
  unfold nmD at e
  split at e
  · rename_i d' e'
    cases e
    obtain ⟨o, hs, sl⟩ := I.slot e'
    cases sl with
    | val r => exact ⟨_, hs, k _ _ _ (Stp.refl I.fz) I.dok r⟩
  · cases e
theorem pe_own {ρ : Rho} {i : Nat} {ds : List D} (e : ρ[i]? = some (.own ds)) (m : M D) : pe ρ (.nm i) m = ret (.lst ds) := by
  have h : pk ρ (.nm i) = some (.lst ds) := by
    show (match ρ[i]? with
      | some (.own ds) => some (D.lst ds)
      | _ => none) = _
    rw [e]
  unfold pe
  rw [h]
theorem pe_not {ρ : Rho} {i : Nat} (e : ∀ ds, ρ[i]? ≠ some (.own ds)) (m : M D) : pe ρ (.nm i) m = m := by
  have h : pk ρ (.nm i) = none := by
    show (match ρ[i]? with
      | some (.own ds) => some (D.lst ds)
      | _ => none) = none
    cases q : ρ[i]? with
    | none => rfl
    | some s =>
      cases s with
      | own ds => exact absurd q (e ds)
      | _ => rfl
  unfold pe
  rw [h]
theorem satP_var {i : Nat} : SatP K W E (tVar i) (fun ρ => pe ρ (.nm i) (lft (nmD ρ i))) := fun H0 ρ S σ H Hf Q I p => by
  by_cases e : ∃ ds, ρ[i]? = some (.own ds)
  · obtain ⟨ds, e⟩ := e
    have p : PostG K W E (RP K W) H Hf (pe ρ (.nm i) (lft (nmD ρ i)) S) Q := p
    rw [pe_own e] at p
    obtain ⟨o, hs, sl⟩ := I.slot e
    cases sl with
    | own h r hf h0 => exact ⟨_, hs, p _ _ _ (Stp.refl I.fz) I.dok (.own h r (fun z => I.n1 (z ▸ h0)) (fun z => I.n2 (z ▸ h0)))⟩
  · have p : PostG K W E (RP K W) H Hf (pe ρ (.nm i) (lft (nmD ρ i)) S) Q := p
    rw [pe_not (fun ds z => e ⟨ds, z⟩)] at p
    exact sat_var.toP H0 ρ S σ H Hf Q I p
theorem sat_c {v : V} {d : D} (h : ∀ Hf, Rep K W Hf v d) : Sat K W E (tC v) (fun _ => ret d) := fun H0 ρ S σ H Hf Q I p => p v H Hf (Stp.refl I.fz) I.dok (h Hf)
theorem sat_op {r : R2} {g : D → D → Option D} {ta tb : TE} {ma mb : Rho → M D} (hr : OpS K W r g) (ha : SatP K W E ta ma) (hb : SatP K W E tb mb) :
    Sat K W E (tOp r ta tb) (fun ρ => bnd (ma ρ) fun x => bnd (mb ρ) fun y => lft (g x y)) := fun H0 ρ S σ H Hf Q I p => by
  refine ha H0 ρ S σ H Hf _ I (p.bind.mono fun x H1 ⟨d, S1, Hf1, _, s1, k1, r1, p1⟩ => ?_)
  refine hb H0 ρ S1 σ H1 Hf1 _ (I.step s1 k1) (p1.bind.mono fun y H2 ⟨e, S2, Hf2, _, s2, k2, r2, p2⟩ => ?_)
  obtain ⟨z, hz, q⟩ := p2.lft
  exact hr S2 H2 Hf2 x y d e z Q s2.fz k2 (r1.step s2) r2 hz q
/-! arguments -/
theorem sat_nil : SatA K W E tNil (fun _ => ret []) := fun H0 ρ S σ H Hf Q I p => p [] H Hf (Stp.refl I.fz) I.dok .nil
theorem satP_nil : SatAP K W E tNil (fun _ => ret []) := fun H0 ρ S σ H Hf Q I p => p [] H Hf (Stp.refl I.fz) I.dok .nil
theorem sat_cons {ta : TE} {tr : TA} {m : Rho → M D} {mr : Rho → M (List D)} (ha : Sat K W E ta m) (hr : SatA K W E tr mr) :
    SatA K W E (tCons ta tr) (fun ρ => bnd (m ρ) fun x => bnd (mr ρ) fun xs => ret (x :: xs)) := fun H0 ρ S σ H Hf Q I p => by
  refine ha H0 ρ S σ H Hf _ I (p.bind.mono fun x H1 ⟨d, S1, Hf1, _, s1, k1, r1, p1⟩ => ?_)
  refine hr H0 ρ S1 σ H1 Hf1 _ (I.step s1 k1) (p1.bind.mono fun y H2 ⟨e, S2, Hf2, _, s2, k2, r2, p2⟩ => ?_)
  exact p2 _ _ _ (Stp.refl s2.fz) k2 (.cons (r1.mono s2.le) r2)
theorem satP_cons {ta : TE} {tr : TA} {m : Rho → M D} {mr : Rho → M (List D)} (ha : SatP K W E ta m) (hr : SatAP K W E tr mr) :
    SatAP K W E (tCons ta tr) (fun ρ => bnd (m ρ) fun x => bnd (mr ρ) fun xs => ret (x :: xs)) := fun H0 ρ S σ H Hf Q I p => by
  refine ha H0 ρ S σ H Hf _ I (p.bind.mono fun x H1 ⟨d, S1, Hf1, _, s1, k1, r1, p1⟩ => ?_)
  refine hr H0 ρ S1 σ H1 Hf1 _ (I.step s1 k1) (p1.bind.mono fun y H2 ⟨e, S2, Hf2, _, s2, k2, r2, p2⟩ => ?_)
  exact p2 _ _ _ (Stp.refl s2.fz) k2 (.cons (r1.step s2) r2)
theorem sat_call {r : List V → Hp → VK → Prop} {g : List D → Option D} {t : TA} {m : Rho → M (List D)} (hr : CalS K W r g) (ha : SatAP K W E t m) :
    Sat K W E (tCB r t) (fun ρ => bnd (m ρ) fun xs => lft (g xs)) := fun H0 ρ S σ H Hf Q I p => by
  refine ha H0 ρ S σ H Hf _ I (p.bind.mono fun x H1 ⟨d, S1, Hf1, _, s1, k1, r1, p1⟩ => ?_)
  obtain ⟨z, hz, q⟩ := p1.lft
  exact hr S1 H1 Hf1 x d z Q s1.fz k1 r1 hz q
theorem len_le : (10000000 : Nat) ≤ sizeLine := by rw [sizeLine_eq]; decide
theorem sz_le {n : Nat} (h : sz n = true) : n ≤ sizeLine := Nat.le_trans (Nat.le_of_lt (of_decide_eq_true h)) len_le
theorem sat_tup {t : TA} {m : Rho → M (List D)} (ha : SatA K W E t m) (hl : ∀ ρ S ds S', m ρ S = some (.ok ds, S') → ds.length ≤ 1000) :
    Sat K W E (tTup t) (fun ρ => bnd (m ρ) fun ds => ret (.tup ds)) := fun H0 ρ S σ H Hf Q I p => by
  refine ha H0 ρ S σ H Hf _ I (p.bind.mono fun x H1 ⟨d, S1, Hf1, e1, s1, k1, r1, p1⟩ => ⟨?_, fun a ha => ?_⟩)
  · have := hl ρ S d S1 e1
    rw [r1.length]; exact Nat.le_trans this (by rw [sizeLine_eq]; decide)
  · exact p1 _ _ _ (Stp.new s1.fz ha k1.n1 k1.n2 fun ps z => nomatch z) (k1.new ha) (.tup upd_same (r1.mono (Stp.new (o := .tup x) s1.fz ha k1.n1 k1.n2 fun ps z => nomatch z).le))
theorem sat_lst {t : TA} {m : Rho → M (List D)} (ha : SatA K W E t m) (hl : ∀ ρ S ds S', m ρ S = some (.ok ds, S') → ds.length ≤ 1000) :
    Sat K W E (tLst t) (fun ρ => bnd (m ρ) fun ds => ret (.lst ds)) := fun H0 ρ S σ H Hf Q I p => by
  refine ha H0 ρ S σ H Hf _ I (p.bind.mono fun x H1 ⟨d, S1, Hf1, e1, s1, k1, r1, p1⟩ => ⟨?_, fun a ha => ?_⟩)
  · have := hl ρ S d S1 e1
    rw [r1.length]; exact Nat.le_trans this (by rw [sizeLine_eq]; decide)
  · exact p1 _ _ _ (Stp.new s1.fz ha k1.n1 k1.n2 fun ps z => nomatch z) (k1.new ha) (.lst upd_same (r1.mono (Stp.new (o := .lst x) s1.fz ha k1.n1 k1.n2 fun ps z => nomatch z).le))
/-! tests -/
theorem sat_test {t : TE} {m : Rho → M D} (h : Sat K W E t m) : SatT K W E (tB t) (fun ρ => tst (m ρ)) := fun H0 ρ S σ H Hf Q I p => by
  have p : PostG K W E RT H Hf (bnd (m ρ) (fun x => lft (truD x)) S) Q := p
  refine h H0 ρ S σ H Hf _ I (p.bind.mono fun x H1 ⟨d, S1, Hf1, e1, s1, k1, r1, p1⟩ => ?_)
  obtain ⟨b, hb, q⟩ := p1.lft
  cases r1 with
  | bl c => cases hb; exact ⟨_, rfl, q _ _ _ (Stp.refl s1.fz) k1 rfl⟩
  | _ => cases hb
theorem sat_not {t : TE} {m : Rho → M D} (h : Sat K W E t m) : Sat K W E (tNotV t) (fun ρ => bnd (m ρ) fun x => lft (notD x)) := fun H0 ρ S σ H Hf Q I p => by
  refine h H0 ρ S σ H Hf _ I (p.bind.mono fun x H1 ⟨d, S1, Hf1, e1, s1, k1, r1, p1⟩ => ?_)
  obtain ⟨b, hb, q⟩ := p1.lft
  cases r1 with
  | bl c => cases hb; exact ⟨_, rfl, q _ _ _ (Stp.refl s1.fz) k1 (.bl _)⟩
  | _ => cases hb
theorem sat_and {ta tb : TE} {ma mb : Rho → M D} (ha : Sat K W E ta ma) (hb : Sat K W E tb mb) : Sat K W E (tAndV ta tb) (fun ρ => bnd (ma ρ) fun x => andM x (mb ρ)) := fun H0 ρ S σ H Hf Q I p => by
  refine ha H0 ρ S σ H Hf _ I (p.bind.mono fun x H1 ⟨d, S1, Hf1, e1, s1, k1, r1, p1⟩ => ?_)
  cases r1 with
  | bl c =>
    cases c with
    | true => exact ⟨_, rfl, hb H0 ρ S1 σ H1 Hf1 _ (I.step s1 k1) p1⟩
    | false => exact ⟨_, rfl, p1 _ _ _ (Stp.refl s1.fz) k1 (.bl _)⟩
  | _ => exact False.elim p1
theorem sat_or {ta tb : TE} {ma mb : Rho → M D} (ha : Sat K W E ta ma) (hb : Sat K W E tb mb) : Sat K W E (tOrV ta tb) (fun ρ => bnd (ma ρ) fun x => orM x (mb ρ)) := fun H0 ρ S σ H Hf Q I p => by
  refine ha H0 ρ S σ H Hf _ I (p.bind.mono fun x H1 ⟨d, S1, Hf1, e1, s1, k1, r1, p1⟩ => ?_)
  cases r1 with
  | bl c =>
    cases c with
    | false => exact ⟨_, rfl, hb H0 ρ S1 σ H1 Hf1 _ (I.step s1 k1) p1⟩
    | true => exact ⟨_, rfl, p1 _ _ _ (Stp.refl s1.fz) k1 (.bl _)⟩
  | _ => exact False.elim p1
theorem sat_ite {c : TT} {ta tb : TE} {mc : Rho → M Bool} {ma mb : Rho → M D} (hc : SatT K W E c mc) (ha : Sat K W E ta ma) (hb : Sat K W E tb mb) :
    Sat K W E (tIf c ta tb) (fun ρ => bnd (mc ρ) fun t => iteM t (ma ρ) (mb ρ)) := fun H0 ρ S σ H Hf Q I p => by
  refine hc H0 ρ S σ H Hf _ I (p.bind.mono fun b H1 ⟨d, S1, Hf1, e1, s1, k1, r1, p1⟩ => ?_)
  cases r1
  cases b with
  | true => exact ha H0 ρ S1 σ H1 Hf1 _ (I.step s1 k1) p1
  | false => exact hb H0 ρ S1 σ H1 Hf1 _ (I.step s1 k1) p1
/-! tests of tests -/
theorem tst_and (m : M D) (n : M D) : tst (bnd m fun x => andM x n) = bnd (tst m) fun c => iteM c (tst n) (ret false) := by
  unfold tst
  simp only [bnd_bnd]
  congr 1
  funext x
  cases x <;> try rfl
  rename_i b
  cases b <;> rfl
theorem tst_or (m : M D) (n : M D) : tst (bnd m fun x => orM x n) = bnd (tst m) fun c => iteM c (ret true) (tst n) := by
  unfold tst
  simp only [bnd_bnd]
  congr 1
  funext x
  cases x <;> try rfl
  rename_i b
  cases b <;> rfl
theorem tst_not (m : M D) : tst (bnd m fun x => lft (notD x)) = bnd (tst m) fun c => ret (!c) := by
  unfold tst
  simp only [bnd_bnd]
  congr 1
  funext x
  cases x <;> rfl
theorem satT_and {a b : TT} {ma mb : Rho → M Bool} (ha : SatT K W E a ma) (hb : SatT K W E b mb) : SatT K W E (tAnd a b) (fun ρ => bnd (ma ρ) fun c => iteM c (mb ρ) (ret false)) := fun H0 ρ S σ H Hf Q I p => by
  refine ha H0 ρ S σ H Hf _ I (p.bind.mono fun b H1 ⟨d, S1, Hf1, e1, s1, k1, r1, p1⟩ => ?_)
  cases r1
  cases b with
  | true => exact hb H0 ρ S1 σ H1 Hf1 _ (I.step s1 k1) p1
  | false => exact p1 _ _ _ (Stp.refl s1.fz) k1 rfl
theorem satT_or {a b : TT} {ma mb : Rho → M Bool} (ha : SatT K W E a ma) (hb : SatT K W E b mb) : SatT K W E (tOr a b) (fun ρ => bnd (ma ρ) fun c => iteM c (ret true) (mb ρ)) := fun H0 ρ S σ H Hf Q I p => by
  refine ha H0 ρ S σ H Hf _ I (p.bind.mono fun b H1 ⟨d, S1, Hf1, e1, s1, k1, r1, p1⟩ => ?_)
  cases r1
  cases b with
  | false => exact hb H0 ρ S1 σ H1 Hf1 _ (I.step s1 k1) p1
  | true => exact p1 _ _ _ (Stp.refl s1.fz) k1 rfl
theorem satT_not {a : TT} {ma : Rho → M Bool} (ha : SatT K W E a ma) : SatT K W E (tNot a) (fun ρ => bnd (ma ρ) fun c => ret (!c)) := fun H0 ρ S σ H Hf Q I p => by
  refine ha H0 ρ S σ H Hf _ I (p.bind.mono fun b H1 ⟨d, S1, Hf1, e1, s1, k1, r1, p1⟩ => ?_)
  cases r1
  exact p1 _ _ _ (Stp.refl s1.fz) k1 rfl
/-! slices' parts -/
theorem satO_none : SatO K W E tNoPart (fun ρ => ret none) := fun H0 ρ S σ H Hf Q I p => p _ _ _ (Stp.refl I.fz) I.dok rfl
theorem satO_some {t : TE} {m : Rho → M D} (h : Sat K W E t m) : SatO K W E (tPart t) (fun ρ => bnd (m ρ) fun x => lft ((intD x).map some)) := fun H0 ρ S σ H Hf Q I p => by
  refine h H0 ρ S σ H Hf _ I (p.bind.mono fun x H1 ⟨d, S1, Hf1, e1, s1, k1, r1, p1⟩ => ?_)
  obtain ⟨b, hb, q⟩ := p1.lft
  cases r1 with
  | int i => cases hb; exact ⟨_, rfl, q _ _ _ (Stp.refl s1.fz) k1 rfl⟩
  | _ => cases hb
end
end Oi

/-! Oi, part D: the operations on data over the layer's rules. -/
namespace Oi
open PySem PySem.Spec PyProof.Rows L2

section
variable {K : PySem.W.Frag} {W : Wd}
theorem Rep.tupI {H Hf : Hp} {v : V} {ds : List D} (r : Rep K W Hf v (.tup ds)) (f : Fz W Hf H) : ∃ a xs, v = .ref a ∧ H a = some (.tup xs) ∧ Hf a = some (.tup xs) ∧ RepL K W Hf xs ds := by
  cases r with
  | tup h r => exact ⟨_, _, rfl, f.le _ _ h, h, r⟩
theorem RP.tupI {H Hf : Hp} {v : V} {ds : List D} (r : RP K W H Hf v (.tup ds)) (f : Fz W Hf H) : ∃ a xs, v = .ref a ∧ H a = some (.tup xs) ∧ Hf a = some (.tup xs) ∧ RepL K W Hf xs ds := by
  cases r with
  | rep r => exact r.tupI f
theorem RP.lstI {H Hf : Hp} {v : V} {ds : List D} (r : RP K W H Hf v (.lst ds)) (f : Fz W Hf H) : ∃ a xs, v = .ref a ∧ H a = some (.lst xs) ∧ RepL K W Hf xs ds := by
  cases r with
  | rep r => cases r with | lst h r => exact ⟨_, _, rfl, f.le _ _ h, r⟩
  | own h r n1 n2 => exact ⟨_, _, rfl, h, r⟩
theorem RP.intI {H Hf : Hp} {v : V} {i : Int} (r : RP K W H Hf v (.int i)) : v = .int i := by
  cases r with | rep r => cases r with | int i => rfl
theorem RP.strI {H Hf : Hp} {v : V} {i : Str} (r : RP K W H Hf v (.str i)) : v = .str i := by
  cases r with | rep r => cases r with | str i => rfl
theorem RP.blI {H Hf : Hp} {v : V} {i : Bool} (r : RP K W H Hf v (.bl i)) : v = .bl i := by
  cases r with | rep r => cases r with | bl i => rfl
/-- a new tuple, a new list -/
theorem newTup {S : DS} {H Hf : Hp} {xs : List V} {ds : List D} {Q : VK} (f : Fz W Hf H) (k : DOk W S H) (r : RepL K W Hf xs ds)
    (q : ∀ v H' Hf', Stp W H Hf H' Hf' → DOk W S H' → Rep K W Hf' v (.tup ds) → Q v H') : ∀ p, H p = none → Q (.ref p) (upd H p (.tup xs)) := fun p hp => by
  have s := Stp.new (o := .tup xs) f hp k.n1 k.n2 fun ps z => nomatch z
  exact q _ _ _ s (k.new hp) (.tup upd_same (r.mono s.le))
theorem newLst {S : DS} {H Hf : Hp} {xs : List V} {ds : List D} {Q : VK} (f : Fz W Hf H) (k : DOk W S H) (r : RepL K W Hf xs ds)
    (q : ∀ v H' Hf', Stp W H Hf H' Hf' → DOk W S H' → Rep K W Hf' v (.lst ds) → Q v H') : ∀ p, H p = none → Q (.ref p) (upd H p (.lst xs)) := fun p hp => by
  have s := Stp.new (o := .lst xs) f hp k.n1 k.n2 fun ps z => nomatch z
  exact q _ _ _ s (k.new hp) (.lst upd_same (r.mono s.le))

/-! ### + -/
def rAddU (K : PySem.W.Frag) : R2 := fun x y H Q => (rI0 (fun i j => .int (i + j)) x y H Q) ∨ ((∃ i j, x = .str i ∧ y = .str j ∧ i.length + j.length ≤ sizeLine ∧ Q (.str (i ++ j)) H) ∨ (rCatA K x y H Q ∨ rCat x y H Q))
theorem op_addU {X : Cx} : OpR X (binaryOp .Add) (rAddU X.K) := op_add.or (op_add_str.or (op_catA.or op_cat))
theorem ops_add : OpS K W (rAddU K) (binD .add) := fun S H Hf x y a b d Q f k rx ry e q => by
  cases a <;> cases b <;> try (cases e)
  · rename_i i j
    rw [rx.intI, ry.intI]
    exact .inl ⟨i, j, rfl, rfl, q _ _ _ (Stp.refl f) k (.int _)⟩
  · rename_i i j
    rw [rx.strI, ry.strI]
    have e1 : (if i.length + j.length < 10000000 then some (D.str (i ++ j)) else none) = some d := e
    split at e1
    · rename_i h
      cases e1
      exact .inr (.inl ⟨i, j, rfl, rfl, Nat.le_trans (Nat.le_of_lt h) len_le, q _ _ _ (Stp.refl f) k (.str _)⟩)
    · cases e1
  · rename_i xs ys
    obtain ⟨a, us, rfl, ha, hfa, ra⟩ := rx.tupI f
    obtain ⟨b, ws, rfl, hb, hfb, rb⟩ := ry.tupI f
    have e1 : (if sz (xs.length + ys.length) = true then some (D.tup (xs ++ ys)) else none) = some d := e
    split at e1
    · rename_i h
      cases e1
      have l1 := ra.length
      have l2 := rb.length
      refine .inr (.inr (.inl ⟨a, b, us, ws, rfl, rfl, SqT.of ha, SqT.of hb, by rw [l1, l2]; exact sz_le h, fun z => ?_, fun _ z => ?_, fun _ _ => newTup f k (ra.append rb) q⟩))
      · subst z
        cases ra
        exact q _ _ _ (Stp.refl f) k (.tup hfb rb)
      · subst z
        cases rb
        rw [List.append_nil] at q
        exact q _ _ _ (Stp.refl f) k (.tup hfa ra)
    · cases e1
  · rename_i xs ys
    obtain ⟨a, us, rfl, ha, ra⟩ := rx.lstI f
    obtain ⟨b, ws, rfl, hb, rb⟩ := ry.lstI f
    have e1 : (if sz (xs.length + ys.length) = true then some (D.lst (xs ++ ys)) else none) = some d := e
    split at e1
    · rename_i h
      cases e1
      refine .inr (.inr (.inr ⟨a, b, us, ws, rfl, rfl, ha, hb, by rw [ra.length, rb.length]; exact sz_le h, newLst f k (ra.append rb) q⟩))
    · cases e1
/-! ### other arithmetic -/
theorem ops_I0 {op : BOp} {g : Int → Int → Int} (h : ∀ a b d, binD op a b = some d → ∃ i j, a = .int i ∧ b = .int j ∧ d = .int (g i j)) : OpS K W (rI0 fun i j => .int (g i j)) (binD op) := fun S H Hf x y a b d Q f k rx ry e q => by
  obtain ⟨i, j, rfl, rfl, rfl⟩ := h _ _ _ e
  rw [rx.intI, ry.intI]
  exact ⟨i, j, rfl, rfl, q _ _ _ (Stp.refl f) k (.int _)⟩
theorem ops_I {op : BOp} {C : Int → Int → Prop} {g : Int → Int → Int} (h : ∀ a b d, binD op a b = some d → ∃ i j, a = .int i ∧ b = .int j ∧ C i j ∧ d = .int (g i j)) : OpS K W (rI C fun i j => .int (g i j)) (binD op) := fun S H Hf x y a b d Q f k rx ry e q => by
  obtain ⟨i, j, rfl, rfl, hc, rfl⟩ := h _ _ _ e
  rw [rx.intI, ry.intI]
  exact ⟨i, j, rfl, rfl, hc, q _ _ _ (Stp.refl f) k (.int _)⟩
theorem ite_some {α : Type} {p : Prop} [Decidable p] {a d : α} (h : (if p then some a else none) = some d) : p ∧ d = a := by
  split at h
  · exact ⟨by assumption, (Option.some.inj h).symm⟩
  · cases h
theorem ops_sub : OpS K W (rI0 fun i j => .int (i - j)) (binD .sub) := ops_I0 fun a b d e => by
  cases a <;> cases b <;> cases e
  exact ⟨_, _, rfl, rfl, rfl⟩
theorem ops_fdiv : OpS K W (rI CDiv fun i j => .int (i / j)) (binD .fdiv) := ops_I fun a b d e => by
  cases a <;> cases b <;> try (cases e)
  obtain ⟨h, rfl⟩ := ite_some e
  exact ⟨_, _, rfl, rfl, h, rfl⟩
theorem ops_mod : OpS K W (rI (fun _ j => 0 < j) fun i j => .int (i % j)) (binD .mod) := ops_I fun a b d e => by
  cases a <;> cases b <;> try (cases e)
  obtain ⟨h, rfl⟩ := ite_some e
  exact ⟨_, _, rfl, rfl, h, rfl⟩
theorem ops_pow : OpS K W (rI CPow fun i j => .int (i ^ j.toNat)) (binD .pow) := ops_I fun a b d e => by
  cases a <;> cases b <;> try (cases e)
  obtain ⟨h, rfl⟩ := ite_some e
  exact ⟨_, _, rfl, rfl, h, rfl⟩
theorem ops_shl : OpS K W (rI CPow fun i j => .int (i * 2 ^ j.toNat)) (binD .shl) := ops_I fun a b d e => by
  cases a <;> cases b <;> try (cases e)
  obtain ⟨h, rfl⟩ := ite_some e
  exact ⟨_, _, rfl, rfl, h, rfl⟩
theorem ops_shr : OpS K W (rI (fun _ j => 0 ≤ j) fun i j => .int (i / 2 ^ j.toNat)) (binD .shr) := ops_I fun a b d e => by
  cases a <;> cases b <;> try (cases e)
  obtain ⟨h, rfl⟩ := ite_some e
  exact ⟨_, _, rfl, rfl, h, rfl⟩
theorem ops_band : OpS K W (rI0 fun i j => .int (Builtin.bitAnd i j)) (binD .band) := ops_I0 fun a b d e => by
  cases a <;> cases b <;> cases e
  exact ⟨_, _, rfl, rfl, rfl⟩
theorem ops_bor : OpS K W (rI0 fun i j => .int (Builtin.bitOr i j)) (binD .bor) := ops_I0 fun a b d e => by
  cases a <;> cases b <;> cases e
  exact ⟨_, _, rfl, rfl, rfl⟩
def rMulU (K : PySem.W.Frag) : R2 := fun x y H Q => rI CMul (fun i j => .int (i * j)) x y H Q ∨ rRepT K x y H Q
theorem op_mulU {X : Cx} : OpR X (binaryOp .Mult) (rMulU X.K) := op_mul.or op_repT
theorem ops_mul : OpS K W (rMulU K) (binD .mul) := fun S H Hf x y a b d Q f k rx ry e q => by
  cases a <;> cases b <;> try (cases e)
  · rename_i i j
    rw [rx.intI, ry.intI]
    obtain ⟨h, rfl⟩ := ite_some (show (if (-(2 ^ 64) < i ∧ i < 2 ^ 64) ∨ (-(2 ^ 64) < j ∧ j < 2 ^ 64) then some (D.int (i * j)) else none) = some d from e)
    exact .inl ⟨i, j, rfl, rfl, h, q _ _ _ (Stp.refl f) k (.int _)⟩
  · rename_i xs j
    obtain ⟨a, us, rfl, ha, hfa, ra⟩ := rx.tupI f
    rw [ry.intI]
    obtain ⟨⟨h1, h2, h3, h4⟩, rfl⟩ := ite_some (show (if 2 ≤ j ∧ j ≤ 1000 ∧ xs ≠ [] ∧ xs.length ≤ 1000 then some (D.tup (List.replicate j.toNat xs).flatten) else none) = some d from e)
    have l1 := ra.length
    exact .inr ⟨a, j, us, rfl, rfl, SqT.of ha, fun z => h3 (by subst z; cases ra; rfl), h1, h2, by omega, newTup f k (ra.rep _) q⟩


/-! ### == -/
theorem okPy_inv {d : D} {p : PyData} (h : okPy d = some p) : d.toPy = some p ∧ SeqAt.shaped p = true := by
  unfold okPy at h
  cases e : d.toPy with
  | none => rw [e] at h; cases h
  | some r =>
    rw [e] at h
    obtain ⟨h1, rfl⟩ := ite_some (show (if SeqAt.shaped r = true then some r else none) = some p from h)
    exact ⟨rfl, h1⟩
theorem eqD_inv {x y : D} {b : Bool} (h : eqD x y = some b) : ∃ p q, x.toPy = some p ∧ y.toPy = some q ∧ SeqAt.shaped p = true ∧ SeqAt.shaped q = true ∧ b = PyData.eqv p q := by
  unfold eqD at h
  cases e1 : okPy x with
  | none => rw [e1] at h; cases h
  | some p =>
    cases e2 : okPy y with
    | none => rw [e1, e2] at h; cases h
    | some q =>
      rw [e1, e2] at h
      obtain ⟨a1, a2⟩ := okPy_inv e1
      obtain ⟨b1, b2⟩ := okPy_inv e2
      exact ⟨p, q, a1, b1, a2, b2, (Option.some.inj h).symm⟩
theorem inD_inv {x y : D} {b : Bool} (h : inD x y = some b) : ∃ p q ds, x.toPy = some p ∧ y.toPy = some q ∧ SeqAt.shaped p = true ∧ SeqAt.shaped q = true ∧ (q = .list ds ∨ q = .tuple ds) ∧ b = ds.any fun z => PyData.eqv z p := by
  unfold inD at h
  cases e1 : okPy x with
  | none => rw [e1] at h; cases h
  | some p =>
    cases e2 : okPy y with
    | none => rw [e1, e2] at h; cases h
    | some q =>
      rw [e1, e2] at h
      obtain ⟨a1, a2⟩ := okPy_inv e1
      obtain ⟨b1, b2⟩ := okPy_inv e2
      cases q with
      | list ds => exact ⟨p, _, ds, a1, b1, a2, b2, .inl rfl, (Option.some.inj h).symm⟩
      | tuple ds => exact ⟨p, _, ds, a1, b1, a2, b2, .inr rfl, (Option.some.inj h).symm⟩
      | _ => cases h
theorem RP.dp {H Hf : Hp} {v : V} {d : D} {p : PyData} (r : RP K W H Hf v d) (f : Fz W Hf H) (e : d.toPy = some p) : Dp K H v p := (r.full f).dp e
def rInA (K : PySem.W.Frag) (g : Bool → Bool) : R2 := fun x y H Q => ∃ p q ds, Dp K H x p ∧ Dp K H y q ∧ SeqAt.shaped p = true ∧ SeqAt.shaped q = true ∧ (q = .list ds ∨ q = .tuple ds) ∧ Q (.bl (g (ds.any fun z => PyData.eqv z p))) H
theorem shaped_in {p : PyData} {xs : List PyData} {A : Around} (sd : SeqAt.shaped p = true) (hu : A.units + 65 < cLine) : A.units + 1 + min (PyData.depthAll xs) p.depth < cLine := by
  have h : (p.canLay0 && decide (p.depth ≤ 64)) = true := sd
  rw [Bool.and_eq_true] at h
  have h2 : p.depth ≤ 64 := of_decide_eq_true h.2
  omega
theorem op_inA {X : Cx} (hu : X.A.units + 65 < cLine) : OpR X (compareOp .In) (rInA X.K id) := by
  intro pins s σ H x y v u Q I rx ry ⟨p, q, ds, hp, hq, sp, sq, hd, k⟩
  obtain ⟨as, r1⟩ := Dp.reads I p x v hp rx
  obtain ⟨bs, r2⟩ := Dp.reads I q y u hq ry
  rcases hd with rfl | rfl
  · exact SeqAt.in_list_reads r2 r1 (SeqAt.canLay_of_shaped sq) (SeqAt.canLay_of_shaped sp) (shaped_in sp hu) ⟨.bl _, H, I, rfl, k⟩
  · exact SeqAt.in_tuple_reads r2 r1 (SeqAt.canLay_of_shaped sq) (SeqAt.canLay_of_shaped sp) (shaped_in sp hu) ⟨.bl _, H, I, rfl, k⟩
theorem op_notInA {X : Cx} (hu : X.A.units + 65 < cLine) : OpR X (compareOp .NotIn) (rInA X.K not) := by
  intro pins s σ H x y v u Q I rx ry ⟨p, q, ds, hp, hq, sp, sq, hd, k⟩
  obtain ⟨as, r1⟩ := Dp.reads I p x v hp rx
  obtain ⟨bs, r2⟩ := Dp.reads I q y u hq ry
  rcases hd with rfl | rfl
  · exact SeqAt.notIn_list_reads r2 r1 (SeqAt.canLay_of_shaped sq) (SeqAt.canLay_of_shaped sp) (shaped_in sp hu) ⟨.bl _, H, I, rfl, k⟩
  · exact SeqAt.notIn_tuple_reads r2 r1 (SeqAt.canLay_of_shaped sq) (SeqAt.canLay_of_shaped sp) (shaped_in sp hu) ⟨.bl _, H, I, rfl, k⟩

/-! ### texts -/
theorem toNat_inj {a b : Char} (h : a.toNat = b.toNat) : a = b := Char.ext (UInt32.toNat_inj.mp h)
theorem map_inj {α β : Type} {f : α → β} (hf : ∀ a b, f a = f b → a = b) : ∀ {xs ys : List α}, xs.map f = ys.map f → xs = ys
  | [], [], _ => rfl
  | [], _ :: _, h => by cases h
  | _ :: _, [], h => by cases h
  | x :: xs, y :: ys, h => by
    rw [List.map_cons, List.map_cons] at h
    injection h with h1 h2
    rw [hf _ _ h1, map_inj hf h2]
theorem ofString_inj {a b : String} (h : Str.ofString a = Str.ofString b) : a = b := by
  rw [Str.ofString_eq_toList, Str.ofString_eq_toList] at h
  have h1 : (a.toList.map Char.toNat).toArray = (b.toList.map Char.toNat).toArray := congrArg Str.cps h
  have h2 : a.toList.map Char.toNat = b.toList.map Char.toNat := by simpa using h1
  exact String.toList_inj.mp (map_inj (fun _ _ => toNat_inj) h2)
/-! ### all comparisons -/
def cOp : COp → CmpOp
  | .eq => .Eq | .ne => .NotEq | .lt => .Lt | .le => .LtE | .gt => .Gt | .ge => .GtE | .isN => .Is | .notN => .IsNot | .isIn => .In | .notIn => .NotIn
def rCmp (K : PySem.W.Frag) : COp → R2
  | .eq => rEqD K
  | .ne => rNeD K
  | .lt => rI0 fun i j => .bl (decide (i < j))
  | .le => rI0 fun i j => .bl (decide (i ≤ j))
  | .gt => rI0 fun i j => .bl (decide (j < i))
  | .ge => rI0 fun i j => .bl (decide (j ≤ i))
  | .isN => fun x y H Q => y = .non ∧ Q (.bl (decide (x = .non))) H
  | .notN => fun x y H Q => y = .non ∧ Q (.bl (!decide (x = .non))) H
  | .isIn => rInA K id
  | .notIn => rInA K not
theorem op_cmp {X : Cx} (hu : X.A.units + 65 < cLine) : ∀ o : COp, OpR X (compareOp (cOp o)) (rCmp X.K o)
  | .eq => op_eqD (by omega)
  | .ne => op_neD (by omega)
  | .lt => op_lt
  | .le => op_le
  | .gt => op_gt
  | .ge => op_ge
  | .isN => op_isN
  | .notN => op_notN
  | .isIn => op_inA hu
  | .notIn => op_notInA hu
def cmpB (o : COp) (x y : D) : Option D := (cmpD o x y).map .bl
theorem map_some {α β : Type} {o : Option α} {f : α → β} {d : β} (h : o.map f = some d) : ∃ a, o = some a ∧ d = f a := by
  cases o with
  | none => cases h
  | some a => exact ⟨a, rfl, (Option.some.inj h).symm⟩
theorem RP.non {H Hf : Hp} {v : V} {d : D} (r : RP K W H Hf v d) : decide (v = V.non) = d.isNon := by
  cases r with
  | rep r => cases r <;> rfl
  | own _ _ _ _ => rfl
theorem ops_int2 {op : COp} {g : Int → Int → Bool} (h : ∀ a b c, cmpD op a b = some c → ∃ i j, a = .int i ∧ b = .int j ∧ c = g i j) : OpS K W (rI0 fun i j => .bl (g i j)) (cmpB op) := fun S H Hf x y a b d Q f k rx ry e q => by
  obtain ⟨c, e2, rfl⟩ := map_some e
  obtain ⟨i, j, rfl, rfl, rfl⟩ := h _ _ _ e2
  rw [rx.intI, ry.intI]
  exact ⟨i, j, rfl, rfl, q _ _ _ (Stp.refl f) k (.bl _)⟩
theorem ops_cmp : ∀ o : COp, OpS K W (rCmp K o) (cmpB o)
  | .eq => fun S H Hf x y a b d Q f k rx ry e q => by
    obtain ⟨c, e2, rfl⟩ := map_some e
    obtain ⟨p, r, h1, h2, h3, h4, rfl⟩ := eqD_inv e2
    exact ⟨p, r, rx.dp f h1, ry.dp f h2, h3, h4, q _ _ _ (Stp.refl f) k (.bl _)⟩
  | .ne => fun S H Hf x y a b d Q f k rx ry e q => by
    obtain ⟨c, e1, rfl⟩ := map_some e
    obtain ⟨c1, e2, rfl⟩ := map_some e1
    obtain ⟨p, r, h1, h2, h3, h4, rfl⟩ := eqD_inv e2
    exact ⟨p, r, rx.dp f h1, ry.dp f h2, h3, h4, q _ _ _ (Stp.refl f) k (.bl _)⟩
  | .lt => ops_int2 fun a b c e => by cases a <;> cases b <;> cases e; exact ⟨_, _, rfl, rfl, rfl⟩
  | .le => ops_int2 fun a b c e => by cases a <;> cases b <;> cases e; exact ⟨_, _, rfl, rfl, rfl⟩
  | .gt => ops_int2 fun a b c e => by cases a <;> cases b <;> cases e; exact ⟨_, _, rfl, rfl, rfl⟩
  | .ge => ops_int2 fun a b c e => by cases a <;> cases b <;> cases e; exact ⟨_, _, rfl, rfl, rfl⟩
  | .isN => fun S H Hf x y a b d Q f k rx ry e q => by
    obtain ⟨c, e2, rfl⟩ := map_some e
    cases b <;> cases e2
    have q := q (.bl a.isNon) _ _ (Stp.refl f) k (.bl _)
    rw [← rx.non] at q
    cases ry with | rep r => cases r; exact ⟨rfl, q⟩
  | .notN => fun S H Hf x y a b d Q f k rx ry e q => by
    obtain ⟨c, e1, rfl⟩ := map_some e
    obtain ⟨c1, e2, rfl⟩ := map_some e1
    cases b <;> cases e2
    have q := q (.bl (!a.isNon)) _ _ (Stp.refl f) k (.bl _)
    rw [← rx.non] at q
    cases ry with | rep r => cases r; exact ⟨rfl, q⟩
  | .isIn => fun S H Hf x y a b d Q f k rx ry e q => by
    obtain ⟨c, e2, rfl⟩ := map_some e
    obtain ⟨p, r, ds, h1, h2, h3, h4, h5, rfl⟩ := inD_inv e2
    exact ⟨p, r, ds, rx.dp f h1, ry.dp f h2, h3, h4, h5, q _ _ _ (Stp.refl f) k (.bl _)⟩
  | .notIn => fun S H Hf x y a b d Q f k rx ry e q => by
    obtain ⟨c, e1, rfl⟩ := map_some e
    obtain ⟨c1, e2, rfl⟩ := map_some e1
    obtain ⟨p, r, ds, h1, h2, h3, h4, h5, rfl⟩ := inD_inv e2
    exact ⟨p, r, ds, rx.dp f h1, ry.dp f h2, h3, h4, h5, q _ _ _ (Stp.refl f) k (.bl _)⟩

/-! ### index, slice -/
theorem atI_map {α β : Type} {R : α → β → Prop} {xs : List α} {ds : List β} {i : Int} {d : β} (hl : xs.length = ds.length) (hg : ∀ (j : Nat) (d : β), ds[j]? = some d → ∃ x, xs[j]? = some x ∧ R x d) (h : atI ds i = some d) : ∃ x, atI xs i = some x ∧ R x d := by
  unfold atI at h ⊢
  rw [hl]
  cases e : ixN ds.length i with
  | none => rw [e] at h; cases h
  | some j =>
    rw [e] at h
    exact hg j d h
/-- d[k], a text's place or a number's, and a sequence's by number -/
def rIxA (K : PySem.W.Frag) : R2 := fun x y H Q => rIxL K x y H Q ∨ rIxT K x y H Q
theorem ix_A {X : Cx} : IxR X (rIxA X.K) := ix_list.or ix_tup
theorem ops_ix : OpS K W (rIxA K) ixD := fun S H Hf x y a b d Q f k rx ry e q => by
  cases a <;> cases b <;> try (cases e)
  · rename_i xs i
    obtain ⟨p, us, rfl, hp, hfp, r⟩ := rx.tupI f
    rw [ry.intI]
    obtain ⟨v, hv, rv⟩ := atI_map (R := Rep K W Hf) r.length (fun j d h => r.get' h) (show atI xs i = some d from e)
    exact .inr ⟨p, us, i, v, rfl, rfl, SqT.of hp, hv, q _ _ _ (Stp.refl f) k rv⟩
  · rename_i xs i
    obtain ⟨p, us, rfl, hp, r⟩ := rx.lstI f
    rw [ry.intI]
    obtain ⟨v, hv, rv⟩ := atI_map (R := Rep K W Hf) r.length (fun j d h => r.get' h) (show atI xs i = some d from e)
    exact .inl ⟨p, us, i, v, rfl, rfl, SqL.of hp, hv, q _ _ _ (Stp.refl f) k rv⟩
/-- slices -/
def SlS (K : PySem.W.Frag) (W : Wd) (r : V → Option Int → Option Int → Hp → VK → Prop) : Prop := ∀ (S : DS) (H Hf : Hp) (x : V) (a : D) (lo hi : Option Int) (d : D) (Q : VK), Fz W Hf H → DOk W S H → RP K W H Hf x a → slD a lo hi = some d →
  (∀ v H' Hf', Stp W H Hf H' Hf' → DOk W S H' → Rep K W Hf' v d → Q v H') → r x lo hi H Q
def rSlU (K : PySem.W.Frag) : V → Option Int → Option Int → Hp → VK → Prop := fun x lo hi H Q => rSlA K x lo hi H Q ∨ rSlL K x lo hi H Q
theorem sl_U {X : Cx} : SlR X (rSlU X.K) := sl_tupA.or sl_list
theorem cut_rep {Hf : Hp} {us : List V} {ds : List D} (r : RepL K W Hf us ds) (lo hi : Option Int) : RepL K W Hf (cutV us lo hi) ((ds.drop (HT.sIx ds.length 0 lo)).take (HT.sIx ds.length ds.length hi - HT.sIx ds.length 0 lo)) := by
  unfold cutV
  rw [r.length]
  exact (r.drop _).take _
theorem sls : SlS K W (rSlU K) := fun S H Hf x a lo hi d Q f k rx e q => by
  cases a <;> try (cases e)
  · rename_i ds
    obtain ⟨p, us, rfl, hp, hfp, r⟩ := rx.tupI f
    refine .inl ⟨p, us, rfl, SqT.of hp, fun ⟨h1, h2⟩ => ?_, fun _ => newTup f k (cut_rep r lo hi) q⟩
    refine q _ _ _ (Stp.refl f) k ?_
    rw [r.length] at h1 h2
    show Rep K W Hf (V.ref p) (D.tup ((ds.drop (HT.sIx ds.length 0 lo)).take (HT.sIx ds.length ds.length hi - HT.sIx ds.length 0 lo)))
    rw [h1, h2, List.drop_zero, Nat.sub_zero, List.take_length]
    exact .tup hfp r
  · rename_i ds
    obtain ⟨p, us, rfl, hp, r⟩ := rx.lstI f
    exact .inr ⟨p, us, rfl, SqL.of hp, newLst f k (cut_rep r lo hi) q⟩
theorem sat_sl {E : XK} {r : V → Option Int → Option Int → Hp → VK → Prop} {t : TE} {tl th : TO} {m : Rho → M D} {ml mh : Rho → M (Option Int)} (hr : SlS K W r) (ht : SatP K W E t m) (hl : SatO K W E tl ml) (hh : SatO K W E th mh) :
    Sat K W E (tSl r t tl th) (fun ρ => bnd (m ρ) fun x => bnd (ml ρ) fun l => bnd (mh ρ) fun h => lft (slD x l h)) := fun H0 ρ S σ H Hf Q I p => by
  refine ht H0 ρ S σ H Hf _ I (p.bind.mono fun x H1 ⟨d, S1, Hf1, e1, s1, k1, r1, p1⟩ => ?_)
  refine hl H0 ρ S1 σ H1 Hf1 _ (I.step s1 k1) (p1.bind.mono fun l H2 ⟨dl, S2, Hf2, e2, s2, k2, r2, p2⟩ => ?_)
  refine hh H0 ρ S2 σ H2 Hf2 _ ((I.step s1 k1).step s2 k2) (p2.bind.mono fun h H3 ⟨dh, S3, Hf3, e3, s3, k3, r3, p3⟩ => ?_)
  subst r2
  subst r3
  obtain ⟨z, hz, q⟩ := p3.lft
  exact hr S3 H3 Hf3 x d l h z Q s3.fz k3 ((r1.step s2).step s3) hz q

/-! ### fields -/
theorem RepF.lookup {Hf : Hp} {f : String} {d : D} : ∀ {fs : List (Str × V)} {ds : List (String × D)}, RepF K W Hf fs ds → ds.lookup f = some d → ∃ v, fs.lookup (Str.ofString f) = some v ∧ Rep K W Hf v d
  | _, _, .nil, e => by cases e
  | _, _, .cons (x := x) (v := v) (vs := vs) (d := d') (ds := ds) r t, e => by
    rw [List.lookup_cons] at e
    rw [List.lookup_cons]
    cases h : f == x with
    | true =>
      rw [h] at e
      have hx : f = x := by simpa using h
      subst hx
      rw [show (Str.ofString f == Str.ofString f) = true from beq_self_eq_true _]
      cases e
      exact ⟨v, rfl, r⟩
    | false =>
      rw [h] at e
      have hx : f ≠ x := by simpa using h
      rw [show (Str.ofString f == Str.ofString x) = false from by
        rw [beq_eq_false_iff_ne]
        exact fun z => hx (ofString_inj z)]
      exact RepF.lookup t e

/-! ### built-in functions -/
theorem RPL.one {H Hf : Hp} {vs : List V} {d : D} (r : RPL K W H Hf vs [d]) : ∃ v, vs = [v] ∧ RP K W H Hf v d := by
  cases r with
  | cons r t => cases t; exact ⟨_, rfl, r⟩
theorem RPL.two {H Hf : Hp} {vs : List V} {d e : D} (r : RPL K W H Hf vs [d, e]) : ∃ v w, vs = [v, w] ∧ RP K W H Hf v d ∧ RP K W H Hf w e := by
  cases r with
  | cons r t => obtain ⟨w, rfl, t1⟩ := t.one; exact ⟨_, _, rfl, r, t1⟩
def rLenU (K : PySem.W.Frag) : List V → Hp → VK → Prop := fun xs H Q => ∃ p ys, xs = [.ref p] ∧ (SqL K H p ys ∨ SqT K H p ys) ∧ Q (.int ys.length) H
theorem sqL_fz {H Hf : Hp} {a : Addr} {xs : List V} (f : Fz W Hf H) (h : SqL K Hf a xs) : SqL K H a xs := sqL_le f.le h
theorem cals_len : CalS K W (rLenU K) lenD := fun S H Hf xs as d Q f k r e q => by
  unfold lenD at e
  split at e
  · rename_i ys
    cases e
    obtain ⟨v, rfl, r1⟩ := r.one
    obtain ⟨p, us, rfl, hp, hfp, r2⟩ := r1.tupI f
    exact ⟨p, us, rfl, .inr (SqT.of hp), by rw [r2.length]; exact q _ _ _ (Stp.refl f) k (.int _)⟩
  · rename_i ys
    cases e
    obtain ⟨v, rfl, r1⟩ := r.one
    obtain ⟨p, us, rfl, hp, r2⟩ := r1.lstI f
    exact ⟨p, us, rfl, .inl (SqL.of hp), by rw [r2.length]; exact q _ _ _ (Stp.refl f) k (.int _)⟩
  · rename_i ys
    cases e
    obtain ⟨v, rfl, r1⟩ := r.one
    cases r1 with
    | rep r2 =>
      cases r2 with
      | scr h => exact ⟨_, _, rfl, .inl (sqL_fz f h), by rw [List.length_map]; exact q _ _ _ (Stp.refl f) k (.int _)⟩
  · cases e
theorem cals_abs : CalS K W (fun xs H Q => ∃ i, xs = [.int i] ∧ Q (.int (if i < 0 then -i else i)) H) absD := fun S H Hf xs as d Q f k r e q => by
  unfold absD at e
  split at e
  · cases e
    obtain ⟨v, rfl, r1⟩ := r.one
    rw [r1.intI]
    exact ⟨_, rfl, q _ _ _ (Stp.refl f) k (.int _)⟩
  · cases e
theorem cals_int : CalS K W (fun xs H Q => (∃ i, xs = [.int i] ∧ Q (.int i) H) ∨ ∃ k, xs = [.bl k] ∧ Q (.int (if k then 1 else 0)) H) intiD := fun S H Hf xs as d Q f k r e q => by
  unfold intiD at e
  split at e
  · cases e
    obtain ⟨v, rfl, r1⟩ := r.one
    rw [r1.intI]
    exact .inl ⟨_, rfl, q _ _ _ (Stp.refl f) k (.int _)⟩
  · cases e
theorem cals_min : CalS K W (fun xs H Q => ∃ i j, xs = [.int i, .int j] ∧ Q (.int (if j < i then j else i)) H) minD := fun S H Hf xs as d Q f k r e q => by
  unfold minD at e
  split at e
  · cases e
    obtain ⟨v, w, rfl, r1, t1⟩ := r.two
    rw [r1.intI, t1.intI]
    exact ⟨_, _, rfl, q _ _ _ (Stp.refl f) k (.int _)⟩
  · cases e
theorem cals_max : CalS K W (fun xs H Q => ∃ i j, xs = [.int i, .int j] ∧ Q (.int (if j > i then j else i)) H) maxD := fun S H Hf xs as d Q f k r e q => by
  unfold maxD at e
  split at e
  · cases e
    obtain ⟨v, w, rfl, r1, t1⟩ := r.two
    rw [r1.intI, t1.intI]
    exact ⟨_, _, rfl, q _ _ _ (Stp.refl f) k (.int _)⟩
  · cases e
theorem cals_tuple : CalS K W (fun xs H Q => ∃ p ys, xs = [.ref p] ∧ ((SqL K H p ys ∧ ∀ l, H l = none → Q (.ref l) (upd H l (.tup ys))) ∨ (SqT K H p ys ∧ Q (.ref p) H))) tupleD := fun S H Hf xs as d Q f k r e q => by
  unfold tupleD at e
  split at e
  · cases e
    obtain ⟨v, rfl, r1⟩ := r.one
    obtain ⟨p, us, rfl, hp, hfp, r2⟩ := r1.tupI f
    exact ⟨p, us, rfl, .inr ⟨SqT.of hp, q _ _ _ (Stp.refl f) k (.tup hfp r2)⟩⟩
  · cases e
    obtain ⟨v, rfl, r1⟩ := r.one
    obtain ⟨p, us, rfl, hp, r2⟩ := r1.lstI f
    exact ⟨p, us, rfl, .inl ⟨SqL.of hp, newTup f k r2 q⟩⟩
  · cases e
theorem cals_list : CalS K W (fun xs H Q => ∃ p ys, xs = [.ref p] ∧ (SqL K H p ys ∨ SqT K H p ys) ∧ ∀ l, H l = none → Q (.ref l) (upd H l (.lst ys))) listD := fun S H Hf xs as d Q f k r e q => by
  unfold listD at e
  split at e
  · cases e
    obtain ⟨v, rfl, r1⟩ := r.one
    obtain ⟨p, us, rfl, hp, hfp, r2⟩ := r1.tupI f
    exact ⟨p, us, rfl, .inr (SqT.of hp), newLst f k r2 q⟩
  · cases e
    obtain ⟨v, rfl, r1⟩ := r.one
    obtain ⟨p, us, rfl, hp, r2⟩ := r1.lstI f
    exact ⟨p, us, rfl, .inl (SqL.of hp), newLst f k r2 q⟩
  · cases e
theorem RepL.bls {Hf : Hp} : ∀ {us : List V} {ds : List D} {bs : List Bool}, RepL K W Hf us ds → allBl ds = some bs → us = bs.map V.bl
  | _, _, _, .nil, e => by cases e; rfl
  | _, _, bs, .cons (ds := ds) r t, e => by
    cases r with
    | bl b =>
      obtain ⟨cs, h1, rfl⟩ := map_some (show (allBl ds).map (b :: ·) = some bs from e)
      rw [RepL.bls t h1]
      rfl
    | _ => cases e
theorem cals_all : CalS K W (rAll K) allD := fun S H Hf xs as d Q f k r e q => by
  unfold allD at e
  split at e
  · obtain ⟨bs, hb, rfl⟩ := map_some e
    obtain ⟨v, rfl, r1⟩ := r.one
    obtain ⟨p, us, rfl, hp, r2⟩ := r1.lstI f
    rw [r2.bls hb] at hp
    exact ⟨p, bs, rfl, SqL.of hp, q _ _ _ (Stp.refl f) k (.bl _)⟩
  · cases e
theorem cals_any : CalS K W (rAny K) anyD := fun S H Hf xs as d Q f k r e q => by
  unfold anyD at e
  split at e
  · obtain ⟨bs, hb, rfl⟩ := map_some e
    obtain ⟨v, rfl, r1⟩ := r.one
    obtain ⟨p, us, rfl, hp, r2⟩ := r1.lstI f
    rw [r2.bls hb] at hp
    exact ⟨p, bs, rfl, SqL.of hp, q _ _ _ (Stp.refl f) k (.bl _)⟩
  · cases e
/-- repr, where the guards are known -/
def rReprD (K : PySem.W.Frag) : List V → Hp → VK → Prop := fun xs H Q => ∃ v p, xs = [v] ∧ Dp K H v p ∧ SeqAt.shaped p = true ∧ p.showable = true ∧ p.hasDict = false ∧ p.shown.length ≤ sizeLine ∧ Q (.str p.shown) H
theorem call_reprD {X : Cx} (hu : X.A.units + 200 < cLine) (hg : X.A.guards = some []) : CallR X (.builtin "repr") (rReprD X.K) := by
  intro pins s σ H xs us Q I r ⟨v, p, e, hd, hs, hw, hn, hz, q⟩
  subst e
  obtain ⟨u, rfl, rx⟩ := vals1 r
  obtain ⟨as, r1⟩ := Dp.reads I p v u hd rx
  have hp : p.depth ≤ 64 := by
    have h : (p.canLay0 && decide (p.depth ≤ 64)) = true := hs
    rw [Bool.and_eq_true] at h
    exact of_decide_eq_true h.2
  have big : ∀ a, u = .ref a → wpAny (model X.prog X.w) X.A (call (.builtin "repr") [u]) (EP X pins σ Q) X.xe s := fun a e => by
    subst e
    exact repr_of_reads' r1 hw (fun z => by rw [hn] at z; cases z) hg (by omega) (fun _ _ e => e) (fun h' t tk hk => ⟨.str _, H, I.kept (t' := tk) hk, ⟨_, rfl⟩, q⟩) hz
  have r2 := r1
  cases r1 with
  | none => exact PySem.P.repr_of_none ⟨.str _, H, I.tok _, ⟨_, rfl⟩, q⟩
  | bool => exact PySem.P.repr_of_bool ⟨.str _, H, I.tok _, ⟨_, rfl⟩, q⟩
  | int => exact PySem.P.repr_of_int (of_decide_eq_true hw) ⟨.str _, H, I.tok _, ⟨_, rfl⟩, q⟩
  | str => exact PySem.P.repr_of_str ⟨.str _, H, I.tok _, ⟨_, rfl⟩, q⟩ hz
  | list _ _ _ _ => exact big _ rfl
  | tuple _ _ _ _ => exact big _ rfl
  | dict _ _ _ _ _ => exact big _ rfl
mutual
theorem noDict : ∀ {d : D} {p : PyData}, d.toPy = some p → p.hasDict = false
  | .non, _, e => by cases e; rfl
  | .bl _, _, e => by cases e; rfl
  | .int _, _, e => by cases e; rfl
  | .str _, _, e => by cases e; rfl
  | .tup xs, p, e => by
    obtain ⟨ps, h, rfl⟩ := map_some (show (D.toPys xs).map PyData.tuple = some p from e)
    exact noDicts h
  | .lst xs, p, e => by
    obtain ⟨ps, h, rfl⟩ := map_some (show (D.toPys xs).map PyData.list = some p from e)
    exact noDicts h
  | .dct _, _, e => by cases e
  | .obj _ _, _, e => by cases e
  | .exc _ _, _, e => by cases e
  | .st, _, e => by cases e
  | .scr _, _, e => by cases e
theorem noDicts : ∀ {ds : List D} {ps : List PyData}, D.toPys ds = some ps → PyData.hasDictAll ps = false
  | [], _, e => by cases e; rfl
  | d :: ds, ps, e => by
    have e1 : (match D.toPy d, D.toPys ds with
      | some a, some b => some (a :: b)
      | _, _ => none) = some ps := e
    cases q1 : D.toPy d with
    | none => rw [q1] at e1; cases e1
    | some a =>
      cases q2 : D.toPys ds with
      | none => rw [q1, q2] at e1; cases e1
      | some b =>
        rw [q1, q2] at e1
        cases e1
        show (PyData.hasDict a || PyData.hasDictAll b) = false
        rw [noDict q1, noDicts q2]
        rfl
end
theorem cals_repr : CalS K W (rReprD K) reprLD := fun S H Hf xs as d Q f k r e q => by
  unfold reprLD at e
  split at e
  · obtain ⟨t, ht, rfl⟩ := map_some e
    obtain ⟨v, rfl, r1⟩ := r.one
    unfold reprD at ht
    split at ht
    · rename_i p hp
      obtain ⟨⟨h1, h2⟩, rfl⟩ := ite_some ht
      obtain ⟨h3, h4⟩ := okPy_inv hp
      exact ⟨v, p, rfl, r1.dp f h3, h4, h1, noDict h3, h2, q _ _ _ (Stp.refl f) k (.str _)⟩
    · cases ht
  · cases e
def rReprB : List V → Hp → VK → Prop := fun xs H Q => ∃ b : Bool, xs = [.bl b] ∧ Q (.str (if b then "True" else "False")) H
theorem call_reprB {X : Cx} : CallR X (.builtin "repr") rReprB := by
  intro pins s σ H xs us Q I r ⟨b, e, q⟩
  subst e
  obtain ⟨u, rfl, rx⟩ := vals1 r
  cases rx
  exact PySem.P.repr_of_bool ⟨.str _, H, I.tok _, ⟨_, rfl⟩, q⟩
theorem cals_reprB : CalS K W rReprB reprBD := fun S H Hf xs as d Q f k r e q => by
  unfold reprBD at e
  split at e
  · rename_i b
    cases e
    obtain ⟨v, rfl, r1⟩ := r.one
    rw [r1.blI]
    exact ⟨b, rfl, q _ _ _ (Stp.refl f) k (.str _)⟩
  · cases e

/-! ### isinstance -/
/-- a class by its name -/
def cvA (K : PySem.W.Frag) (G : Tb) (c : String) : Value := if G.own c then .ref (He.ga K (Str.ofString c)) else .type c
def cvV (K : PySem.W.Frag) (G : Tb) (c : String) : V := if G.own c then .ref (He.ga K (Str.ofString c)) else .ty c
theorem cvV_rel (K : PySem.W.Frag) (G : Tb) (c : String) : RelV (cvV K G c) (cvA K G c) := by
  unfold cvA cvV
  cases G.own c <;> rfl
structure InsF (K : PySem.W.Frag) (C : Addr) : Prop where
  cl : Cls K C
  ha : PySem.W.findIn K (.ref C) "__class__" = some (some (.builtin "object.__class__"))
  hn : PySem.W.specialIn K (.builtin "object.__class__") "__get__" = some (some (.builtin "getset_descriptor.__get__"))
  ht : PySem.W.takesIn K (.builtin "object.__class__") = some true
  hm : PySem.W.mroIn K C (.type "object") = some true
/-- what the written part says of the classes -/
structure GOk (K : PySem.W.Frag) (G : Tb) : Prop where
  obs : ∀ c ∈ G.obs, InsF K (He.ga K (Str.ofString c))
  exs : ∀ c ∈ G.exs, ExcC K (He.ga K (Str.ofString c))
  nat : ∀ c ∈ G.obs, ∀ f ∈ G.fl, NoAttr K (He.ga K (Str.ofString c)) (Str.ofString f)
  nob : ∀ c ∈ ["NoneType", "bool", "int", "str", "tuple", "list", "dict"], G.own c = false
  tab : ∀ c t b, G.tab.lookup (c, t) = some b → PySem.W.kitOne K (cvA K G c) (cvA K G t) = some b
theorem GOk.isN {G : Tb} (g : GOk K G) {c t : String} {b : Bool} (h : Oi.isN G c t = some b) : PySem.W.kitOne K (cvA K G c) (cvA K G t) = some b := by
  unfold Oi.isN at h
  cases e : (G.own c || G.own t) with
  | true => rw [e, if_pos rfl] at h; exact g.tab c t b h
  | false =>
    rw [e, if_neg (by decide)] at h
    rw [Bool.or_eq_false_iff] at e
    unfold cvA
    rw [e.1, e.2, if_neg (by decide), if_neg (by decide)]
    exact kit_ty h
def rIsX (K : PySem.W.Frag) : List V → Hp → VK → Prop := fun xs H Q => ∃ (a D : Addr) (c : V) (cv : Value) (b : Bool), xs = [.ref a, c] ∧ H a = some (exHO (.ref D) none a) ∧ ExcC K D ∧ ClsV c cv ∧ PySem.W.kitOne K (.ref D) cv = some b ∧ Q (.bl b) H
theorem call_isX {X : Cx} : CallR X (.builtin "isinstance") (rIsX X.K) := by
  intro pins s σ H xs us Q I r ⟨a, D, c, cv, b, e, ha, hC, rc, hk, q⟩
  subst e
  cases r with
  | cons rx rr =>
    cases rr with
    | cons rt rr =>
      cases rr
      cases rx
      rename_i u
      have ec : u = cv := rc.eq rt
      subst ec
      obtain ⟨oe, vs, h1, h2, h3⟩ : ∃ (oe : Obj) (vs : Array Value), s.heap.get? a = some oe ∧ Zc (.ref D) none oe ∧ oe.data = .fields vs := (I.hok a _ ha).1
      have J : PySem.W.InstAt s.heap a oe D none := by
        obtain ⟨oc, od, dt, sl⟩ := oe
        obtain ⟨z1, z2⟩ := h2
        dsimp only at z1 z2 h3
        subst z1 z2 h3
        exact ⟨h1, rfl, rfl, trivial⟩
      have hK := PySem.W.handS_kitx_exc (x := a) (ox := oe) hC.hg hC.hk hC.hs hC.hd hC.ha hC.hn hC.ht hC.hm
      exact PySem.W.kia_one hK I.kIn J hk (fun z => nomatch z) fun tk => ⟨.bl b, H, I.kept (t' := tk) fun _ _ z => z, rfl, q⟩
def rIsU (K : PySem.W.Frag) : List V → Hp → VK → Prop := fun xs H Q => rIsi K xs H Q ∨ rIsX K xs H Q
theorem call_isU {X : Cx} : CallR X (.builtin "isinstance") (rIsU X.K) := call_isi.or call_isX
theorem clsV_of (K : PySem.W.Frag) (G : Tb) (t : String) : ClsV (cvV K G t) (cvA K G t) := by
  unfold cvA cvV
  cases G.own t with
  | true => exact .own _
  | false => exact .ty _
theorem isD_ok {G : Tb} (g : GOk K G) {H Hf : Hp} {v : V} {d : D} {t : String} {b : Bool} {Q : VK} (r : RP K W H Hf v d) (f : Fz W Hf H) (e : isD G d t = some b) (q : Q (.bl b) H) : rIsU K [v, cvV K G t] H Q := by
  have r1 := r.full f
  unfold isD at e
  cases ec : clN G d with
  | none => rw [ec] at e; cases e
  | some c =>
    rw [ec] at e
    have hk := g.isN e
    have kit : ∀ own : String, TyX K H v (.type own) → own ∈ ["NoneType", "bool", "int", "str", "tuple", "list", "dict"] → c = own → rIsU K [v, cvV K G t] H Q := fun own ht ho z => by
      subst z
      refine .inl ⟨v, cvV K G t, .type c, cvA K G t, b, rfl, clsV_of K G t, ht, ?_, q⟩
      have e1 : cvA K G c = .type c := by unfold cvA; rw [g.nob c ho]; rfl
      rw [← e1]
      exact hk
    have isOwn : ∀ c', (if c' ∈ G.obs ∨ c' ∈ G.exs then True else False) → cvA K G c' = .ref (He.ga K (Str.ofString c')) := fun c' h => by
      have h : c' ∈ G.obs ∨ c' ∈ G.exs := by split at h <;> first | assumption | exact h.elim
      have e1 : G.own c' = true := by
        unfold Tb.own
        rw [Bool.or_eq_true]
        exact h.imp List.contains_iff_mem.mpr List.contains_iff_mem.mpr
      unfold cvA
      rw [e1]
      rfl
    cases d with
    | non => cases r1; cases ec; exact kit _ (.base .non) (by simp) rfl
    | bl b => cases r1; cases ec; exact kit _ (.base (.bl b)) (by simp) rfl
    | int i => cases r1; cases ec; exact kit _ (.base (.int i)) (by simp) rfl
    | str x => cases r1; cases ec; exact kit _ (.base (.str x)) (by simp) rfl
    | tup xs => cases r1 with | tup h _ => cases ec; exact kit _ (.base (.tup h)) (by simp) rfl
    | lst xs => cases r1 with | lst h _ => cases ec; exact kit _ (.base (.lst h)) (by simp) rfl
    | dct kvs => cases r1 with | dct h _ => cases ec; exact kit _ (.base (.dK h)) (by simp) rfl
    | obj c' fs =>
      have e1 : (if G.obs.contains c' then some c' else none) = some c := ec
      obtain ⟨h1, rfl⟩ := ite_some e1
      have hm := List.contains_iff_mem.mp h1
      rw [isOwn c (by rw [if_pos (.inl hm)]; trivial)] at hk
      have F := g.obs c hm
      cases r1 with
      | obj h _ => exact .inl ⟨_, cvV K G t, _, cvA K G t, b, rfl, clsV_of K G t, .base (.ins h F.cl F.ha F.hn F.ht F.hm), hk, q⟩
    | exc c' fs =>
      have e1 : (if G.exs.contains c' && fs.isEmpty then some c' else none) = some c := ec
      obtain ⟨h1, rfl⟩ := ite_some e1
      rw [Bool.and_eq_true] at h1
      have hm := List.contains_iff_mem.mp h1.1
      rw [isOwn c (by rw [if_pos (.inr hm)]; trivial)] at hk
      have F := g.exs c hm
      cases r1 with
      | exc0 h => exact .inr ⟨_, _, cvV K G t, cvA K G t, b, rfl, h, F, clsV_of K G t, hk, q⟩
      | exc1 h h2 r3 ne => exact absurd (List.isEmpty_iff.mp h1.2) ne
    | st => cases ec
    | scr _ => cases ec
/-- e.f -/
theorem sat_fld {E : XK} {G : Tb} (g : GOk K G) {f : String} {t : TE} {m : Rho → M D} (h : SatP K W E t m) : Sat K W E (tFld K t (Str.ofString f)) (fun ρ => bnd (m ρ) fun x => lft (fldD G x f)) := fun H0 ρ S σ H Hf Q I p => by
  refine h H0 ρ S σ H Hf _ I (p.bind.mono fun x H1 ⟨d, S1, Hf1, e1, s1, k1, r1, p1⟩ => ?_)
  obtain ⟨z, hz, q⟩ := p1.lft
  unfold fldD at hz
  split at hz
  · rename_i c fs
    have hz : (if (G.obs.contains c && G.fl.contains f) = true then fs.lookup f else none) = some z := hz
    by_cases hc : (G.obs.contains c && G.fl.contains f) = true
    case neg => rw [if_neg hc] at hz; cases hz
    rw [if_pos hc] at hz
    have hc3 := hz
    rw [Bool.and_eq_true] at hc
    obtain ⟨hc1, hc2⟩ := hc
    have hc1 := List.contains_iff_mem.mp hc1
    have hc2 := List.contains_iff_mem.mp hc2
    cases r1 with
    | rep r1 =>
      cases r1 with
      | obj ha rf =>
        obtain ⟨v, hv, rv⟩ := rf.lookup hc3
        exact ⟨_, _, _, _, v, rfl, s1.fz.le _ _ ha, (g.obs c hc1).cl, g.nat c hc1 f hc2, hv, q _ _ _ (Stp.refl s1.fz) k1 rv⟩
  · cases hz
end
end Oi

/-! Oi, part E: what is walked; comprehensions. -/
namespace Oi
open PySem PySem.Spec PyProof.Rows L2 RZ

section
variable {K : PySem.W.Frag} {W : Wd} {E : XK}
/-- where a walk goes on: behind steps (true), behind anything that keeps the frozen part (false) -/
def Way (W : Wd) (w : Bool) (H Hf H' Hf' : Hp) : Prop := match w with
  | true => Stp W H Hf H' Hf'
  | false => Le Hf Hf'
theorem Way.refl {w : Bool} {H Hf : Hp} (f : Fz W Hf H) : Way W w H Hf H Hf := by
  cases w with
  | true => exact Stp.refl f
  | false => exact Le.refl _
theorem Way.of {w : Bool} {H Hf H' Hf' : Hp} (s : Stp W H Hf H' Hf') : Way W w H Hf H' Hf' := by
  cases w with
  | true => exact s
  | false => exact s.le
theorem Way.step {w : Bool} {H Hf H' Hf' H2 Hf2 : Hp} (s : Stp W H Hf H' Hf') (t : Way W w H' Hf' H2 Hf2) : Way W w H Hf H2 Hf2 := by
  cases w with
  | true => exact s.trans t
  | false => exact s.le.trans t
/-- a value as a walk wants it -/
def RQ (K : PySem.W.Frag) (W : Wd) (w : Bool) : Hp → Hp → V → D → Prop := match w with
  | true => RP K W
  | false => RE K W
theorem RQ.way {w : Bool} {H Hf H' Hf' : Hp} {v : V} {d : D} (r : RQ K W w H Hf v d) (t : Way W w H Hf H' Hf') : RP K W H' Hf' v d := by
  cases w with
  | true => exact RP.step r t
  | false => exact .rep (Rep.mono t r)
theorem RQ.step {w : Bool} {H Hf H' Hf' : Hp} {v : V} {d : D} (r : RQ K W w H Hf v d) (s : Stp W H Hf H' Hf') : RQ K W w H' Hf' v d := by
  cases w with
  | true => exact RP.step r s
  | false => exact Rep.mono s.le r
/-- J walks ds -/
structure ItA (K : PySem.W.Frag) (W : Wd) (w : Bool) (H Hf : Hp) (J : It) (ds : List D) : Prop where
  go : ∀ (i : Nat) (d : D), ds[i]? = some d → ∀ (S : DS) (H' Hf' : Hp), Way W w H Hf H' Hf' → Fz W Hf' H' → DOk W S H' → J.go i H' ∧ ∀ x H'', J.yld i H' x H'' → ∃ Hf'', Stp W H' Hf' H'' Hf'' ∧ DOk W S H'' ∧ Rep K W Hf'' x d
  stop : ∀ (H' Hf' : Hp), Way W w H Hf H' Hf' → Fz W Hf' H' → J.stop ds.length H'
theorem ItA.step {w : Bool} {H Hf H' Hf' : Hp} {J : It} {ds : List D} (r : ItA K W w H Hf J ds) (s : Stp W H Hf H' Hf') : ItA K W w H' Hf' J ds :=
  ⟨fun i d e S H2 Hf2 t => r.go i d e S H2 Hf2 (Way.step s t), fun H2 Hf2 t => r.stop H2 Hf2 (Way.step s t)⟩
def SatQ (K : PySem.W.Frag) (W : Wd) (E : XK) (w : Bool) (t : TE) (m : Rho → M D) : Prop := ∀ (H0 : En) (ρ : Rho) (S : DS) (σ : L2.St) (H Hf : Hp) (Q : VK), StOk K W H0 ρ S σ H Hf → PostG K W E (RQ K W w) H Hf (m ρ S) Q → t σ H Q
def SatI (K : PySem.W.Frag) (W : Wd) (E : XK) (w : Bool) (t : TI) (m : Rho → M (List D)) : Prop := ∀ (H0 : En) (ρ : Rho) (S : DS) (σ : L2.St) (H Hf : Hp) (Q : It → Hp → Prop), StOk K W H0 ρ S σ H Hf → PostG K W E (ItA K W w) H Hf (m ρ S) Q → t σ H Q
theorem satQ_of {w : Bool} {t : TE} {m m' : Rho → M D} (h : Sat K W E t m) (hp : SatP K W E t m') : SatQ K W E w t (fun ρ => match w with
    | true => m' ρ
    | false => m ρ) := fun H0 ρ S σ H Hf Q I p => by
  cases w with
  | true => exact hp H0 ρ S σ H Hf Q I p
  | false => exact h H0 ρ S σ H Hf Q I p

/-! ### lists, tuples -/
/-- what is walked is a list or a tuple -/
def iSeq (K : PySem.W.Frag) (tl : TE) : TI := fun σ H R => tl σ H fun x H1 => ∃ a, x = .ref a ∧ (((∃ xs, SqL K H1 a xs) ∧ R (Itl K a) H1) ∨ ((∃ xs, SqT K H1 a xs) ∧ R (Itt K a) H1))
theorem pi_seq {X : Cx} {tg l : Expr} {tl : TE} (hl : PE X l tl) : PI X tg l (iSeq X.K tl) := by
  refine ⟨fun pins s σ H R I h => ?_⟩
  refine thn (hl.run pins s σ H _ I h) fun v s1 ⟨x, H1, I1, r1, a, e, q⟩ => ?_
  subst e
  cases r1
  have new : ∀ b ∈ [s1.heap.objs.size], FpOk X pins H1 b := fun b hb => by
    have e : b = s1.heap.objs.size := by simpa using hb
    subst e
    exact I1.fpOk (Nat.le_refl _) (I1.hok.fresh (Nat.le_refl _))
  rcases q with ⟨⟨xs, hq⟩, q⟩ | ⟨⟨xs, hq⟩, q⟩
  · obtain ⟨its, rv, p, hz⟩ := I1.list hq
    exact wpAny_pyIter_list p.isList ⟨_, [s1.heap.objs.size], _, _, H1, rfl, I1.kept (t' := s1.toks) fun b o e => Heap.get?_push_of_some _ e, turn_list a _, ⟨_, Heap.get?_push_size _ rfl, rfl, rfl⟩, new, q⟩
  · obtain ⟨its, rv, p, hz⟩ := I1.tuple hq
    exact wpAny_pyIter_tuple (show s1.heap.IsTuple a its.toArray from p) ⟨_, [s1.heap.objs.size], _, _, H1, rfl, I1.kept (t' := s1.toks) fun b o e => Heap.get?_push_of_some _ e, turn_tuple a _, ⟨_, Heap.get?_push_size _ rfl, rfl, rfl⟩, new, q⟩
/-- its items at any later time -/
theorem RQ.els {w : Bool} {H Hf : Hp} {v : V} {d : D} {ds : List D} (r : RQ K W w H Hf v d) (f : Fz W Hf H) (e : elems d = some ds) :
    ∃ a xs, v = .ref a ∧ ((∀ H' Hf', Way W w H Hf H' Hf' → Fz W Hf' H' → H' a = some (.lst xs) ∧ RepL K W Hf' xs ds) ∨ (∀ H' Hf', Way W w H Hf H' Hf' → Fz W Hf' H' → H' a = some (.tup xs) ∧ RepL K W Hf' xs ds)) := by
  have own : ∀ {a : Addr} {xs : List V} {es : List D}, w = true → H a = some (.lst xs) → RepL K W Hf xs es → a ≠ W.st → a ≠ W.l1 → ∀ H' Hf', Way W w H Hf H' Hf' → Fz W Hf' H' → H' a = some (.lst xs) ∧ RepL K W Hf' xs es := fun {a xs es} hw h rl n1 n2 H' Hf' t _ => by
    subst hw
    have t1 : Stp W H Hf H' Hf' := t
    exact ⟨t1.kp.keep _ _ h n1 n2 (fun ps z => nomatch z), rl.mono t1.le⟩
  have le : ∀ {H' Hf' : Hp}, Way W w H Hf H' Hf' → Le Hf Hf' := fun {H' Hf'} t => by
    cases w with
    | true => exact Stp.le t
    | false => exact t
  have rep : ∀ {v : V} {d : D}, Rep K W Hf v d → elems d = some ds → ∃ a xs, v = .ref a ∧ ((∀ H' Hf', Way W w H Hf H' Hf' → Fz W Hf' H' → H' a = some (.lst xs) ∧ RepL K W Hf' xs ds) ∨ (∀ H' Hf', Way W w H Hf H' Hf' → Fz W Hf' H' → H' a = some (.tup xs) ∧ RepL K W Hf' xs ds)) := fun {v d} r e => by
    cases r with
    | lst h rl => cases e; exact ⟨_, _, rfl, .inl fun H' Hf' t f' => ⟨f'.le _ _ (le t _ _ h), rl.mono (le t)⟩⟩
    | tup h rl => cases e; exact ⟨_, _, rfl, .inr fun H' Hf' t f' => ⟨f'.le _ _ (le t _ _ h), rl.mono (le t)⟩⟩
    | _ => cases e
  cases w with
  | false => exact rep r e
  | true =>
    cases (show RP K W H Hf v d from r) with
    | rep r1 => exact rep r1 e
    | own h rl n1 n2 => cases e; exact ⟨_, _, rfl, .inl (own rfl h rl n1 n2)⟩
theorem it_lst {w : Bool} {H Hf : Hp} {a : Addr} {xs : List V} {ds : List D} (h : ∀ H' Hf', Way W w H Hf H' Hf' → Fz W Hf' H' → H' a = some (.lst xs) ∧ RepL K W Hf' xs ds) : ItA K W w H Hf (Itl K a) ds := by
  refine ⟨fun i d e S H' Hf' t f k => ?_, fun H' Hf' t f => ?_⟩
  · obtain ⟨h1, rl⟩ := h H' Hf' t f
    obtain ⟨x, hx, rx⟩ := rl.get' e
    refine ⟨⟨xs, x, SqL.of h1, hx⟩, fun y H'' ⟨e1, e2⟩ => ?_⟩
    subst e1
    have e3 := e2 xs (SqL.of h1)
    rw [hx] at e3
    cases e3
    exact ⟨Hf', Stp.refl f, k, rx⟩
  · obtain ⟨h1, rl⟩ := h H' Hf' t f
    exact ⟨xs, SqL.of h1, Nat.le_of_eq rl.length⟩
theorem it_tup {w : Bool} {H Hf : Hp} {a : Addr} {xs : List V} {ds : List D} (h : ∀ H' Hf', Way W w H Hf H' Hf' → Fz W Hf' H' → H' a = some (.tup xs) ∧ RepL K W Hf' xs ds) : ItA K W w H Hf (Itt K a) ds := by
  refine ⟨fun i d e S H' Hf' t f k => ?_, fun H' Hf' t f => ?_⟩
  · obtain ⟨h1, rl⟩ := h H' Hf' t f
    obtain ⟨x, hx, rx⟩ := rl.get' e
    refine ⟨⟨xs, x, SqT.of h1, hx⟩, fun y H'' ⟨e1, e2⟩ => ?_⟩
    subst e1
    have e3 := e2 xs (SqT.of h1)
    rw [hx] at e3
    cases e3
    exact ⟨Hf', Stp.refl f, k, rx⟩
  · obtain ⟨h1, rl⟩ := h H' Hf' t f
    exact ⟨xs, SqT.of h1, Nat.le_of_eq rl.length⟩
theorem sat_itS {w : Bool} {t : TE} {m : Rho → M D} (h : SatQ K W E w t m) : SatI K W E w (iSeq K t) (fun ρ => bnd (m ρ) fun x => lft (elems x)) := fun H0 ρ S σ H Hf Q I p => by
  refine h H0 ρ S σ H Hf _ I (p.bind.mono fun x H1 ⟨d, S1, Hf1, e1, s1, k1, r1, p1⟩ => ?_)
  obtain ⟨ds, hd, q⟩ := p1.lft
  obtain ⟨a, xs, rfl, hh⟩ := RQ.els r1 s1.fz hd
  rcases hh with hh | hh
  · exact ⟨a, rfl, .inl ⟨⟨xs, SqL.of (hh _ _ (Way.refl s1.fz) s1.fz).1⟩, q _ _ _ (Stp.refl s1.fz) k1 (it_lst hh)⟩⟩
  · exact ⟨a, rfl, .inr ⟨⟨xs, SqT.of (hh _ _ (Way.refl s1.fz) s1.fz).1⟩, q _ _ _ (Stp.refl s1.fz) k1 (it_tup hh)⟩⟩

/-! ### ranges -/
theorem it_rng {w : Bool} {H Hf : Hp} (lo : Int) (n : Nat) : ItA K W w H Hf (Itr lo n) ((List.range n).map fun (k : Nat) => D.int (lo + k)) := by
  refine ⟨fun i d e S H' Hf' t f k => ?_, fun H' Hf' t f => ?_⟩
  · rw [List.getElem?_map] at e
    obtain ⟨j, hj, rfl⟩ := map_some e
    have hi : i < n := by
      have := (List.getElem?_eq_some_iff.mp hj).1
      rwa [List.length_range] at this
    rw [List.getElem?_range hi] at hj
    cases hj
    refine ⟨hi, fun x H'' ⟨e1, e2⟩ => ?_⟩
    subst e1
    subst e2
    exact ⟨Hf', Stp.refl f, k, .int _⟩
  · show n ≤ _
    rw [List.length_map, List.length_range]
    exact Nat.le_refl _
theorem sat_itR1 {w : Bool} {t : TA} {m : Rho → M (List D)} (h : SatA K W E t m) (h1 : ∀ ρ S ds S', m ρ S = some (.ok ds, S') → ds.length = 1) : SatI K W E w (iRng1 t) (fun ρ => bnd (m ρ) fun ds => lft (rngD ds)) := fun H0 ρ S σ H Hf Q I p => by
  refine h H0 ρ S σ H Hf _ I (p.bind.mono fun x H1 ⟨d, S1, Hf1, e1, s1, k1, r1, p1⟩ => ?_)
  obtain ⟨ds, hd, q⟩ := p1.lft
  have hl := h1 ρ S d S1 e1
  cases r1 with
  | nil => cases hl
  | cons r t =>
    cases t with
    | cons _ _ => simp at hl
    | nil =>
      cases r with
      | int n =>
        obtain ⟨⟨c1, c2⟩, rfl⟩ := ite_some (show (if sz n.toNat = true ∧ -10000000 < n then some ((List.range n.toNat).map fun (k : Nat) => D.int k) else none) = some ds from hd)
        have c3 : n.toNat < 10000000 := of_decide_eq_true c1
        refine ⟨n, rfl, by omega, by omega, ?_⟩
        have z := it_rng (K := K) (W := W) (w := w) (H := H1) (Hf := Hf1) 0 n.toNat
        simp only [Int.zero_add] at z
        exact q _ _ _ (Stp.refl s1.fz) k1 z
      | _ => cases hd
theorem sat_itR2 {w : Bool} {t : TA} {m : Rho → M (List D)} (h : SatA K W E t m) (h1 : ∀ ρ S ds S', m ρ S = some (.ok ds, S') → ds.length = 2) : SatI K W E w (iRng2 t) (fun ρ => bnd (m ρ) fun ds => lft (rngD ds)) := fun H0 ρ S σ H Hf Q I p => by
  refine h H0 ρ S σ H Hf _ I (p.bind.mono fun x H1 ⟨d, S1, Hf1, e1, s1, k1, r1, p1⟩ => ?_)
  obtain ⟨ds, hd, q⟩ := p1.lft
  have hl := h1 ρ S d S1 e1
  cases r1 with
  | nil => cases hl
  | cons r t =>
    cases t with
    | nil => simp at hl
    | cons r' t =>
      cases t with
      | cons _ _ => simp at hl
      | nil =>
        cases r with
        | int a =>
          cases r' with
          | int b =>
            obtain ⟨⟨c1, c2, c3, c5⟩, rfl⟩ := ite_some (show (if sz (b - a).toNat = true ∧ -10000000 < a ∧ a < 10000000 ∧ -10000000 < b then some ((List.range (b - a).toNat).map fun (k : Nat) => D.int (a + k)) else none) = some ds from hd)
            have c4 : (b - a).toNat < 10000000 := of_decide_eq_true c1
            exact ⟨a, b, rfl, ⟨by omega, by omega, by omega, by omega⟩, q _ _ _ (Stp.refl s1.fz) k1 (it_rng a (b - a).toNat)⟩
          | _ => cases hd
        | _ => cases hd

/-! ### zip -/
theorem it_zip {w : Bool} {H Hf : Hp} {a b : Addr} {xs ys : List V} {ds es : List D} (h : ∀ H' Hf', Way W w H Hf H' Hf' → Fz W Hf' H' → H' a = some (.lst xs) ∧ RepL K W Hf' xs ds)
    (h2 : ∀ H' Hf', Way W w H Hf H' Hf' → Fz W Hf' H' → H' b = some (.lst ys) ∧ RepL K W Hf' ys es) : ItA K W w H Hf (Itz K a b) (ds.zipWith (fun p q => D.tup [p, q]) es) := by
  refine ⟨fun i d e S H' Hf' t f k => ?_, fun H' Hf' t f => ?_⟩
  · obtain ⟨g1, r1⟩ := h H' Hf' t f
    obtain ⟨g2, r2⟩ := h2 H' Hf' t f
    rw [List.getElem?_zipWith] at e
    cases q1 : ds[i]? with
    | none => rw [q1] at e; cases e
    | some d1 =>
      cases q2 : es[i]? with
      | none => rw [q1, q2] at e; cases e
      | some d2 =>
        rw [q1, q2] at e
        cases e
        obtain ⟨x, hx, rx⟩ := r1.get' q1
        obtain ⟨y, hy, ry⟩ := r2.get' q2
        refine ⟨⟨xs, ys, x, y, SqL.of g1, SqL.of g2, hx, hy⟩, fun v H'' ⟨T, x', y', e1, e2, e3, e4, e5⟩ => ?_⟩
        subst e1
        subst e3
        have c1 := e4 xs (SqL.of g1)
        have c2 := e5 ys (SqL.of g2)
        rw [hx] at c1
        rw [hy] at c2
        cases c1
        cases c2
        have s := Stp.new (o := .tup [x, y]) f e2 k.n1 k.n2 fun ps z => nomatch z
        exact ⟨_, s, k.new e2, .tup upd_same (.cons (rx.mono s.le) (.cons (ry.mono s.le) .nil))⟩
  · obtain ⟨g1, r1⟩ := h H' Hf' t f
    obtain ⟨g2, r2⟩ := h2 H' Hf' t f
    refine ⟨xs, ys, SqL.of g1, SqL.of g2, ?_⟩
    rw [List.length_zipWith, r1.length, r2.length]
    omega
theorem it_zipT {w : Bool} {H Hf : Hp} {a b : Addr} {xs ys : List V} {ds es : List D} (h : ∀ H' Hf', Way W w H Hf H' Hf' → Fz W Hf' H' → H' a = some (.tup xs) ∧ RepL K W Hf' xs ds)
    (h2 : ∀ H' Hf', Way W w H Hf H' Hf' → Fz W Hf' H' → H' b = some (.tup ys) ∧ RepL K W Hf' ys es) : ItA K W w H Hf (ItzT K a b) (ds.zipWith (fun p q => D.tup [p, q]) es) := by
  refine ⟨fun i d e S H' Hf' t f k => ?_, fun H' Hf' t f => ?_⟩
  · obtain ⟨g1, r1⟩ := h H' Hf' t f
    obtain ⟨g2, r2⟩ := h2 H' Hf' t f
    rw [List.getElem?_zipWith] at e
    cases q1 : ds[i]? with
    | none => rw [q1] at e; cases e
    | some d1 =>
      cases q2 : es[i]? with
      | none => rw [q1, q2] at e; cases e
      | some d2 =>
        rw [q1, q2] at e
        cases e
        obtain ⟨x, hx, rx⟩ := r1.get' q1
        obtain ⟨y, hy, ry⟩ := r2.get' q2
        refine ⟨⟨xs, ys, x, y, SqT.of g1, SqT.of g2, hx, hy⟩, fun v H'' ⟨T, x', y', e1, e2, e3, e4, e5⟩ => ?_⟩
        subst e1
        subst e3
        have c1 := e4 xs (SqT.of g1)
        have c2 := e5 ys (SqT.of g2)
        rw [hx] at c1
        rw [hy] at c2
        cases c1
        cases c2
        have s := Stp.new (o := .tup [x, y]) f e2 k.n1 k.n2 fun ps z => nomatch z
        exact ⟨_, s, k.new e2, .tup upd_same (.cons (rx.mono s.le) (.cons (ry.mono s.le) .nil))⟩
  · obtain ⟨g1, r1⟩ := h H' Hf' t f
    obtain ⟨g2, r2⟩ := h2 H' Hf' t f
    refine ⟨xs, ys, SqT.of g1, SqT.of g2, ?_⟩
    rw [List.length_zipWith, r1.length, r2.length]
    omega
theorem RQ.lst {w : Bool} {H Hf : Hp} {v : V} {ds : List D} (r : RQ K W w H Hf v (.lst ds)) (f : Fz W Hf H) : ∃ a xs, v = .ref a ∧ ∀ H' Hf', Way W w H Hf H' Hf' → Fz W Hf' H' → H' a = some (.lst xs) ∧ RepL K W Hf' xs ds := by
  obtain ⟨a, xs, rfl, h | h⟩ := RQ.els r f (ds := ds) rfl
  · exact ⟨a, xs, rfl, h⟩
  · have h1 := (h _ _ (Way.refl f) f).1
    obtain ⟨a', ys, e, h2, _⟩ := RP.lstI (RQ.way r (Way.refl f)) f
    cases e
    rw [h1] at h2
    cases h2
theorem RQ.tup {w : Bool} {H Hf : Hp} {v : V} {ds : List D} (r : RQ K W w H Hf v (.tup ds)) (f : Fz W Hf H) : ∃ a xs, v = .ref a ∧ ∀ H' Hf', Way W w H Hf H' Hf' → Fz W Hf' H' → H' a = some (.tup xs) ∧ RepL K W Hf' xs ds := by
  obtain ⟨a, xs, rfl, h | h⟩ := RQ.els r f (ds := ds) rfl
  · have h1 := (h _ _ (Way.refl f) f).1
    obtain ⟨a', ys, e, h2, _⟩ := RP.tupI (RQ.way r (Way.refl f)) f
    cases e
    rw [h1] at h2
    cases h2
  · exact ⟨a, xs, rfl, h⟩
theorem sat_itZ {w : Bool} {ta tb : TE} {ma mb : Rho → M D} (ha : SatQ K W E w ta ma) (hb : SatQ K W E w tb mb) : SatI K W E w (iZipA K (tCons ta (tCons tb tNil))) (fun ρ => bnd (ma ρ) fun x => bnd (mb ρ) fun y => lft (zipD x y)) := fun H0 ρ S σ H Hf Q I p => by
  refine ha H0 ρ S σ H Hf _ I (p.bind.mono fun x H1 ⟨d, S1, Hf1, e1, s1, k1, r1, p1⟩ => ?_)
  refine hb H0 ρ S1 σ H1 Hf1 _ (I.step s1 k1) (p1.bind.mono fun y H2 ⟨e, S2, Hf2, e2, s2, k2, r2, p2⟩ => ?_)
  obtain ⟨zs, hz, q⟩ := p2.lft
  have r1 := RQ.step r1 s2
  have f2 := s2.fz
  show ∃ a b xs ys, [x, y] = [V.ref a, V.ref b] ∧ _
  cases d <;> cases e <;> try (cases hz)
  · obtain ⟨a, xs, rfl, h1⟩ := RQ.tup r1 f2
    obtain ⟨b, ys, rfl, h2⟩ := RQ.tup r2 f2
    exact ⟨a, b, xs, ys, rfl, .inr ⟨SqT.of (h1 _ _ (Way.refl f2) f2).1, SqT.of (h2 _ _ (Way.refl f2) f2).1, q _ _ _ (Stp.refl f2) k2 (it_zipT h1 h2)⟩⟩
  · obtain ⟨a, xs, rfl, h1⟩ := RQ.lst r1 f2
    obtain ⟨b, ys, rfl, h2⟩ := RQ.lst r2 f2
    exact ⟨a, b, xs, ys, rfl, .inl ⟨SqL.of (h1 _ _ (Way.refl f2) f2).1, SqL.of (h2 _ _ (Way.refl f2) f2).1, q _ _ _ (Stp.refl f2) k2 (it_zip h1 h2)⟩⟩
/-! ### enumerate of a list -/
theorem it_enum {w : Bool} {H Hf : Hp} {a : Addr} {xs : List V} {ds : List D} (h : ∀ H' Hf', Way W w H Hf H' Hf' → Fz W Hf' H' → H' a = some (.lst xs) ∧ RepL K W Hf' xs ds) :
    ItA K W w H Hf (Ite K a) ((List.range ds.length).zipWith (fun (k : Nat) q => D.tup [.int k, q]) ds) := by
  refine ⟨fun i d e S H' Hf' t f k => ?_, fun H' Hf' t f => ?_⟩
  · obtain ⟨g1, r1⟩ := h H' Hf' t f
    rw [List.getElem?_zipWith] at e
    cases q1 : ds[i]? with
    | none => rw [q1] at e; cases hr : (List.range ds.length)[i]? <;> rw [hr] at e <;> cases e
    | some d1 =>
      have hi := (List.getElem?_eq_some_iff.mp q1).1
      rw [q1, List.getElem?_range hi] at e
      cases e
      obtain ⟨x, hx, rx⟩ := r1.get' q1
      refine ⟨⟨xs, x, SqL.of g1, hx⟩, fun v H'' ⟨T, x', e1, e2, e3, e4⟩ => ?_⟩
      subst e1
      subst e3
      have c1 := e4 xs (SqL.of g1)
      rw [hx] at c1
      cases c1
      have s := Stp.new (o := .tup [.int (i : Nat), x]) f e2 k.n1 k.n2 fun ps z => nomatch z
      exact ⟨_, s, k.new e2, .tup upd_same (.cons (.int _) (.cons (rx.mono s.le) .nil))⟩
  · obtain ⟨g1, r1⟩ := h H' Hf' t f
    refine ⟨xs, SqL.of g1, ?_⟩
    rw [List.length_zipWith, List.length_range, r1.length]
    omega
theorem sat_itE {w : Bool} {t : TE} {m : Rho → M D} (h : SatQ K W E w t m) : SatI K W E w (iEnum K (tCons t tNil)) (fun ρ => bnd (m ρ) fun x => lft (enuD x)) := fun H0 ρ S σ H Hf Q I p => by
  refine h H0 ρ S σ H Hf _ I (p.bind.mono fun x H1 ⟨d, S1, Hf1, e1, s1, k1, r1, p1⟩ => ?_)
  obtain ⟨zs, hz, q⟩ := p1.lft
  cases d <;> try (cases hz)
  · rename_i ds
    obtain ⟨_, rfl⟩ := ite_some (show (if sz ds.length = true then some ((List.range ds.length).zipWith (fun (k : Nat) q => D.tup [.int k, q]) ds) else none) = some zs from hz)
    obtain ⟨a, xs, rfl, h1⟩ := RQ.lst r1 s1.fz
    exact ⟨a, xs, rfl, SqL.of (h1 _ _ (Way.refl s1.fz) s1.fz).1, q _ _ _ (Stp.refl s1.fz) k1 (it_enum h1)⟩
end
end Oi

/-! Oi, part F: stores, targets, comprehensions. -/
namespace Oi
open PySem PySem.Spec PyProof.Rows L2

section
variable {K : PySem.W.Frag} {W : Wd} {E : XK}
/-! ### slots stored -/
theorem StOk.put {H0 : En} {ρ : Rho} {S : DS} {σ : L2.St} {H Hf : Hp} (I : StOk K W H0 ρ S σ H Hf) (i : Nat) {s : Sl} {o : Option V} (h : SlOk K W H0 H Hf s o) (hm : s.mine = true → ∀ (j : Nat) (t : Sl) (a : Addr), j ≠ i → ρ[j]? = some t → t.mine = true → σ[j]? = some (some (.ref a)) → o ≠ some (.ref a)) :
    StOk K W H0 (ρ.set i s) S (σ.set i o) H Hf := by
  refine ⟨I.kp, I.fz, I.dok, I.n1, I.n2, I.n3, by rw [List.length_set, List.length_set, I.len], fun j t u e1 e2 => ?_, fun j k t u a e1 e2 m1 m2 e3 e4 => ?_⟩
  · by_cases z : i = j
    · subst z
      have hi : i < ρ.length := by
        have := (List.getElem?_eq_some_iff.mp e1).1
        rwa [List.length_set] at this
      rw [List.getElem?_set_self hi] at e1
      rw [List.getElem?_set_self (by rw [I.len]; exact hi)] at e2
      cases e1
      cases e2
      exact h
    · rw [List.getElem?_set_ne z] at e1 e2
      exact I.sl j t u e1 e2
  · by_cases z : i = j
    · subst z
      have hi : i < ρ.length := by
        have := (List.getElem?_eq_some_iff.mp e1).1
        rwa [List.length_set] at this
      rw [List.getElem?_set_self hi] at e1
      rw [List.getElem?_set_self (by rw [I.len]; exact hi)] at e3
      cases e1
      by_cases z2 : i = k
      · exact z2
      · rw [List.getElem?_set_ne z2] at e2 e4
        exact absurd (Option.some.inj e3) (hm m1 k u a (Ne.symm z2) e2 m2 e4)
    · rw [List.getElem?_set_ne z] at e1 e3
      by_cases z2 : i = k
      · subst z2
        have hi : i < ρ.length := by
          have := (List.getElem?_eq_some_iff.mp e2).1
          rwa [List.length_set] at this
        rw [List.getElem?_set_self hi] at e2
        rw [List.getElem?_set_self (by rw [I.len]; exact hi)] at e4
        cases e2
        exact absurd (Option.some.inj e4) (hm m2 j t a (Ne.symm z) e1 m1 e3)
      · rw [List.getElem?_set_ne z2] at e2 e4
        exact I.ap j k t u a e1 e2 m1 m2 e3 e4
theorem StOk.setV {H0 : En} {ρ : Rho} {S : DS} {σ : L2.St} {H Hf : Hp} (I : StOk K W H0 ρ S σ H Hf) (i : Nat) {v : V} {d : D} (r : Rep K W Hf v d) : StOk K W H0 (ρ.set i (.val d)) S (σ.set i (some v)) H Hf := I.put i (.val r) fun z => nomatch z
theorem StOk.setN {H0 : En} {ρ : Rho} {S : DS} {σ : L2.St} {H Hf : Hp} (I : StOk K W H0 ρ S σ H Hf) (i : Nat) (o : Option V) : StOk K W H0 (ρ.set i .no) S (σ.set i o) H Hf := I.put i (.no o) fun z => nomatch z
theorem StOk.wipe {H0 : En} {ρ : Rho} {S : DS} {σ : L2.St} {H Hf : Hp} (I : StOk K W H0 ρ S σ H Hf) : ∀ vs : List Nat, StOk K W H0 (wipeR ρ vs) S (L2.wipe σ vs) H Hf
  | [] => I
  | v :: vs => (StOk.wipe I vs).setN v none

/-! ### targets -/
def gNames : List Nat → TGs
  | [] => gNil
  | i :: is => gCons (gName i) (gNames is)
def gTarget (K : PySem.W.Frag) (tg : List Nat) (tup : Bool) : TG := match tup with
  | true => gTup K tg.length (gNames tg)
  | false => (match tg with
    | i :: _ => gName i
    | [] => fun _ _ _ _ => False)
/-- the slots outside vs are the same -/
def Out (vs : List Nat) (σ σ' : L2.St) : Prop := σ'.length = σ.length ∧ ∀ j, j ∉ vs → σ'[j]? = σ[j]?
theorem Out.refl {vs : List Nat} (σ : L2.St) : Out vs σ σ := ⟨rfl, fun _ _ => rfl⟩
theorem Out.trans {vs : List Nat} {σ σ1 σ2 : L2.St} (a : Out vs σ σ1) (b : Out vs σ1 σ2) : Out vs σ σ2 := ⟨b.1.trans a.1, fun j h => (b.2 j h).trans (a.2 j h)⟩
theorem Out.set {vs : List Nat} (σ : L2.St) {i : Nat} (h : i ∈ vs) (o : Option V) : Out vs σ (σ.set i o) := ⟨by rw [List.length_set], fun j n => by rw [List.getElem?_set_ne (fun z : i = j => n (z ▸ h))]⟩
theorem wipe_in {σ : L2.St} {i : Nat} : ∀ {vs : List Nat}, i ∈ vs → i < σ.length → (L2.wipe σ vs)[i]? = some none
  | v :: vs, h, hl => by
    unfold L2.wipe
    by_cases z : v = i
    · subst z
      rw [List.getElem?_set_self (by rw [wipe_length]; exact hl)]
    · rw [List.getElem?_set_ne z]
      exact wipe_in ((List.mem_cons.mp h).resolve_left (Ne.symm z)) hl
theorem Out.wipe {vs : List Nat} {σ σ' : L2.St} (h : Out vs σ σ') : L2.wipe σ' vs = L2.wipe σ vs := by
  apply List.ext_getElem?
  intro j
  by_cases hj : j ∈ vs
  · by_cases hl : j < σ.length
    · rw [wipe_in hj hl, wipe_in hj (by rw [h.1]; exact hl)]
    · rw [List.getElem?_eq_none (by rw [wipe_length, h.1]; omega), List.getElem?_eq_none (by rw [wipe_length]; omega)]
  · rw [wipe_out hj, wipe_out hj, h.2 j hj]
theorem wipe_wipe {σ : L2.St} (vs : List Nat) : L2.wipe (L2.wipe σ vs) vs = L2.wipe σ vs := Out.wipe ⟨wipe_length σ vs, fun j h => wipe_out h⟩
def SatG (K : PySem.W.Frag) (W : Wd) (vs : List Nat) (g : TG) (b : Rho → D → Option Rho) : Prop := ∀ (H0 : En) (ρ ρ' : Rho) (S : DS) (σ : L2.St) (H Hf : Hp) (v : V) (d : D) (Q : L2.St → Hp → Prop), StOk K W H0 ρ S σ H Hf → Rep K W Hf v d → b ρ d = some ρ' →
  (∀ σ', StOk K W H0 ρ' S σ' H Hf → Out vs σ σ' → Q σ' H) → g v σ H Q
theorem satGs (vs : List Nat) : ∀ (is : List Nat), (∀ i ∈ is, i ∈ vs) → ∀ {H0 : En} {ρ ρ' : Rho} {S : DS} {σ : L2.St} {H Hf : Hp} {xs : List V} {ds : List D} {Q : L2.St → Hp → Prop}, StOk K W H0 ρ S σ H Hf → RepL K W Hf xs ds → bindS ρ is ds = some ρ' →
    (∀ σ', StOk K W H0 ρ' S σ' H Hf → Out vs σ σ' → Q σ' H) → gNames is xs σ H Q
  | [], _, H0, ρ, ρ', S, σ, H, Hf, xs, ds, Q, I, r, e, q => by
    cases r with
    | nil => cases e; exact ⟨rfl, q σ I (Out.refl σ)⟩
    | cons _ _ => cases e
  | i :: is, hv, H0, ρ, ρ', S, σ, H, Hf, xs, ds, Q, I, r, e, q => by
    cases r with
    | nil => cases e
    | cons r t =>
      refine ⟨_, _, rfl, ?_⟩
      refine satGs vs is (fun j h => hv j (List.mem_cons_of_mem _ h)) (I.setV i r) t e fun σ' I' o => q σ' I' ((Out.set σ (hv i List.mem_cons_self) _).trans o)
theorem satG (tg : List Nat) (tup : Bool) : SatG K W tg (gTarget K tg tup) (fun ρ d => bindT ρ tg tup d) := fun H0 ρ ρ' S σ H Hf v d Q I r e q => by
  cases tup with
  | true =>
    cases d <;> try (cases e)
    rename_i ds
    obtain ⟨a, xs, rfl, ha, _, rl⟩ := r.tupI I.fz
    have e1 : bindS ρ tg ds = some ρ' := e
    have hl : ∀ (is : List Nat) (ρ ρ' : Rho) (ds : List D), bindS ρ is ds = some ρ' → ds.length = is.length := fun is => by
      induction is with
      | nil => intro ρ ρ' ds e; cases ds with
        | nil => rfl
        | cons _ _ => cases e
      | cons i is ih => intro ρ ρ' ds e; cases ds with
        | nil => cases e
        | cons d ds => exact congrArg (· + 1) (ih _ _ _ e)
    exact ⟨a, xs, rfl, SqT.of ha, rl.length.trans (hl _ _ _ _ e1), satGs tg tg (fun _ h => h) I rl e1 q⟩
  | false =>
    match tg, e with
    | [i], e =>
      cases e
      exact q _ (I.setV i r) (Out.set σ (by simp) _)

/-! ### new lists, nobody else's -/
inductive RFr (K : PySem.W.Frag) (W : Wd) (Hp0 : Hp) (H Hf : Hp) : V → D → Prop where
  | mk {a : Addr} {xs : List V} {ds : List D} : H a = some (.lst xs) → RepL K W Hf xs ds → Hf a = none → Hp0 a = none → RFr K W Hp0 H Hf (.ref a) (.lst ds)
def SatF (K : PySem.W.Frag) (W : Wd) (E : XK) (t : TE) (m : Rho → M D) : Prop := ∀ (H0 : En) (ρ : Rho) (S : DS) (σ : L2.St) (H Hf : Hp) (Q : VK), StOk K W H0 ρ S σ H Hf → PostG K W E (RFr K W H) H Hf (m ρ S) Q → t σ H Q
/-- an object of ours stays as it is from now on -/
theorem Stp.frz {H Hf H' Hf' : Hp} {a : Addr} {o : HO} (s : Stp W H Hf H' Hf') (h : H' a = some o) (hf : Hf' a = none) (h0 : H a = none) (n1 : H W.st ≠ none) (n2 : H W.l1 ≠ none) (nt : ∀ ps, o ≠ .tbl ps) : Stp W H Hf H' (upd Hf' a o) := by
  refine ⟨s.kp, fun b u e => ?_, ⟨fun b u e => ?_, ?_, ?_, fun b ps e => ?_⟩, fun b e => ?_⟩
  · have h1 := s.le b u e
    rw [upd_ne (fun z : b = a => by rw [z, hf] at h1; cases h1)]
    exact h1
  · by_cases z : b = a
    · subst z; rw [upd_same] at e; cases e; exact h
    · rw [upd_ne z] at e; exact s.fz.le b u e
  · rw [upd_ne (fun z : W.st = a => n1 (by rw [z]; exact h0))]; exact s.fz.st
  · rw [upd_ne (fun z : W.l1 = a => n2 (by rw [z]; exact h0))]; exact s.fz.l1
  · by_cases z : b = a
    · subst z; rw [upd_same] at e; exact nt ps (Option.some.inj e)
    · rw [upd_ne z] at e; exact s.fz.tbl b ps e
  · by_cases z : b = a
    · subst z; exact .inr h0
    · rw [upd_ne z] at e; exact s.nw b e
theorem PostG.fresh {H Hf : Hp} {r : Option (Rs D × DS)} {Q : VK} (h : PostG K W E (RE K W) H Hf r Q) (n1 : H W.st ≠ none) (n2 : H W.l1 ≠ none) : PostG K W E (RFr K W H) H Hf r Q := by
  cases r with
  | none => exact h
  | some q =>
    obtain ⟨q, S'⟩ := q
    cases q with
    | ex c fs => exact h
    | ok d =>
      intro v H' Hf' s k r
      cases r with
      | mk ha rl hf h0 =>
        have s2 := s.frz ha hf h0 n1 n2 fun ps z => nomatch z
        refine h _ _ _ s2 k (.lst upd_same (rl.mono fun b u e => ?_))
        rw [upd_ne (fun z => by rw [z, hf] at e; cases e)]
        exact e
theorem SatF.sat {t : TE} {m : Rho → M D} (h : SatF K W E t m) : Sat K W E t m := fun H0 ρ S σ H Hf Q I p => h H0 ρ S σ H Hf Q I (p.fresh I.dok.n1 I.dok.n2)
theorem satF_lst {t : TA} {m : Rho → M (List D)} (ha : SatA K W E t m) (hl : ∀ ρ S ds S', m ρ S = some (.ok ds, S') → ds.length ≤ 1000) :
    SatF K W E (tLst t) (fun ρ => bnd (m ρ) fun ds => ret (.lst ds)) := fun H0 ρ S σ H Hf Q I p => by
  refine ha H0 ρ S σ H Hf _ I (p.bind.mono fun x H1 ⟨d, S1, Hf1, e1, s1, k1, r1, p1⟩ => ⟨?_, fun a ha => ?_⟩)
  · have := hl ρ S d S1 e1
    rw [r1.length]; exact Nat.le_trans this (by rw [sizeLine_eq]; decide)
  · have hf : Hf1 a = none := by
      cases q : Hf1 a with
      | none => rfl
      | some u => rw [s1.fz.le a u q] at ha; cases ha
    exact p1 _ _ _ (Stp.newO s1.fz ha) (k1.new ha) (.mk upd_same r1 hf (s1.kp.back _ ha))
/-- list(..) -/
theorem satF_list {t : TA} {m : Rho → M (List D)} (ha : SatAP K W E t m) :
    SatF K W E (tCB (fun xs H Q => ∃ p ys, xs = [.ref p] ∧ (SqL K H p ys ∨ SqT K H p ys) ∧ ∀ l, H l = none → Q (.ref l) (upd H l (.lst ys))) t) (fun ρ => bnd (m ρ) fun xs => lft (listD xs)) := fun H0 ρ S σ H Hf Q I p => by
  refine ha H0 ρ S σ H Hf _ I (p.bind.mono fun x H1 ⟨d, S1, Hf1, e1, s1, k1, r1, p1⟩ => ?_)
  obtain ⟨z, hz, q⟩ := p1.lft
  have fin : ∀ {us : List V} {ds : List D}, RepL K W Hf1 us ds → z = .lst ds → ∀ l, H1 l = none → Q (.ref l) (upd H1 l (.lst us)) := fun {us ds} rl ez l hl => by
    subst ez
    have hf : Hf1 l = none := by
      cases q : Hf1 l with
      | none => rfl
      | some u => rw [s1.fz.le l u q] at hl; cases hl
    exact q _ _ _ (Stp.newO s1.fz hl) (k1.new hl) (.mk upd_same rl hf (s1.kp.back _ hl))
  unfold listD at hz
  split at hz
  · cases hz
    obtain ⟨v, rfl, r2⟩ := r1.one
    obtain ⟨p, us, rfl, hp, hfp, r3⟩ := r2.tupI s1.fz
    exact ⟨p, us, rfl, .inr (SqT.of hp), fin r3 rfl⟩
  · cases hz
    obtain ⟨v, rfl, r2⟩ := r1.one
    obtain ⟨p, us, rfl, hp, r3⟩ := r2.lstI s1.fz
    exact ⟨p, us, rfl, .inl (SqL.of hp), fin r3 rfl⟩
  · cases hz
/-! ### comprehensions -/
def E0 : XK := fun _ _ _ => False
theorem nox_inv {α : Type} {m : M α} {S : DS} {r : Rs α × DS} (h : nox m S = some r) : ∃ a S', r = (.ok a, S') ∧ m S = some (.ok a, S') := by
  unfold nox at h
  cases e : m S with
  | none => rw [e] at h; cases h
  | some q =>
    obtain ⟨q, S'⟩ := q
    rw [e] at h
    cases q with
    | ok a => cases h; exact ⟨a, S', rfl, rfl⟩
    | ex c fs => cases h
theorem bnd_inv {α β : Type} {m : M α} {f : α → M β} {S S' : DS} {b : β} (h : bnd m f S = some (.ok b, S')) : ∃ a S1, m S = some (.ok a, S1) ∧ f a S1 = some (.ok b, S') := by
  unfold bnd at h
  cases e : m S with
  | none => rw [e] at h; cases h
  | some q =>
    obtain ⟨q, S1⟩ := q
    rw [e] at h
    cases q with
    | ok a => exact ⟨a, S1, rfl, h⟩
    | ex c fs => cases h
theorem lft_inv {α : Type} {o : Option α} {S S' : DS} {b : α} (h : lft o S = some (.ok b, S')) : o = some b ∧ S' = S := by
  cases o with
  | none => cases h
  | some a => cases h; exact ⟨rfl, rfl⟩
theorem compM_noex {b : D → Option Rho} {t : Rho → M Bool} {e : Rho → M D} : ∀ {ds : List D} {S S' : DS} {c : String} {fs : List (String × D)}, compM b t e ds S ≠ some (.ex c fs, S')
  | [], S, S', c, fs, h => by cases h
  | d :: ds, S, S', c, fs, h => by
    unfold compM at h
    cases hb : b d with
    | none => rw [hb] at h; cases h
    | some ρ =>
      rw [hb] at h
      have h1 : bnd (nox (t ρ)) (fun c => match c with
        | true => bnd (nox (e ρ)) fun y => bnd (compM b t e ds) fun ys => ret (y :: ys)
        | false => compM b t e ds) S = some (.ex c fs, S') := h
      unfold bnd at h1
      cases ht : nox (t ρ) S with
      | none => rw [ht] at h1; cases h1
      | some q =>
        obtain ⟨k, S1, rfl, _⟩ := nox_inv ht
        rw [ht] at h1
        cases k with
        | false => exact compM_noex h1
        | true =>
          dsimp only at h1
          cases he : nox (e ρ) S1 with
          | none => rw [he] at h1; cases h1
          | some q2 =>
            obtain ⟨y, S2, rfl, _⟩ := nox_inv he
            rw [he] at h1
            dsimp only at h1
            cases hr : compM b t e ds S2 with
            | none => rw [hr] at h1; cases h1
            | some q3 =>
              obtain ⟨q3, S3⟩ := q3
              rw [hr] at h1
              cases q3 with
              | ok _ => cases h1
              | ex c' fs' => exact compM_noex hr
theorem DOk.mut {S : DS} {H : Hp} {D : Addr} {xs : List V} {o : HO} (d : DOk W S H) (h : H D = some (.lst xs)) (n1 : D ≠ W.st) (n2 : D ≠ W.l1) (n3 : D ≠ W.l2) : DOk W S (upd H D o) := by
  refine ⟨by rw [upd_ne (Ne.symm n1)]; exact d.st, by rw [upd_ne (Ne.symm n2)]; exact d.l1, by rw [upd_ne (Ne.symm n3)]; exact d.l2, fun p hp => ?_⟩
  obtain ⟨ps, h1, h2, h3⟩ := d.tabs p hp
  have hne : p.1 ≠ D := fun z => by rw [z, h] at h1; cases h1
  refine ⟨ps, by rw [upd_ne hne]; exact h1, h2, fun pos cv hc => ?_⟩
  obtain ⟨c, e1, e2⟩ := h3 pos cv hc
  have hcd : c ≠ D := fun z => by rw [z, h] at e2; cases e2
  exact ⟨c, e1, by rw [upd_ne hcd]; exact e2⟩
theorem Stp.keepL {H Hf H' Hf' : Hp} {D : Addr} {xs : List V} (s : Stp W H Hf H' Hf') (h : H D = some (.lst xs)) (hf : Hf D = none) (n1 : D ≠ W.st) (n2 : D ≠ W.l1) : H' D = some (.lst xs) ∧ Hf' D = none := by
  refine ⟨s.kp.keep _ _ h n1 n2 (fun ps z => nomatch z), ?_⟩
  cases q : Hf' D with
  | none => rfl
  | some u => exact ((s.nw D (by rw [q]; exact fun z => nomatch z)).elim (fun z => z hf) fun z => by rw [z] at h; cases h).elim
/-- a new list of ours has got another object -/
theorem Stp.mut {H Hf H' Hf' : Hp} {D : Addr} {o : HO} (s : Stp W H Hf H' Hf') (hn : H D = none) (hf : Hf' D = none) (hl : H' D ≠ none) : Stp W H Hf (upd H' D o) Hf' := by
  refine ⟨⟨fun a u e n1 n2 n3 => ?_, fun a e => ?_⟩, s.le, ⟨fun a u e => ?_, s.fz.st, s.fz.l1, s.fz.tbl⟩, s.nw⟩
  · have : a ≠ D := fun z => by rw [z, hn] at e; cases e
    rw [upd_ne this]
    exact s.kp.keep a u e n1 n2 n3
  · by_cases z : a = D
    · subst z
      exact hn
    · rw [upd_ne z] at e
      exact s.kp.back a e
  · have : a ≠ D := fun z => by rw [z, hf] at e; cases e
    rw [upd_ne this]
    exact s.fz.le a u e
theorem satF_lc {wi : TI} {g : TG} {tt : TT} {te : TE} {vs : List Nat} {mi : Rho → M (List D)} {b : Rho → D → Option Rho} {mt : Rho → M Bool} {me : Rho → M D} (hi : SatI K W E true wi mi) (hg : SatG K W vs g b) (ht : SatT K W E0 tt mt) (he : Sat K W E0 te me) :
    SatF K W E (tLc wi g tt te vs) (fun ρ => bnd (mi ρ) fun xs => iteM (sz xs.length) (bnd (compM (b (wipeR ρ vs)) mt me xs) fun ys => ret (.lst ys)) stk) := fun H0 ρ S σ H Hf Q I p => by
  refine hi H0 ρ S σ H Hf _ I (p.bind.mono fun J H1 ⟨ds, S1, Hf1, e1, s1, k1, r1, p1⟩ => ?_)
  have I1 := I.step s1 k1
  cases hz : sz ds.length with
  | false => rw [hz] at p1; exact False.elim p1
  | true =>
    rw [hz] at p1
    have p1 : PostG K W E (RFr K W H) H1 Hf1 (bnd (compM (b (wipeR ρ vs)) mt me ds) (fun ys => ret (.lst ys)) S1) Q := p1
    cases hc : compM (b (wipeR ρ vs)) mt me ds S1 with
    | none =>
      unfold bnd at p1
      rw [hc] at p1
      exact False.elim p1
    | some q =>
      obtain ⟨q, Sz⟩ := q
      cases q with
      | ex c fs => exact absurd hc compM_noex
      | ok ys =>
        unfold bnd at p1
        rw [hc] at p1
        have p1 : ∀ v H' Hf', Stp W H1 Hf1 H' Hf' → DOk W Sz H' → RFr K W H H' Hf' v (.lst ys) → Q v H' := p1
        intro D hD
        have hf1 : Hf1 D = none := by
          cases q : Hf1 D with
          | none => rfl
          | some u => rw [s1.fz.le D u q] at hD; cases hD
        have n1 : D ≠ W.st := fun z => k1.n1 (z ▸ hD)
        have n2 : D ≠ W.l1 := fun z => k1.n2 (z ▸ hD)
        have n3 : D ≠ W.l2 := fun z => by rw [z, k1.l2] at hD; cases hD
        refine ⟨fun i m Hi => m = ds.length - i ∧ i ≤ ds.length ∧ ∃ (Hfi : Hp) (Si : DS) (acc : List V) (ac rest : List Oi.D), Stp W H1 Hf1 Hi Hfi ∧ DOk W Si Hi ∧ Hi D = some (.lst acc) ∧ Hfi D = none ∧ RepL K W Hfi acc ac ∧ ac.length ≤ i ∧
          compM (b (wipeR ρ vs)) mt me (ds.drop i) Si = some (.ok rest, Sz) ∧ ac ++ rest = ys, ⟨ds.length, rfl, Nat.zero_le _, Hf1, S1, [], [], ys, Stp.newO s1.fz hD, k1.new hD, upd_same, hf1, .nil, Nat.le_refl _, hc, rfl⟩, ?_⟩
        intro i m Hi ⟨hm, hin, Hfi, Si, acc, ac, rest, st, ki, hDi, hfi, ra, hal, hrun, hys⟩
        by_cases hlt : i < ds.length
        · refine .inr ?_
          have hdi : ds[i]? = some ds[i] := List.getElem?_eq_getElem hlt
          rw [List.drop_eq_getElem_cons hlt] at hrun
          obtain ⟨hgo, hy⟩ := r1.go i _ hdi Si Hi Hfi st st.fz ki
          refine ⟨hgo, _, fun H' h => ⟨ds.length - (i + 1), by omega, h⟩, fun x Hx hyx => ?_⟩
          obtain ⟨Hfx, sx, kx, rx⟩ := hy x Hx hyx
          unfold compM at hrun
          obtain ⟨ρ', Sa, hb, hrun1⟩ := bnd_inv hrun
          obtain ⟨hb1, rfl⟩ := lft_inv hb
          obtain ⟨c, Sb, hb2, hrun2⟩ := bnd_inv hrun1
          obtain ⟨_, _, eb, hb3⟩ := nox_inv hb2
          cases eb
          have Ix : StOk K W H0 (wipeR ρ vs) Sa (L2.wipe σ vs) Hx Hfx := ((I1.step st ki).step sx kx).wipe vs
          refine hg H0 _ ρ' Sa _ Hx Hfx x _ _ Ix rx hb1 fun σ2 I2 ho => ⟨by rw [ho.wipe, wipe_wipe], ?_⟩
          refine ht H0 ρ' Sa σ2 Hx Hfx _ I2 ?_
          rw [hb3]
          intro c' H3 Hf3 s3 k3 hcc
          subst hcc
          have st3 := (st.trans sx).trans s3
          cases c' with
          | false =>
            rw [if_neg (by decide)]
            obtain ⟨hk1, hk2⟩ := (sx.trans s3).keepL hDi hfi n1 n2
            exact ⟨rfl, hlt, Hf3, Sb, acc, ac, rest, st3, k3, hk1, hk2, ra.mono (sx.trans s3).le, by omega, hrun2, hys⟩
          | true =>
            rw [if_pos rfl]
            obtain ⟨y, Sc, hb4, hrun3⟩ := bnd_inv hrun2
            obtain ⟨_, _, eb, hb5⟩ := nox_inv hb4
            cases eb
            obtain ⟨rest', Sd, hrest, hrun4⟩ := bnd_inv hrun3
            cases hrun4
            refine he H0 ρ' Sb σ2 H3 Hf3 _ (I2.step s3 k3) ?_
            rw [hb5]
            intro v H4 Hf4 s4 k4 rv
            have sa := (sx.trans s3).trans s4
            obtain ⟨hk1, hk2⟩ := sa.keepL hDi hfi n1 n2
            refine ⟨acc, hk1, ?_, ?_⟩
            · have h1 : ds.length < 10000000 := of_decide_eq_true hz
              have h2 := len_le
              rw [ra.length]
              omega
            · have st4 := st3.trans s4
              refine ⟨rfl, hlt, Hf4, Sc, acc ++ [v], ac ++ [y], rest', st4.mut hD hk2 (by rw [hk1]; exact fun z => nomatch z), k4.mut hk1 n1 n2 n3, upd_same, hk2, (ra.mono sa.le).append (.cons rv .nil), by rw [List.length_append]; simp; omega, hrest, by rw [← hys, List.append_assoc]; rfl⟩
        · have hi : i = ds.length := by omega
          subst hi
          refine .inl ⟨r1.stop Hi Hfi st st.fz, ?_⟩
          rw [List.drop_length] at hrun
          cases hrun
          rw [List.append_nil] at hys
          subst hys
          exact p1 _ Hi _ st ki (.mk hDi ra hfi (s1.kp.back _ hD))
end
end Oi

/-! Oi, part G: statements. -/
namespace Oi
open PySem PySem.Spec PyProof.Rows L2

/-- the frozen part grows by new objects alone -/
structure Lw (H0 Hf Hf' : Hp) : Prop where
  le : Le Hf Hf'
  nw : ∀ a, Hf' a ≠ none → Hf a ≠ none ∨ H0 a = none
theorem Lw.refl (H0 Hf : Hp) : Lw H0 Hf Hf := ⟨Le.refl Hf, fun _ h => .inl h⟩
theorem Lw.trans {H0 Hf Hf1 Hf2 : Hp} (a : Lw H0 Hf Hf1) (b : Lw H0 Hf1 Hf2) : Lw H0 Hf Hf2 := ⟨a.le.trans b.le, fun x h => (b.nw x h).elim (a.nw x) .inr⟩
section
variable {K : PySem.W.Frag} {W : Wd} {E : XK}
theorem Stp.lw {H0 H Hf H' Hf' : Hp} (s : Stp W H Hf H' Hf') (k : Kp W H0 H) : Lw H0 Hf Hf' := ⟨s.le, fun a h => (s.nw a h).imp id (k.back a)⟩
/-- what is wanted behind a statement of a def entered at H0 -/
def PostS (K : PySem.W.Frag) (W : Wd) (E : XK) (H0 : En) (Hf : Hp) (D : Ends) (r : Option (Rs (Fl × Rho) × DS)) : Prop := match r with
  | none => False
  | some (.ok (.nx, ρ), S) => ∀ σ H' Hf', Lw H0 Hf Hf' → StOk K W H0 ρ S σ H' Hf' → D.nx σ H'
  | some (.ok (.bk, ρ), S) => ∀ σ H' Hf', Lw H0 Hf Hf' → StOk K W H0 ρ S σ H' Hf' → D.bk σ H'
  | some (.ok (.ct, ρ), S) => ∀ σ H' Hf', Lw H0 Hf Hf' → StOk K W H0 ρ S σ H' Hf' → D.ct σ H'
  | some (.ok (.rt d, ρ), S) => ∀ v H' Hf', Lw H0 Hf Hf' → Kp W H0 H' → Fz W Hf' H' → DOk W S H' → Rep K W Hf' v d → D.rt v H'
  | some (.ex c fs, S) => ExP K W E H0 S c fs
def SatS (K : PySem.W.Frag) (W : Wd) (E : XK) (t : TS) (m : Rho → M (Fl × Rho)) : Prop := ∀ (H0 : En) (ρ : Rho) (S : DS) (σ : L2.St) (H Hf : Hp) (D : Ends), StOk K W H0 ρ S σ H Hf → PostS K W E H0 Hf D (m ρ S) → t D σ H
theorem PostS.lw {H0 : En} {Hf Hf1 : Hp} {D : Ends} {r : Option (Rs (Fl × Rho) × DS)} (h : PostS K W E H0 Hf D r) (l : Lw H0 Hf Hf1) : PostS K W E H0 Hf1 D r := by
  match r, h with
  | some (.ok (.nx, ρ), S), h => exact fun σ H' Hf' k => h σ H' Hf' (l.trans k)
  | some (.ok (.bk, ρ), S), h => exact fun σ H' Hf' k => h σ H' Hf' (l.trans k)
  | some (.ok (.ct, ρ), S), h => exact fun σ H' Hf' k => h σ H' Hf' (l.trans k)
  | some (.ok (.rt d, ρ), S), h => exact fun v H' Hf' k => h v H' Hf' (l.trans k)
  | some (.ex c fs, S), h => exact h
theorem PostS.bind {α β : Type} {R : Hp → Hp → β → α → Prop} {H0 : En} {H Hf : Hp} {D : Ends} {m : M α} {f : α → M (Fl × Rho)} {S : DS} (k : Kp W H0 H) (h : PostS K W E H0 Hf D (bnd m f S)) :
    PostG K W E R H Hf (m S) (fun v H1 => ∃ d S1 Hf1, m S = some (.ok d, S1) ∧ Stp W H Hf H1 Hf1 ∧ DOk W S1 H1 ∧ R H1 Hf1 v d ∧ PostS K W E H0 Hf1 D (f d S1)) := by
  unfold bnd at h
  cases e : m S with
  | none => rw [e] at h; exact h
  | some q =>
    obtain ⟨q, S'⟩ := q
    rw [e] at h
    cases q with
    | ok d => exact fun v H' Hf' a b c => ⟨d, S', Hf', rfl, a, b, c, PostS.lw h (a.lw k)⟩
    | ex c fs => exact ExP.step h k
theorem PostS.lft {α : Type} {H0 : En} {Hf : Hp} {D : Ends} {o : Option α} {f : α → M (Fl × Rho)} {S : DS} (h : PostS K W E H0 Hf D (bnd (lft o) f S)) : ∃ a, o = some a ∧ PostS K W E H0 Hf D (f a S) := by
  cases o with
  | none => exact False.elim h
  | some a => exact ⟨a, rfl, h⟩
theorem setR_some {ρ ρ' : Rho} {i : Nat} {s : Sl} (h : setR ρ i s = some ρ') : i < ρ.length ∧ ρ' = ρ.set i s := by
  unfold setR at h
  split at h
  · exact ⟨by assumption, (Option.some.inj h).symm⟩
  · cases h

/-! ### small ones -/
theorem satS_next : SatS K W E tNext (fun ρ => ret (.nx, ρ)) := fun H0 ρ S σ H Hf D I p => p σ H Hf (Lw.refl _ _) I
theorem satS_brk : SatS K W E tBreak (fun ρ => ret (.bk, ρ)) := fun H0 ρ S σ H Hf D I p => p σ H Hf (Lw.refl _ _) I
theorem satS_cnt : SatS K W E tCont (fun ρ => ret (.ct, ρ)) := fun H0 ρ S σ H Hf D I p => p σ H Hf (Lw.refl _ _) I
theorem satS_retN : SatS K W E tRetN (fun ρ => ret (.rt .non, ρ)) := fun H0 ρ S σ H Hf D I p => p .non H Hf (Lw.refl _ _) I.kp I.fz I.dok .non
theorem satS_ret {t : TE} {m : Rho → M D} (h : Sat K W E t m) : SatS K W E (tRet t) (fun ρ => bnd (m ρ) fun d => ret (.rt d, ρ)) := fun H0 ρ S σ H Hf D I p => by
  refine h H0 ρ S σ H Hf _ I ((p.bind I.kp).mono fun x H1 ⟨d, S1, Hf1, _, s1, k1, r1, p1⟩ => ?_)
  exact p1 _ _ _ (Lw.refl _ _) (I.kp.trans s1.kp) s1.fz k1 r1
theorem satS_drop {t : TE} {m : Rho → M D} (h : Sat K W E t m) : SatS K W E (tDrop t) (fun ρ => bnd (m ρ) fun _ => ret (.nx, ρ)) := fun H0 ρ S σ H Hf D I p => by
  refine h H0 ρ S σ H Hf _ I ((p.bind I.kp).mono fun x H1 ⟨d, S1, Hf1, _, s1, k1, r1, p1⟩ => ?_)
  exact p1 _ _ _ (Lw.refl _ _) (I.step s1 k1)
theorem satS_seq {t u : TS} {m : Rho → M (Fl × Rho)} {k : Rho → M (Fl × Rho)} (h : SatS K W E t m) (h2 : SatS K W E u k) : SatS K W E (tSeq t u) (fun ρ => seqM (m ρ) k) := fun H0 ρ S σ H Hf D I p => by
  refine h H0 ρ S σ H Hf _ I ?_
  have p : PostS K W E H0 Hf D (bnd (m ρ) (fun r => match r with
    | (.nx, ρ) => k ρ
    | r => ret r) S) := p
  unfold bnd at p
  cases e : m ρ S with
  | none => rw [e] at p; exact p
  | some q =>
    obtain ⟨q, S'⟩ := q
    rw [e] at p
    cases q with
    | ex c fs => exact p
    | ok r =>
      obtain ⟨f, ρ'⟩ := r
      cases f with
      | nx => exact fun σ' H' Hf' l I' => h2 H0 ρ' S' σ' H' Hf' D I' (PostS.lw p l)
      | rt d => exact p
      | bk => exact p
      | ct => exact p
theorem satS_if {c : TT} {t u : TS} {mc : Rho → M Bool} {ma mb : Rho → M (Fl × Rho)} (hc : SatT K W E c mc) (ha : SatS K W E t ma) (hb : SatS K W E u mb) :
    SatS K W E (tIfS c t u) (fun ρ => bnd (mc ρ) fun k => iteM k (ma ρ) (mb ρ)) := fun H0 ρ S σ H Hf D I p => by
  refine hc H0 ρ S σ H Hf _ I ((p.bind I.kp).mono fun x H1 ⟨d, S1, Hf1, _, s1, k1, r1, p1⟩ => ?_)
  cases r1
  cases x with
  | true => exact ha H0 ρ S1 σ H1 Hf1 D (I.step s1 k1) p1
  | false => exact hb H0 ρ S1 σ H1 Hf1 D (I.step s1 k1) p1

/-! ### stores -/
theorem satS_set {i : Nat} {t : TE} {m : Rho → M D} (h : Sat K W E t m) : SatS K W E (tAsg t (gName i)) (fun ρ => bnd (m ρ) fun d => bnd (lft (setR ρ i (.val d))) fun ρ => ret (.nx, ρ)) := fun H0 ρ S σ H Hf D I p => by
  refine h H0 ρ S σ H Hf _ I ((p.bind I.kp).mono fun x H1 ⟨d, S1, Hf1, _, s1, k1, r1, p1⟩ => ?_)
  obtain ⟨ρ', e, p2⟩ := p1.lft
  obtain ⟨_, rfl⟩ := setR_some e
  exact p2 _ _ _ (Lw.refl _ _) ((I.step s1 k1).setV i r1)
theorem StOk.mineAt {H0 : En} {ρ : Rho} {S : DS} {σ : L2.St} {H Hf : Hp} (I : StOk K W H0 ρ S σ H Hf) {j : Nat} {t : Sl} {a : Addr} (e1 : ρ[j]? = some t) (m1 : t.mine = true) (e2 : σ[j]? = some (some (.ref a))) : H a ≠ none := by
  have q := I.sl j t _ e1 e2
  cases q with
  | no => cases m1
  | val => cases m1
  | own h _ _ _ => rw [h]; exact fun z => nomatch z
  | slf h _ _ _ _ => rw [h]; exact fun z => nomatch z
theorem satS_setO {i : Nat} {t : TE} {m : Rho → M D} (h : SatF K W E t m) : SatS K W E (tAsg t (gName i)) (fun ρ => bnd (m ρ) fun d => bnd (lft (lstD d)) fun ds => bnd (lft (setR ρ i (.own ds))) fun ρ => ret (.nx, ρ)) := fun H0 ρ S σ H Hf D I p => by
  refine h H0 ρ S σ H Hf _ I ((p.bind I.kp).mono fun x H1 ⟨d, S1, Hf1, _, s1, k1, r1, p1⟩ => ?_)
  obtain ⟨ds, ed, p2⟩ := p1.lft
  obtain ⟨ρ', e, p3⟩ := p2.lft
  obtain ⟨_, rfl⟩ := setR_some e
  cases r1 with
  | mk ha rl hf h0 =>
    cases ed
    refine p3 _ _ _ (Lw.refl _ _) ((I.step s1 k1).put i (.own ha rl hf (I.kp.back _ h0)) fun _ j t' a' hj e1 m1 e2 z => ?_)
    cases z
    exact I.mineAt e1 m1 e2 h0
theorem satS_par {i j : Nat} {ta tb : TE} {ma mb : Rho → M D} (ha : Sat K W E ta ma) (hb : Sat K W E tb mb) :
    SatS K W E (tPar i j (tCons ta (tCons tb tNil))) (fun ρ => bnd (ma ρ) fun x => bnd (mb ρ) fun y => bnd (lft (setR ρ i (.val x))) fun ρ => bnd (lft (setR ρ j (.val y))) fun ρ => ret (.nx, ρ)) := fun H0 ρ S σ H Hf D I p => by
  refine ha H0 ρ S σ H Hf _ I ((p.bind I.kp).mono fun x H1 ⟨d, S1, Hf1, _, s1, k1, r1, p1⟩ => ?_)
  have I1 := I.step s1 k1
  refine hb H0 ρ S1 σ H1 Hf1 _ I1 ((p1.bind I1.kp).mono fun y H2 ⟨d2, S2, Hf2, _, s2, k2, r2, p2⟩ => ?_)
  obtain ⟨ρ1, e, p3⟩ := p2.lft
  obtain ⟨ρ2, e2, p4⟩ := p3.lft
  obtain ⟨_, rfl⟩ := setR_some e
  obtain ⟨_, rfl⟩ := setR_some e2
  exact ⟨x, y, rfl, p4 _ _ _ (Lw.refl _ _) (((I1.step s2 k2).setV i (r1.mono s2.le)).setV j r2)⟩
theorem satS_unp {is : List Nat} {t : TE} {m : Rho → M D} (h : Sat K W E t m) : SatS K W E (tAsg t (gTarget K is true)) (fun ρ => bnd (m ρ) fun d => bnd (lft (bindT ρ is true d)) fun ρ => ret (.nx, ρ)) := fun H0 ρ S σ H Hf D I p => by
  refine h H0 ρ S σ H Hf _ I ((p.bind I.kp).mono fun x H1 ⟨d, S1, Hf1, _, s1, k1, r1, p1⟩ => ?_)
  obtain ⟨ρ1, e, p3⟩ := p1.lft
  exact satG is true H0 ρ ρ1 S1 σ H1 Hf1 x d _ (I.step s1 k1) r1 e fun σ' I' _ => p3 _ _ _ (Lw.refl _ _) I'

/-! ### lists of our own -/
theorem Kp.mut {H0 H : Hp} {a : Addr} {o : HO} (k : Kp W H0 H) (h0 : H0 a = none) : Kp W H0 (upd H a o) :=
  ⟨fun b u e n1 n2 n3 => by rw [upd_ne (ne_of_none e h0)]; exact k.keep b u e n1 n2 n3, fun b e => by
    by_cases z : b = a
    · rw [z]; exact h0
    · rw [upd_ne z] at e; exact k.back b e⟩
theorem Fz.mut {H Hf : Hp} {a : Addr} {o : HO} (f : Fz W Hf H) (hf : Hf a = none) : Fz W Hf (upd H a o) :=
  ⟨fun b u e => by rw [upd_ne (ne_of_none e hf)]; exact f.le b u e, f.st, f.l1, f.tbl⟩
/-- one of our own objects changes -/
theorem StOk.mut {H0 : En} {ρ : Rho} {S : DS} {σ : L2.St} {H Hf : Hp} (I : StOk K W H0 ρ S σ H Hf) {i : Nat} {s s' : Sl} {a : Addr} {o : HO} (e1 : ρ[i]? = some s) (e2 : σ[i]? = some (some (.ref a))) (hm : s.mine = true) (h0 : H0 a = none) (hf : Hf a = none)
    (dk : DOk W S (upd H a o)) (hs : SlOk K W H0 (upd H a o) Hf s' (some (.ref a))) : StOk K W H0 (ρ.set i s') S σ (upd H a o) Hf := by
  have hi : i < ρ.length := (List.getElem?_eq_some_iff.mp e1).1
  refine ⟨I.kp.mut h0, I.fz.mut hf, dk, I.n1, I.n2, I.n3, by rw [List.length_set, I.len], fun j t u q1 q2 => ?_, fun j k t u b q1 q2 m1 m2 q3 q4 => ?_⟩
  · by_cases z : i = j
    · subst z
      rw [List.getElem?_set_self hi] at q1
      cases q1
      rw [e2] at q2
      cases q2
      exact hs
    · rw [List.getElem?_set_ne z] at q1
      have q := I.sl j t u q1 q2
      have ne : ∀ b, t.mine = true → u = some (.ref b) → b ≠ a := fun b m eu eb => z (I.ap i j s t a e1 q1 hm m e2 (by rw [q2, eu, eb]))
      cases q with
      | no _ => exact .no _
      | val r => exact .val r
      | own h r hf0 h00 => exact .own (by rw [upd_ne (ne _ rfl rfl)]; exact h) r hf0 h00
      | slf h r hf0 h00 hx => exact .slf (by rw [upd_ne (ne _ rfl rfl)]; exact h) r hf0 h00 hx
  · have old : ∀ {j : Nat} {t : Sl}, (ρ.set i s')[j]? = some t → t.mine = true → ∃ t', ρ[j]? = some t' ∧ t'.mine = true := fun {j t} q m => by
      by_cases z : i = j
      · subst z
        exact ⟨s, e1, hm⟩
      · rw [List.getElem?_set_ne z] at q
        exact ⟨t, q, m⟩
    obtain ⟨t', a1, a2⟩ := old q1 m1
    obtain ⟨u', b1, b2⟩ := old q2 m2
    exact I.ap j k t' u' b a1 b1 a2 b2 q3 q4
theorem StOk.ownAt {H0 : En} {ρ : Rho} {S : DS} {σ : L2.St} {H Hf : Hp} (I : StOk K W H0 ρ S σ H Hf) {i : Nat} {ds : List D} (e : ρ[i]? = some (.own ds)) :
    ∃ a xs, σ[i]? = some (some (.ref a)) ∧ H a = some (.lst xs) ∧ RepL K W Hf xs ds ∧ Hf a = none ∧ H0 a = none ∧ a ≠ W.st ∧ a ≠ W.l1 ∧ a ≠ W.l2 := by
  obtain ⟨o, hs, sl⟩ := I.slot e
  cases sl with
  | own h r hf h0 => exact ⟨_, _, hs, h, r, hf, h0, fun z => I.n1 (z ▸ h0), fun z => I.n2 (z ▸ h0), fun z => I.n3 (z ▸ h0)⟩
theorem StOk.setL {H0 : En} {ρ : Rho} {S : DS} {σ : L2.St} {H Hf : Hp} (I : StOk K W H0 ρ S σ H Hf) {i : Nat} {ds es : List D} {a : Addr} {xs ys : List V} (e : ρ[i]? = some (.own ds)) (e2 : σ[i]? = some (some (.ref a))) (h : H a = some (.lst xs)) (hf : Hf a = none) (h0 : H0 a = none) (r : RepL K W Hf ys es) :
    StOk K W H0 (ρ.set i (.own es)) S σ (upd H a (.lst ys)) Hf :=
  I.mut e e2 rfl h0 hf (I.dok.mut h (fun z => I.n1 (z ▸ h0)) (fun z => I.n2 (z ▸ h0)) (fun z => I.n3 (z ▸ h0))) (.own upd_same r hf h0)
theorem appS_inv {ρ ρ' : Rho} {i : Nat} {d : D} (h : appS ρ i d = some ρ') : ∃ ds, ρ[i]? = some (.own ds) ∧ ds.length < 10000000 ∧ ρ' = ρ.set i (.own (ds ++ [d])) := by
  unfold appS at h
  split at h
  · rename_i ds e
    split at h
    · rename_i hz
      exact ⟨ds, e, of_decide_eq_true hz, (Option.some.inj h).symm⟩
    · cases h
  · cases h
def tApp (K : PySem.W.Frag) (i : Nat) (te : TE) : TS := tDrop (tBM K "list" rAppend (tVar i) (tCons te tNil))
theorem ownR_inv {ρ : Rho} {i : Nat} {ds : List D} (h : ownR ρ i = some ds) : ρ[i]? = some (.own ds) := by
  unfold ownR at h
  split at h
  · rename_i e
    cases h
    exact e
  · cases h
theorem satS_app {i : Nat} {t : TE} {m : Rho → M D} (h : Sat K W E t m) : SatS K W E (tApp K i t) (fun ρ => bnd (lft (ownR ρ i)) fun _ => bnd (m ρ) fun d => bnd (lft (appS ρ i d)) fun ρ => ret (.nx, ρ)) := fun H0 ρ S σ H Hf D I p => by
  obtain ⟨ds, e, p⟩ := PostS.lft p
  have e := ownR_inv e
  obtain ⟨a, xs, hs, ha, rl, hf, h0, n1, n2, n3⟩ := I.ownAt e
  refine ⟨_, hs, .inl ⟨rfl, xs, SqL.of ha⟩, ?_⟩
  refine h H0 ρ S σ H Hf _ I ((p.bind I.kp).mono fun x H1 ⟨d, S1, Hf1, _, s1, k1, r1, p1⟩ => ?_)
  obtain ⟨ρ1, e1, p3⟩ := p1.lft
  obtain ⟨ds', e2, hz, rfl⟩ := appS_inv e1
  rw [e] at e2
  cases e2
  obtain ⟨h1, hf1⟩ := s1.keepL ha hf n1 n2
  refine ⟨a, xs, x, rfl, rfl, h1, ?_, ?_⟩
  · rw [rl.length]
    exact Nat.lt_of_lt_of_le hz len_le
  · exact p3 _ _ _ (Lw.refl _ _) ((I.step s1 k1).setL e hs h1 hf1 h0 ((rl.mono s1.le).append (.cons r1 .nil)))
theorem stxS_inv {ρ ρ' : Rho} {i : Nat} {k d : D} (h : stxS ρ i k d = some ρ') : ∃ ds n j, ρ[i]? = some (.own ds) ∧ k = .int n ∧ L2.ixN ds.length n = some j ∧ ρ' = ρ.set i (.own (ds.set j d)) := by
  unfold stxS at h
  split at h
  · rename_i ds n e
    split at h
    · rename_i j hj
      exact ⟨ds, n, j, e, rfl, hj, (Option.some.inj h).symm⟩
    · cases h
  · cases h
theorem satS_stx {i : Nat} {t tk : TE} {m mk : Rho → M D} (h : Sat K W E t m) (hk : Sat K W E tk mk) : SatS K W E (tAsg t (gSub (tVar i) tk rSetL)) (fun ρ => bnd (m ρ) fun d => bnd (lft (ownR ρ i)) fun _ => bnd (mk ρ) fun k => bnd (lft (stxS ρ i k d)) fun ρ => ret (.nx, ρ)) := fun H0 ρ S σ H Hf D I p => by
  refine h H0 ρ S σ H Hf _ I ((p.bind I.kp).mono fun x H1 ⟨d, S1, Hf1, _, s1, k1, r1, p1⟩ => ?_)
  have I1 := I.step s1 k1
  obtain ⟨ds, e, p1⟩ := p1.lft
  have e := ownR_inv e
  obtain ⟨a, xs, hs, ha, rl, hf, h0, n1, n2, n3⟩ := I1.ownAt e
  refine ⟨_, hs, ?_⟩
  refine hk H0 ρ S1 σ H1 Hf1 _ I1 ((p1.bind I1.kp).mono fun y H2 ⟨d2, S2, Hf2, _, s2, k2, r2, p2⟩ => ?_)
  obtain ⟨ρ1, e1, p3⟩ := p2.lft
  obtain ⟨ds', n, j, e2, rfl, hj, rfl⟩ := stxS_inv e1
  rw [e] at e2
  cases e2
  obtain ⟨h1, hf1⟩ := s2.keepL ha hf n1 n2
  cases r2
  exact ⟨a, xs, n, j, rfl, rfl, h1, by rw [rl.length]; exact hj, p3 _ _ _ (Lw.refl _ _) ((I1.step s2 k2).setL e hs h1 hf1 h0 (RepL.set (r1.mono s2.le) j (rl.mono s2.le)))⟩
/-- from here on the list is anybody's -/
theorem StOk.frzO {H0 : En} {ρ : Rho} {S : DS} {σ : L2.St} {H Hf : Hp} (I : StOk K W H0 ρ S σ H Hf) {i : Nat} {ds : List D} (e : ρ[i]? = some (.own ds)) : ∃ Hf1, Lw H0 Hf Hf1 ∧ StOk K W H0 (ρ.set i (.val (.lst ds))) S σ H Hf1 := by
  obtain ⟨a, xs, hs, ha, rl, hf, h0, n1, n2, n3⟩ := I.ownAt e
  have le : Le Hf (upd Hf a (.lst xs)) := fun b u e => by rw [upd_ne (ne_of_none e hf)]; exact e
  refine ⟨upd Hf a (.lst xs), ⟨le, fun b q => ?_⟩, ?_⟩
  · by_cases z : b = a
    · exact .inr (z ▸ h0)
    · rw [upd_ne z] at q; exact .inl q
  · refine ⟨I.kp, ⟨fun b u e => ?_, ?_, ?_, fun b ps e => ?_⟩, I.dok, I.n1, I.n2, I.n3, by rw [List.length_set, I.len], fun j t u q1 q2 => ?_, fun j k t u b q1 q2 m1 m2 q3 q4 => ?_⟩
    · by_cases z : b = a
      · subst z; rw [upd_same] at e; cases e; exact ha
      · rw [upd_ne z] at e; exact I.fz.le b u e
    · rw [upd_ne (Ne.symm n1)]; exact I.fz.st
    · rw [upd_ne (Ne.symm n2)]; exact I.fz.l1
    · by_cases z : b = a
      · subst z; rw [upd_same] at e; cases e
      · rw [upd_ne z] at e; exact I.fz.tbl b ps e
    · by_cases z : i = j
      · subst z
        rw [List.getElem?_set_self (List.getElem?_eq_some_iff.mp e).1] at q1
        cases q1
        rw [hs] at q2
        cases q2
        exact .val (.lst upd_same (rl.mono le))
      · rw [List.getElem?_set_ne z] at q1
        have q := I.sl j t u q1 q2
        have ne : ∀ b, t.mine = true → u = some (.ref b) → b ≠ a := fun b m eu eb => z (I.ap i j _ t a e q1 rfl m hs (by rw [q2, eu, eb]))
        cases q with
        | no _ => exact .no _
        | val r => exact .val (r.mono le)
        | own h r hf0 h00 => exact .own h (r.mono le) (by rw [upd_ne (ne _ rfl rfl)]; exact hf0) h00
        | slf h r hf0 h00 hx => exact .slf h (r.mono le) (by rw [upd_ne (ne _ rfl rfl)]; exact hf0) h00 hx
    · have old : ∀ {j : Nat} {t : Sl}, (ρ.set i (.val (.lst ds)))[j]? = some t → t.mine = true → ρ[j]? = some t := fun {j t} q m => by
        by_cases z : i = j
        · subst z
          rw [List.getElem?_set_self (List.getElem?_eq_some_iff.mp e).1] at q
          cases q
          cases m
        · rw [List.getElem?_set_ne z] at q
          exact q
      exact I.ap j k t u b (old q1 m1) (old q2 m2) m1 m2 q3 q4
theorem satS_frz {i : Nat} {t : TS} {k : Rho → M (Fl × Rho)} (h : SatS K W E t k) : SatS K W E t (fun ρ => seqM (bnd (lft (frzS ρ i)) fun ρ => ret (.nx, ρ)) k) := fun H0 ρ S σ H Hf D I p => by
  unfold seqM at p
  dsimp only at p
  rw [bnd_bnd] at p
  obtain ⟨ρ1, e, p⟩ := PostS.lft p
  have p : PostS K W E H0 Hf D (k ρ1 S) := p
  unfold frzS at e
  split at e
  · rename_i ds e1
    cases e
    obtain ⟨Hf1, l, I1⟩ := I.frzO e1
    exact h H0 _ S σ H Hf1 D I1 (p.lw l)
  · cases e
    exact h H0 _ S σ H Hf D I p
  · cases e

/-! ### the instance's fields -/
theorem fldS_inv {G : Tb} {ρ ρ' : Rho} {i : Nat} {f : String} {d : D} (h : fldS G ρ i f d = some ρ') : ∃ c fs, ρ[i]? = some (.slf c fs) ∧ f ∉ fs.map (·.1) ∧ fs.length < 100 ∧ c ∈ G.obs ∧ f ∈ G.fl ∧ ρ' = ρ.set i (.slf c (fs ++ [(f, d)])) := by
  unfold fldS at h
  split at h
  · rename_i c fs e
    split at h
    · rename_i hz
      obtain ⟨h1, h2, h3⟩ := hz
      rw [Bool.and_eq_true] at h3
      exact ⟨c, fs, e, h1, h2, List.contains_iff_mem.mp h3.1, List.contains_iff_mem.mp h3.2, (Option.some.inj h).symm⟩
    · cases h
  · cases h
theorem RepF.length {Hf : Hp} : ∀ {fs : List (Str × V)} {ds : List (String × D)}, RepF K W Hf fs ds → fs.length = ds.length
  | _, _, .nil => rfl
  | _, _, .cons _ t => congrArg (· + 1) (RepF.length t)
theorem RepF.put {Hf : Hp} {f : String} {v : V} {d : D} (r : Rep K W Hf v d) : ∀ {fs : List (Str × V)} {ds : List (String × D)}, RepF K W Hf fs ds → f ∉ ds.map (·.1) → RepF K W Hf (putF (Str.ofString f) v fs) (ds ++ [(f, d)])
  | _, _, .nil, _ => .cons r .nil
  | _, _, .cons (x := x) (v := w) (vs := vs) (d := e) (ds := ds) q t, h => by
    have h1 : Str.ofString x ≠ Str.ofString f := fun z => h (by rw [ofString_inj z]; exact List.mem_map.mpr ⟨(f, e), List.mem_cons_self, rfl⟩)
    have e1 : putF (Str.ofString f) v ((Str.ofString x, w) :: vs) = (Str.ofString x, w) :: putF (Str.ofString f) v vs := by
      show (if Str.ofString x = Str.ofString f then _ else _) = _
      rw [if_neg h1]
    rw [e1]
    exact .cons q (RepF.put r t fun z => h (by rw [List.map_cons]; exact List.mem_cons_of_mem _ z))
theorem DOk.mutI {S : DS} {H : Hp} {a C dx : Addr} {fs : List (Str × V)} {o : HO} (d : DOk W S H) (h : H a = some (.ins C dx fs)) : DOk W S (upd H a o) := by
  have ne : ∀ b u, H b = some u → (∀ C dx fs, u ≠ .ins C dx fs) → b ≠ a := fun b u e n z => by
    rw [z, h] at e
    cases e
    exact n _ _ _ rfl
  refine ⟨by rw [upd_ne (ne _ _ d.st fun _ _ _ z => nomatch z)]; exact d.st, by rw [upd_ne (ne _ _ d.l1 fun _ _ _ z => nomatch z)]; exact d.l1, by rw [upd_ne (ne _ _ d.l2 fun _ _ _ z => nomatch z)]; exact d.l2, fun p hp => ?_⟩
  obtain ⟨ps, h1, h2, h3⟩ := d.tabs p hp
  refine ⟨ps, by rw [upd_ne (ne _ _ h1 fun _ _ _ z => nomatch z)]; exact h1, h2, fun pos cv hc => ?_⟩
  obtain ⟨c, e1, e2⟩ := h3 pos cv hc
  exact ⟨c, e1, by rw [upd_ne (ne _ _ e2 fun _ _ _ z => nomatch z)]; exact e2⟩
theorem satS_fldS {G : Tb} (g : GOk K G) {i : Nat} {f : String} {t : TE} {m : Rho → M D} (h : Sat K W E t m) : SatS K W E (sFld K (tVar i) t (Str.ofString f)) (fun ρ => bnd (m ρ) fun d => bnd (lft (fldS G ρ i f d)) fun ρ => ret (.nx, ρ)) := fun H0 ρ S σ H Hf D I p => by
  refine h H0 ρ S σ H Hf _ I ((p.bind I.kp).mono fun x H1 ⟨d, S1, Hf1, _, s1, k1, r1, p1⟩ => ?_)
  have I1 := I.step s1 k1
  obtain ⟨ρ', e, p2⟩ := p1.lft
  obtain ⟨c, fs, e1, hn, hl, hc, hf, rfl⟩ := fldS_inv e
  obtain ⟨o, hs, sl⟩ := I1.slot e1
  cases sl with
  | slf ha rf hfr h0 hx =>
    refine ⟨_, hs, _, _, _, _, rfl, ha, (g.obs c hc).cl, g.nat c hc f hf, by rw [rf.length]; omega, ?_⟩
    exact p2 _ _ _ (Lw.refl _ _) (I1.mut e1 hs rfl h0 hfr (k1.mutI ha) (.slf upd_same (rf.put r1 hn) hfr h0 hx))

/-! ### errors -/
theorem satS_rse {c : String} : SatS K W E (fun _ _ H => E (.ref (He.ga K (Str.ofString c))) none H) (fun _ => rse c []) := fun H0 ρ S σ H Hf D I p => by
  have p : ExP K W E H0 S c [] := p
  exact p none H I.kp I.dok .none

/-! ### loops -/
theorem satS_for {wi : TI} {g : TG} {tb : TS} {vs : List Nat} {mi : Rho → M (List D)} {b : Rho → D → Option Rho} {mb : Rho → M (Fl × Rho)} (hi : SatI K W E false wi mi) (hg : SatG K W vs g b) (hb : SatS K W E tb mb) :
    SatS K W E (tFor wi g tb) (fun ρ => bnd (mi ρ) fun xs => forM (fun d ρ => b ρ d) mb xs ρ) := fun H0 ρ S σ H Hf D I p => by
  refine hi H0 ρ S σ H Hf _ I ((p.bind I.kp).mono fun J H1 ⟨ds, S1, Hf1, _, s1, k1, r1, p1⟩ => ?_)
  have I1 := I.step s1 k1
  refine ⟨fun i m σ H => m = ds.length - i ∧ i ≤ ds.length ∧ ∃ ρ S Hf2, Le Hf1 Hf2 ∧ StOk K W H0 ρ S σ H Hf2 ∧ PostS K W E H0 Hf2 D (forM (fun d ρ => b ρ d) mb (ds.drop i) ρ S), ⟨ds.length, rfl, Nat.zero_le _, ρ, S1, Hf1, Le.refl _, I1, p1⟩, ?_⟩
  rintro i m σ2 H2 ⟨hm, hin, ρ2, S2, Hf2, le, I2, p2⟩
  by_cases hlt : i < ds.length
  · refine .inr ?_
    have hdi : ds[i]? = some ds[i] := List.getElem?_eq_getElem hlt
    rw [List.drop_eq_getElem_cons hlt] at p2
    obtain ⟨hgo, hy⟩ := r1.go i _ hdi S2 H2 Hf2 le I2.fz I2.dok
    refine ⟨hgo, fun σ' H' => i + 1 ≤ ds.length ∧ ∃ ρ S Hf2, Le Hf1 Hf2 ∧ StOk K W H0 ρ S σ' H' Hf2 ∧ PostS K W E H0 Hf2 D (forM (fun d ρ => b ρ d) mb (ds.drop (i + 1)) ρ S), fun σ' H' ⟨h1, h2⟩ => ⟨ds.length - (i + 1), by omega, rfl, h1, h2⟩, fun x Hx hyx => ?_⟩
    obtain ⟨Hfx, sx, kx, rx⟩ := hy x Hx hyx
    have p2 : PostS K W E H0 Hf2 D (bnd (lft (b ρ2 ds[i])) (fun ρ => bnd (mb ρ) fun r => match r with
      | (.nx, ρ) => forM (fun d ρ => b ρ d) mb (ds.drop (i + 1)) ρ
      | (.ct, ρ) => forM (fun d ρ => b ρ d) mb (ds.drop (i + 1)) ρ
      | (.bk, ρ) => ret (.nx, ρ)
      | (.rt d, ρ) => ret (.rt d, ρ)) S2) := p2
    obtain ⟨ρ3, e3, p3⟩ := PostS.lft p2
    have I3 := I2.step sx kx
    refine hg H0 ρ2 ρ3 S2 σ2 Hx Hfx x _ _ I3 rx e3 fun σ4 I4 _ => ?_
    have p4 := p3.lw (sx.lw I2.kp)
    refine hb H0 ρ3 S2 σ4 Hx Hfx _ I4 ?_
    unfold bnd at p4
    cases e : mb ρ3 S2 with
    | none => rw [e] at p4; exact p4
    | some q =>
      obtain ⟨q, S5⟩ := q
      rw [e] at p4
      have lx := le.trans sx.le
      cases q with
      | ex c fs => exact p4
      | ok r =>
        obtain ⟨f, ρ5⟩ := r
        cases f with
        | nx => exact fun σ' H' Hf' l I' => ⟨hlt, ρ5, S5, Hf', lx.trans l.le, I', PostS.lw p4 l⟩
        | ct => exact fun σ' H' Hf' l I' => ⟨hlt, ρ5, S5, Hf', lx.trans l.le, I', PostS.lw p4 l⟩
        | bk => exact p4
        | rt d => exact p4
  · have hi : i = ds.length := by omega
    subst hi
    refine .inl ⟨r1.stop H2 Hf2 le I2.fz, ?_⟩
    rw [List.drop_length] at p2
    exact p2 _ _ _ (Lw.refl _ _) I2
theorem satS_while {tc : TT} {tb : TS} {mc : Rho → M Bool} {mb : Rho → M (Fl × Rho)} (hc : SatT K W E tc mc) (hb : SatS K W E tb mb) : SatS K W E (tWhile tc tb) (fun ρ => whlM mc mb ρ) := fun H0 ρ S σ H Hf D I p => by
  have p : PostS K W E H0 Hf D (whlM mc mb ρ S) := p
  cases e : whlM mc mb ρ S with
  | none => rw [e] at p; exact False.elim p
  | some r =>
    obtain ⟨n, hn⟩ := whlM_some e
    rw [e] at p
    refine ⟨fun m σ H => ∃ ρ S Hf, StOk K W H0 ρ S σ H Hf ∧ PostS K W E H0 Hf D (whlN mc mb m ρ S), ⟨n, ρ, S, Hf, I, by rw [hn]; exact p⟩, ?_⟩
    rintro m σ2 H2 ⟨ρ2, S2, Hf2, I2, p2⟩
    cases m with
    | zero => exact False.elim p2
    | succ m =>
      have p2 : PostS K W E H0 Hf2 D (bnd (mc ρ2) (fun t => iteM t (bnd (mb ρ2) fun r => match r with
        | (.nx, ρ) => whlN mc mb m ρ
        | (.ct, ρ) => whlN mc mb m ρ
        | (.bk, ρ) => ret (.nx, ρ)
        | (.rt d, ρ) => ret (.rt d, ρ)) (ret (.nx, ρ2))) S2) := p2
      refine hc H0 ρ2 S2 σ2 H2 Hf2 _ I2 ((p2.bind I2.kp).mono fun x H3 ⟨d, S3, Hf3, _, s3, k3, r3, p3⟩ => ?_)
      cases r3
      have I3 := I2.step s3 k3
      cases x with
      | false =>
        rw [if_neg (by decide)]
        exact p3 _ _ _ (Lw.refl _ _) I3
      | true =>
        rw [if_pos rfl]
        refine ⟨fun σ' H' => ∃ ρ S Hf, StOk K W H0 ρ S σ' H' Hf ∧ PostS K W E H0 Hf D (whlN mc mb m ρ S), fun σ' H' h => ⟨m, Nat.lt_succ_self m, h⟩, ?_⟩
        refine hb H0 ρ2 S3 σ2 H3 Hf3 _ I3 ?_
        have p4 : PostS K W E H0 Hf3 D (bnd (mb ρ2) (fun r => match r with
          | (.nx, ρ) => whlN mc mb m ρ
          | (.ct, ρ) => whlN mc mb m ρ
          | (.bk, ρ) => ret (.nx, ρ)
          | (.rt d, ρ) => ret (.rt d, ρ)) S3) := p3
        unfold bnd at p4
        cases e : mb ρ2 S3 with
        | none => rw [e] at p4; exact p4
        | some q =>
          obtain ⟨q, S5⟩ := q
          rw [e] at p4
          cases q with
          | ex c fs => exact p4
          | ok r =>
            obtain ⟨f, ρ5⟩ := r
            cases f with
            | nx => exact fun σ' H' Hf' l I' => ⟨ρ5, S5, Hf', I', PostS.lw p4 l⟩
            | ct => exact fun σ' H' Hf' l I' => ⟨ρ5, S5, Hf', I', PostS.lw p4 l⟩
            | bk => exact p4
            | rt d => exact p4
end
end Oi

/-! Oi, part H: the rest of the expressions; defs, classes, calls. -/
namespace Oi
open PySem PySem.Spec PyProof.Rows L2

section
variable {K : PySem.W.Frag} {W : Wd} {E : XK}
/-! ### -a, chains -/
theorem sat_neg {t : TE} {m : Rho → M D} (h : Sat K W E t m) : Sat K W E (tUn (rU fun i => .int (-i)) t) (fun ρ => bnd (m ρ) fun x => lft (negD x)) := fun H0 ρ S σ H Hf Q I p => by
  refine h H0 ρ S σ H Hf _ I (p.bind.mono fun x H1 ⟨d, S1, Hf1, e1, s1, k1, r1, p1⟩ => ?_)
  obtain ⟨z, hz, q⟩ := p1.lft
  cases r1 with
  | int i => cases hz; exact ⟨_, rfl, q _ _ _ (Stp.refl s1.fz) k1 (.int _)⟩
  | _ => cases hz
theorem sat_chain {r r' : R2} {g g' : D → D → Option Bool} {ta tb tc : TE} {ma mb mc : Rho → M D} (hr : OpS K W r (fun x y => (g x y).map .bl)) (hr' : OpS K W r' (fun x y => (g' x y).map .bl)) (ha : Sat K W E ta ma) (hb : Sat K W E tb mb) (hc : Sat K W E tc mc) :
    Sat K W E (tChain r r' ta tb tc) (fun ρ => bnd (ma ρ) fun x => bnd (mb ρ) fun y => bnd (lft (g x y)) fun k => iteM k (bnd (mc ρ) fun z => lft ((g' y z).map .bl)) (ret (.bl false))) := fun H0 ρ S σ H Hf Q I p => by
  refine ha H0 ρ S σ H Hf _ I (p.bind.mono fun x H1 ⟨d, S1, Hf1, e1, s1, k1, r1, p1⟩ => ?_)
  refine hb H0 ρ S1 σ H1 Hf1 _ (I.step s1 k1) (p1.bind.mono fun y H2 ⟨e, S2, Hf2, e2, s2, k2, r2, p2⟩ => ?_)
  cases hg : g d e with
  | none => rw [hg] at p2; exact False.elim p2
  | some k =>
    rw [hg] at p2
    have p2 : PostG K W E (RE K W) H2 Hf2 (iteM k (bnd (mc ρ) fun z => lft ((g' e z).map .bl)) (ret (.bl false)) S2) Q := p2
    refine hr S2 H2 Hf2 x y d e (.bl k) _ s2.fz k2 (.rep (r1.mono s2.le)) (.rep r2) (by show (g d e).map D.bl = _; rw [hg]; rfl) fun v H3 Hf3 s3 k3 r3 => ?_
    have p2 := p2.step s3
    cases r3
    refine ⟨k, rfl, ?_⟩
    cases k with
    | false =>
      rw [if_neg (by decide)]
      exact p2 _ _ _ (Stp.refl s3.fz) k3 (.bl _)
    | true =>
      rw [if_pos rfl]
      refine hc H0 ρ S2 σ H3 Hf3 _ (((I.step s1 k1).step s2 k2).step s3 k3) (p2.bind.mono fun z H4 ⟨f, S4, Hf4, e4, s4, k4, r4, p4⟩ => ?_)
      obtain ⟨c, hc', q⟩ := p4.lft
      exact hr' S4 H4 Hf4 y z e f c Q s4.fz k4 (.rep ((r2.mono s3.le).mono s4.le)) (.rep r4) hc' q

/-! ### dicts with constant keys -/
theorem PostG.bindN {α β γ δ : Type} {R : Hp → Hp → β → α → Prop} {H Hf Ha : Hp} {R' : Hp → Hp → δ → γ → Prop} {m : M α} {f : α → M γ} {S : DS} {Q : δ → Hp → Prop} (s0 : Stp W H Hf Ha Hf) (h : PostG K W E R' H Hf (bnd m f S) Q) :
    PostG K W E R Ha Hf (m S) (fun v H1 => ∃ d S1 Hf1, m S = some (.ok d, S1) ∧ Stp W Ha Hf H1 Hf1 ∧ DOk W S1 H1 ∧ R H1 Hf1 v d ∧ PostG K W E R' H Hf (f d S1) Q) := by
  unfold bnd at h
  cases e : m S with
  | none => rw [e] at h; exact h
  | some q =>
    obtain ⟨q, S'⟩ := q
    rw [e] at h
    cases q with
    | ok d => exact fun v H' Hf' a b c => ⟨d, S', Hf', rfl, a, b, c, h⟩
    | ex c fs => exact ExP.step h s0.kp
theorem RepK.look {Hf : Hp} {k : Str} {d : D} : ∀ {kvs : List (Key × V)} {ds : List (D × D)}, RepK K W Hf kvs ds → lookD k ds = some d → ∃ v, valV kvs (.inr k) = some v ∧ Rep K W Hf v d
  | _, _, .nil, e => by cases e
  | _, _, .str (x := x) (v := v) (vs := vs) (d := d') (ds := ds) r t, e => by
    have e : (if x = k then some d' else lookD k ds) = some d := e
    by_cases z : x = k
    · rw [if_pos z] at e
      cases e
      exact ⟨v, valV_pos (congrArg Sum.inr z), r⟩
    · rw [if_neg z] at e
      rw [valV_neg (fun q => z (Sum.inr.inj q))]
      exact RepK.look t e
  | _, _, .int (x := x) (v := v) (vs := vs) (d := d') (ds := ds) r t, e => by
    have e : lookD k ds = some d := e
    rw [valV_neg (fun q => by cases q)]
    exact RepK.look t e
theorem sat_key {k : String} {t : TE} {m : Rho → M D} (h : Sat K W E t m) : Sat K W E (tDGet t (tC (.str (Str.ofString k)))) (fun ρ => bnd (m ρ) fun x => lft (keyD x k)) := fun H0 ρ S σ H Hf Q I p => by
  refine h H0 ρ S σ H Hf _ I (p.bind.mono fun x H1 ⟨d, S1, Hf1, e1, s1, k1, r1, p1⟩ => ?_)
  obtain ⟨z, hz, q⟩ := p1.lft
  cases r1 with
  | dct ha rk =>
    obtain ⟨v, hv, rv⟩ := rk.look (show lookD (Str.ofString k) _ = some z from hz)
    exact ⟨_, v, rfl, .inl ⟨_, .inr (Str.ofString k), .inl (s1.fz.le _ _ ha), rfl, hv.symm⟩, q _ _ _ (Stp.refl s1.fz) k1 rv⟩
  | _ => cases hz
def Ky.key : Ky → Key
  | .s x => .inr (Str.ofString x)
  | .i x => .inl x
theorem Ky.key_inj : ∀ {a b : Ky}, a.key = b.key → a = b
  | .s x, .s y, h => by rw [ofString_inj (Sum.inr.inj h)]
  | .i x, .i y, h => by rw [Sum.inl.inj h]
  | .s x, .i y, h => nomatch h
  | .i x, .s y, h => nomatch h
def pairsOf : List Ky → List TE → List (TE × TE)
  | k :: ks, t :: ts => (tC (kV k.key), t) :: pairsOf ks ts
  | _, _ => []
theorem repK_zip {Hf : Hp} : ∀ {ks : List Ky} {vs : List V} {ds : List D}, RepL K W Hf vs ds → RepK K W Hf ((ks.map Ky.key).zip vs) ((ks.map Ky.d).zip ds)
  | [], _, _, _ => .nil
  | _ :: _, _, _, .nil => .nil
  | .s x :: ks, _, _, .cons r t => .str r (repK_zip t)
  | .i x :: ks, _, _, .cons r t => .int r (repK_zip t)
/-- the values of a display -/
inductive SatPs (K : PySem.W.Frag) (W : Wd) (E : XK) : List TE → (Rho → M (List D)) → Prop where
  | nil : SatPs K W E [] (fun _ => ret [])
  | cons {t : TE} {ts : List TE} {m : Rho → M D} {ms : Rho → M (List D)} : Sat K W E t m → SatPs K W E ts ms → SatPs K W E (t :: ts) (fun ρ => bnd (m ρ) fun x => bnd (ms ρ) fun xs => ret (x :: xs))
theorem satPs_run {ts : List TE} {m : Rho → M (List D)} (h : SatPs K W E ts m) : ∀ (ks : List Ky) (H0 : En) (ρ : Rho) (S : DS) (σ : L2.St) (H Hf : Hp) (Q : List (V × V) → Hp → Prop), ks.length = ts.length → StOk K W H0 ρ S σ H Hf →
    PostG K W E (RA K W) H Hf (m ρ S) (fun vs H1 => vs.length = ts.length → Q (((ks.map Ky.key).zip vs).map fun kv => (kV kv.1, kv.2)) H1) → tPairs (pairsOf ks ts) σ H Q := by
  induction h with
  | nil =>
    intro ks H0 ρ S σ H Hf Q hl I p
    match ks, hl with
    | [], _ => exact p [] H Hf (Stp.refl I.fz) I.dok .nil rfl
  | @cons t ts m ms h1 h2 ih =>
    intro ks H0 ρ S σ H Hf Q hl I p
    match ks, hl with
    | k :: ks, hl =>
      show t σ H fun y H2 => tPairs (pairsOf ks ts) σ H2 fun ps H3 => Q ((kV k.key, y) :: ps) H3
      refine h1 H0 ρ S σ H Hf _ I (p.bind.mono fun x H1 ⟨d, S1, Hf1, e1, s1, k1, r1, p1⟩ => ?_)
      refine ih ks H0 ρ S1 σ H1 Hf1 _ (by simpa using hl) (I.step s1 k1) (p1.bind.mono fun y H2 ⟨e, S2, Hf2, e2, s2, k2, r2, p2⟩ hy => ?_)
      exact p2 (x :: y) H2 Hf2 (Stp.refl s2.fz) k2 (.cons (r1.mono s2.le) r2) (by simpa using hy)
theorem mergeK_new : ∀ {ks : List Ky} {vs : List V} {acc : List (Key × V)}, ks.Nodup → (∀ k ∈ ks, valV acc k.key = none) → mergeK acc ((ks.map Ky.key).zip vs) = acc ++ (ks.map Ky.key).zip vs
  | [], vs, acc, _, _ => by simp [mergeK]
  | k :: ks, [], acc, _, _ => by simp [mergeK]
  | k :: ks, v :: vs, acc, nd, h => by
    have nd := List.nodup_cons.mp nd
    show mergeK (putK acc k.key v) ((ks.map Ky.key).zip vs) = _
    have hk := h k List.mem_cons_self
    rw [putK_new v hk, mergeK_new nd.2 fun j hj => ?_, List.append_assoc]
    · rfl
    · rw [valV_snoc _ _ _ _ hk, if_neg (fun z => nd.1 (by rw [← Ky.key_inj z]; exact hj))]
      exact h j (List.mem_cons_of_mem _ hj)
theorem sat_dct {ks : List Ky} {ts : List TE} {m : Rho → M (List D)} (hl : ks.length = ts.length) (hts : ∀ ρ S ds S', m ρ S = some (.ok ds, S') → ds.length = ts.length) (h : SatPs K W E ts m) :
    Sat K W E (tDisp (pairsOf ks ts)) (fun ρ => bnd (m ρ) fun ds => lft (dctD ks ds)) := fun H0 ρ S σ H Hf Q I p => by
  intro a ha
  have hf : Hf a = none := by
    cases q : Hf a with
    | none => rfl
    | some u => rw [I.fz.le a u q] at ha; cases ha
  have s0 : Stp W H Hf (upd H a (.dK [])) Hf := Stp.newO I.fz ha
  refine satPs_run h ks H0 ρ S σ _ Hf _ hl (I.step s0 (I.dok.new ha)) ((PostG.bindN s0 p).mono fun vs H1 ⟨ds, S1, Hf1, e1, s1, k1, r1, p1⟩ hv => ?_)
  obtain ⟨z, hz, q⟩ := p1.lft
  have na1 : a ≠ W.st := fun z => I.dok.n1 (z ▸ ha)
  have na2 : a ≠ W.l1 := fun z => I.dok.n2 (z ▸ ha)
  have h1 : H1 a = some (.dK []) := s1.kp.keep a _ upd_same na1 na2 fun ps z => nomatch z
  have hf1 : Hf1 a = none := by
    cases q : Hf1 a with
    | none => rfl
    | some u => exact ((s1.nw a (by rw [q]; exact fun z => nomatch z)).elim (fun z => z hf) fun z => by rw [upd_same] at z; cases z).elim
  obtain ⟨⟨c1, c2, c3⟩, rfl⟩ := ite_some (show (if ks.length = ds.length ∧ ks.length ≤ 15 ∧ ks.Nodup then some (D.dct ((ks.map Ky.d).zip ds)) else none) = some z from hz)
  refine ⟨h1, _, rfl, ?_, ?_⟩
  · rw [List.length_zip, List.length_map]
    omega
  · rw [mergeK_new c3 fun _ _ => rfl, List.nil_append]
    have dk : DOk W S1 (upd H1 a (.dK ((ks.map Ky.key).zip vs))) := by
      refine ⟨by rw [upd_ne (Ne.symm na1)]; exact k1.st, by rw [upd_ne (Ne.symm na2)]; exact k1.l1, by rw [upd_ne (fun z => by have := k1.l2; rw [z, h1] at this; cases this)]; exact k1.l2, fun pp hp => ?_⟩
      obtain ⟨ps, e1, e2, e3⟩ := k1.tabs pp hp
      refine ⟨ps, by rw [upd_ne (fun z => by rw [z, h1] at e1; cases e1)]; exact e1, e2, fun pos cv hc => ?_⟩
      obtain ⟨c, g1, g2⟩ := e3 pos cv hc
      exact ⟨c, g1, by rw [upd_ne (fun z => by rw [z, h1] at g2; cases g2)]; exact g2⟩
    have sA : Stp W H Hf H1 Hf1 := s0.trans s1
    have sB : Stp W H Hf (upd H1 a (.dK ((ks.map Ky.key).zip vs))) Hf1 := sA.mut ha hf1 (by rw [h1]; exact fun z => nomatch z)
    have sC := sB.frz (a := a) upd_same hf1 ha I.dok.n1 I.dok.n2 fun ps z => nomatch z
    have le : Le Hf1 (upd Hf1 a (.dK ((ks.map Ky.key).zip vs))) := fun b u e => by rw [upd_ne (fun z => by rw [z, hf1] at e; cases e)]; exact e
    exact q _ _ _ sC dk (.dct upd_same (repK_zip (r1.mono le)))
theorem sat_dct0 : Sat K W E tDNewK (fun _ => lft (dctD [] [])) := fun H0 ρ S σ H Hf Q I p => by
  intro a ha
  exact p _ _ _ (Stp.new I.fz ha I.dok.n1 I.dok.n2 fun ps z => nomatch z) (I.dok.new ha) (.dct upd_same .nil)

/-! ### isinstance -/
theorem sat_isA {G : Tb} (g : GOk K G) {c : String} {t : TE} {m : Rho → M D} (h : Sat K W E t m) : Sat K W E (tCB (rIsU K) (tCons t (tCons (tC (cvV K G c)) tNil))) (fun ρ => bnd (m ρ) fun x => lft ((isD G x c).map .bl)) := fun H0 ρ S σ H Hf Q I p => by
  refine h H0 ρ S σ H Hf _ I (p.bind.mono fun x H1 ⟨d, S1, Hf1, e1, s1, k1, r1, p1⟩ => ?_)
  obtain ⟨z, hz, q⟩ := p1.lft
  obtain ⟨b, hb, rfl⟩ := map_some hz
  exact isD_ok g (.rep r1) s1.fz hb (q _ _ _ (Stp.refl s1.fz) k1 (.bl _))
end
end Oi

/-! Oi, part I: defs, classes, calls. -/
namespace Oi
open PySem PySem.Spec PyProof.Rows L2

/-! ### a def's promise; gr: the guards are wanted to be known -/
structure FnP (gr : Bool) (P : Program) (w : World) (K : PySem.W.Frag) (mg : Str → Option Value) (base : Heap) (k : Nat) (f : Addr) (fd : FuncData) (ps : List Str) (sp : Sp) : Prop where
  len : ∀ vs H Q E, sp vs H Q E → vs.length = ps.length
  go : ∀ (A : Around) (out : List Env) (s : Shared) (H : Hp) (ar : Args) (us : List Value) (vs : List V) (Q : VK) (E : XK), Room k A → (gr = true → A.guards = some []) → Env0 P w K mg base A out s H → BindsTo s fd ar (ps.zip us) → Vals vs us → sp vs H Q E →
    codeAny (model P w) A (.call (.ref f) ar) (CR (L2.CX P w) out P w H s Q E) s
section
variable {P : Program} {w : World} {K : PySem.W.Frag} {mg : Str → Option Value} {base : Heap} {k : Nat} {f : Addr} {fd : FuncData} {ps : List Str} {sp : Sp}
theorem FnP.of0 (F : FnOk P w K mg base CX0 k f fd ps sp) (gr : Bool) : FnP gr P w K mg base k f fd ps sp :=
  ⟨F.len, fun A out s H ar us vs Q E hr _ e0 hb r h => codeAny_mono (F.run A out s H ar us vs Q E hr e0 hb r h) fun z s' hz => by
    cases z with
    | error e => exact False.elim (show False from hz)
    | ok fl => cases fl <;> exact hz⟩
theorem FnP.mono {gr : Bool} {j : Nat} (F : FnP gr P w K mg base k f fd ps sp) (h : k ≤ j) : FnP gr P w K mg base j f fd ps sp :=
  ⟨F.len, fun A out s H ar us vs Q E hr => F.go A out s H ar us vs Q E (hr.mono h)⟩
theorem FnP.less {gr gr' : Bool} (F : FnP gr P w K mg base k f fd ps sp) (h : gr = true → gr' = true) : FnP gr' P w K mg base k f fd ps sp :=
  ⟨F.len, fun A out s H ar us vs Q E hr hg => F.go A out s H ar us vs Q E hr fun z => hg (h z)⟩
theorem FnP.imp {gr : Bool} {sp' : Sp} (F : FnP gr P w K mg base k f fd ps sp) (h : ∀ vs H Q E, sp' vs H Q E → sp vs H Q E) : FnP gr P w K mg base k f fd ps sp' :=
  ⟨fun vs H Q E q => F.len vs H Q E (h _ _ _ _ q), fun A out s H ar us vs Q E hr hg e0 hb r q => F.go A out s H ar us vs Q E hr hg e0 hb r (h _ _ _ _ q)⟩
/-- a def of the text -/
theorem fnP_of {gr : Bool} {x qual : Str} {params : Arguments} {body : List Stmt} {scope : Scope} {dvs : List V} {kws : List (Str × V)} {N : List Str} (F : FunD K x qual params body scope dvs kws f fd) (S : FnScope N ps scope) (len : ∀ vs H Q E, sp vs H Q E → vs.length = ps.length)
    (hb : ∀ (cdv : Value) (A : Around) (out : List Env) (s : Shared) (H : Hp) (vs : List V) (Q : VK) (E : XK), PySem.W.codeIn K cdv qual = true → Room k (A.deeper (envOfC qual scope s.heap.objs.size f cdv)) → (gr = true → A.guards = some []) → sp vs H Q E →
      ∃ t, PSs (cxOf (L2.CX P w) P w K mg base N qual scope f cdv A out s H E) body t ∧ t { nx := fun _ H' => Q .non H', rt := Q } (L2.start N vs) H) : FnP gr P w K mg base (k + 1) f fd ps sp := by
  obtain ⟨oc, od, dV, kV, doc, pm, an, cdv, ct, osl, e, lk, hcd, _⟩ := F.ex
  subst e
  exact ⟨len, fun A out s H ar us vs Q E hr hg e0 hbd r h => LamX.run_ofS lk hcd S hr e0 hbd r (len _ _ _ _ h) fun hr' => hb cdv A out s H vs Q E hcd hr' hg h⟩
end

/-! ### calls -/
def plainE : Expr → Bool
  | .Starred _ _ => false
  | _ => true
theorem star1 {e : Expr} {es : List Expr} {env : Env} (h : plainE e = true) : starEach (e :: es) env = (false, eval e env) :: starEach es env := by
  cases e <;> first | rfl | cases h
theorem starAny {pos : Pos} {env : Env} : ∀ {es : List Expr}, es.all plainE = true → (backTo pos (starEach es env)).any (·.1) = false
  | [], _ => rfl
  | e :: es, h => by
    rw [List.all_cons, Bool.and_eq_true] at h
    rw [star1 h.1]
    show (backTo pos (starEach es env)).any (·.1) = false
    exact starAny h.2
section
variable {X : Cx} {gr : Bool} {k : Nat} {f C : Addr} {fd : FuncData} {ps : List Str} {sp : Sp} {E : XK} {x : Str} {p pos : Pos} {es : List Expr} {t : TA}
theorem run_fnP {pins : List (Addr × Obj)} {σ : L2.St} {H : Hp} {s : Shared} {Q : VK} {us : List Value} {vs : List V} (F : FnP gr X.prog X.w X.K X.mg X.base k f fd ps sp) (hr : Room k X.A) (hgd : gr = true → X.A.guards = some []) (hb : Binds X.K fd ps []) (hx : Passes (L2.CX X.prog X.w) X E)
    (I : Inv X pins σ H s) (r : Vals vs us) (h : sp vs H Q E) : wpAny (model X.prog X.w) X.A (call (.ref f) us) (EP X pins σ Q) X.xe s := by
  have b := hb s us I.kIn (by rw [List.append_nil, ← r.length]; exact F.len _ _ _ _ h)
  rw [List.append_nil] at b
  refine wpAny_call (codeAny_mono (F.go X.A X.stack s H ⟨us, []⟩ us vs Q E hr hgd I.env0 b r h) fun z s' hz => ?_)
  match z, hz with
  | .error e, hz => exact hx pins σ H s e s' I hz
  | .ok (.ret u), hz => exact I.after hz
theorem pe_callP (F : FnP gr X.prog X.w X.K X.mg X.base k f fd ps sp) (hr : Room k X.A) (hgd : gr = true → X.A.guards = some []) (hg : Gl X x) (hm : X.mg x = some (.ref f)) (hk : PySem.W.keepIn X.K (.ref f) = true) (hb : Binds X.K fd ps []) (hx : Passes (L2.CX X.prog X.w) X E)
    (ha : PA X es t) (h0 : es = [] → t = tNil) (hs : es.all plainE = true) (hd : (x == ("__debug__" : Str)) = false) : PE X (.Call (.Name x p) es [] pos) (tCall sp [] E t) := ⟨fun pins s σ H Q I h => by
  refine wpAny_Call_Name_kw (ld_glob I hg hm ?_ hd)
  cases es with
  | nil =>
    rw [h0 rfl] at h
    exact PySem.W.callWith_K0 I.kIn hk (run_fnP (us := []) F hr hgd hb hx I .nil (by simpa [tCall, tNil] using h))
  | cons e es =>
    rw [List.all_cons, Bool.and_eq_true] at hs
    refine PySem.W.callWith_K (h₀ := X.base) I.ok.mod.kin hk (thn (ha.run pos pins s σ H _ I h) fun us s1 ⟨vs, H1, I1, r, q⟩ => ⟨I1.kIn, ?_⟩) (star1 hs.1) (starAny hs.2)
    exact run_fnP F hr hgd hb hx I1 r (by simpa using q)⟩
theorem under_make {A : Around} {us : List Value} {kw : List (Str × Value)} : (A.under (.builtin "type.__call__" ⟨.ref C :: us, kw⟩)).guards = A.guards := by
  first
    | rfl
    | (cases h : A.guards <;> simp [Around.under, Code.guards, Code.isGuard, pushGuards, guardIds, h])
theorem run_makeP {pins : List (Addr × Obj)} {σ : L2.St} {H : Hp} {s : Shared} {Q : VK} {us : List Value} {vs : List V} (M : Mk X.K C f) (F : FnP gr X.prog X.w X.K X.mg X.base k f fd ps sp) (hr : Room (k + 1) X.A) (hgd : gr = true → X.A.guards = some []) (hb : Binds X.K fd ps [])
    (hx : Passes (L2.CX X.prog X.w) X E) (I : Inv X pins σ H s) (r : Vals vs us) (h : ∀ y dy, H y = none → H dy = none → dy ≠ y → sp (.ref y :: vs) (upd (upd H dy (.own y)) y (.ins C dy [])) (fun v H2 => v = .non ∧ Q (.ref y) H2) E) :
    wpAny (model X.prog X.w) X.A (call (.ref C) us) (EP X pins σ Q) X.xe s := by
  have J := Inv.made (C := C) I
  have h := h (s.heap.objs.size + 1) s.heap.objs.size (I.hok.fresh (Nat.le_succ _)) I.fresh (Nat.ne_of_lt (Nat.lt_succ_self _))
  have rr : Vals (V.ref (s.heap.objs.size + 1) :: vs) (Value.ref (s.heap.objs.size + 1) :: us) := .cons rfl r
  have b := hb _ (Value.ref (s.heap.objs.size + 1) :: us) J.kIn (by rw [List.append_nil, ← rr.length]; exact F.len _ _ _ _ h)
  rw [List.append_nil] at b
  refine wpAny_call (make_map (f := f) I.kIn M.makes M.init (beq_iff_eq.mp M.fn) (codeAny_mono (F.go _ X.stack _ _ ⟨_, []⟩ _ _ _ E (hr.make C us []) (fun z => under_make.trans (hgd z)) (J.env0.make C us []) b rr h) fun z s' hz => ?_))
  match z, hz with
  | .error e, hz => exact hx pins σ _ _ e s' J hz
  | .ok (.ret u), hz =>
    obtain ⟨v, H', J2, rv, ev, q⟩ := J.after hz
    subst ev
    exact ⟨rv, ⟨V.ref (s.heap.objs.size + 1), H', J2, rfl, q⟩⟩
theorem pe_makeP (M : Mk X.K C f) (F : FnP gr X.prog X.w X.K X.mg X.base k f fd ps sp) (hr : Room (k + 1) X.A) (hgd : gr = true → X.A.guards = some []) (hg : Gl X x) (hm : X.mg x = some (.ref C)) (hb : Binds X.K fd ps []) (hx : Passes (L2.CX X.prog X.w) X E)
    (ha : PA X es t) (h0 : es = [] → t = tNil) (hs : es.all plainE = true) (hd : (x == ("__debug__" : Str)) = false) : PE X (.Call (.Name x p) es [] pos) (tMake C sp [] E t) := ⟨fun pins s σ H Q I h => by
  refine wpAny_Call_Name_kw (ld_glob I hg hm ?_ hd)
  cases es with
  | nil =>
    rw [h0 rfl] at h
    exact PySem.W.callWith_K0 I.kIn M.kp (run_makeP (us := []) M F hr hgd hb hx I .nil (by simpa [tMake, tNil] using h))
  | cons e es =>
    rw [List.all_cons, Bool.and_eq_true] at hs
    refine PySem.W.callWith_K (h₀ := X.base) I.ok.mod.kin M.kp (thn (ha.run pos pins s σ H _ I h) fun us s1 ⟨vs, H1, I1, r, q⟩ => ⟨I1.kIn, ?_⟩) (star1 hs.1) (starAny hs.2)
    exact run_makeP M F hr hgd hb hx I1 r (by simpa using q)⟩
end

/-! ### calls with keywords -/
theorem perm_rel {α β : Type} {F : α → β → Prop} {xs : List α} {ys : List β} (h : xs.length = ys.length) (hg : ∀ (i : Nat) (x : α), xs[i]? = some x → ∃ y, ys[i]? = some y ∧ F x y) : ∀ {pm : List Nat} {as : List α}, perm pm xs = some as → ∃ bs, perm pm ys = some bs ∧ Paired F as bs
  | [], as, e => by cases e; exact ⟨[], rfl, .nil⟩
  | p :: pm, as, e => by
    unfold perm at e
    split at e
    · rename_i a as' e1 e2
      cases e
      obtain ⟨b, h1, h2⟩ := hg p a e1
      obtain ⟨bs, h3, h4⟩ := perm_rel h hg e2
      refine ⟨b :: bs, ?_, .cons h2 h4⟩
      unfold perm
      rw [h1, h3]
    · cases e
theorem perm_vals {xs : List V} {us : List Value} (r : Vals xs us) {pm : List Nat} {as : List V} (e : perm pm xs = some as) : ∃ bs, perm pm us = some bs ∧ Vals as bs := perm_rel r.length (fun i x h => r.get h) e
theorem perm_succ {α : Type} {x : α} {xs : List α} : ∀ {pm : List Nat} {as : List α}, perm pm xs = some as → perm (pm.map (· + 1)) (x :: xs) = some as
  | [], as, e => e
  | p :: pm, as, e => by
    unfold perm at e
    split at e
    · rename_i a as' e1 e2
      cases e
      rw [List.map_cons]
      unfold perm
      rw [List.getElem?_cons_succ, e1, perm_succ e2]
    · cases e
theorem perm_self {α : Type} {x : α} {xs as : List α} {pm : List Nat} (e : perm pm xs = some as) : perm (0 :: pm.map (· + 1)) (x :: xs) = some (x :: as) := by
  unfold perm
  rw [perm_succ e]
  rfl
/-- n values, keywords ks, put into the parameters' order by pm -/
def KwB (K : PySem.W.Frag) (fd : FuncData) (ps : List Str) (n : Nat) (ks : List Str) (pm : List Nat) : Prop := ∀ (s : Shared) (us ws as : List Value), K.In s.heap → us.length = n → ws.length = ks.length → perm pm (us ++ ws) = some as → BindsTo s fd ⟨us, ks.zip ws⟩ (ps.zip as)
def tCallKP (sp : Sp) (pm : List Nat) (n m : Nat) (E : XK) (t tk : TA) : TE := fun σ H Q => t σ H fun vs H1 => tk σ H1 fun zs H2 => vs.length = n ∧ zs.length = m ∧ ∃ as, perm pm (vs ++ zs) = some as ∧ sp as H2 Q E
def tMakeKP (C : Addr) (sp : Sp) (pm : List Nat) (n m : Nat) (E : XK) (t tk : TA) : TE := fun σ H Q => t σ H fun vs H1 => tk σ H1 fun zs H2 => vs.length = n ∧ zs.length = m ∧ ∃ as, perm pm (vs ++ zs) = some as ∧
  ∀ y dy, H2 y = none → H2 dy = none → dy ≠ y → sp (.ref y :: as) (upd (upd H2 dy (.own y)) y (.ins C dy [])) (fun v H3 => v = .non ∧ Q (.ref y) H3) E
theorem kw_all {pos : Pos} {env : Env} : ∀ {kws : List Keyword} {ks : List Str}, kws.map (·.arg) = ks.map some → (backToKw pos (keywordEach kws env)).all (·.1.isSome) = true ∧ (backToKw pos (keywordEach kws env)).filterMap (·.1) = ks ∧ (backToKw pos (keywordEach kws env)).any (·.1.isNone) = false
  | [], [], _ => ⟨rfl, rfl, rfl⟩
  | [], _ :: _, h => by cases h
  | _ :: _, [], h => by cases h
  | ⟨a, e, p⟩ :: kws, k :: ks, h => by
    rw [List.map_cons, List.map_cons] at h
    have h1 : a = some k := (List.cons.inj h).1
    subst h1
    obtain ⟨q1, q2, q3⟩ := kw_all (pos := pos) (env := env) (List.cons.inj h).2
    refine ⟨?_, ?_, ?_⟩
    · show (true && (backToKw pos (keywordEach kws env)).all (·.1.isSome)) = true
      rw [q1]
      rfl
    · show k :: (backToKw pos (keywordEach kws env)).filterMap (·.1) = _
      rw [q2]
    · show (false || (backToKw pos (keywordEach kws env)).any (·.1.isNone)) = false
      rw [q3]
      rfl
section
variable {X : Cx} {gr : Bool} {k n : Nat} {f C : Addr} {fd : FuncData} {ps ks : List Str} {pm : List Nat} {sp : Sp} {E : XK} {x : Str} {p pos : Pos} {es : List Expr} {kws : List Keyword} {t tk : TA}
theorem run_fnKP {pins : List (Addr × Obj)} {σ : L2.St} {H : Hp} {s : Shared} {Q : VK} {us ws : List Value} {vs zs as : List V} (F : FnP gr X.prog X.w X.K X.mg X.base k f fd ps sp) (hr : Room k X.A) (hgd : gr = true → X.A.guards = some []) (hb : KwB X.K fd ps n ks pm) (hx : Passes (L2.CX X.prog X.w) X E)
    (I : Inv X pins σ H s) (r : Vals vs us) (rz : Vals zs ws) (l1 : vs.length = n) (l2 : zs.length = ks.length) (hp : perm pm (vs ++ zs) = some as) (h : sp as H Q E) : wpAny (model X.prog X.w) X.A (call (.ref f) us (ks.zip ws)) (EP X pins σ Q) X.xe s := by
  obtain ⟨bs, e1, e2⟩ := perm_vals (r.append rz) hp
  refine wpAny_call (codeAny_mono (F.go X.A X.stack s H ⟨us, ks.zip ws⟩ bs as Q E hr hgd I.env0 (hb s us ws bs I.kIn (by rw [← r.length]; exact l1) (by rw [← rz.length]; exact l2) e1) e2 h) fun z s' hz => ?_)
  match z, hz with
  | .error e, hz => exact hx pins σ H s e s' I hz
  | .ok (.ret u), hz => exact I.after hz
theorem pe_callKP (F : FnP gr X.prog X.w X.K X.mg X.base k f fd ps sp) (hr : Room k X.A) (hgd : gr = true → X.A.guards = some []) (hg : Gl X x) (hm : X.mg x = some (.ref f)) (hk : PySem.W.keepIn X.K (.ref f) = true) (hb : KwB X.K fd ps n ks pm) (hx : Passes (L2.CX X.prog X.w) X E)
    (ha : PA X es t) (h0 : es = [] → t = tNil) (hs : es.all plainE = true) (hkw : PK X kws tk) (hks : kws.map (·.arg) = ks.map some) (hd : (x == ("__debug__" : Str)) = false) : PE X (.Call (.Name x p) es kws pos) (tCallKP sp pm n ks.length E t tk) := ⟨fun pins s σ H Q I h => by
  obtain ⟨k1, k2, k3⟩ := kw_all (pos := pos) (env := X.env) hks
  refine wpAny_Call_Name_kw (ld_glob I hg hm ?_ hd)
  cases es with
  | nil =>
    rw [h0 rfl] at h
    refine PySem.W.callWith_KW0 (h₀ := X.base) I.ok.mod.kin hk k1 (thn (hkw.run pos pins s σ H _ I h) fun ws s2 ⟨zs, H2, I2, rz, l1, l2, as, hp, q⟩ => ⟨I2.kIn, ?_⟩) (by rw [k3]; rfl)
    rw [k2]
    exact run_fnKP (us := []) (vs := []) F hr hgd hb hx I2 .nil rz l1 l2 hp q
  | cons e es =>
    rw [List.all_cons, Bool.and_eq_true] at hs
    refine PySem.W.callWith_KW (h₀ := X.base) I.ok.mod.kin hk k1 (thn (ha.run pos pins s σ H _ I h) fun us s1 ⟨vs, H1, I1, r, q⟩ => thn (hkw.run pos pins s1 σ H1 _ I1 q) fun ws s2 ⟨zs, H2, I2, rz, l1, l2, as, hp, q⟩ => ⟨I2.kIn, ?_⟩) (by rw [k3, Bool.or_false, star1 hs.1]; exact starAny hs.2) (star1 hs.1)
    rw [k2]
    exact run_fnKP F hr hgd hb hx I2 r rz l1 l2 hp q⟩
theorem run_makeKP {pins : List (Addr × Obj)} {σ : L2.St} {H : Hp} {s : Shared} {Q : VK} {us ws : List Value} {vs zs as : List V} (M : Mk X.K C f) (F : FnP gr X.prog X.w X.K X.mg X.base k f fd ps sp) (hr : Room (k + 1) X.A) (hgd : gr = true → X.A.guards = some []) (hb : KwB X.K fd ps (n + 1) ks (0 :: pm.map (· + 1)))
    (hx : Passes (L2.CX X.prog X.w) X E) (I : Inv X pins σ H s) (r : Vals vs us) (rz : Vals zs ws) (l1 : vs.length = n) (l2 : zs.length = ks.length) (hp : perm pm (vs ++ zs) = some as)
    (h : ∀ y dy, H y = none → H dy = none → dy ≠ y → sp (.ref y :: as) (upd (upd H dy (.own y)) y (.ins C dy [])) (fun v H2 => v = .non ∧ Q (.ref y) H2) E) : wpAny (model X.prog X.w) X.A (call (.ref C) us (ks.zip ws)) (EP X pins σ Q) X.xe s := by
  have J := Inv.made (C := C) I
  have h := h (s.heap.objs.size + 1) s.heap.objs.size (I.hok.fresh (Nat.le_succ _)) I.fresh (Nat.ne_of_lt (Nat.lt_succ_self _))
  have rr : Vals (V.ref (s.heap.objs.size + 1) :: vs) (Value.ref (s.heap.objs.size + 1) :: us) := .cons rfl r
  obtain ⟨bs, e1, e2⟩ := perm_vals (r.append rz) hp
  have e3 := perm_self (x := Value.ref (s.heap.objs.size + 1)) e1
  refine wpAny_call (make_map (f := f) I.kIn M.makes M.init (beq_iff_eq.mp M.fn) (codeAny_mono (F.go _ X.stack _ _ ⟨Value.ref (s.heap.objs.size + 1) :: us, ks.zip ws⟩ _ _ _ E (hr.make C us (ks.zip ws)) (fun z => under_make.trans (hgd z)) (J.env0.make C us (ks.zip ws))
    (hb _ (Value.ref (s.heap.objs.size + 1) :: us) ws _ J.kIn (by rw [← rr.length, List.length_cons, l1]) (by rw [← rz.length]; exact l2) e3) (.cons (show RelV (V.ref (s.heap.objs.size + 1)) (Value.ref (s.heap.objs.size + 1)) from rfl) e2) h) fun z s' hz => ?_))
  match z, hz with
  | .error e, hz => exact hx pins σ _ _ e s' J hz
  | .ok (.ret u), hz =>
    obtain ⟨v, H', J2, rv, ev, q⟩ := J.after hz
    subst ev
    exact ⟨rv, ⟨V.ref (s.heap.objs.size + 1), H', J2, rfl, q⟩⟩
theorem pe_makeKP (M : Mk X.K C f) (F : FnP gr X.prog X.w X.K X.mg X.base k f fd ps sp) (hr : Room (k + 1) X.A) (hgd : gr = true → X.A.guards = some []) (hg : Gl X x) (hm : X.mg x = some (.ref C)) (hb : KwB X.K fd ps (n + 1) ks (0 :: pm.map (· + 1))) (hx : Passes (L2.CX X.prog X.w) X E)
    (ha : PA X es t) (h0 : es = [] → t = tNil) (hs : es.all plainE = true) (hkw : PK X kws tk) (hks : kws.map (·.arg) = ks.map some) (hd : (x == ("__debug__" : Str)) = false) : PE X (.Call (.Name x p) es kws pos) (tMakeKP C sp pm n ks.length E t tk) := ⟨fun pins s σ H Q I h => by
  obtain ⟨k1, k2, k3⟩ := kw_all (pos := pos) (env := X.env) hks
  refine wpAny_Call_Name_kw (ld_glob I hg hm ?_ hd)
  cases es with
  | nil =>
    rw [h0 rfl] at h
    refine PySem.W.callWith_KW0 (h₀ := X.base) I.ok.mod.kin M.kp k1 (thn (hkw.run pos pins s σ H _ I h) fun ws s2 ⟨zs, H2, I2, rz, l1, l2, as, hp, q⟩ => ⟨I2.kIn, ?_⟩) (by rw [k3]; rfl)
    rw [k2]
    exact run_makeKP (us := []) (vs := []) M F hr hgd hb hx I2 .nil rz l1 l2 hp q
  | cons e es =>
    rw [List.all_cons, Bool.and_eq_true] at hs
    refine PySem.W.callWith_KW (h₀ := X.base) I.ok.mod.kin M.kp k1 (thn (ha.run pos pins s σ H _ I h) fun us s1 ⟨vs, H1, I1, r, q⟩ => thn (hkw.run pos pins s1 σ H1 _ I1 q) fun ws s2 ⟨zs, H2, I2, rz, l1, l2, as, hp, q⟩ => ⟨I2.kIn, ?_⟩) (by rw [k3, Bool.or_false, star1 hs.1]; exact starAny hs.2) (star1 hs.1)
    rw [k2]
    exact run_makeKP M F hr hgd hb hx I2 r rz l1 l2 hp q⟩
end

/-! ### the promises of the IR -/
section
variable {K : PySem.W.Frag} {W : Wd} {E : XK}
def spD (K : PySem.W.Frag) (W : Wd) (m : List D → M D) : Sp := fun vs H Q E => ∃ (ds : List D) (S : DS) (Hf : Hp), RepL K W Hf vs ds ∧ Fz W Hf H ∧ DOk W S H ∧ PostG K W E (RE K W) H Hf (m ds S) Q
def spI (K : PySem.W.Frag) (W : Wd) (c : String) (m : List D → M D) : Sp := fun vs H Q E => ∃ (ds : List D) (S : DS) (Hf H0 : Hp) (x dx : Addr) (ws : List V) (Q0 : VK), vs = .ref x :: ws ∧ H0 x = none ∧ H0 dx = none ∧ dx ≠ x ∧
  H = upd (upd H0 dx (.own x)) x (.ins (He.ga K (Str.ofString c)) dx []) ∧ RepL K W Hf ws ds ∧ Fz W Hf H0 ∧ DOk W S H0 ∧ (∀ H2, Q0 (.ref x) H2 → Q .non H2) ∧ PostG K W E (RE K W) H0 Hf (m ds S) Q0
theorem sat_callD {m : List D → M D} {t : TA} {ma : Rho → M (List D)} (h : SatA K W E t ma) : Sat K W E (tCall (spD K W m) [] E t) (fun ρ => bnd (ma ρ) fun ds => m ds) := fun H0 ρ S σ H Hf Q I p => by
  refine h H0 ρ S σ H Hf _ I (p.bind.mono fun x H1 ⟨d, S1, Hf1, e1, s1, k1, r1, p1⟩ => ?_)
  rw [List.append_nil]
  exact ⟨d, S1, Hf1, r1, s1.fz, k1, p1⟩
theorem sat_makeD {c : String} {m : List D → M D} {t : TA} {ma : Rho → M (List D)} (h : SatA K W E t ma) : Sat K W E (tMake (He.ga K (Str.ofString c)) (spI K W c m) [] E t) (fun ρ => bnd (ma ρ) fun ds => m ds) := fun H0 ρ S σ H Hf Q I p => by
  refine h H0 ρ S σ H Hf _ I (p.bind.mono fun x H1 ⟨d, S1, Hf1, e1, s1, k1, r1, p1⟩ => ?_)
  intro y dy hy hdy hn
  rw [List.append_nil]
  exact ⟨d, S1, Hf1, H1, y, dy, x, Q, rfl, hy, hdy, hn, rfl, r1, s1.fz, k1, fun H2 q => ⟨rfl, q⟩, p1⟩
theorem RepL.perm {Hf : Hp} {vs : List V} {ds es : List D} (r : RepL K W Hf vs ds) {pm : List Nat} (e : Oi.perm pm ds = some es) : ∃ as, Oi.perm pm vs = some as ∧ RepL K W Hf as es := by
  have go : ∀ {pm : List Nat} {es : List D}, Oi.perm pm ds = some es → ∃ as, Oi.perm pm vs = some as ∧ RepL K W Hf as es := fun {pm} => by
    induction pm with
    | nil => intro es e; cases e; exact ⟨[], rfl, .nil⟩
    | cons p pm ih =>
      intro es e
      unfold Oi.perm at e
      split at e
      · rename_i a as' e1 e2
        cases e
        obtain ⟨v, h1, h2⟩ := r.get' e1
        obtain ⟨bs, h3, h4⟩ := ih e2
        refine ⟨v :: bs, ?_, .cons h2 h4⟩
        unfold Oi.perm
        rw [h1, h3]
      · cases e
  exact go e
theorem sat_callK {m : List D → M D} {t tk : TA} {ma mk : Rho → M (List D)} {pm : List Nat} {n j : Nat} (h : SatA K W E t ma) (hk : SatA K W E tk mk) (hn : ∀ ρ S ds S', ma ρ S = some (.ok ds, S') → ds.length = n) (hj : ∀ ρ S ds S', mk ρ S = some (.ok ds, S') → ds.length = j) :
    Sat K W E (tCallKP (spD K W m) pm n j E t tk) (fun ρ => bnd (ma ρ) fun ds => bnd (mk ρ) fun zs => bnd (lft (Oi.perm pm (ds ++ zs))) fun as => m as) := fun H0 ρ S σ H Hf Q I p => by
  refine h H0 ρ S σ H Hf _ I (p.bind.mono fun x H1 ⟨d, S1, Hf1, e1, s1, k1, r1, p1⟩ => ?_)
  refine hk H0 ρ S1 σ H1 Hf1 _ (I.step s1 k1) (p1.bind.mono fun y H2 ⟨d2, S2, Hf2, e2, s2, k2, r2, p2⟩ => ?_)
  refine ⟨by rw [r1.length]; exact hn _ _ _ _ e1, by rw [r2.length]; exact hj _ _ _ _ e2, ?_⟩
  cases hp : Oi.perm pm (d ++ d2) with
  | none => rw [hp] at p2; exact False.elim p2
  | some es =>
    rw [hp] at p2
    obtain ⟨as, q1, q2⟩ := RepL.perm ((RepL.mono s2.le r1).append r2) hp
    exact ⟨as, q1, es, S2, Hf2, q2, s2.fz, k2, p2⟩
theorem sat_makeK {c : String} {m : List D → M D} {t tk : TA} {ma mk : Rho → M (List D)} {pm : List Nat} {n j : Nat} (h : SatA K W E t ma) (hk : SatA K W E tk mk) (hn : ∀ ρ S ds S', ma ρ S = some (.ok ds, S') → ds.length = n) (hj : ∀ ρ S ds S', mk ρ S = some (.ok ds, S') → ds.length = j) :
    Sat K W E (tMakeKP (He.ga K (Str.ofString c)) (spI K W c m) pm n j E t tk) (fun ρ => bnd (ma ρ) fun ds => bnd (mk ρ) fun zs => bnd (lft (Oi.perm pm (ds ++ zs))) fun as => m as) := fun H0 ρ S σ H Hf Q I p => by
  refine h H0 ρ S σ H Hf _ I (p.bind.mono fun x H1 ⟨d, S1, Hf1, e1, s1, k1, r1, p1⟩ => ?_)
  refine hk H0 ρ S1 σ H1 Hf1 _ (I.step s1 k1) (p1.bind.mono fun y H2 ⟨d2, S2, Hf2, e2, s2, k2, r2, p2⟩ => ?_)
  refine ⟨by rw [r1.length]; exact hn _ _ _ _ e1, by rw [r2.length]; exact hj _ _ _ _ e2, ?_⟩
  cases hp : Oi.perm pm (d ++ d2) with
  | none => rw [hp] at p2; exact False.elim p2
  | some es =>
    rw [hp] at p2
    obtain ⟨as, q1, q2⟩ := RepL.perm ((RepL.mono s2.le r1).append r2) hp
    exact ⟨as, q1, fun z dz hz hdz hn => ⟨es, S2, Hf2, H2, z, dz, as, Q, rfl, hz, hdz, hn, rfl, q2, s2.fz, k2, fun H3 q => ⟨rfl, q⟩, p2⟩⟩
/-- the entry of a def -/
theorem stOk_start {vs : List V} {ds : List D} {S : DS} {H Hf : Hp} {n : Nat} {a : Addr} (r : RepL K W Hf vs ds) (f : Fz W Hf H) (k : DOk W S H) (hn : ds.length ≤ n) :
    StOk K W ⟨H, a⟩ (ds.map Sl.val ++ List.replicate (n - ds.length) Sl.no) S (vs.map some ++ List.replicate (n - vs.length) none) H Hf := by
  have hl := r.length
  refine ⟨Kp.refl H, f, k, k.n1, k.n2, (by show H W.l2 ≠ none; rw [k.l2]; exact fun z => nomatch z), by simp; omega, fun i s o e1 e2 => ?_, fun i j s t b e1 e2 m1 m2 e3 e4 => ?_⟩
  · by_cases hi : i < ds.length
    · rw [List.getElem?_append_left (by simpa using hi), List.getElem?_map] at e1
      rw [List.getElem?_append_left (by simpa [hl] using hi), List.getElem?_map] at e2
      obtain ⟨d, hd, rfl⟩ := map_some e1
      obtain ⟨v, hv, rfl⟩ := map_some e2
      obtain ⟨v', hv', rv⟩ := r.get' hd
      rw [hv] at hv'
      cases hv'
      exact .val rv
    · rw [List.getElem?_append_right (by simpa using hi), List.getElem?_replicate] at e1
      split at e1
      · cases e1; exact .no _
      · cases e1
  · by_cases hi : i < ds.length
    · rw [List.getElem?_append_left (by simpa using hi), List.getElem?_map] at e1
      obtain ⟨d, hd, rfl⟩ := map_some e1
      cases m1
    · rw [List.getElem?_append_right (by simpa using hi), List.getElem?_replicate] at e1
      split at e1
      · cases e1; cases m1
      · cases e1
theorem iteM_post {α : Type} {β : Type} {R : Hp → Hp → β → α → Prop} {H Hf : Hp} {b : Bool} {m : M α} {S : DS} {Q : β → Hp → Prop} (p : PostG K W E R H Hf (iteM b m stk S) Q) : b = true ∧ PostG K W E R H Hf (m S) Q := by
  cases b with
  | false => exact False.elim p
  | true => exact ⟨rfl, p⟩
/-- a def's body -/
theorem run_body {G : Gm} {d : Df} {vs : List V} {ds : List D} {S : DS} {H Hf : Hp} {Q : VK} {t : TS} {N : List Str} (ht : SatS K W E t (fun ρ => exec G d.body ρ)) (hN : N.length = d.ns) (hp : d.np ≤ d.ns) (r : RepL K W Hf vs ds) (f : Fz W Hf H) (k : DOk W S H) (p : PostG K W E (RE K W) H Hf (runD G d ds S) Q) :
    t { nx := fun _ H' => Q .non H', rt := Q } (L2.start N vs) H := by
  obtain ⟨hl, p⟩ := iteM_post p
  have hl : ds.length = d.np := of_decide_eq_true hl
  have I := stOk_start (a := 0) (n := d.ns) r f k (by omega)
  have e1 : L2.start N vs = vs.map some ++ List.replicate (d.ns - vs.length) none := by
    unfold L2.start
    rw [hN]
  rw [e1]
  rw [hl] at I
  refine ht ⟨H, 0⟩ _ S _ H Hf _ I ?_
  show PostS K W E ⟨H, 0⟩ Hf _ (exec G d.body (ds.map Sl.val ++ List.replicate (d.ns - d.np) Sl.no) S)
  unfold bnd at p
  cases e : exec G d.body (ds.map Sl.val ++ List.replicate (d.ns - d.np) Sl.no) S with
  | none => rw [e] at p; exact p
  | some q =>
    obtain ⟨q, S'⟩ := q
    rw [e] at p
    cases q with
    | ex c fs => exact p
    | ok z =>
      obtain ⟨fl, ρ'⟩ := z
      cases fl with
      | nx => exact fun σ H' Hf' l J => p _ _ _ ⟨J.kp, l.le, J.fz, l.nw⟩ J.dok .non
      | rt d => exact fun v H' Hf' l kp fz dk rv => p _ _ _ ⟨kp, l.le, fz, l.nw⟩ dk rv
      | bk => exact False.elim p
      | ct => exact False.elim p
theorem run_init {G : Gm} {c : String} {d : Df} {vs : List V} {H : Hp} {Q : VK} {t : TS} {N : List Str} (ht : SatS K W E t (fun ρ => exec G d.body ρ)) (hN : N.length = d.ns) (hp : d.np ≤ d.ns) (h : spI K W c (makeD G c d) vs H Q E) :
    t { nx := fun _ H' => Q .non H', rt := Q } (L2.start N vs) H := by
  obtain ⟨ds, S, Hf, H0, x, dx, ws, Q0, rfl, hx, hdx, hne, rfl, r, f, k, hq, p⟩ := h
  obtain ⟨hl, p⟩ := iteM_post p
  have hl : ds.length + 1 = d.np := of_decide_eq_true hl
  have hrl := r.length
  have I := stOk_start (a := x) (n := d.ns - 1) r f k (by omega)
  have hfx : Hf x = none := by
    cases q : Hf x with
    | none => rfl
    | some u => rw [f.le x u q] at hx; cases hx
  have h1 : (upd H0 dx (.own x)) x = none := by rw [upd_ne (Ne.symm hne)]; exact hx
  have s1 : Stp W H0 Hf (upd H0 dx (.own x)) Hf := Stp.newO f hdx
  have s2 := s1.trans (Stp.newO (p := x) (o := .ins (He.ga K (Str.ofString c)) dx []) s1.fz h1)
  have k2 := (k.new (o := .own x) hdx).new (o := .ins (He.ga K (Str.ofString c)) dx []) h1
  have I2 := I.step s2 k2
  have e1 : L2.start N (V.ref x :: ws) = some (V.ref x) :: (ws.map some ++ List.replicate (d.ns - 1 - ws.length) none) := by
    unfold L2.start
    rw [hN]
    show some (V.ref x) :: (ws.map some ++ List.replicate (d.ns - (ws.length + 1)) none) = _
    rw [show d.ns - (ws.length + 1) = d.ns - 1 - ws.length from by omega]
  rw [e1]
  have hnomine : ∀ (i : Nat) (s : Sl), (ds.map Sl.val ++ List.replicate (d.ns - 1 - ds.length) Sl.no)[i]? = some s → s.mine = false := fun i s e => by
    by_cases hi : i < ds.length
    · rw [List.getElem?_append_left (by simpa using hi), List.getElem?_map] at e
      obtain ⟨d, hd, rfl⟩ := map_some e
      rfl
    · rw [List.getElem?_append_right (by simpa using hi), List.getElem?_replicate] at e
      split at e
      · cases e; rfl
      · cases e
  have J : StOk K W ⟨H0, x⟩ (Sl.slf c [] :: (ds.map Sl.val ++ List.replicate (d.ns - 1 - ds.length) Sl.no)) S (some (V.ref x) :: (ws.map some ++ List.replicate (d.ns - 1 - ws.length) none)) (upd (upd H0 dx (.own x)) x (.ins (He.ga K (Str.ofString c)) dx [])) Hf := by
    refine ⟨I2.kp, I2.fz, I2.dok, I2.n1, I2.n2, I2.n3, by rw [List.length_cons, List.length_cons, I2.len], fun i s o e1 e2 => ?_, fun i j s u b e1 e2 m1 m2 e3 e4 => ?_⟩
    · cases i with
      | zero => cases e1; cases e2; exact .slf upd_same .nil hfx hx rfl
      | succ i => exact I2.sl i s o e1 e2
    · cases i with
      | zero =>
        cases j with
        | zero => rfl
        | succ j => rw [hnomine j u e2] at m2; cases m2
      | succ i => rw [hnomine i s e1] at m1; cases m1
  refine ht ⟨H0, x⟩ _ S _ _ Hf _ J ?_
  rw [show d.ns - 1 - ds.length = d.ns - d.np from by omega]
  show PostS K W E ⟨H0, x⟩ Hf _ (exec G d.body (Sl.slf c [] :: (ds.map Sl.val ++ List.replicate (d.ns - d.np) Sl.no)) S)
  unfold bnd at p
  cases e : exec G d.body (Sl.slf c [] :: (ds.map Sl.val ++ List.replicate (d.ns - d.np) Sl.no)) S with
  | none =>
    have e' : exec G d.body (Sl.slf c [] :: ds.map Sl.val ++ List.replicate (d.ns - d.np) Sl.no) S = none := e
    rw [e'] at p
    exact p
  | some q =>
    obtain ⟨q, S'⟩ := q
    have e' : exec G d.body (Sl.slf c [] :: ds.map Sl.val ++ List.replicate (d.ns - d.np) Sl.no) S = some (q, S') := e
    rw [e'] at p
    cases q with
    | ex c fs => exact p
    | ok z =>
      obtain ⟨fl, ρ'⟩ := z
      cases fl with
      | nx =>
        intro σ H' Hf' l J2
        match ρ', p, J2 with
        | .slf c' fs :: ρ', p, J2 =>
          have p : ∀ v H1 Hf1, Stp W H0 Hf H1 Hf1 → DOk W S' H1 → Rep K W Hf1 v (.obj c' fs) → Q0 v H1 := p
          obtain ⟨o, hs, sl⟩ := J2.slot (i := 0) rfl
          cases sl with
          | slf ha rf hfa h0 hxx =>
            have hxx : _ = x := hxx
            subst hxx
            have st : Stp W H0 Hf H' Hf' := ⟨J2.kp, l.le, J2.fz, l.nw⟩
            have s3 := st.frz ha hfa h0 k.n1 k.n2 fun ps z => nomatch z
            refine hq H' (p _ _ _ s3 J2.dok (.obj upd_same (rf.mono fun b u e => ?_)))
            rw [upd_ne (fun z => by rw [z, hfa] at e; cases e)]
            exact e
        | [], p, _ => exact False.elim p
        | .no :: _, p, _ => exact False.elim p
        | .val _ :: _, p, _ => exact False.elim p
        | .own _ :: _, p, _ => exact False.elim p
      | rt d => exact False.elim p
      | bk => exact False.elim p
      | ct => exact False.elim p
end
end Oi

/-! Oi, part O: a caught error that is kept; a lambda handed to a def. -/
namespace Oi
open PySem PySem.Spec PyProof.Rows L2

/-! ### an object of the heap is tracked from now on -/
theorem Inv.adopt {X : Cx} {pins : List (Addr × Obj)} {σ : L2.St} {H : Hp} {s : Shared} {a : Addr} {oe : Obj} {vs : Array Value} {cls : Value} {d : Option Addr} (I : Inv X pins σ H s) (he : s.heap.get? a = some oe) (hz : Zc cls d oe) (hd : oe.data = .fields vs) (na : H a = none)
    (nl : a ≠ X.env.locals) (n0 : X.s_0.heap.get? a = none) (np : ∀ p ∈ X.pn ++ pins, p.1 ≠ a) : Inv X pins σ (upd H a (exHO cls d a)) s := by
  have at_ : ∀ {b : Addr}, b ≠ a → upd H a (exHO cls d a) b = H b := fun h => upd_ne h
  have low : ∀ {b : Addr} {o : Obj}, X.s_0.heap.get? b = some o → b ≠ a := fun e z => by rw [z, n0] at e; cases e
  have some_ : ∀ {b : Addr} {u : HO}, H b = some u → b ≠ a := fun e z => by rw [z, na] at e; cases e
  have cel : ∀ {x : Str} {c : Addr}, X.env.cells.lookup x = some c → c ≠ a := fun {x c} e z => by
    obtain ⟨v, o, ho, hv⟩ := I.cell x c e
    rw [z, he] at ho
    cases ho
    rw [hd] at hv
    cases hv
  refine { ok := I.ok, os := I.os, bare := I.bare, base := ?_, loc := I.loc, cell := I.cell, free := (at_ (Ne.symm nl)).trans I.free, freeC := fun x c e => (at_ (cel e)).trans (I.freeC x c e), pin := fun p hp => ?_, hok := fun b u e => ?_, len := I.len }
  · exact { keep := I.base.keep, slot := I.base.slot, free := fun b o q n hx => (at_ (low q)).trans (I.base.free b o q n hx), there := I.base.there,
            tups := fun b xs q => by have z := I.base.tups b xs q; exact (at_ (some_ z)).trans z
            frzs := fun b o u q => by have z := I.base.frzs b o u q; exact (at_ (some_ z)).trans z
            tbls := fun b ps q => by obtain ⟨m, z⟩ := I.base.tbls b ps q; exact ⟨m, (at_ (some_ z)).trans z⟩ }
  · obtain ⟨q1, q2, q3⟩ := I.pin p hp
    exact ⟨q1, (at_ (np p hp)).trans q2, q3⟩
  · by_cases hb : b = a
    · subst hb
      rw [upd_same] at e
      cases e
      refine ⟨⟨oe, vs, he, hz, hd⟩, ⟨oe, he⟩, fun h1 h2 ⟨o, w, g1, g2, g3⟩ st => ⟨o, w, st _ g1, g2, g3⟩⟩
    · rw [at_ hb] at e
      exact (I.hok b u e).stay (fun _ _ _ q => q) (fun c q => (at_ (some_ q)).trans q) fun c xs q => (at_ (some_ q)).trans q

/-! ### try: body / except C as n: y = n -/
section
variable {X : Cx} {x n y : Str} {c : Value} {i j : Nat} {body : List Stmt} {np p1 p2 p3 q1 q2 : Pos} {tb : WX → TS}
def wHold (K : PySem.W.Frag) (c : Value) (m i j : Nat) (D : Ends) : WX := fun cls d σ H => PySem.W.exmOne K cls c = some true ∧ (σ.length = m → ∀ a, H a = none → D.nx ((σ.set j (some (.ref a))).set i none) (upd H a (exHO cls d a)))
theorem ps_try_hold (hst : X.stack = X.env :: X.outer) (hfl : X.env.frame = some X.env.locals) (hex : X.ex = []) (nd : X.N.Nodup) (hi : X.N[i]? = some n) (li : X.env.kindOf n = some .local) (hj : X.N[j]? = some y) (lj : X.env.kindOf y = some .local) (hij : i ≠ j) (hc : Names X x c)
    (hdb : (n == ("__debug__" : Str)) = false) (hdc : (n == ("__classdict__" : Str)) = false)
    (hb : ∀ (W : WX) (pn : List (Addr × Obj)) (xe : Value → Shared → Prop), Takes (X.tr pn xe) W → PassesOwn (model X.prog X.w) X.A X.env xe → PSs (X.tr pn xe) body (tb W)) :
    PS X (.Try body [.ExceptHandler (some (.Name x np)) (some n) [.Assign [.Name y p1] (.Name n p2) p3] q1] [] [] q2) (fun D σ H => tb (wHold X.K c X.N.length i j D) D σ H) := ⟨fun pins s σ H D I h => by
  have ok := I.ok
  have frames : X.A.frames = some (X.env :: X.outer) := ok.frames.trans (by rw [hst])
  refine wpAny_Try_except (wpAny_mono ((hb (wHold X.K c X.N.length i j D) (X.pn ++ pins) _ (fun u s1 hu => ?_) PassesOwn.looking).run [] s σ H D (I.toTry _) h) (fun f s1 hf => ?_) fun _ _ z => z)
  · obtain ⟨a, B, sI, _, τ, H1, cls, d, rfl, J, nb, up, sky, na, os, bare, hm, hq⟩ := hu
    have J := J.ofTry ok
    rw [show (X.tr (X.pn ++ pins) _).stack = X.env :: X.outer from hst] at sky
    have sky : Sky B (X.env :: X.outer) a (Zc cls d) X.env.locals s1.heap := sky
    refine Sky.land (M := model X.prog X.w) (A := X.A) Zc.steady frames hfl sky fun g1 fly upg => ?_
    have out : a ∉ frs (X.env :: X.outer) := fun z => by
      obtain ⟨_, o, e1, e2⟩ := fly.2.2.1.mem z
      obtain ⟨oe, vs, e3, _, e4⟩ := fly.there
      rw [e1] at e3
      cases e3
      exact e2 _ e4
    have nl : a ≠ X.env.locals := fun z => out (List.mem_filterMap.mpr ⟨X.env, List.mem_cons_self, by rw [hfl, z]⟩)
    have nfs : a ∉ X.fs := fun z => by
      obtain ⟨e, he, q⟩ := List.mem_filterMap.mp z
      exact out (List.mem_filterMap.mpr ⟨e, List.mem_cons_of_mem _ he, q⟩)
    -- it is new
    have newI : sI.heap.get? a = none := by
      cases q : sI.heap.get? a with
      | none => rfl
      | some o =>
        have z := nb a o q (by show a ∉ frs X.stack; rw [hst]; exact out)
        rw [fly.2.1] at z
        cases z
    have new0 : X.s_0.heap.get? a = none := by
      cases q : X.s_0.heap.get? a with
      | none => rfl
      | some o =>
        obtain ⟨o', z⟩ := J.base.there a o q (by rw [hex]; simp)
        rw [newI] at z
        cases z
    have nopin : ∀ p ∈ X.pn ++ pins, p.1 ≠ a := fun p hp z => by
      have e := (J.pin p hp).1
      rw [z, newI] at e
      cases e
    have land : ∀ g, HandSPX.FlyingZ B (X.env :: X.outer) a (Zc cls d) g → s1.heap.UpToSlots g → Inv X pins τ H1 { s1 with heap := g } := fun g fl u => J.landed nb fl.1 (up.trans u) os bare
    obtain ⟨o1, _, e1, z1, d1⟩ := fly.there
    have S1 := (land g1 fly upg).suite e1 d1 na nl nfs
    refine wpAny_handleBy_cons (codeAny_handlers_test ?_) (fun z => nomatch z)
    have look := PySem.W.exm_one (M := model X.prog X.w) (land g1 fly upg).kIn (fun A Q E s k q => wpAny_typeOf_ref (k _ _ e1) (by rw [z1.1]; exact q)) hm
    have name : ∀ {Q : Value → Shared → Prop} {E : Value → Shared → Prop}, Q c { s1 with heap := g1 } → wpAny (model X.prog X.w) (X.A.mark (some (.ref a))) (eval (.Name x np) X.env) Q E { s1 with heap := g1 } := fun {Q E} q => by
      rcases hc with ⟨k1, k2, k3 | ⟨k3, k4, k5⟩⟩
      · exact ld_glob (X := X.suite a ((a, o1) :: (X.pn ++ pins))) S1 k1 k3 q k2
      · exact ld_blt (X := X.suite a ((a, o1) :: (X.pn ++ pins))) S1 k1 k3 k4 q k5 k2
    refine name (look.here (codeAny_handlers_suite_as (HandSPX.lands_againZ fly fun g2 fly2 up2 => ?_)))
    have J2 := land g2 fly2 (upg.trans up2)
    obtain ⟨o2, _, e2, z2, d2⟩ := fly2.there
    have S2 := J2.suite e2 d2 na nl nfs
    refine store_ok (X := X.suite a ((a, o2) :: (X.pn ++ pins))) (v := .ref a) S2 nd hi (.inl li) rfl (fun s3 S3 => ?_) (.inr li)
    have asg : PSs (X.suite a ((a, o2) :: (X.pn ++ pins))) [.Assign [.Name y p1] (.Name n p2) p3] (tAsg (tVar i) (gName j)) :=
      pss_one (ps_set (X := X.suite a ((a, o2) :: (X.pn ++ pins))) nd hj (.inl lj) (pe_var hi (.inl li) hdb hdc) rfl (.inr lj))
    have hlt : i < (τ.set i (some (V.ref a))).length := by rw [List.length_set, J.len]; exact (List.getElem?_eq_some_iff.mp hi).1
    refine wpAny_mono (asg.run [] s3 _ H1 { nx := fun σ' H' => σ' = (τ.set i (some (.ref a))).set j (some (.ref a)) ∧ H' = H1, rt := fun _ _ => False } S3 ⟨.ref a, by rw [List.length_set] at hlt; rw [List.getElem?_set_self hlt], rfl, rfl⟩) (fun f s4 h4 => ?_) fun _ _ z => False.elim z
    cases f with
    | brk => obtain ⟨_, _, _, z⟩ := h4; exact False.elim z
    | cont => obtain ⟨_, _, _, z⟩ := h4; exact False.elim z
    | ret u => obtain ⟨_, _, _, _, _, z⟩ := h4; exact False.elim z
    | next =>
      obtain ⟨σ4, H4, S4, e3, e4⟩ := h4
      subst e3 e4
      have pin4 := (S4.pin (a, o2) (List.mem_append_left _ List.mem_cons_self)).1
      have J4 : Inv X ((a, o2) :: pins) _ H4 s4 := ⟨ok, S4.os, S4.bare, S4.base, S4.loc, S4.cell, S4.free, S4.freeC, fun p hp => by
        rcases List.mem_append.mp hp with z | z
        · exact S4.pin p (List.mem_append_left _ (List.mem_cons_of_mem _ (List.mem_append_left _ z)))
        · rcases List.mem_cons.mp z with z | z
          · rw [z]
            exact S4.pin (a, o2) (List.mem_append_left _ List.mem_cons_self)
          · exact S4.pin p (List.mem_append_left _ (List.mem_cons_of_mem _ (List.mem_append_right _ z))), S4.hok, S4.len⟩
      refine gone_ok J4 nd hi li fun s5 J5 => ?_
      have e5 := (J5.pin (a, o2) (List.mem_append_right _ List.mem_cons_self)).1
      have J6 : Inv X pins _ H4 s5 := J5.pins_of fun p hp => J5.pin p (List.mem_append_right _ (List.mem_cons_of_mem _ hp))
      have K6 := Inv.adopt J6 e5 z2 d2 na nl new0 nopin
      refine ⟨_, _, K6, ?_⟩
      have e7 : (((τ.set i (some (V.ref a))).set j (some (V.ref a))).set i none : L2.St) = (τ.set j (some (V.ref a))).set i none := by
        rw [List.set_comm _ _ hij, List.set_set]
      rw [e7]
      exact hq J.len a na
  · cases f with
    | next =>
      obtain ⟨τ, G1, J, q⟩ := hf
      exact wpAny_execs_nil ⟨τ, G1, J.ofTry ok, q⟩
    | brk =>
      obtain ⟨τ, G1, J, q⟩ := hf
      exact ⟨τ, G1, J.ofTry ok, q⟩
    | cont =>
      obtain ⟨τ, G1, J, q⟩ := hf
      exact ⟨τ, G1, J.ofTry ok, q⟩
    | ret u =>
      obtain ⟨v, τ, G1, J, r, q⟩ := hf
      exact ⟨v, τ, G1, J.ofTry ok, r, q⟩⟩
end

/-! ### lambdas: nothing goes -/
section
open LamX
variable {X : Cx} {pins : List (Addr × Obj)} {σ : L2.St} {H : Hp} {s : Shared}
theorem lam_new {T : List (Addr × Str)} {c P : Addr} {params : Arguments} {body : Expr} {scope : Scope} {pos : Pos} {E : Value → Shared → Prop} {Q : Value → Shared → Prop} (I : Inv X pins σ H s) (TB : TabB X.base X.mg c P) (hcode : X.env.code = .ref c)
    (hin : (P, X.env.qual ++ "<lambda>") ∈ T) (huq : ∀ p ∈ T, p.1 = P → p.2 = X.env.qual ++ "<lambda>") (hT : Tabs T H) (hdef : defaultsOf params X.env = ([], [])) (hfree : ∀ y ∈ scope.names, y.2 = .free → ∃ c, X.env.cells.lookup y.1 = some c)
    (h : ∀ (f q : Addr) (pm ctv : Value) (H1 : Hp) (s1 : Shared), Inv X pins σ H1 s1 → ExtN H H1 → (∀ b, H1 b = none → H b = none) → Tabs T H1 →
      s1.heap.get? f = some (PySem.W.kla_obj "<lambda>" (X.env.qual ++ "<lambda>") params body scope (cloFrom X.env.cells scope.names []) pm q ctv) → H1 f = none → f ∉ frs X.stack → H1 q = some (CodeO q (X.env.qual ++ "<lambda>")) → Q (.ref f) s1) :
    wpAny (model X.prog X.w) X.A (eval (.Lambda params body scope pos) X.env) Q E s := by
  obtain ⟨ps, tP, tt, tall⟩ := hT _ hin
  have bI : s.heap.BuiltinsAt X.mg P := TB.bm.keeps I.bk
  have gP : s.heap.get? P = some { cls := .none, data := .fields ps } := I.hok P _ tP
  have far : ∀ f, s.heap.objs.size ≤ f → f ∉ frs X.stack := fun f hf hm => (List.mem_cons.mp (I.stkSub _ hm)).elim (fun e => absurd (Nat.lt_of_lt_of_le I.lt hf) (by rw [e]; exact Nat.lt_irrefl _)) (I.nofs hf)
  refine PySem.W.kla_eval hdef ?_
  cases hit : codeAmong pos ps.toList with
  | some cv =>
    obtain ⟨q, rfl, hq⟩ := tall pos cv hit
    refine PySem.W.kla_makeFunctionHit (mg := X.mg) (c := c) (P := P) (ps := ps) (closure_ok hfree) I.ok.glob (I.mod.glob.keeps I.bk) hcode (TB.code.keeps I.bk) gP tt hit bI fun ctv g k kg kz => ?_
    exact h g.objs.size q _ ctv H _ (I.kept (t' := k) fun b o e => Heap.get?_push_of_some _ (kg b o e)) (ExtN.refl H) (fun _ e => e) hT (Heap.get?_push_size _ rfl) (I.hok.fresh kz) (far _ kz) hq
  | none =>
    refine PySem.W.kla_makeFunction (mg := X.mg) (c := c) (P := P) (ps := ps) (closure_ok hfree) I.ok.glob (I.mod.glob.keeps I.bk) hcode (TB.code.keeps I.bk) gP tt hit TB.gP bI fun q ctv g k kx kge klt krec ktab => ?_
    obtain ⟨q2, oc, vs, t, eq2, g1, g2, g3⟩ := krec
    cases eq2
    have nq : H q = none := I.hok.fresh kge
    have pq : P ≠ q := ne_of_none tP nq
    have zz : s.heap.objs.size ≤ g.objs.size := Nat.le_trans kge (Nat.le_of_lt klt)
    have J := inv_table (t' := k) (more := #[rawInt pos.line, rawInt pos.col, .ref q]) (h' := g.push (PySem.W.kla_obj "<lambda>" (X.env.qual ++ "<lambda>") params body scope (cloFrom X.env.cells scope.names []) ((X.mg "__name__").getD .none) q ctv)) I tP
      (fun b o ne e => Heap.get?_push_of_some _ (kx b o ne e)) (Heap.get?_push_of_some _ ktab) kge ⟨oc, vs, t, Heap.get?_push_of_some _ g1, g2, g3⟩
    have ext : ExtN H (upd (upd H P (.tbl (ps ++ #[rawInt pos.line, rawInt pos.col, .ref q]))) q (CodeO q (X.env.qual ++ "<lambda>"))) := fun b o e nt => by
      have b1 : b ≠ P := fun z => nt ps (by rw [z, tP] at e; exact (Option.some.inj e).symm)
      rw [upd_ne (ne_of_none e nq), upd_ne b1]
      exact e
    have back : ∀ b, upd (upd H P (.tbl (ps ++ #[rawInt pos.line, rawInt pos.col, .ref q]))) q (CodeO q (X.env.qual ++ "<lambda>")) b = none → H b = none := fun b e => by
      by_cases b1 : b = q
      · rw [b1, upd_same] at e; cases e
      · rw [upd_ne b1] at e
        by_cases b2 : b = P
        · rw [b2, upd_same] at e; cases e
        · rw [upd_ne b2] at e; exact e
    have tl : (ps ++ #[rawInt pos.line, rawInt pos.col, .ref q]).toList = ps.toList ++ [rawInt pos.line, rawInt pos.col, .ref q] := by simp
    have gq : g.objs.size ≠ q := Nat.ne_of_gt klt
    have gPn : g.objs.size ≠ P := fun z => absurd (Nat.lt_of_lt_of_le (Heap.lt_size gP) zz) (by rw [z]; exact Nat.lt_irrefl _)
    refine h g.objs.size q _ ctv _ _ J ext back (fun p hp => ?_) (Heap.get?_push_size _ rfl) (by rw [upd_ne gq, upd_ne gPn]; exact I.hok.fresh zz) (far _ zz) upd_same
    by_cases hb : p.1 = P
    · rw [huq p hp hb, hb]
      refine ⟨_, by rw [upd_ne pq, upd_same], by rw [tl]; exact PySem.TriplesOk_snoc _ _ _ _ tt, fun pz cv hcv => ?_⟩
      rw [tl] at hcv
      rcases among_app _ tt hcv with z | z
      · obtain ⟨c0, e1, e2⟩ := tall pz cv z
        exact ⟨c0, e1, ext _ _ e2 codeO_ne⟩
      · exact ⟨q, z, upd_same⟩
    · obtain ⟨ps', a1, a2, a3⟩ := hT p hp
      refine ⟨ps', by rw [upd_ne (ne_of_none a1 nq), upd_ne hb]; exact a1, a2, fun pz cv hcv => ?_⟩
      obtain ⟨c0, e1, e2⟩ := a3 pz cv hcv
      exact ⟨c0, e1, ext _ _ e2 codeO_ne⟩
def tLam3 (T : List (Addr × Str)) (TT : (XK → Hp → VK → Prop) → Hp → VK → Prop) (t : XK → TE) : TE := fun σ H Q => Tabs T H ∧ ∀ H1, ExtN H H1 → (∀ b, H1 b = none → H b = none) → Tabs T H1 → TT (fun E H' Q' => t E σ H' Q') H1 Q
/-- x(lambda: body) -/
theorem pe_lam3 {T : List (Addr × Str)} {TT : (XK → Hp → VK → Prop) → Hp → VK → Prop} {x a : Str} {g c P : Addr} {k : Nat} {pg : Arguments} {bg : List Stmt} {sg : Scope} {fd : FuncData} {Ng : List Str} {params : Arguments} {body : Expr} {scope : Scope} {t : XK → TE} {p lpos pos : Pos}
    (hg : Gl X x) (hm : X.mg x = some (.ref g)) (F : FunD X.K x x pg bg sg [] [] g fd) (hb : L2.Binds X.K fd [a] []) (Sg : FnScope Ng [a] sg) (hN : Ng[0]? = some a) (hv : Vis sg a)
    (hG : ∀ cdg, GivesTo X Ng x sg g cdg bg a (X.env.qual ++ "<lambda>") TT) (TB : TabB X.base X.mg c P) (hcode : X.env.code = .ref c) (hin : (P, X.env.qual ++ "<lambda>") ∈ T) (huq : ∀ p ∈ T, p.1 = P → p.2 = X.env.qual ++ "<lambda>")
    (hr : Room (k + 2) X.A) (L : LamS X.env.scope scope) (hdef : defaultsOf params X.env = ([], [])) (hbind : ∀ (q : Str) (cl : List (Str × Addr)) (pm cv ctv : Value), bindArgs (PySem.W.kla_fn "<lambda>" q params body scope cl pm cv ctv) ⟨[], []⟩ = pure [])
    (hbody : ∀ (A : Around) (out : List Env) (s : Shared) (H : Hp) (E : XK) (f q : Addr), Room k (A.deeper (lamEnv X scope s.heap.objs.size f q)) → PE (lamCx X A out s H E scope f q) body (t E))
    (h1 : (x == ("__debug__" : Str)) = false) (h2 : (a == ("__debug__" : Str)) = false) (h3 : (a == ("__classdict__" : Str)) = false) : PE X (.Call (.Name x p) [.Lambda params body scope lpos] [] pos) (tLam3 T TT t) := ⟨fun pins s σ H Q I ⟨hT, h⟩ => by
  obtain ⟨oc, od, dV, kV, doc, pm, an, cdv, ct, osl, e, lk, hcd, _⟩ := F.ex
  subst e
  refine wpAny_Call_Name_kw (ld_glob I hg hm (PySem.W.callWith_K (h₀ := X.base) I.ok.mod.kin F.kp ?_ rfl rfl) h1)
  show wpAny _ _ (spliced ((false, eval (.Lambda params body scope lpos) X.env) :: backTo pos (starEach [] X.env))) _ _ s
  refine Calls.spliced_cons (lam_new I TB hcode hin huq hT hdef (L.has I.ok) fun f q pm' ctv H1 s1 I1 e1 bk T1 hf hfn hfr hco => Calls.spliced_nil ⟨I1.kIn, wpAny_call (codeAny_mono (R := CR C8.CX0 X.stack X.prog X.w H1 s1 Q C8.E0) ?_ fun r s2 hq => ?_)⟩)
  · refine run_ofS (N := Ng) (ps := [a]) (us := [.ref f]) (vs := [.ref f]) lk hcd Sg hr I1.env0 (hb s1 [.ref f] I1.kIn rfl) (.cons rfl .nil) rfl fun hr2 => ?_
    obtain ⟨u, k1, k2⟩ := hG cdv f q s1 H1 Q (fun E H' Q' => t E σ H' Q') (fun W pn xe E a1 a2 tk hW => pe_act (i := 0) I1 L hf hfn hfr (hbind _ _ _ _ _) tk hW hr2 (fun A out s H hr3 => hbody A out s H E f q hr3) hN hv h2 h3) hco (h H1 e1 bk T1)
    exact ⟨u, k1.nox, k2⟩
  · match r, hq with
    | .ok (.ret u), hq => exact I1.after hq⟩

/-! ### the def that keeps the error -/
/-- what it makes of a lambda's reading: nothing raised: None; an error of the class at CS: the error -/
def TCau (K : PySem.W.Frag) (CS : Addr) : (XK → Hp → VK → Prop) → Hp → VK → Prop := fun tl H Q =>
  tl (fun cls d H' => PySem.W.exmOne K cls (.ref CS) = some true ∧ ∀ a, H' a = none → Q (.ref a) (upd H' a (exHO cls d a))) H fun _ H' => Q .non H'
/-- its body: y = None; try: a() / except C as n: y = n; return y -/
def cauBody (a y C n : Str) (j : Nat) (p : Nat → Pos) : List Stmt :=
  [.Assign [.Name y (p 0)] (.Constant .none j (p 1)) (p 2), .Try [.Expr (.Call (.Name a (p 3)) [] [] (p 4)) (p 5)] [.ExceptHandler (some (.Name C (p 6))) (some n) [.Assign [.Name y (p 7)] (.Name n (p 8)) (p 9)] (p 10)] [] [] (p 11), .Return (some (.Name y (p 12))) (p 13)]
theorem cau_gives {x a y C n q : Str} {sg : Scope} {g CS : Addr} {cdg : Value} {j : Nat} {p : Nat → Pos} (nd : [a, y, n].Nodup) (ha : sg.names.lookup a = some .local) (hy : sg.names.lookup y = some .local) (hn : sg.names.lookup n = some .local) (hge : sg.names.lookup C = some .globalImplicit) (hme : X.mg C = some (.ref CS))
    (d1 : (C == ("__debug__" : Str)) = false) (d2 : (n == ("__debug__" : Str)) = false) (d3 : (n == ("__classdict__" : Str)) = false) (d4 : (y == ("__debug__" : Str)) = false) (d5 : (y == ("__classdict__" : Str)) = false) : GivesTo X [a, y, n] x sg g cdg (cauBody a y C n j p) a q (TCau X.K CS) := by
  intro f c' s H Q tl act hc h
  have hgl : Gl (cxOf C8.CX0 X.prog X.w X.K X.mg X.base [a, y, n] x sg g cdg X.A X.stack s H C8.E0).nox C := hge
  refine ⟨_, pss_cons (ps_set (i := 1) (X := (cxOf C8.CX0 X.prog X.w X.K X.mg X.base [a, y, n] x sg g cdg X.A X.stack s H C8.E0).nox) nd rfl (.inl hy) pe_non rfl (.inr hy)) (pss_cons (ps_try_hold (X := (cxOf C8.CX0 X.prog X.w X.K X.mg X.base [a, y, n] x sg g cdg X.A X.stack s H C8.E0).nox) (c := .ref CS) (i := 2) (j := 1)
      (tb := fun W D σ H => ∃ Ech : XK, (∀ cls d σ' H', Ech cls d H' → W cls d σ' H') ∧ σ[0]? = some (some (.ref f)) ∧ H c' = some (CodeO c' q) ∧ tl Ech H (fun _ H' => D.nx σ H'))
      rfl rfl rfl nd rfl hn rfl hy (by decide) ⟨hgl, d1, .inl hme⟩ d2 d3 (fun W pn xe tk _ => ?_)) (pss_one (ps_ret (pe_var (i := 1) rfl (.inl hy) d4 d5)))), ?_⟩
  · refine ⟨fun pins s' σ H' D I h' => ?_⟩
    obtain ⟨Ech, hW, h1, h2, h3⟩ := h'
    exact (pss_one (ps_expr (pos := p 5) (act W pn xe Ech (p 3) (p 4) tk hW) rfl)).run pins s' σ H' D I ⟨h1, h2, h3⟩
  · refine ⟨fun cls d H' => PySem.W.exmOne X.K cls (.ref CS) = some true ∧ ∀ a, H' a = none → Q (.ref a) (upd H' a (exHO cls d a)), fun cls d σ' H' ⟨k1, k2⟩ => ⟨k1, fun hl b hb => ?_⟩, rfl, hc, ?_⟩
    · refine ⟨.ref b, ?_, k2 b hb⟩
      have hl : σ'.length = 3 := hl
      rw [List.getElem?_set_ne (by decide), List.getElem?_set_self (by omega)]
    · have e1 : (fun (_ : V) (H' : Hp) => tRet (tVar 1) { nx := fun _ H' => Q .non H', rt := Q } (((L2.start [a, y, n] [V.ref f]).set 1 (some .non))) H') = fun _ H' => Q .non H' := by
        funext v H'
        refine propext ⟨fun ⟨w, e, q⟩ => ?_, fun q => ⟨.non, rfl, q⟩⟩
        cases e
        exact q
      show tl _ H (fun (_ : V) (H' : Hp) => tRet (tVar 1) { nx := fun _ H' => Q .non H', rt := Q } (((L2.start [a, y, n] [V.ref f]).set 1 (some .non))) H')
      rw [e1]
      exact h
end
section
open LamX
variable {K : PySem.W.Frag} {W : Wd} {E : XK}
theorem sat_caught {G : Gm} {CS : Addr} {tb : XK → TE} {m : Rho → M D} (h : ∀ E', Sat K W E' (tb E') m) (hx : ∀ c ∈ G.fe, PySem.W.exmOne K (.ref (He.ga K (Str.ofString c))) (.ref CS) = some true) : Sat K W E (tLam3 W.T (TCau K CS) tb) (fun ρ => cat G (m ρ)) := fun H0 ρ S σ H Hf Q I p => by
  refine ⟨I.dok.tabs, fun H1 ext back T1 => ?_⟩
  have st : Stp W H Hf H1 Hf := ⟨⟨fun a o e _ _ n3 => ext a o e n3, back⟩, Le.refl Hf, ⟨fun a o e => ext a o (I.fz.le a o e) fun ps z => I.fz.tbl a ps (z ▸ e), I.fz.st, I.fz.l1, I.fz.tbl⟩, fun _ z => .inl z⟩
  have dk : DOk W S H1 := ⟨ext _ _ I.dok.st (fun _ z => nomatch z), ext _ _ I.dok.l1 (fun _ z => nomatch z), ext _ _ I.dok.l2 (fun _ z => nomatch z), T1⟩
  refine h _ H0 ρ S σ H1 Hf _ (I.step st dk) ?_
  have p : PostG K W E (RE K W) H Hf (match m ρ S with
    | some (.ok _, S') => some (.ok .non, S')
    | some (.ex c fs, S') => if (G.fe.contains c && fs.isEmpty) = true then some (.ok (.exc c []), S') else none
    | none => none) Q := p
  cases e : m ρ S with
  | none => rw [e] at p; exact p
  | some r =>
    obtain ⟨r, S'⟩ := r
    rw [e] at p
    cases r with
    | ok d => exact fun v H' Hf' s2 k2 _ => p .non H' Hf' (st.trans s2) k2 .non
    | ex c fs =>
      have p2 : PostG K W E (RE K W) H Hf (if (G.fe.contains c && fs.isEmpty) = true then some (.ok (D.exc c []), S') else none) Q := p
      by_cases hc : (G.fe.contains c && fs.isEmpty) = true
      · rw [if_pos hc] at p2
        rw [Bool.and_eq_true] at hc
        have hf : fs = [] := List.isEmpty_iff.mp hc.2
        subst hf
        intro dx H' kp k hex
        cases hex with
        | some _ _ _ hn => exact absurd rfl hn
        | none =>
          refine ⟨hx c (List.contains_iff_mem.mp hc.1), fun a ha => ?_⟩
          have s2 : Stp W H Hf H' Hf := ⟨st.kp.trans kp, Le.refl Hf, st.fz.kp kp, fun _ z => .inl z⟩
          have s3 := Stp.new (o := exHO (.ref (He.ga K (Str.ofString c))) none a) s2.fz ha k.n1 k.n2 fun ps z => by unfold exHO at z; cases z
          exact p2 _ _ _ (s2.trans s3) (k.new ha) (.exc0 upd_same)
      · rw [if_neg hc] at p2
        exact False.elim p2
end
end Oi

/-! Oi, part P: list(zip(a, b)) of two tuples. -/
namespace Oi
open PySem PySem.Spec PyProof.Rows L2 RZ
section
variable {prog : Program} {w : World} {A : Around} {E : Value → Shared → Prop} {s : Shared}
theorem wpAny_alive {a : Addr} {Q : Option Obj → Shared → Prop} (h : Q (s.heap.get? a) s) : wpAny (model prog w) A (loadIfAlive a) Q E s := fun _ _ _ => h
/-- a zip whose first tuple is held -/
abbrev ZHeld (h : Heap) (z TI TO a0 : Addr) (f : Bool) : Prop := h.get? z = some { cls := .type "zip", dict := none, data := .fields #[rawInt a0, .bool f, .bool false, .ref TI, .ref TO], slots := #[] }
theorem held_free {z TI TO a0 : Addr} {f : Bool} {Q : Bool → Shared → Prop} (hz : ZHeld s.heap z TI TO a0 f) (ha : ∃ o, s.heap.get? a0 = some o) (hQ : ∀ h', ZHeld h' z TI TO a0 true → Heap.SameBut z s.heap h' → Q false { s with heap := h' }) :
    wpAny (model prog w) A (Builtin.SmallTypes.ownedTupleIsFree (.ref z)) Q E s := by
  obtain ⟨o, ho⟩ := ha
  unfold Builtin.SmallTypes.ownedTupleIsFree
  refine wpAny_bind (wpAny_field hz rfl (x := rawInt a0) rfl ?_)
  show wpAny _ _ (loadIfAlive ((a0 : Int)).toNat >>= _) _ _ _
  refine wpAny_bind (wpAny_alive ?_)
  rw [Int.toNat_natCast, ho]
  refine wpAny_bind (wpAny_field hz rfl (x := .bool f) rfl ?_)
  cases f with
  | true =>
    show wpAny _ _ (pure false) _ _ _
    exact wpAny_pure (hQ s.heap hz (Heap.SameBut.refl ..))
  | false =>
    show wpAny _ _ (setField (.ref z) 1 (.bool true) >>= fun _ => pure false) _ _ _
    exact wpAny_bind (wpAny_setField_rec hz (by simp) fun h1 g1 k1 => wpAny_pure (hQ h1 g1 k1))
theorem held_item {z TI TO a0 i1 i2 l1 l2 : Addr} {f : Bool} {k1 k2 : Nat} {xs ys : Array Value} {x y : Value} {Q : Value → Shared → Prop} (D : ZipApart z TI TO i1 i2 l1 l2) (hz : ZHeld s.heap z TI TO a0 f) (ha : ∃ o, s.heap.get? a0 = some o) (hTI : IsPair s.heap TI (.ref i1) (.ref i2))
    (h1 : s.heap.IsTupleIter i1 l1 k1) (h2 : s.heap.IsTupleIter i2 l2 k2) (hl1 : s.heap.IsTuple l1 xs) (hl2 : s.heap.IsTuple l2 ys) (hx : xs[k1]? = some x) (hy : ys[k2]? = some y)
    (hQ : ∀ h', ZHeld h' z TI TO a0 true → h'.IsTupleIter i1 l1 (k1 + 1) → h'.IsTupleIter i2 l2 (k2 + 1) → IsPair h' s.heap.objs.size x y → h'.objs.size = s.heap.objs.size + 1 → (∀ c o, c ≠ z → c ≠ i1 → c ≠ i2 → s.heap.get? c = some o → h'.get? c = some o) → Q (.ref s.heap.objs.size) { s with heap := h' }) :
    wpAny (model prog w) A (Builtin.«zip.__next__» ⟨[.ref z], []⟩) (fun fin s' => ∃ v, fin = .done (.ret v) ∧ Q v s') E s := by
  show wpAny _ _ (field (.ref z) 2 >>= _) _ _ _
  refine wpAny_bind (wpAny_field hz rfl (x := .bool false) rfl ?_)
  show wpAny _ _ (field (.ref z) 3 >>= _) _ _ _
  refine wpAny_bind (wpAny_field hz rfl (x := .ref TI) rfl (wpAny_bind (wpAny_seqItems hTI rfl ?_)))
  show wpAny _ _ (Builtin.SmallTypes.ownedTupleIsFree (.ref z) >>= _) _ _ _
  refine wpAny_bind (held_free hz ha fun h1' z1 k1' => ?_)
  simp only [Bool.false_eq_true, if_false]
  refine wpAny_bind ?_
  rw [show (#[Value.ref i1, Value.ref i2] : Array Value) = [Value.ref i1, Value.ref i2].toArray from rfl, List.forIn_toArray]
  simp only [List.forIn_cons, List.forIn_nil]
  refine wpAny_bind (wpAny_bind (wpAny_holding ?_))
  show wpAny _ _ (Builtin.SmallTypes.nextOf (.ref i1) >>= _) _ _ _
  refine wpAny_bind (nextOf_tuple_item (h1.extBut k1'.extBut D.i1z) (hl1.extBut k1'.extBut D.l1z) hx fun g2 m1 k2' => wpAny_pure (wpAny_pure ?_))
  refine wpAny_bind (wpAny_bind (wpAny_holding ?_))
  show wpAny _ _ (Builtin.SmallTypes.nextOf (.ref i2) >>= _) _ _ _
  refine wpAny_bind (nextOf_tuple_item ((h2.extBut k1'.extBut D.i2z).extBut k2'.extBut D.i12.symm) ((hl2.extBut k1'.extBut D.l2z).extBut k2'.extBut D.l2i1) hy fun g3 m2 k3' => wpAny_pure (wpAny_pure (wpAny_pure ?_)))
  show wpAny _ _ (newTuple [x, y] >>= fun r => PySem.ret r) _ _ _
  refine wpAny_bind (wpAny_newTuple ?_)
  have sz : g3.objs.size = s.heap.objs.size := by rw [k3'.1, k2'.1, k1'.1]
  have up : ∀ c o, c ≠ z → c ≠ i1 → c ≠ i2 → s.heap.get? c = some o → g3.get? c = some o := fun c o c1 c2 c3 e => k3'.extBut _ _ c3 (k2'.extBut _ _ c2 (k1'.extBut _ _ c1 e))
  refine wpAny_pure ⟨_, rfl, ?_⟩
  show Q (.ref g3.objs.size) _
  rw [sz]
  refine hQ _ ?_ ?_ ?_ ?_ ?_ fun c o c1 c2 c3 e => Heap.get?_push_of_some _ (up c o c1 c2 c3 e)
  · exact Heap.get?_push_of_some _ (k3'.extBut _ _ D.i2z.symm (k2'.extBut _ _ D.i1z.symm z1))
  · exact (m1.extBut k3'.extBut D.i12).at fun o e => Heap.get?_push_of_some _ e
  · exact m2.at fun o e => Heap.get?_push_of_some _ e
  · rw [← sz]
    exact Heap.get?_push_size _ rfl
  · rw [Heap.size_push, sz]
theorem held_next {z TI TO a0 i1 i2 l1 l2 : Addr} {f : Bool} {k1 k2 : Nat} {xs ys : Array Value} {x y : Value} {Q : Option Value → Shared → Prop} (D : ZipApart z TI TO i1 i2 l1 l2) (hz : ZHeld s.heap z TI TO a0 f) (ha : ∃ o, s.heap.get? a0 = some o) (hTI : IsPair s.heap TI (.ref i1) (.ref i2))
    (h1 : s.heap.IsTupleIter i1 l1 k1) (h2 : s.heap.IsTupleIter i2 l2 k2) (hl1 : s.heap.IsTuple l1 xs) (hl2 : s.heap.IsTuple l2 ys) (hx : xs[k1]? = some x) (hy : ys[k2]? = some y)
    (hQ : ∀ h', ZHeld h' z TI TO a0 true → h'.IsTupleIter i1 l1 (k1 + 1) → h'.IsTupleIter i2 l2 (k2 + 1) → IsPair h' s.heap.objs.size x y → h'.objs.size = s.heap.objs.size + 1 → (∀ c o, c ≠ z → c ≠ i1 → c ≠ i2 → s.heap.get? c = some o → h'.get? c = some o) → Q (some (.ref s.heap.objs.size)) { s with heap := h' }) :
    wpAny (model prog w) A (pyNext (.ref z)) Q E s := by
  have hT : s.TypeIs (.ref z) "zip" := ⟨_, hz, rfl⟩
  unfold pyNext
  exact wpAny_bind (wpAny_attempt (wpAny_callSpecial?_slot (name := Str.ofString "__next__") hT F.slot_zip_next (wpAny_call_entry F.slot_zip_next hT F.entry_zip_next
    (held_item D hz ha hTI h1 h2 hl1 hl2 hx hy fun h' b1 b2 b3 b4 b5 b6 => wpAny_pure (hQ h' b1 b2 b3 b4 b5 b6)) (F.args_zip_next_1 _))))
/-- .. and none is left -/
theorem held_end {z TI TO a0 i1 i2 l1 l2 : Addr} {f : Bool} {k1 k2 : Nat} {xs ys : Array Value} {Q : Fin → Shared → Prop} (hh : A.handled = none) (D : ZipApart z TI TO i1 i2 l1 l2) (hz : ZHeld s.heap z TI TO a0 f) (ha : ∃ o, s.heap.get? a0 = some o) (hTI : IsPair s.heap TI (.ref i1) (.ref i2))
    (h1 : s.heap.IsTupleIter i1 l1 k1) (h2 : s.heap.IsTupleIter i2 l2 k2) (hl1 : s.heap.IsTuple l1 xs) (hl2 : s.heap.IsTuple l2 ys) (hend : xs[k1]? = none ∨ ys[k2]? = none)
    (hE : ∀ h' e, (∀ c o, c ≠ z → c ≠ i1 → c ≠ i2 → s.heap.get? c = some o → h'.get? c = some o) → (∃ o, h'.get? e = some o ∧ o.cls = .type "StopIteration") → E (.ref e) { s with heap := h' }) :
    wpAny (model prog w) A (Builtin.«zip.__next__» ⟨[.ref z], []⟩) Q E s := by
  show wpAny _ _ (field (.ref z) 2 >>= _) _ _ _
  refine wpAny_bind (wpAny_field hz rfl (x := .bool false) rfl ?_)
  show wpAny _ _ (field (.ref z) 3 >>= _) _ _ _
  refine wpAny_bind (wpAny_field hz rfl (x := .ref TI) rfl (wpAny_bind (wpAny_seqItems hTI rfl ?_)))
  show wpAny _ _ (Builtin.SmallTypes.ownedTupleIsFree (.ref z) >>= _) _ _ _
  refine wpAny_bind (held_free hz ha fun h1' z1 k1' => ?_)
  simp only [Bool.false_eq_true, if_false]
  refine wpAny_bind ?_
  rw [show (#[Value.ref i1, Value.ref i2] : Array Value) = [Value.ref i1, Value.ref i2].toArray from rfl, List.forIn_toArray]
  simp only [List.forIn_cons, List.forIn_nil]
  refine wpAny_bind (wpAny_bind (wpAny_holding ?_))
  show wpAny _ _ (Builtin.SmallTypes.nextOf (.ref i1) >>= _) _ _ _
  cases hx : xs[k1]? with
  | none => exact wpAny_bind (nextOf_tuple_end hh (h1.extBut k1'.extBut D.i1z) (hl1.extBut k1'.extBut D.l1z) hx fun g2 e k2' he => hE g2 e (fun c o c1 c2 c3 q => k2' _ _ c2 (k1'.extBut _ _ c1 q)) he)
  | some x =>
    have hy : ys[k2]? = none := hend.resolve_left fun q => by rw [hx] at q; cases q
    refine wpAny_bind (nextOf_tuple_item (h1.extBut k1'.extBut D.i1z) (hl1.extBut k1'.extBut D.l1z) hx fun g2 m1 k2' => wpAny_pure (wpAny_pure ?_))
    refine wpAny_bind (wpAny_bind (wpAny_holding ?_))
    show wpAny _ _ (Builtin.SmallTypes.nextOf (.ref i2) >>= _) _ _ _
    exact wpAny_bind (nextOf_tuple_end hh ((h2.extBut k1'.extBut D.i2z).extBut k2'.extBut D.i12.symm) ((hl2.extBut k1'.extBut D.l2z).extBut k2'.extBut D.l2i1) hy fun g3 e k3' he => hE g3 e (fun c o c1 c2 c3 q => k3' _ _ c3 (k2'.extBut _ _ c2 (k1'.extBut _ _ c1 q))) he)
theorem held_stop {z TI TO a0 i1 i2 l1 l2 : Addr} {f : Bool} {k1 k2 : Nat} {xs ys : Array Value} {Q : Option Value → Shared → Prop} (hh : A.handled = none) (D : ZipApart z TI TO i1 i2 l1 l2) (hz : ZHeld s.heap z TI TO a0 f) (ha : ∃ o, s.heap.get? a0 = some o) (hTI : IsPair s.heap TI (.ref i1) (.ref i2))
    (h1 : s.heap.IsTupleIter i1 l1 k1) (h2 : s.heap.IsTupleIter i2 l2 k2) (hl1 : s.heap.IsTuple l1 xs) (hl2 : s.heap.IsTuple l2 ys) (hend : xs[k1]? = none ∨ ys[k2]? = none)
    (hQ : ∀ h', (∀ c o, c ≠ z → c ≠ i1 → c ≠ i2 → s.heap.get? c = some o → h'.get? c = some o) → Q none { s with heap := h' }) : wpAny (model prog w) A (pyNext (.ref z)) Q E s := by
  have hT : s.TypeIs (.ref z) "zip" := ⟨_, hz, rfl⟩
  unfold pyNext
  refine wpAny_bind (wpAny_attempt (wpAny_callSpecial?_slot (name := Str.ofString "__next__") hT F.slot_zip_next (wpAny_call_entry F.slot_zip_next hT F.entry_zip_next
    (held_end hh D hz ha hTI h1 h2 hl1 hl2 hend fun h' e k he => ?_) (F.args_zip_next_1 _))))
  obtain ⟨o, ho, hc⟩ := he
  exact wpAny_bind (wpAny_isInstance (T := "StopIteration") (b := true) ⟨o, ho, hc⟩ isSubtype_stop (wpAny_pure (hQ _ k)))
end

/-! ### the list's loop -/
/-- a walk over two tuples: i pairs are made, from base on -/
structure ZS (z TI TO i1 i2 l1 l2 base : Addr) (xs ys : Array Value) (h : Heap) (i : Nat) : Prop where
  zp : (i = 0 ∧ IsZip h z TI TO .none ∧ ∃ a b, IsPair h TO a b) ∨ (0 < i ∧ ∃ f, ZHeld h z TI TO base f)
  ti : IsPair h TI (.ref i1) (.ref i2)
  j1 : h.IsTupleIter i1 l1 i
  j2 : h.IsTupleIter i2 l2 i
  t1 : h.IsTuple l1 xs
  t2 : h.IsTuple l2 ys
  sz : h.objs.size = base + i
  pr : ∀ j x y, j < i → xs[j]? = some x → ys[j]? = some y → IsPair h (base + j) x y
section
variable {prog : Program} {w : World} {A : Around} {E : Value → Shared → Prop} {s : Shared} {z TI TO i1 i2 l1 l2 base : Addr} {xs ys : Array Value} {i : Nat}
theorem ZS.upd {h : Heap} {S : Addr} {f : Obj → Obj} (Z : ZS z TI TO i1 i2 l1 l2 base xs ys h i) (hn : S ∉ [z, TI, TO, i1, i2, l1, l2]) (hb : S < base) : ZS z TI TO i1 i2 l1 l2 base xs ys (h.update S f) i := by
  simp only [List.mem_cons, List.not_mem_nil, or_false, not_or] at hn
  obtain ⟨n1, n2, n3, n4, n5, n6, n7⟩ := hn
  have up : ∀ {b : Addr} {o : Obj}, S ≠ b → h.get? b = some o → (h.update S f).get? b = some o := fun n e => (Heap.get?_update_other _ _ n).trans e
  refine ⟨?_, up n2 Z.ti, Z.j1.at fun o e => up n4 e, Z.j2.at fun o e => up n5 e, ?_, ?_, by rw [Heap.size_update]; exact Z.sz, fun j x y hj h1 h2 => up (Nat.ne_of_lt (Nat.lt_of_lt_of_le hb (Nat.le_add_right _ _))) (Z.pr j x y hj h1 h2)⟩
  · rcases Z.zp with ⟨e, h1, a, b, h2⟩ | ⟨e, f, h1⟩
    · exact .inl ⟨e, up n1 h1, a, b, up n3 h2⟩
    · exact .inr ⟨e, f, up n1 h1⟩
  · obtain ⟨o, e, r⟩ := Z.t1; exact ⟨o, up n6 e, r⟩
  · obtain ⟨o, e, r⟩ := Z.t2; exact ⟨o, up n7 e, r⟩
theorem ne_far {a b : Addr} (h : a < b) (j : Nat) : b + j ≠ a := fun e => absurd (Nat.le_add_right b j) (by rw [e]; exact Nat.not_le.mpr h)
/-- what stays -/
def Kz (S z TO i1 i2 : Addr) (h h' : Heap) : Prop := ∀ c o, c ≠ S → c ≠ z → c ≠ TO → c ≠ i1 → c ≠ i2 → h.get? c = some o → h'.get? c = some o
theorem ZS.step {Q : Option Value → Shared → Prop} (D : ZipApart z TI TO i1 i2 l1 l2) (Z : ZS z TI TO i1 i2 l1 l2 base xs ys s.heap i) {x y : Value} (hx : xs[i]? = some x) (hy : ys[i]? = some y) (lz : z < base) (lTI : TI < base) (l3 : i1 < base) (l4 : i2 < base) (l5 : l1 < base) (l6 : l2 < base) (l7 : TO < base)
    (hQ : ∀ h', ZS z TI TO i1 i2 l1 l2 base xs ys h' (i + 1) → (∀ c o, c ≠ z → c ≠ TO → c ≠ i1 → c ≠ i2 → s.heap.get? c = some o → h'.get? c = some o) → Q (some (.ref (base + i))) { s with heap := h' }) : wpAny (model prog w) A (pyNext (.ref z)) Q E s := by
  have fin : ∀ h' f, ZHeld h' z TI TO base f → h'.IsTupleIter i1 l1 (i + 1) → h'.IsTupleIter i2 l2 (i + 1) → IsPair h' s.heap.objs.size x y → h'.objs.size = s.heap.objs.size + 1 →
      (∀ c o, c ≠ z → c ≠ TO → c ≠ i1 → c ≠ i2 → s.heap.get? c = some o → h'.get? c = some o) → ZS z TI TO i1 i2 l1 l2 base xs ys h' (i + 1) := fun h' f a1 a2 a3 a4 a5 a6 => by
    have ge : ∀ j, base + j ≠ z ∧ base + j ≠ TO ∧ base + j ≠ i1 ∧ base + j ≠ i2 := fun j => ⟨ne_far lz j, ne_far l7 j, ne_far l3 j, ne_far l4 j⟩
    refine ⟨.inr ⟨Nat.succ_pos _, f, a1⟩, a6 _ _ D.TIz D.TITO D.TIi1 D.TIi2 Z.ti, a2, a3, ?_, ?_, by rw [a5, Z.sz]; omega, fun j u v hj h1 h2 => ?_⟩
    · obtain ⟨o, e, r⟩ := Z.t1; exact ⟨o, a6 _ _ D.l1z D.l1TO D.l1i1 D.l1i2 e, r⟩
    · obtain ⟨o, e, r⟩ := Z.t2; exact ⟨o, a6 _ _ D.l2z D.l2TO D.l2i1 D.l2i2 e, r⟩
    · by_cases hj2 : j = i
      · subst hj2
        rw [hx] at h1
        rw [hy] at h2
        cases h1
        cases h2
        rw [← Z.sz]
        exact a4
      · obtain ⟨g1, g2, g3, g4⟩ := ge j
        exact a6 _ _ g1 g2 g3 g4 (Z.pr j u v (by omega) h1 h2)
  rcases Z.zp with ⟨e, hz, a, b, hTO⟩ | ⟨e, f, hz⟩
  · subst e
    refine pyNext_zipT_item D hz Z.ti hTO Z.j1 Z.j2 Z.t1 Z.t2 hx hy fun h' a1 a2 a3 a4 a5 a6 a7 => ?_
    have hs : s.heap.objs.size = base := Z.sz
    rw [hs]
    exact hQ h' (fin h' false (by rw [← hs]; exact a1) a3 a4 a5 a6 a7) a7
  · have h0 : ∃ o, s.heap.get? base = some o := by
      have q1 : 0 < xs.size := by have := (Array.getElem?_eq_some_iff.mp hx).1; omega
      have q2 : 0 < ys.size := by have := (Array.getElem?_eq_some_iff.mp hy).1; omega
      exact ⟨_, Z.pr 0 _ _ e (Array.getElem?_eq_getElem q1) (Array.getElem?_eq_getElem q2)⟩
    refine held_next D hz h0 Z.ti Z.j1 Z.j2 Z.t1 Z.t2 hx hy fun h' a1 a2 a3 a4 a5 a6 => ?_
    have a7 : ∀ c o, c ≠ z → c ≠ TO → c ≠ i1 → c ≠ i2 → s.heap.get? c = some o → h'.get? c = some o := fun c o c1 _ c3 c4 q => a6 c o c1 c3 c4 q
    have hq := hQ h' (fin h' true a1 a2 a3 a4 a5 a7) a7
    rw [← Z.sz] at hq
    exact hq
theorem ZS.stop {Q : Option Value → Shared → Prop} (hh : A.handled = none) (D : ZipApart z TI TO i1 i2 l1 l2) (Z : ZS z TI TO i1 i2 l1 l2 base xs ys s.heap i) (hend : xs[i]? = none ∨ ys[i]? = none) (hi : 0 < i → 0 < xs.size ∧ 0 < ys.size)
    (hQ : ∀ h', (∀ c o, c ≠ z → c ≠ TO → c ≠ i1 → c ≠ i2 → s.heap.get? c = some o → h'.get? c = some o) → Q none { s with heap := h' }) : wpAny (model prog w) A (pyNext (.ref z)) Q E s := by
  rcases Z.zp with ⟨e, hz, a, b, hTO⟩ | ⟨e, f, hz⟩
  · exact pyNext_zipT_end hh D hz Z.ti hTO Z.j1 Z.j2 Z.t1 Z.t2 hend hQ
  · obtain ⟨q1, q2⟩ := hi e
    exact held_stop hh D hz ⟨_, Z.pr 0 _ _ e (Array.getElem?_eq_getElem q1) (Array.getElem?_eq_getElem q2)⟩ Z.ti Z.j1 Z.j2 Z.t1 Z.t2 hend fun h' a6 => hQ h' fun c o c1 _ c3 c4 q => a6 c o c1 c3 c4 q
abbrev lObj (acc : Array Value) (c : Nat) : Obj := { cls := .type "list", dict := none, data := .seq acc c, slots := #[] }
theorem zipL_loop {R : Result → Shared → Prop} {S : Addr} {res : Value} (hh : A.handled = none) (D : ZipApart z TI TO i1 i2 l1 l2) (hn : S ∉ [z, TI, TO, i1, i2, l1, l2]) (hS : S < base) (lt : ∀ b ∈ [z, TI, TO, i1, i2, l1, l2], b < base) (hz : min xs.size ys.size ≤ sizeLine) :
    ∀ (k i : Nat) (s : Shared) (acc : Array Value) (c : Nat), min xs.size ys.size - i = k → i ≤ min xs.size ys.size → ZS z TI TO i1 i2 l1 l2 base xs ys s.heap i → s.heap.get? S = some (lObj acc c) → acc.toList = (List.range i).map (fun j => Value.ref (base + j)) →
      (∀ h' c', ZS z TI TO i1 i2 l1 l2 base xs ys s.heap i → (∀ j x y, j < min xs.size ys.size → xs[j]? = some x → ys[j]? = some y → IsPair h' (base + j) x y) → h'.get? S = some (lObj ((List.range (min xs.size ys.size)).map fun j => Value.ref (base + j)).toArray c') → Kz S z TO i1 i2 s.heap h' → R (.ok (.ret res)) { s with heap := h' }) →
      codeAny (model prog w) A (.builtin "list.extend.loop" ⟨[.ref S, .ref z, res], []⟩) R s := by
  have hn2 := hn
  simp only [List.mem_cons, List.not_mem_nil, or_false, not_or] at hn2
  obtain ⟨n1, n2, n3, n4, n5, n6, n7⟩ := hn2
  have L : z < base ∧ TI < base ∧ TO < base ∧ i1 < base ∧ i2 < base ∧ l1 < base ∧ l2 < base := ⟨lt _ (by simp), lt _ (by simp), lt _ (by simp), lt _ (by simp), lt _ (by simp), lt _ (by simp), lt _ (by simp)⟩
  obtain ⟨b1, b2, b3, b4, b5, b6, b7⟩ := L
  intro k
  induction k with
  | zero =>
    intro i s acc c hk hi Z hl hacc hR
    have hi : i = min xs.size ys.size := by omega
    refine codeAny_builtin F.entry_extend_loop ?_
    rw [Around.under_plainId F.plain_extend_loop _]
    show wpAny _ A.in1 (pyNext (.ref z) >>= _) _ _ s
    refine wpAny_bind (Z.stop hh D (by rw [Array.getElem?_eq_none_iff, Array.getElem?_eq_none_iff]; omega) (fun _ => by omega) fun h' kp => wpAny_pure (hR h' c Z (fun j x y hj h1 h2 => ?_) ?_ fun q o q0 q1 q2 q3 q4 e => kp q o q1 q2 q3 q4 e))
    · exact kp _ _ (ne_far b1 j) (ne_far b3 j) (ne_far b4 j) (ne_far b5 j) (Z.pr j x y (by omega) h1 h2)
    · have e1 : acc = ((List.range (min xs.size ys.size)).map fun j => Value.ref (base + j)).toArray := by rw [← hi, ← hacc]
      rw [← e1]
      exact kp _ _ n1 n3 n4 n5 hl
  | succ k ih =>
    intro i s acc c hk hi Z hl hacc hR
    have hx : i < xs.size := by omega
    have hy : i < ys.size := by omega
    refine codeAny_builtin F.entry_extend_loop ?_
    rw [Around.under_plainId F.plain_extend_loop _]
    show wpAny _ A.in1 (pyNext (.ref z) >>= _) _ _ s
    refine wpAny_bind (Z.step D (Array.getElem?_eq_getElem hx) (Array.getElem?_eq_getElem hy) b1 b2 b4 b5 b6 b7 b3 fun h1 Z1 kp => ?_)
    have hl1 := kp _ _ n1 n3 n4 n5 hl
    have hsz : acc.size = i := by
      have := congrArg List.length hacc
      simpa using this
    show wpAny _ A.in1 (updateSeq S (·.push (.ref (base + i))) >>= _) _ _ _
    refine wpAny_bind (wpAny_updateSeq hl1 rfl (wpAny_pure ⟨plainId_quiet F.plain_extend_loop _, ?_⟩) (by rw [hsz]; omega) (by show (acc.push _).size ≤ sizeLine + 1; rw [Array.size_push, hsz]; omega))
    refine ih (i + 1) _ (acc.push (.ref (base + i))) _ (by omega) (by omega) (Z1.upd hn hS) (Heap.get?_update_self _ hl1 rfl) (by rw [Array.toList_push, hacc, List.range_succ, List.map_append]; rfl) fun h' c' _ p1 p2 p3 => ?_
    exact hR h' c' Z p1 p2 fun q o q0 q1 q2 q3 q4 e => p3 q o q0 q1 q2 q3 q4 ((Heap.get?_update_other _ _ (Ne.symm q0)).trans (kp q o q1 q2 q3 q4 e))
end
theorem zip_no_len : typeLookup (.type "zip") "__len__" = pure none := by rw [typeLookup_type, builtinLookup_eq_fast]; kernel_rfl
theorem zip_no_hint : typeLookup (.type "zip") "__length_hint__" = pure none := by rw [typeLookup_type, builtinLookup_eq_fast]; kernel_rfl
section
variable {prog : Program} {w : World} {A : Around} {E : Value → Shared → Prop} {s : Shared} {z TI TO i1 i2 l1 l2 : Addr} {xs ys : Array Value}
theorem zipL_extend {R : Result → Shared → Prop} {S base : Addr} {c : Nat} (hh : A.handled = none) (D : ZipApart z TI TO i1 i2 l1 l2) (hn : S ∉ [z, TI, TO, i1, i2, l1, l2]) (hS : S < base) (lt : ∀ b ∈ [z, TI, TO, i1, i2, l1, l2], b < base) (hz : min xs.size ys.size ≤ sizeLine) (Z : ZS z TI TO i1 i2 l1 l2 base xs ys s.heap 0) (hl : s.heap.get? S = some (lObj #[] c))
    (hR : ∀ h' c', (∀ j x y, j < min xs.size ys.size → xs[j]? = some x → ys[j]? = some y → IsPair h' (base + j) x y) → h'.get? S = some (lObj ((List.range (min xs.size ys.size)).map fun j => Value.ref (base + j)).toArray c') → Kz S z TO i1 i2 s.heap h' → R (.ok (.ret .none)) { s with heap := h' }) :
    wpAny (model prog w) A.in1 (Builtin.List.listExtendWith (.ref S) (.ref z) .none) (fun fin s' => match fin with | .done f => R (.ok f) s' | .again c' => c'.quiet = true ∧ codeAny (model prog w) A c' R s') (fun e s' => R (.error e) s') s := by
  have hzz : ∃ f0, IsZip s.heap z TI TO f0 := by
    rcases Z.zp with ⟨_, q, _⟩ | ⟨q, _⟩
    · exact ⟨_, q⟩
    · exact absurd q (Nat.lt_irrefl 0)
  obtain ⟨f0, hf⟩ := hzz
  have hT : s.TypeIs (.ref z) "zip" := ⟨_, hf, rfl⟩
  have nS : S ≠ z := fun q => hn (by rw [q]; simp)
  unfold Builtin.List.listExtendWith
  refine wpAny_bind (wpAny_typeOf hT ?_)
  simp only [show Builtin.List.listSameRef (.ref S) (.ref z) = false from by simp [Builtin.List.listSameRef, nS], show (Value.type "zip" == Value.type "list") = false from by decide, show (Value.type "zip" == Value.type "tuple") = false from by decide, Bool.or_false, Bool.false_eq_true, if_false]
  refine wpAny_bind (wpAny_pyIter_zip hf (wpAny_bind (wpAny_holding ?_)))
  unfold Builtin.List.listLengthHint
  refine wpAny_bind (wpAny_specialOf hT zip_no_len ?_)
  show wpAny _ A.in1 (specialOf (Value.ref z) (Str.ofString "__length_hint__") >>= _) _ _ _
  refine wpAny_bind (wpAny_specialOf hT zip_no_hint (wpAny_pure ?_))
  show wpAny _ A.in1 (rule "list.extend.makes-room" >>= fun _ => Builtin.List.listTouch (.ref S) >>= fun _ => again (.builtin "list.extend.loop" ⟨[.ref S, .ref z, .none], []⟩)) _ _ _
  refine wpAny_bind (wpAny_rule (wpAny_bind ?_))
  show wpAny _ _ (updateSeq S (·.push .none) >>= fun _ => updateSeq S (·.pop)) _ _ _
  refine wpAny_bind (wpAny_updateSeq hl rfl ?_)
  have g1 := Heap.get?_update_self (Obj.mapSeq (·.push Value.none)) hl rfl
  refine wpAny_updateSeq (hz := by seq_fits) g1 rfl ?_
  have g2 := Heap.get?_update_self (Obj.mapSeq (·.pop)) g1 rfl
  refine wpAny_pure ⟨plainId_quiet F.plain_extend_loop _, zipL_loop hh D hn hS lt hz _ 0 _ #[] _ rfl (Nat.zero_le _) ((Z.upd hn hS).upd hn hS) g2 rfl fun h' c' _ p1 p2 p3 => hR h' c' p1 p2 fun q o q0 q1 q2 q3 q4 e => p3 q o q0 q1 q2 q3 q4 ?_⟩
  exact (Heap.get?_update_other _ _ (Ne.symm q0)).trans ((Heap.get?_update_other _ _ (Ne.symm q0)).trans e)
theorem zipL_call {Q : Value → Shared → Prop} (hh : A.handled = none) (D : ZipApart z TI TO i1 i2 l1 l2) (hz : min xs.size ys.size ≤ sizeLine) (f1 : IsZip s.heap z TI TO .none) (f2 : IsPair s.heap TI (.ref i1) (.ref i2)) (f3 : ∃ a b, IsPair s.heap TO a b) (f4 : s.heap.IsTupleIter i1 l1 0) (f5 : s.heap.IsTupleIter i2 l2 0) (f6 : s.heap.IsTuple l1 xs) (f7 : s.heap.IsTuple l2 ys)
    (hQ : ∀ h' c', (∀ j x y, j < min xs.size ys.size → xs[j]? = some x → ys[j]? = some y → IsPair h' (s.heap.objs.size + 1 + j) x y) → h'.get? s.heap.objs.size = some (lObj ((List.range (min xs.size ys.size)).map fun j => Value.ref (s.heap.objs.size + 1 + j)).toArray c') →
      (∀ q o, q ≠ z → q ≠ TO → q ≠ i1 → q ≠ i2 → s.heap.get? q = some o → h'.get? q = some o) → Q (.ref s.heap.objs.size) { s with heap := h' }) : wpAny (model prog w) A (call (.type "list") [.ref z]) Q E s := by
  have lt0 : ∀ b ∈ [z, TI, TO, i1, i2, l1, l2], b < s.heap.objs.size := fun b hb => by
    simp only [List.mem_cons, List.not_mem_nil, or_false] at hb
    obtain ⟨a0, b0, f3⟩ := f3
    obtain ⟨o4, e4, _⟩ := f4
    obtain ⟨o5, e5, _⟩ := f5
    obtain ⟨o6, e6, _⟩ := f6
    obtain ⟨o7, e7, _⟩ := f7
    rcases hb with q | q | q | q | q | q | q <;> rw [q]
    · exact Heap.lt_size f1
    · exact Heap.lt_size f2
    · exact Heap.lt_size f3
    · exact Heap.lt_size e4
    · exact Heap.lt_size e5
    · exact Heap.lt_size e6
    · exact Heap.lt_size e7
  have hn : s.heap.objs.size ∉ [z, TI, TO, i1, i2, l1, l2] := fun q => Nat.lt_irrefl _ (lt0 _ q)
  refine callType_codes (Q₁ := fun obj s₁ => obj = .ref s.heap.objs.size ∧ s₁ = { s with heap := s.heap.push (lObj #[] 0) }) PySem.F.called_list (PySem.F.typeCall_list_1 _) PySem.F.entry_list_init (code_list_new _ ⟨rfl, rfl⟩) fun obj s₁ ⟨e1, e2⟩ => ?_
  subst e1 e2
  have hl : (s.heap.push (lObj #[] 0)).get? s.heap.objs.size = some (lObj #[] 0) := Heap.get?_push_size _ rfl
  refine ⟨⟨_, hl, rfl⟩, PySem.F.args_list_init_2 _ _, ?_⟩
  show wpAny _ _ (do let old ← Builtin.List.listItems (.ref s.heap.objs.size); Builtin.List.listUpdate (.ref s.heap.objs.size) (fun _ => #[]); letGo old.toList.reverse; Builtin.List.listExtendWith (.ref s.heap.objs.size) (.ref z) .none) _ _ _
  refine wpAny_bind ?_
  unfold Builtin.List.listItems
  refine wpAny_bind (wpAny_seqItems hl rfl (wpAny_pure ?_))
  show wpAny _ _ (updateSeq s.heap.objs.size (fun _ => #[]) >>= fun _ => letGo (#[] : Array Value).toList.reverse >>= fun _ => Builtin.List.listExtendWith (.ref s.heap.objs.size) (.ref z) .none) _ _ _
  refine wpAny_bind (wpAny_updateSeq hl rfl (wpAny_bind (wpAny_letGo ?_)))
  have hl2 := Heap.get?_update_self (Obj.mapSeq (fun _ => (#[] : Array Value))) hl rfl
  have ps : ∀ {b : Addr} {o : Obj}, s.heap.get? b = some o → (s.heap.push (lObj #[] 0)).get? b = some o := fun e => Heap.get?_push_of_some _ e
  have Z0 : ZS z TI TO i1 i2 l1 l2 (s.heap.objs.size + 1) xs ys (s.heap.push (lObj #[] 0)) 0 := by
    obtain ⟨a0, b0, f3⟩ := f3
    refine ⟨.inl ⟨rfl, ps f1, a0, b0, ps f3⟩, ps f2, f4.at fun o e => ps e, f5.at fun o e => ps e, ?_, ?_, by rw [Heap.size_push], fun j x y hj => absurd hj (Nat.not_lt_zero j)⟩
    · obtain ⟨o, e, r⟩ := f6; exact ⟨o, ps e, r⟩
    · obtain ⟨o, e, r⟩ := f7; exact ⟨o, ps e, r⟩
  refine zipL_extend (A := A.in1) hh D hn (Nat.lt_succ_self _) (fun b hb => Nat.lt_succ_of_lt (lt0 b hb)) hz (Z0.upd hn (Nat.lt_succ_self _)) hl2 fun h' c' p1 p2 p3 => ⟨rfl, hQ h' c' p1 p2 fun q o q1 q2 q3 q4 e => ?_⟩
  have q0 : q ≠ s.heap.objs.size := Nat.ne_of_lt (Heap.lt_size e)
  exact p3 q o q0 q1 q2 q3 q4 ((Heap.get?_update_other _ _ (Ne.symm q0)).trans (ps e))
end

/-! ### the rule -/
section
variable {X : Cx} {pins : List (Addr × Obj)} {σ : L2.St} {H : Hp} {s : Shared}
/-- the list at S, the pairs behind it -/
def laidZ (H : Hp) (S : Addr) (ps : List (V × V)) : Hp := fun b => if b = S then some (.lst ((List.range ps.length).map fun j => V.ref (S + 1 + j))) else if S < b then (match ps[b - (S + 1)]? with
  | some q => some (.tup [q.1, q.2])
  | none => H b) else H b
theorem laidZ_S {S : Addr} {ps : List (V × V)} : laidZ H S ps S = some (.lst ((List.range ps.length).map fun j => V.ref (S + 1 + j))) := if_pos rfl
theorem laidZ_at {S : Addr} {ps : List (V × V)} {j : Nat} {q : V × V} (h : ps[j]? = some q) : laidZ H S ps (S + 1 + j) = some (.tup [q.1, q.2]) := by
  unfold laidZ
  have e1 : S + 1 + j - (S + 1) = j := Nat.add_sub_cancel_left _ _
  rw [if_neg (ne_far (Nat.lt_succ_self S) j), if_pos (Nat.lt_of_lt_of_le (Nat.lt_succ_self S) (Nat.le_add_right _ _))]
  rw [e1, h]
theorem laidZ_low {S b : Addr} {ps : List (V × V)} (h : b < S) : laidZ H S ps b = H b := by
  unfold laidZ
  rw [if_neg (Nat.ne_of_lt h), if_neg (Nat.not_lt.mpr (Nat.le_of_lt h))]
def rZipL (K : PySem.W.Frag) : List V → Hp → VK → Prop := fun vs H Q => ∃ a b xs ys, vs = [V.ref a, V.ref b] ∧ SqT K H a xs ∧ SqT K H b ys ∧
  ∀ (H' : Hp) (p : Addr) (ts : List Addr), (∀ c o, H c = some o → H' c = some o) → H p = none → (∀ t ∈ ts, H t = none) → p ∉ ts → H' p = some (.lst (ts.map V.ref)) → Paired (fun (t : Addr) (q : V × V) => H' t = some (.tup [q.1, q.2])) ts (xs.zip ys) → Q (.ref p) H'
theorem vals_rng (S : Addr) (n : Nat) : Vals ((List.range n).map fun j => V.ref (S + j)) ((List.range n).map fun j => Value.ref (S + j)) := by
  induction n with
  | zero => exact .nil
  | succ n ih =>
    rw [List.range_succ, List.map_append, List.map_append]
    exact ih.append (.cons rfl .nil)
theorem paired_rng {F : Addr → V × V → Prop} {S : Addr} {ps : List (V × V)} (h : ∀ j q, ps[j]? = some q → F (S + j) q) : Paired F ((List.range ps.length).map fun j => S + j) ps := by
  induction ps generalizing S with
  | nil => exact .nil
  | cons q ps ih =>
    rw [List.length_cons, List.range_succ_eq_map, List.map_cons, List.map_map]
    refine .cons (h 0 q rfl) ?_
    have e1 : ((fun j => S + j) ∘ Nat.succ) = fun j => (S + 1) + j := by funext j; show S + (j + 1) = _; rw [Nat.add_right_comm]; rfl
    rw [e1]
    exact ih fun j q e => by
      have := h (j + 1) q (by simpa using e)
      rw [show S + 1 + j = S + (j + 1) from by rw [Nat.add_right_comm]; rfl]
      exact this
/-- list(zip(e, e2)), two tuples -/
theorem pe_listZip {e e2 : Expr} {ta : TA} {p pz pos zpos : Pos} (hc : X.calm = true) (hg : Gl X "list") (hm : X.mg "list" = none) (hgz : Gl X "zip") (hmz : X.mg "zip" = none) (ha : PA X [e, e2] ta) (hs : starEach [e, e2] X.env = (false, eval e X.env) :: starEach [e2] X.env) (hpl : (backTo zpos (starEach [e2] X.env)).any (·.1) = false) :
    PE X (.Call (.Name "list" p) [.Call (.Name "zip" pz) [e, e2] [] zpos] [] pos) (tCB (rZipL X.K) ta) := ⟨fun pins s σ H Q I h => by
  refine wpAny_Call_Name_kw (ld_blt I hg hm (show bootBuiltins "list" = some (.type "list") by decide +kernel) (PyProof.Rows.callWith_type1 ?_ rfl rfl))
  show wpAny _ _ (spliced ((false, eval (.Call (.Name "zip" pz) [e, e2] [] zpos) X.env) :: backTo pos (starEach [] X.env))) _ _ s
  refine Calls.spliced_cons (wpAny_Call_Name_kw (ld_blt I hgz hmz PyProof.Rows.boot_zip (PyProof.Rows.callWith_type1 (thn (ha.run zpos pins s σ H _ I h) fun us s1 ⟨vs, H1, I1, r1, a, b, xs, ys, ex, q1, q2, q⟩ => ?_) hs hpl)))
  subst ex
  cases r1 with
  | cons ra rr =>
    cases rr with
    | cons rb rr =>
      cases rr
      cases ra
      cases rb
      obtain ⟨its, rv, g1, hz1⟩ := I1.tuple q1
      obtain ⟨its2, rv2, g2, hz2⟩ := I1.tuple q2
      have la : a < s1.heap.objs.size := by obtain ⟨o, ho, _⟩ := id g1; exact Heap.lt_size ho
      have lb : b < s1.heap.objs.size := by obtain ⟨o, ho, _⟩ := id g2; exact Heap.lt_size ho
      refine call_zipT (show s1.heap.IsTuple a its.toArray from g1) (show s1.heap.IsTuple b its2.toArray from g2) fun h' f1 f2 f3 f4 f5 fz fk => ?_
      have I2 : Inv X pins σ H1 { s1 with heap := h' } := I1.kept (t' := s1.toks) fk
      refine Calls.spliced_nil ?_
      have min1 : min its.toArray.size its2.toArray.size = (xs.zip ys).length := by
        rw [List.length_zip, rv.length, rv2.length]
        simp
      refine zipL_call (I2.ok.hd hc) (PySem.W.ktu_apart s1.heap.objs.size a b la lb) (by rw [min1, List.length_zip]; exact Nat.le_trans (Nat.min_le_left _ _) hz1) f1 f2 ⟨_, _, f3⟩ f4 f5 ?_ ?_ fun h2 c2 p1 p2 p3 => ?_
      · obtain ⟨o, ho, r⟩ := id g1; exact ⟨o, fk _ _ ho, r⟩
      · obtain ⟨o, ho, r⟩ := id g2; exact ⟨o, fk _ _ ho, r⟩
      have new : ∀ {c : Addr}, s1.heap.objs.size ≤ c → H1 c = none := fun h => I1.hok.fresh h
      have old : ∀ {c : Addr} {u : HO}, H1 c = some u → c < s1.heap.objs.size := fun e => I1.hok.lt e
      have oldS : ∀ {c : Addr} {u : HO}, H1 c = some u → c < h'.objs.size := fun e => I2.hok.lt e
      have ge4 : ∀ c ∈ [s1.heap.objs.size + 4, s1.heap.objs.size + 3, s1.heap.objs.size, s1.heap.objs.size + 1], s1.heap.objs.size ≤ c := fun c hc => by
        simp only [List.mem_cons, List.not_mem_nil, or_false] at hc
        rcases hc with z | z | z | z <;> rw [z]
        · exact Nat.le_add_right _ _
        · exact Nat.le_add_right _ _
        · exact Nat.le_refl _
        · exact Nat.le_add_right _ _
      have keep : ∀ c o, c ∉ [s1.heap.objs.size + 4, s1.heap.objs.size + 3, s1.heap.objs.size, s1.heap.objs.size + 1] → h'.get? c = some o → h2.get? c = some o := fun c o hn e => by
        simp only [List.mem_cons, List.not_mem_nil, or_false, not_or] at hn
        exact p3 c o hn.1 hn.2.1 hn.2.2.1 hn.2.2.2 e
      have low : ∀ {c : Addr}, c < h'.objs.size → laidZ H1 h'.objs.size (xs.zip ys) c = H1 c := fun h => laidZ_low h
      have oldN : ∀ {c : Addr} {u : HO}, H1 c = some u → c ∉ [s1.heap.objs.size + 4, s1.heap.objs.size + 3, s1.heap.objs.size, s1.heap.objs.size + 1] := fun e hm => absurd (old e) (Nat.not_lt.mpr (ge4 _ hm))
      have hok : HOk X.prog X.w (laidZ H1 h'.objs.size (xs.zip ys)) h2 := fun c u e => by
        by_cases c1 : c = h'.objs.size
        · subst c1
          rw [laidZ_S] at e
          cases e
          refine ⟨by rw [List.length_map, List.length_range, List.length_zip]; exact Nat.le_trans (Nat.min_le_left _ _) hz1, _, c2, vals_rng (h'.objs.size + 1) (xs.zip ys).length, ?_⟩
          rw [← min1]
          exact p2
        · by_cases c2 : h'.objs.size < c
          · have e0 := e
            unfold laidZ at e
            rw [if_neg c1, if_pos c2] at e
            cases hq : (xs.zip ys)[c - (h'.objs.size + 1)]? with
            | none =>
              rw [hq] at e
              exact absurd (oldS e) (Nat.not_lt.mpr (Nat.le_of_lt c2))
            | some pr =>
              rw [hq] at e
              cases e
              obtain ⟨k1, k2⟩ := List.getElem?_zip_eq_some.mp hq
              obtain ⟨u1, g3, g4⟩ := rv.get k1
              obtain ⟨u2, g5, g6⟩ := rv2.get k2
              have hj : c - (h'.objs.size + 1) < min its.toArray.size its2.toArray.size := by rw [min1]; exact (List.getElem?_eq_some_iff.mp hq).1
              have hp := p1 _ u1 u2 hj (by simpa using g3) (by simpa using g5)
              have ec : h'.objs.size + 1 + (c - (h'.objs.size + 1)) = c := Nat.add_sub_cancel' c2
              rw [ec] at hp
              exact ⟨by show 2 ≤ sizeLine; decide, [u1, u2], .cons g4 (.cons g6 .nil), ⟨_, hp, rfl, _, rfl⟩⟩
          · have lc : c < h'.objs.size := Nat.lt_of_le_of_ne (Nat.not_lt.mp c2) c1
            rw [low lc] at e
            refine (I2.hok c u e).stay (fun d v hd q => keep d v ?_ q) (fun d q => (low (oldS q)).trans q) fun d xs' q => (low (oldS q)).trans q
            rcases hd with z | z
            · rw [z]; exact oldN e
            · exact oldN z
      have J := I2.call' (s' := { s1 with heap := h2 }) (H' := laidZ H1 h'.objs.size (xs.zip ys)) (ch := [s1.heap.objs.size + 4, s1.heap.objs.size + 3, s1.heap.objs.size, s1.heap.objs.size + 1]) rfl
        { keep := fun c o e _ _ hn => keep c o hn e, slot := fun c o e _ _ hn => ⟨o.slots, keep c o hn e⟩, free := fun c o e n _ => (low (Heap.lt_size e)).trans n, there := fun c o e hn => ⟨o, keep c o hn e⟩,
          tups := fun c zs e => (low (oldS e)).trans e, frzs := fun c o zs e => (low (oldS e)).trans e, tbls := fun c zs e => ⟨#[], ((low (oldS e)).trans e).trans (by simp)⟩ } hok I2.bare fun c hm => by
          obtain ⟨_, w1, _, w3, w4, w5⟩ := I1.fpOk (ge4 c hm) (new (ge4 c hm))
          exact ⟨w3, w1, w4, w5⟩
      refine ⟨.ref h'.objs.size, _, J, rfl, q _ h'.objs.size ((List.range (xs.zip ys).length).map fun j => h'.objs.size + 1 + j) (fun c o e => (low (oldS e)).trans e) (I2.hok.fresh (Nat.le_refl _)) (fun t ht => ?_) (fun hm => ?_) ?_ (paired_rng fun j pr e => laidZ_at e)⟩
      · obtain ⟨j, _, e⟩ := List.mem_map.mp ht
        rw [← e]
        exact I2.hok.fresh (Nat.le_trans (Nat.le_succ _) (Nat.le_add_right _ _))
      · obtain ⟨j, _, e⟩ := List.mem_map.mp hm
        exact ne_far (Nat.lt_succ_self _) j e
      · rw [laidZ_S, List.map_map]
        rfl⟩
end
section
variable {K : PySem.W.Frag} {W : Wd} {E : XK}
theorem repL_pairs {Hf Hf' : Hp} (le : Le Hf Hf') : ∀ {ts : List Addr} {xs ys : List V} {ds es : List D}, Paired (fun (t : Addr) (q : V × V) => Hf' t = some (.tup [q.1, q.2])) ts (xs.zip ys) → RepL K W Hf xs ds → RepL K W Hf ys es → RepL K W Hf' (ts.map V.ref) (ds.zipWith (fun p q => D.tup [p, q]) es)
  | _, _, _, _, _, p, .nil, _ => by cases p; exact .nil
  | _, _, _, _, _, p, .cons _ _, .nil => by cases p; exact .nil
  | _, _, _, _, _, p, .cons r1 t1, .cons r2 t2 => by
    cases p with
    | cons h t => exact .cons (.tup h (.cons (r1.mono le) (.cons (r2.mono le) .nil))) (repL_pairs le t t1 t2)
theorem sat_lzip {ta tb : TE} {ma mb : Rho → M D} (ha : SatP K W E ta ma) (hb : SatP K W E tb mb) : Sat K W E (tCB (rZipL K) (tCons ta (tCons tb tNil))) (fun ρ => bnd (ma ρ) fun x => bnd (mb ρ) fun y => lft (lzipD x y)) := fun H0 ρ S σ H Hf Q I p => by
  refine ha H0 ρ S σ H Hf _ I (p.bind.mono fun x H1 ⟨d, S1, Hf1, e1, s1, k1, r1, p1⟩ => ?_)
  refine hb H0 ρ S1 σ H1 Hf1 _ (I.step s1 k1) (p1.bind.mono fun y H2 ⟨e, S2, Hf2, e2, s2, k2, r2, p2⟩ => ?_)
  obtain ⟨z, hz, q⟩ := p2.lft
  have r1 := r1.step s2
  cases d with
  | tup ds =>
    cases e with
    | tup es =>
      obtain ⟨a, xs, rfl, ha1, ha2, ra⟩ := r1.tupI s2.fz
      obtain ⟨b, ys, rfl, hb1, hb2, rb⟩ := r2.tupI s2.fz
      obtain ⟨_, rfl⟩ := ite_some (show (if sz ds.length = true then some (D.lst (ds.zipWith (fun p q => D.tup [p, q]) es)) else none) = some z from hz)
      refine ⟨a, b, xs, ys, rfl, SqT.of ha1, SqT.of hb1, fun H' p0 ts ext hp hts hpt hl hpr => ?_⟩
      have notold : ∀ {c : Addr} {u : HO}, Hf2 c = some u → ¬ (c = p0 ∨ c ∈ ts) := fun e z => by
        have e := s2.fz.le _ _ e
        rcases z with z | z
        · rw [z, hp] at e; cases e
        · rw [hts _ z] at e; cases e
      let Hf' : Hp := fun c => if c = p0 ∨ c ∈ ts then H' c else Hf2 c
      have at1 : ∀ {c : Addr}, (c = p0 ∨ c ∈ ts) → Hf' c = H' c := fun h => if_pos h
      have at2 : ∀ {c : Addr}, ¬ (c = p0 ∨ c ∈ ts) → Hf' c = Hf2 c := fun h => if_neg h
      have le : Le Hf2 Hf' := fun c u e => (at2 (notold e)).trans e
      have nn : ∀ {c : Addr}, H2 c ≠ none → ¬ (c = p0 ∨ c ∈ ts) := fun h z => by
        rcases z with z | z
        · exact h (z ▸ hp)
        · exact h (hts _ z)
      have tupT : ∀ c ∈ ts, ∃ xs, H' c = some (.tup xs) := fun c hc => by
        have go : ∀ {l : List Addr} {m : List (V × V)}, Paired (fun (t : Addr) (q : V × V) => H' t = some (.tup [q.1, q.2])) l m → ∀ c ∈ l, ∃ xs, H' c = some (.tup xs) := fun {l m} h => by
          induction h with
          | nil => intro c hc; cases hc
          | cons h _ ih =>
            intro c hc
            rcases List.mem_cons.mp hc with z | z
            · rw [z]; exact ⟨_, h⟩
            · exact ih c z
        exact go hpr c hc
      have st : Stp W H2 Hf2 H' Hf' := by
        refine ⟨Kp.of ext, le, ⟨fun c u e => ?_, (at2 (nn k2.n1)).trans s2.fz.st, (at2 (nn k2.n2)).trans s2.fz.l1, fun c ps e => ?_⟩, fun c e => ?_⟩
        · by_cases h : c = p0 ∨ c ∈ ts
          · rw [at1 h] at e; exact e
          · rw [at2 h] at e; exact ext _ _ (s2.fz.le _ _ e)
        · by_cases h : c = p0 ∨ c ∈ ts
          · rw [at1 h] at e
            rcases h with h | h
            · rw [h, hl] at e; cases e
            · obtain ⟨xs, h1⟩ := tupT c h
              rw [h1] at e
              cases e
          · rw [at2 h] at e; exact s2.fz.tbl c ps e
        · by_cases h : c = p0 ∨ c ∈ ts
          · refine .inr ?_
            rcases h with h | h
            · rw [h]; exact hp
            · exact hts c h
          · rw [at2 h] at e; exact .inl e
      refine q _ _ _ st ⟨ext _ _ k2.st, ext _ _ k2.l1, ext _ _ k2.l2, k2.tabs.ext ext⟩ (.lst ((at1 (.inl rfl)).trans hl) (repL_pairs le ?_ ra rb))
      have go : ∀ {l : List Addr} {m : List (V × V)}, (∀ c ∈ l, c ∈ ts) → Paired (fun (t : Addr) (q : V × V) => H' t = some (.tup [q.1, q.2])) l m → Paired (fun (t : Addr) (q : V × V) => Hf' t = some (.tup [q.1, q.2])) l m := fun {l m} hs h => by
        induction h with
        | nil => exact .nil
        | cons h _ ih => exact .cons ((at1 (.inr (hs _ List.mem_cons_self))).trans h) (ih fun c hc => hs c (List.mem_cons_of_mem _ hc))
      exact go (fun _ h => h) hpr
    | _ => cases hz
  | _ => cases e <;> cases hz
end
end Oi

/-! Oi, part J: the checker of expressions, and that it is right. -/
namespace Oi
open PySem PySem.Spec PyProof.Rows L2

/-! ### what is checked -/
structure Ck where
  G : Tb
  N : List Str
  sc : Scope
  /-- within a comprehension's block: its own scope -/
  st : Option Scope
  /-- are the guards known -/
  gd : Bool
  /-- may lambdas be made here -/
  lm : Bool
def Ck.blk (c : Ck) (s : Scope) : Ck := { c with sc := relS s c.sc, st := some s, lm := false }
def Ck.lam (c : Ck) (s : Scope) : Ck := { c with sc := s, st := some { s with names := [] }, gd := false, lm := false }
def noParB : Arguments → Bool
  | ⟨[], [], none, [], [], none, []⟩ => true
  | _ => false
def visB (c : Ck) (i : Nat) (x : Str) : Bool :=
  decide (c.N[i]? = some x) && (match c.sc.names.lookup x with | some .local => true | some .cell => true | some .free => true | _ => false) && !(x == ("__debug__" : Str)) && !(x == ("__classdict__" : Str))
def glB (c : Ck) (x : Str) : Bool := decide (c.sc.names.lookup x = some .globalImplicit) && !(x == ("__debug__" : Str))
def isOp : BOp → Operator → Bool
  | .add, .Add => true | .sub, .Sub => true | .mul, .Mult => true | .fdiv, .FloorDiv => true | .mod, .Mod => true | .pow, .Pow => true
  | .shl, .LShift => true | .shr, .RShift => true | .band, .BitAnd => true | .bor, .BitOr => true
  | _, _ => false
def plainT : Expr → Bool
  | .Name _ _ => true
  | .Call _ _ _ _ => true
  | .Attribute _ _ _ => true
  | .Subscript _ _ _ => true
  | _ => false
def noCallE : Expr → Bool
  | .Call _ _ _ _ => false
  | _ => true
def noSlE : Expr → Bool
  | .Slice _ _ _ _ => false
  | _ => true
def noSetE : Expr → Bool
  | .Set _ _ _ => false
  | _ => true
def Bf.name : Bf → String
  | .len => "len" | .abs => "abs" | .int => "int" | .min => "min" | .max => "max" | .tuple => "tuple" | .list => "list" | .all => "all" | .any => "any" | .repr => "repr" | .reprB => "repr"
def blB (c : Ck) (x : Str) (n : String) : Bool := decide (x = Str.ofString n) && c.G.bl.contains n && glB c x
def I.len : I → Nat
  | .cons _ r => r.len + 1
  | _ => 0
/-- a class by its name -/
def clB (c : Ck) (t : String) (x : Str) : Bool := decide (x = Str.ofString t) && glB c x && (c.G.own t || (c.G.bl.contains t && decide (bootBuiltins x = some (.type t)) && decide (x ≠ "__name__")))
/-- a def or a class that is called -/
def fnB (c : Ck) (f : String) (n : Nat) (x : Str) : Bool := decide (x = Str.ofString f) && glB c x && (c.G.fn.contains (f, n) || c.G.cs.contains (f, n)) && (!c.G.gr.contains f || c.gd)
def kyB : Ky → Option Expr → Bool
  | .s x, some (.Constant (.str y) _ _) => decide (Str.ofString x = y)
  | .i x, some (.Constant (.int y) _ _) => decide (x = y)
  | _, _ => false
def kysB : List Ky → List (Option Expr) → Bool
  | [], [] => true
  | k :: ks, e :: es => kyB k e && kysB ks es
  | _, _ => false
/-- a target's names -/
def tgN (c : Ck) (i : Nat) : Expr → Bool
  | .Name x _ => decide (c.N[i]? = some x) && (match c.st with
    | none => (match c.sc.names.lookup x with | some .local => true | some .cell => true | _ => false)
    | some s => (match c.sc.names.lookup x with | some .local => true | some .cell => decide (s.names.lookup x = some .cell) | _ => false))
  | _ => false
def tgNs (c : Ck) : List Nat → List Expr → Bool
  | [], [] => true
  | i :: is, e :: es => tgN c i e && tgNs c is es
  | _, _ => false
def tgB (c : Ck) (tg : List Nat) (tup : Bool) (e : Expr) : Bool := match tup with
  | false => (match tg with
    | [i] => tgN c i e
    | _ => false)
  | true => (match e with
    | .Tuple es _ _ => tgNs c tg es
    | _ => false)
/-- the block's own names with their slots -/
def ownOf (N : List Str) (tg : List Nat) : List (Str × Nat) := tg.map fun i => ((N[i]?).getD Str.empty, i)
def isTup : Expr → Bool
  | .Tuple _ _ _ => true
  | _ => false
structure Fs where
  E : Ck → Expr → Bool := fun _ _ => false
  A : Ck → List Expr → Bool := fun _ _ => false
  T : Option (Ck → Expr → Bool) := none
  J : Ck → Bool → Expr → Bool := fun _ _ _ => false
  /-- the rest of an and, an or -/
  R : Ck → List Expr → Pos → Bool := fun _ _ _ => false
def Fs.t (f : Fs) (c : Ck) (e : Expr) : Bool := match f.T with
  | some g => g c e
  | none => plainT e && f.E c e
def chO (f : Fs) (n : Bool) (c : Ck) : Option Expr → Bool
  | none => n
  | some e => !n && f.E c e
def chIfs (f : Fs) (n : Bool) (c : Ck) : List Expr → Bool
  | [] => n
  | [e] => !n && f.t c e
  | _ => false
/-- and, or: the first one, the others -/
def andE (fa fb : Fs) (c : Ck) : Expr → Bool
  | .BoolOp .And (l :: r :: []) _ => fa.E c l && fb.E c r
  | .BoolOp .And (l :: r :: q :: qs) p => fa.E c l && fb.E c (.BoolOp .And (r :: q :: qs) p)
  | _ => false
def orE (fa fb : Fs) (c : Ck) : Expr → Bool
  | .BoolOp .Or (l :: r :: []) _ => fa.E c l && fb.E c r
  | .BoolOp .Or (l :: r :: q :: qs) p => fa.E c l && fb.E c (.BoolOp .Or (r :: q :: qs) p)
  | _ => false
def andT (fa fb : Fs) (c : Ck) : Expr → Bool
  | .BoolOp .And (l :: r :: []) _ => fa.t c l && fb.t c r
  | .BoolOp .And (l :: r :: q :: qs) p => fa.t c l && fb.t c (.BoolOp .And (r :: q :: qs) p)
  | _ => false
def orT (fa fb : Fs) (c : Ck) : Expr → Bool
  | .BoolOp .Or (l :: r :: []) _ => fa.t c l && fb.t c r
  | .BoolOp .Or (l :: r :: q :: qs) p => fa.t c l && fb.t c (.BoolOp .Or (r :: q :: qs) p)
  | _ => false
def cmpE (op : COp) (fa fb : Fs) (c : Ck) : Expr → Bool
  | .Compare l [o] [r] _ => decide (o = cOp op) && fa.E c l && fb.E c r && !behindInMarks o r
  | _ => false
def chnE (o1 o2 : COp) (fa fb fc : Fs) (c : Ck) : Expr → Bool
  | .Compare l [p1, p2] [m, r] _ => decide (p1 = cOp o1) && decide (p2 = cOp o2) && fa.E c l && fb.E c m && fc.E c r && !behindInMarks p2 r
  | _ => false
def chk : I → Fs
  | .nil => { A := fun _ es => es.isEmpty }
  | .cons a r => { A := fun c es => match es with
    | e :: es => plainE e && (chk a).E c e && (chk r).A c es
    | [] => false }
  | .nm i => { E := fun c e => match e with
    | .Name x _ => visB c i x
    | _ => false }
  | .kI i => { E := fun _ e => match e with
    | .Constant (.int j) _ _ => decide (i = j)
    | _ => false }
  | .kB i => { E := fun _ e => match e with
    | .Constant (.bool j) _ _ => decide (i = j)
    | _ => false }
  | .kN => { E := fun _ e => match e with
    | .Constant .none _ _ => true
    | _ => false }
  | .kS i => { E := fun _ e => match e with
    | .Constant (.str j) _ _ => decide (Str.ofString i = j)
    | _ => false }
  | .neg a => { E := fun c e => match e with
    | .UnaryOp .USub e _ => (chk a).E c e
    | _ => false }
  | .tup es => { E := fun c e => match e with
    | .Tuple xs _ _ => (chk es).A c xs && decide (es.len ≤ 1000)
    | _ => false }
  | .lst es => { E := fun c e => match e with
    | .List xs _ => (chk es).A c xs && decide (es.len ≤ 1000)
    | _ => false }
  | .dct ks es => { E := fun c e => match e with
    | .Dict keys vs _ => kysB ks keys && (chk es).A c vs && decide (ks.length = es.len) && decide (ks.length ≤ 15)
    | _ => false }
  | .bin op a b => { E := fun c e => match e with
    | .BinOp l o r _ => isOp op o && (chk a).E c l && (chk b).E c r
    | _ => false }
  | .cmp op a b => { E := cmpE op (chk a) (chk b), T := some (cmpE op (chk a) (chk b)) }
  | .chain o1 o2 a b d => { E := chnE o1 o2 (chk a) (chk b) (chk d), T := some (chnE o1 o2 (chk a) (chk b) (chk d)) }
  | .and a b => { E := andE (chk a) (chk b), T := some (andT (chk a) (chk b)) }
  | .or a b => { E := orE (chk a) (chk b), T := some (orT (chk a) (chk b)) }
  | .not a => { E := fun c e => (match e with
    | .UnaryOp .Not e _ => (chk a).E c e
    | _ => false), T := some fun c e => match e with
    | .UnaryOp .Not e _ => (chk a).t c e
    | _ => false }
  | .ite t a b => { E := fun c e => match e with
    | .IfExp x y z _ => (chk t).t c x && (chk a).E c y && (chk b).E c z
    | _ => false }
  | .ix a b => { E := fun c e => match e with
    | .Subscript x y _ => (chk a).E c x && (chk b).E c y && noSlE y
    | _ => false }
  | .key a k => { E := fun c e => match e with
    | .Subscript x (.Constant (.str s) _ _) _ => (chk a).E c x && decide (Str.ofString k = s)
    | _ => false }
  | .sl a lo hi => { E := fun c e => match e with
    | .Subscript x (.Slice l h none _) _ => (chk a).E c x && chO (chk lo) lo.isNil c l && chO (chk hi) hi.isNil c h
    | _ => false }
  | .fld a f => { E := fun c e => match e with
    | .Attribute x g _ => (chk a).E c x && decide (Str.ofString f = g) && noCallE x
    | _ => false }
  | .call f es => { E := fun c e => match e with
    | .Call (.Name x _) xs [] _ => (chk es).A c xs && fnB c f es.len x
    | _ => false }
  | .callK f ks pm es ws => { E := fun c e => match e with
    | .Call (.Name x _) xs kws _ => (chk es).A c xs && (chk ws).A c (kws.map (·.value)) && decide (kws.map (·.arg) = ks.map fun k => some (Str.ofString k)) && fnB c f pm.length x && c.G.kw.contains ⟨f, es.len, ks, pm⟩ && decide (ws.len = ks.length)
    | _ => false }
  | .bi f es => { E := fun c e => match e with
    | .Call (.Name x _) (y :: ys) [] _ => (chk es).A c (y :: ys) && blB c x f.name && (match f with | .repr => c.gd | _ => true)
    | _ => false }
  | .isA a t => { E := fun c e => match e with
    | .Call (.Name x _) [y, .Name z _] [] _ => (chk a).E c y && plainE y && blB c x "isinstance" && clB c t z
    | _ => false }
  | .comp elt tg tup iter ifs => { E := fun c e => match e with
    | .ListComp el [⟨tx, it, fs, 0⟩] sc _ => (chk iter).J c (isTup tx) it && blkC c.N c.sc sc (ownOf c.N tg) && tgB (c.blk sc) tg tup tx && chIfs (chk ifs) ifs.isNil (c.blk sc) fs && (chk elt).E (c.blk sc) el && noSetE it
    | _ => false }
  | .itS a => { J := fun c _ e => (chk a).E c e }
  | .itR es => { J := fun c _ e => match e with
    | .Call (.Name x _) [y] [] _ => blB c x "range" && (chk es).A c [y] && decide (es.len = 1)
    | .Call (.Name x _) [y, z] [] _ => blB c x "range" && (chk es).A c [y, z] && decide (es.len = 2)
    | _ => false }
  | .itZ a b => { J := fun c t e => match e with
    | .Call (.Name x _) [y, z] [] _ => t && blB c x "zip" && (chk a).E c y && (chk b).E c z && plainE y && plainE z
    | _ => false }
  | .itE a => { J := fun c t e => match e with
    | .Call (.Name x _) [y] [] _ => t && blB c x "enumerate" && (chk a).E c y && plainE y
    | _ => false }
  | .lstI _ => {}
  | .lzip a b => { E := fun c e => match e with
    | .Call (.Name l _) [.Call (.Name z _) [x, y] [] _] [] _ => blB c l "list" && blB c z "zip" && (chk a).E c x && (chk b).E c y && plainE x && plainE y
    | _ => false }
  | .caught a => { E := fun c e => match e with
    | .Call (.Name x _) [.Lambda ps body sc _] [] _ => c.lm && decide (x = Str.ofString "_law_caught") && glB c x && LamX.lamSB c.sc sc && noParB ps && (chk a).E (c.lam sc) body
    | _ => false }

/-! ### the contexts -/
section
variable (X : Cx) (K : PySem.W.Frag) (W : Wd) (E : XK) (G : Gm) (k : Nat)
structure FnAt (f : String) (n : Nat) : Prop where
  ar : ∀ ds S r, G.ft f ds S = some r → ds.length = n
  ex : ∃ (fa : Addr) (fd : FuncData) (ps : List Str), FnP (G.gr.contains f) X.prog X.w X.K X.mg X.base k fa fd ps (spD X.K W (G.ft f)) ∧ X.mg (Str.ofString f) = some (.ref fa) ∧ PySem.W.keepIn X.K (.ref fa) = true ∧ Binds X.K fd ps [] ∧
    ∀ q ∈ G.kw, q.f = f → KwB X.K fd ps q.n (q.ks.map Str.ofString) q.ps
structure CsAt (f : String) (n : Nat) : Prop where
  own : G.own f = true
  ex : ∃ (fa : Addr) (fd : FuncData) (ps : List Str), Mk X.K (He.ga X.K (Str.ofString f)) fa ∧ FnP (G.gr.contains f) X.prog X.w X.K X.mg X.base k fa fd ps (spI X.K W f (G.ft f)) ∧ Binds X.K fd ps [] ∧
    ∀ q ∈ G.kw, q.f = f → KwB X.K fd ps (q.n + 1) (q.ks.map Str.ofString) (0 :: q.ps.map (· + 1))
/-- what a lambda that is handed to _law_caught asks -/
structure LmOk : Prop where
  room : Room (k + 3) X.A
  code : ∃ c P, LamX.TabB X.base X.mg c P ∧ X.env.code = .ref c ∧ (P, X.env.qual ++ "<lambda>") ∈ W.T ∧ ∀ p ∈ W.T, p.1 = P → p.2 = X.env.qual ++ "<lambda>"
  cau : ∃ (g : Addr) (fd : FuncData) (pg : Arguments) (sg : Scope) (j : Nat) (p : Nat → Pos), X.mg (Str.ofString "_law_caught") = some (.ref g) ∧ FunD X.K (Str.ofString "_law_caught") (Str.ofString "_law_caught") pg (cauBody (Str.ofString "_law_work") (Str.ofString "_law_caught_here") (Str.ofString "FoundError") (Str.ofString "error") j p) sg [] [] g fd ∧
    Binds X.K fd [Str.ofString "_law_work"] [] ∧ FnScope [Str.ofString "_law_work", Str.ofString "_law_caught_here", Str.ofString "error"] [Str.ofString "_law_work"] sg ∧ sg.names.lookup (Str.ofString "_law_work") = some .local ∧ sg.names.lookup (Str.ofString "_law_caught_here") = some .local ∧ sg.names.lookup (Str.ofString "error") = some .local ∧ sg.names.lookup (Str.ofString "FoundError") = some .globalImplicit
  fe : G.own "FoundError" = true
  exm : ∀ c ∈ G.fe, PySem.W.exmOne X.K (.ref (He.ga X.K (Str.ofString c))) (.ref (He.ga X.K (Str.ofString "FoundError"))) = some true
structure XOk (c : Ck) : Prop where
  eK : X.K = K
  eG : c.G = G.toTb
  nN : X.N = c.N
  sc : X.env.scope = c.sc
  nd : X.N.Nodup
  calm : X.calm = true
  room : Room (k + 1) X.A
  gd : c.gd = true → X.A.guards = some []
  tk : Takes X (fun d a _ H => E d a H)
  st : match c.st with
    | none => ∀ x, X.fn x = true
    | some s => ∀ x, X.fn x = (s.names.lookup x == some .cell)
  bl : ∀ x ∈ G.bl, X.mg (Str.ofString x) = none
  cl : ∀ t, G.own t = true → X.mg (Str.ofString t) = some (.ref (He.ga X.K (Str.ofString t)))
  fn : ∀ p ∈ G.fn, FnAt X W G k p.1 p.2
  cs : ∀ p ∈ G.cs, CsAt X W G k p.1 p.2
  lm : c.lm = true → LmOk X W G k
end
section
variable {X : Cx} {K : PySem.W.Frag} {W : Wd} {E : XK} {G : Gm} {k : Nat} {c : Ck}
theorem XOk.gl (h : XOk X K W E G k c) {x : Str} (hx : glB c x = true) : Gl X x ∧ (x == ("__debug__" : Str)) = false := by
  unfold glB at hx
  simp only [Bool.and_eq_true, decide_eq_true_eq, Bool.not_eq_true'] at hx
  refine ⟨?_, hx.2⟩
  show X.env.scope.names.lookup x = _
  rw [h.sc]
  exact hx.1
theorem XOk.blk (h : XOk X K W E G k c) (s : Shared) (H : Hp) (sc : Scope) (C : Addr) (cl : List (Str × Addr)) (fp : List Addr) : XOk (X.blk s H sc (compEnvC sc cl C X.env) fp) K W E0 G k (c.blk sc) where
  eK := h.eK
  eG := h.eG
  nN := h.nN
  sc := by
    show relS sc X.env.scope = relS sc c.sc
    rw [h.sc]
  nd := h.nd
  calm := h.calm
  room := h.room
  gd := h.gd
  tk := LamX.takes0
  st := fun x => rfl
  bl := h.bl
  cl := h.cl
  fn := fun p hp => ⟨(h.fn p hp).ar, (h.fn p hp).ex⟩
  cs := fun p hp => ⟨(h.cs p hp).own, (h.cs p hp).ex⟩
  lm := fun z => by cases z
theorem XOk.u (h : XOk X K W E G k c) : X.A.units + 200 < cLine := by have := h.room.un; omega
end

/-! ### rules by the forms -/
section
variable {X : Cx} {e b : Expr} {env : Env}
theorem isTrue_of (h : plainT e = true) : ∀ whole, isTrue e env whole = (do let v ← whole; standAt e.pos; holding [v] (truthy v)) := by
  intro whole
  cases e <;> first | rfl | cases h
theorem noSet_of (h : noSetE e = true) : ∀ x, foldedSetIterable e env x = pure x := by
  intro x
  cases e <;> first | rfl | cases h
theorem noCall_of {f : Str} (h : noCallE e = true) : attributeBase e f env (eval e env) = eval e env := by
  cases e <;> first | rfl | cases h
theorem plainIx_of (h : noSlE b = true) : PlainIx b := by
  intro o i
  cases b <;> first | rfl | cases h
end
def oper : BOp → Operator
  | .add => .Add | .sub => .Sub | .mul => .Mult | .fdiv => .FloorDiv | .mod => .Mod | .pow => .Pow | .shl => .LShift | .shr => .RShift | .band => .BitAnd | .bor => .BitOr
theorem isOp_of {op : BOp} {o : Operator} (h : isOp op o = true) : o = oper op := by
  cases op <;> cases o <;> first | rfl | cases h
def rBin (K : PySem.W.Frag) : BOp → R2
  | .add => rAddU K
  | .sub => rI0 fun i j => .int (i - j)
  | .mul => rMulU K
  | .fdiv => rI CDiv fun i j => .int (i / j)
  | .mod => rI (fun _ j => 0 < j) fun i j => .int (i % j)
  | .pow => rI CPow fun i j => .int (i ^ j.toNat)
  | .shl => rI CPow fun i j => .int (i * 2 ^ j.toNat)
  | .shr => rI (fun _ j => 0 ≤ j) fun i j => .int (i / 2 ^ j.toNat)
  | .band => rI0 fun i j => .int (Builtin.bitAnd i j)
  | .bor => rI0 fun i j => .int (Builtin.bitOr i j)
theorem op_bin {X : Cx} : ∀ op, OpR X (binaryOp (oper op)) (rBin X.K op)
  | .add => op_addU | .sub => op_sub | .mul => op_mulU | .fdiv => op_fdiv | .mod => op_mod | .pow => op_pow | .shl => op_shl | .shr => op_shr
  | .band => op_and | .bor => op_or
theorem ops_bin {K : PySem.W.Frag} {W : Wd} : ∀ op, OpS K W (rBin K op) (binD op)
  | .add => ops_add | .sub => ops_sub | .mul => ops_mul | .fdiv => ops_fdiv | .mod => ops_mod | .pow => ops_pow | .shl => ops_shl | .shr => ops_shr | .band => ops_band | .bor => ops_bor
def rBf (K : PySem.W.Frag) : Bf → List V → Hp → VK → Prop
  | .len => rLenU K
  | .abs => fun xs H Q => ∃ i, xs = [.int i] ∧ Q (.int (if i < 0 then -i else i)) H
  | .int => fun xs H Q => (∃ i, xs = [.int i] ∧ Q (.int i) H) ∨ ∃ k, xs = [.bl k] ∧ Q (.int (if k then 1 else 0)) H
  | .min => fun xs H Q => ∃ i j, xs = [.int i, .int j] ∧ Q (.int (if j < i then j else i)) H
  | .max => fun xs H Q => ∃ i j, xs = [.int i, .int j] ∧ Q (.int (if j > i then j else i)) H
  | .tuple => fun xs H Q => ∃ p ys, xs = [.ref p] ∧ ((SqL K H p ys ∧ ∀ l, H l = none → Q (.ref l) (upd H l (.tup ys))) ∨ (SqT K H p ys ∧ Q (.ref p) H))
  | .list => fun xs H Q => ∃ p ys, xs = [.ref p] ∧ (SqL K H p ys ∨ SqT K H p ys) ∧ ∀ l, H l = none → Q (.ref l) (upd H l (.lst ys))
  | .all => rAll K
  | .any => rAny K
  | .repr => rReprD K
  | .reprB => rReprB
theorem cals_bf {K : PySem.W.Frag} {W : Wd} : ∀ f : Bf, CalS K W (rBf K f) f.f
  | .len => cals_len | .abs => cals_abs | .int => cals_int | .min => cals_min | .max => cals_max | .tuple => cals_tuple | .list => cals_list | .all => cals_all | .any => cals_any | .repr => cals_repr | .reprB => cals_reprB
def needG : Bf → Bool
  | .repr => true
  | _ => false
section
variable {X : Cx} {y : Expr} {ys : List Expr} {p pos : Pos} {t : TA}
theorem pe_bfB {id : String} {x : Str} {r : List V → Hp → VK → Prop} (hc : CallR X (.builtin id) r) (hv : bootBuiltins x = some (.builtin id)) (hn : x ≠ "__name__") (hg : Gl X x) (hm : X.mg x = none) (ha : PA X (y :: ys) t) (hs : (y :: ys).all plainE = true) (hd : (x == ("__debug__" : Str)) = false) :
    PE X (.Call (.Name x p) (y :: ys) [] pos) (tCB r t) := by
  rw [List.all_cons, Bool.and_eq_true] at hs
  exact pe_callB hc hg hm hv ha hn hd (star1 hs.1) (starAny hs.2)
theorem pe_bfT {T : String} {x : Str} {r : List V → Hp → VK → Prop} (hc : CallR X (.type T) r) (hv : bootBuiltins x = some (.type T)) (hn : x ≠ "__name__") (hg : Gl X x) (hm : X.mg x = none) (ha : PA X (y :: ys) t) (hs : (y :: ys).all plainE = true) (hd : (x == ("__debug__" : Str)) = false) :
    PE X (.Call (.Name x p) (y :: ys) [] pos) (tCB r t) := by
  rw [List.all_cons, Bool.and_eq_true] at hs
  exact pe_callTy hc hg hm hv ha hn hd (star1 hs.1) (starAny hs.2)
theorem pe_bf (f : Bf) (hu : X.A.units + 200 < cLine) (hc : X.calm = true) (hgd : needG f = true → X.A.guards = some []) (hg : Gl X (Str.ofString f.name)) (hm : X.mg (Str.ofString f.name) = none) (ha : PA X (y :: ys) t) (hs : (y :: ys).all plainE = true) (hd : ((Str.ofString f.name) == ("__debug__" : Str)) = false) :
    PE X (.Call (.Name (Str.ofString f.name) p) (y :: ys) [] pos) (tCB (rBf X.K f) t) := by
  cases f with
  | len => exact pe_bfB (id := "len") call_len_seq (by decide +kernel) (by decide +kernel) hg hm ha hs hd
  | abs => exact pe_bfB (id := "abs") call_abs (by decide +kernel) (by decide +kernel) hg hm ha hs hd
  | int => exact pe_bfT (T := "int") call_int1 (by decide +kernel) (by decide +kernel) hg hm ha hs hd
  | min => exact pe_bfB (id := "min") (call_min2 hc) (by decide +kernel) (by decide +kernel) hg hm ha hs hd
  | max => exact pe_bfB (id := "max") (call_max2 hc) (by decide +kernel) (by decide +kernel) hg hm ha hs hd
  | tuple => exact pe_bfT (T := "tuple") call_tuple_of (by decide +kernel) (by decide +kernel) hg hm ha hs hd
  | list => exact pe_bfT (T := "list") call_list_of (by decide +kernel) (by decide +kernel) hg hm ha hs hd
  | all => exact pe_bfB (id := "all") (cr_all hc) (by decide +kernel) (by decide +kernel) hg hm ha hs hd
  | any => exact pe_bfB (id := "any") (cr_any hc) (by decide +kernel) (by decide +kernel) hg hm ha hs hd
  | repr => exact pe_bfB (id := "repr") (call_reprD hu (hgd rfl)) (by decide +kernel) (by decide +kernel) hg hm ha hs hd
  | reprB => exact pe_bfB (id := "repr") call_reprB (by decide +kernel) (by decide +kernel) hg hm ha hs hd
end
end Oi

/-! Oi, part K: the checker of expressions is right. -/
namespace Oi
open PySem PySem.Spec PyProof.Rows L2

/-- new lists -/
def isFr : I → Bool
  | .lst _ => true
  | .comp _ _ _ _ _ => true
  | .bi .list _ => true
  | _ => false
section
variable (K : PySem.W.Frag) (W : Wd) (G : Gm) (k : Nat)
def RdE (c : Ck) (E : XK) (i : I) (e : Expr) : Prop := ∃ t : TE, (∀ X, XOk X K W E G k c → PE X e t) ∧ Sat K W E t (fun ρ => ev G i ρ) ∧ SatP K W E t (fun ρ => pe ρ i (ev G i ρ)) ∧ (isFr i = true → SatF K W E t (fun ρ => ev G i ρ))
def RdA (c : Ck) (E : XK) (i : I) (es : List Expr) : Prop := es.all plainE = true ∧ es.length = i.len ∧ ∃ t : TA, (∀ X, XOk X K W E G k c → PA X es t) ∧ SatA K W E t (fun ρ => evL G i ρ) ∧ SatAP K W E t (fun ρ => evLP G i ρ) ∧ (es = [] → t = tNil)
def RdT (c : Ck) (E : XK) (i : I) (e : Expr) : Prop := ∃ t : TT, (∀ X, XOk X K W E G k c → PT X e t ∧ ∀ op vs p, e = .BoolOp op vs p → PW X e t) ∧ SatT K W E t (fun ρ => tst (ev G i ρ))
def RdJ (c : Ck) (E : XK) (i : I) (b : Bool) (e : Expr) : Prop := ∃ wi : TI, (∀ X tg, XOk X K W E G k c → (b = true → isTup tg = true) → PI X tg e wi) ∧ ∀ w, SatI K W E w wi (fun ρ => evI G w i ρ)
/-- as many readings -/
inductive PEs (X : Cx) : List Expr → List TE → Prop where
  | nil : PEs X [] []
  | cons {e : Expr} {es : List Expr} {t : TE} {ts : List TE} : PE X e t → PEs X es ts → PEs X (e :: es) (t :: ts)
def RdP (c : Ck) (E : XK) (i : I) (es : List Expr) : Prop := ∃ ts : List TE, ts.length = i.len ∧ (∀ X, XOk X K W E G k c → PEs X es ts) ∧ SatPs K W E ts (fun ρ => evL G i ρ)
structure Rt (i : I) : Prop where
  p : ∀ (c : Ck) (E : XK) (es : List Expr), (chk i).A c es = true → RdP K W G k c E i es
  e : ∀ (c : Ck) (E : XK) (e : Expr), (chk i).E c e = true → RdE K W G k c E i e
  a : ∀ (c : Ck) (E : XK) (es : List Expr), (chk i).A c es = true → RdA K W G k c E i es
  t : ∀ (c : Ck) (E : XK) (e : Expr), (chk i).t c e = true → RdT K W G k c E i e
  j : ∀ (c : Ck) (E : XK) (b : Bool) (e : Expr), (chk i).J c b e = true → RdJ K W G k c E i b e
end
section
variable {K : PySem.W.Frag} {W : Wd} {G : Gm} {k : Nat} {c : Ck} {E : XK} {i : I} {e : Expr}
theorem pe_nonnm (h : ∀ j, i ≠ .nm j) (ρ : Rho) (m : M D) : pe ρ i m = m := by
  cases i <;> first | rfl | exact absurd rfl (h _)
/-- no name -/
theorem RdE.of {t : TE} (h : ∀ j, i ≠ .nm j) (hp : ∀ X, XOk X K W E G k c → PE X e t) (hs : Sat K W E t (fun ρ => ev G i ρ)) (hf : isFr i = true → SatF K W E t (fun ρ => ev G i ρ)) : RdE K W G k c E i e :=
  ⟨t, hp, hs, by
    have e1 : (fun ρ => pe ρ i (ev G i ρ)) = fun ρ => ev G i ρ := by
      funext ρ
      exact pe_nonnm h ρ _
    rw [e1]
    exact hs.toP, hf⟩
theorem RdE.mk {t : TE} (h : ∀ j, i ≠ .nm j) (hn : isFr i = false) (hp : ∀ X, XOk X K W E G k c → PE X e t) (hs : Sat K W E t (fun ρ => ev G i ρ)) : RdE K W G k c E i e := .of h hp hs fun z => by rw [hn] at z; cases z
theorem RdT.ofE (h : RdE K W G k c E i e) (hp : plainT e = true) : RdT K W G k c E i e := by
  obtain ⟨t, h1, h2, _⟩ := h
  refine ⟨tB t, fun X x => ⟨pt_val (h1 X x) (isTrue_of hp), fun op vs p z => by subst z; cases hp⟩, sat_test h2⟩
/-- nothing but an expression -/
theorem Rt.mkE (hA : (chk i).A = fun _ _ => false) (hT : (chk i).T = none) (hJ : (chk i).J = fun _ _ _ => false) (he : ∀ (c : Ck) (E : XK) (e : Expr), (chk i).E c e = true → RdE K W G k c E i e) : Rt K W G k i where
  p := fun c E es h => by rw [hA] at h; cases h
  e := he
  a := fun c E es h => by rw [hA] at h; cases h
  t := fun c E e h => by
    unfold Fs.t at h
    rw [hT] at h
    rw [Bool.and_eq_true] at h
    exact .ofE (he c E e h.2) h.1
  j := fun c E b e h => by rw [hJ] at h; cases h
/-- nothing but a walk -/
theorem Rt.mkJ (hA : (chk i).A = fun _ _ => false) (hT : (chk i).T = none) (hE : (chk i).E = fun _ _ => false) (hj : ∀ (c : Ck) (E : XK) (b : Bool) (e : Expr), (chk i).J c b e = true → RdJ K W G k c E i b e) : Rt K W G k i where
  p := fun c E es h => by rw [hA] at h; cases h
  e := fun c E e h => by rw [hE] at h; cases h
  a := fun c E es h => by rw [hA] at h; cases h
  t := fun c E e h => by
    unfold Fs.t at h
    rw [hT, hE] at h
    rw [Bool.and_eq_true] at h
    cases h.2
  j := hj
theorem Rt.none (hA : (chk i).A = fun _ _ => false) (hT : (chk i).T = .none) (hE : (chk i).E = fun _ _ => false) (hJ : (chk i).J = fun _ _ _ => false) : Rt K W G k i := .mkJ hA hT hE fun c E b e h => by rw [hJ] at h; cases h

/-! ### one by one -/
theorem XOk.vis {X : Cx} (h : XOk X K W E G k c) {j : Nat} {x : Str} (hx : visB c j x = true) : X.N[j]? = some x ∧ Vis X.env.scope x ∧ (x == ("__debug__" : Str)) = false ∧ (x == ("__classdict__" : Str)) = false := by
  unfold visB at hx
  simp only [Bool.and_eq_true, decide_eq_true_eq, Bool.not_eq_true'] at hx
  obtain ⟨⟨⟨h1, h2⟩, h3⟩, h4⟩ := hx
  refine ⟨by rw [h.nN]; exact h1, ?_, h3, h4⟩
  unfold Vis
  rw [h.sc]
  split at h2
  · exact .inl (by assumption)
  · exact .inr (.inl (by assumption))
  · exact .inr (.inr (by assumption))
  · cases h2
theorem rt_nm (j : Nat) : Rt K W G k (.nm j) := .mkE rfl rfl rfl fun c E e h => by
  have h : (match (generalizing := false) e with
    | .Name x _ => visB c j x
    | _ => false) = true := h
  split at h
  · rename_i x p
    refine ⟨tVar j, fun X x => ?_, sat_var, satP_var, fun z => by cases z⟩
    obtain ⟨h1, h2, h3, h4⟩ := x.vis h
    exact pe_var h1 h2 h3 h4
  · cases h
theorem rt_kI (j : Int) : Rt K W G k (.kI j) := .mkE rfl rfl rfl fun c E e h => by
  have h : (match (generalizing := false) e with
    | .Constant (.int m) _ _ => decide (j = m)
    | _ => false) = true := h
  split at h
  · have h := of_decide_eq_true h
    subst h
    exact .mk (fun _ z => by cases z) rfl (fun X x => pe_int) (sat_c fun _ => .int _)
  · cases h
theorem rt_kB (j : Bool) : Rt K W G k (.kB j) := .mkE rfl rfl rfl fun c E e h => by
  have h : (match (generalizing := false) e with
    | .Constant (.bool m) _ _ => decide (j = m)
    | _ => false) = true := h
  split at h
  · have h := of_decide_eq_true h
    subst h
    exact .mk (fun _ z => by cases z) rfl (fun X x => pe_bl) (sat_c fun _ => .bl _)
  · cases h
theorem rt_kN : Rt K W G k .kN := .mkE rfl rfl rfl fun c E e h => by
  have h : (match (generalizing := false) e with
    | .Constant .none _ _ => true
    | _ => false) = true := h
  split at h
  · exact .mk (fun _ z => by cases z) rfl (fun X x => pe_non) (sat_c fun _ => .non)
  · cases h
theorem rt_kS (j : String) : Rt K W G k (.kS j) := .mkE rfl rfl rfl fun c E e h => by
  have h : (match (generalizing := false) e with
    | .Constant (.str m) _ _ => decide (Str.ofString j = m)
    | _ => false) = true := h
  split at h
  · have h := of_decide_eq_true h
    subst h
    exact .mk (fun _ z => by cases z) rfl (fun X x => pe_str) (sat_c fun _ => .str _)
  · cases h
theorem rt_neg {a : I} (ra : Rt K W G k a) : Rt K W G k (.neg a) := .mkE rfl rfl rfl fun c E e h => by
  have h : (match (generalizing := false) e with
    | .UnaryOp .USub e _ => (chk a).E c e
    | _ => false) = true := h
  split at h
  · obtain ⟨t, h1, h2, _⟩ := ra.e c E _ h
    exact .mk (fun _ z => by cases z) rfl (fun X x => pe_un un_neg (h1 X x)) (sat_neg h2)
  · cases h
/-- as many -/
theorem evL_len (G : Gm) : ∀ (i : I) (ρ : Rho) (S : DS) (ds : List D) (S' : DS), evL G i ρ S = some (.ok ds, S') → ds.length = i.len
  | .nil, ρ, S, ds, S', h => by
    unfold evL at h
    cases h
    rfl
  | .cons a r, ρ, S, ds, S', h => by
    unfold evL at h
    obtain ⟨x, S1, _, h2⟩ := bnd_inv h
    obtain ⟨xs, S2, h3, h4⟩ := bnd_inv h2
    cases h4
    exact congrArg (· + 1) (evL_len G r ρ S1 xs _ h3)
  | .nm _, ρ, S, ds, S', h => by unfold evL at h; cases h
  | .kI _, ρ, S, ds, S', h => by unfold evL at h; cases h
  | .kB _, ρ, S, ds, S', h => by unfold evL at h; cases h
  | .kN, ρ, S, ds, S', h => by unfold evL at h; cases h
  | .kS _, ρ, S, ds, S', h => by unfold evL at h; cases h
  | .neg _, ρ, S, ds, S', h => by unfold evL at h; cases h
  | .tup _, ρ, S, ds, S', h => by unfold evL at h; cases h
  | .lst _, ρ, S, ds, S', h => by unfold evL at h; cases h
  | .dct _ _, ρ, S, ds, S', h => by unfold evL at h; cases h
  | .bin _ _ _, ρ, S, ds, S', h => by unfold evL at h; cases h
  | .cmp _ _ _, ρ, S, ds, S', h => by unfold evL at h; cases h
  | .chain _ _ _ _ _, ρ, S, ds, S', h => by unfold evL at h; cases h
  | .and _ _, ρ, S, ds, S', h => by unfold evL at h; cases h
  | .or _ _, ρ, S, ds, S', h => by unfold evL at h; cases h
  | .not _, ρ, S, ds, S', h => by unfold evL at h; cases h
  | .ite _ _ _, ρ, S, ds, S', h => by unfold evL at h; cases h
  | .ix _ _, ρ, S, ds, S', h => by unfold evL at h; cases h
  | .key _ _, ρ, S, ds, S', h => by unfold evL at h; cases h
  | .sl _ _ _, ρ, S, ds, S', h => by unfold evL at h; cases h
  | .fld _ _, ρ, S, ds, S', h => by unfold evL at h; cases h
  | .call _ _, ρ, S, ds, S', h => by unfold evL at h; cases h
  | .callK _ _ _ _ _, ρ, S, ds, S', h => by unfold evL at h; cases h
  | .bi _ _, ρ, S, ds, S', h => by unfold evL at h; cases h
  | .isA _ _, ρ, S, ds, S', h => by unfold evL at h; cases h
  | .comp _ _ _ _ _, ρ, S, ds, S', h => by unfold evL at h; cases h
  | .itS _, ρ, S, ds, S', h => by unfold evL at h; cases h
  | .itR _, ρ, S, ds, S', h => by unfold evL at h; cases h
  | .itZ _ _, ρ, S, ds, S', h => by unfold evL at h; cases h
  | .itE _, ρ, S, ds, S', h => by unfold evL at h; cases h
  | .lstI _, ρ, S, ds, S', h => by unfold evL at h; cases h
  | .lzip _ _, ρ, S, ds, S', h => by unfold evL at h; cases h
  | .caught _, ρ, S, ds, S', h => by unfold evL at h; cases h
theorem rt_nil : Rt K W G k .nil where
  p := fun c E es h => by
    have h : es.isEmpty = true := h
    cases es with
    | cons _ _ => cases h
    | nil =>
      refine ⟨[], rfl, fun X x => .nil, ?_⟩
      have e1 : (fun ρ => evL G .nil ρ) = fun _ => ret [] := by funext ρ; unfold evL; rfl
      rw [e1]
      exact .nil
  e := fun c E e h => by cases (show false = true from h)
  a := fun c E es h => by
    have h : es.isEmpty = true := h
    cases es with
    | cons _ _ => cases h
    | nil =>
      refine ⟨rfl, rfl, tNil, fun X x => pa_nil, ?_, ?_, fun _ => rfl⟩
      · have e1 : (fun ρ => evL G .nil ρ) = fun _ => ret [] := by funext ρ; unfold evL; rfl
        rw [e1]
        exact sat_nil
      · have e1 : (fun ρ => evLP G .nil ρ) = fun _ => ret [] := by funext ρ; unfold evLP; rfl
        rw [e1]
        exact satP_nil
  t := fun c E e h => by
    have h : (plainT e && false) = true := h
    rw [Bool.and_false] at h
    cases h
  j := fun c E b e h => by cases (show false = true from h)
theorem rt_cons {a r : I} (ra : Rt K W G k a) (rr : Rt K W G k r) : Rt K W G k (.cons a r) where
  p := fun c E es h => by
    cases es with
    | nil => cases (show false = true from h)
    | cons e es =>
      have h : (plainE e && (chk a).E c e && (chk r).A c es) = true := h
      rw [Bool.and_eq_true, Bool.and_eq_true] at h
      obtain ⟨⟨h1, h2⟩, h3⟩ := h
      obtain ⟨t, p1, p2, p3, _⟩ := ra.e c E e h2
      obtain ⟨ts, q0, q1, q2⟩ := rr.p c E es h3
      refine ⟨t :: ts, by show ts.length + 1 = r.len + 1; rw [q0], fun X x => .cons (p1 X x) (q1 X x), ?_⟩
      have e1 : (fun ρ => evL G (.cons a r) ρ) = fun ρ => bnd (ev G a ρ) fun x => bnd (evL G r ρ) fun xs => ret (x :: xs) := by funext ρ; rw [evL]
      rw [e1]
      exact .cons p2 q2
  e := fun c E e h => by cases (show false = true from h)
  a := fun c E es h => by
    cases es with
    | nil => cases (show false = true from h)
    | cons e es =>
      have h : (plainE e && (chk a).E c e && (chk r).A c es) = true := h
      rw [Bool.and_eq_true, Bool.and_eq_true] at h
      obtain ⟨⟨h1, h2⟩, h3⟩ := h
      obtain ⟨t, p1, p2, p3, _⟩ := ra.e c E e h2
      obtain ⟨q0, ql, u, q1, q2, q3, _⟩ := rr.a c E es h3
      refine ⟨by rw [List.all_cons, h1, q0]; rfl, by show es.length + 1 = r.len + 1; rw [ql], tCons t u, fun X x => pa_cons (p1 X x) (q1 X x) (star1 h1), ?_, ?_, fun z => by cases z⟩
      · have e1 : (fun ρ => evL G (.cons a r) ρ) = fun ρ => bnd (ev G a ρ) fun x => bnd (evL G r ρ) fun xs => ret (x :: xs) := by funext ρ; rw [evL]
        rw [e1]
        exact sat_cons p2 q2
      · have e1 : (fun ρ => evLP G (.cons a r) ρ) = fun ρ => bnd (pe ρ a (ev G a ρ)) fun x => bnd (evLP G r ρ) fun xs => ret (x :: xs) := by funext ρ; rw [evLP]
        rw [e1]
        exact satP_cons p3 q3
  t := fun c E e h => by
    have h : (plainT e && false) = true := h
    rw [Bool.and_false] at h
    cases h
  j := fun c E b e h => by cases (show false = true from h)
theorem rt_tup {es : I} (r : Rt K W G k es) : Rt K W G k (.tup es) := .mkE rfl rfl rfl fun c E e h => by
  have h : (match (generalizing := false) e with
    | .Tuple xs _ _ => (chk es).A c xs && decide (es.len ≤ 1000)
    | _ => false) = true := h
  split at h
  · rw [Bool.and_eq_true] at h
    obtain ⟨_, _, t, h1, h2, _⟩ := r.a c E _ h.1
    refine .mk (fun _ z => by cases z) rfl (fun X x => pe_tup (h1 X x)) ?_
    have e1 : (fun ρ => ev G (.tup es) ρ) = fun ρ => bnd (evL G es ρ) fun ds => ret (.tup ds) := by funext ρ; rw [ev]
    rw [e1]
    exact sat_tup h2 fun ρ S ds S' q => by rw [evL_len G es ρ S ds S' q]; exact of_decide_eq_true h.2
  · cases h
theorem rt_lst {es : I} (r : Rt K W G k es) : Rt K W G k (.lst es) := .mkE rfl rfl rfl fun c E e h => by
  have h : (match (generalizing := false) e with
    | .List xs _ => (chk es).A c xs && decide (es.len ≤ 1000)
    | _ => false) = true := h
  split at h
  · rw [Bool.and_eq_true] at h
    obtain ⟨_, _, t, h1, h2, _⟩ := r.a c E _ h.1
    have e1 : (fun ρ => ev G (.lst es) ρ) = fun ρ => bnd (evL G es ρ) fun ds => ret (.lst ds) := by funext ρ; rw [ev]
    have hs : SatF K W E (tLst t) (fun ρ => ev G (.lst es) ρ) := by
      rw [e1]
      exact satF_lst h2 fun ρ S ds S' q => by rw [evL_len G es ρ S ds S' q]; exact of_decide_eq_true h.2
    exact .of (fun _ z => by cases z) (fun X x => pe_lst (h1 X x)) hs.sat fun _ => hs
  · cases h
theorem rt_bin {op : BOp} {a b : I} (ra : Rt K W G k a) (rb : Rt K W G k b) : Rt K W G k (.bin op a b) := .mkE rfl rfl rfl fun c E e h => by
  have h : (match (generalizing := false) e with
    | .BinOp l o r _ => isOp op o && (chk a).E c l && (chk b).E c r
    | _ => false) = true := h
  split at h
  · rw [Bool.and_eq_true, Bool.and_eq_true] at h
    obtain ⟨⟨h0, h1⟩, h2⟩ := h
    obtain ⟨t, p1, p2, _⟩ := ra.e c E _ h1
    obtain ⟨u, q1, q2, _⟩ := rb.e c E _ h2
    have h0 := isOp_of h0
    subst h0
    refine .mk (t := tOp (rBin K op) t u) (fun _ z => by cases z) rfl (fun X x => ?_) ?_
    · rw [← x.eK]
      exact pe_op (op_bin op) (p1 X x) (q1 X x)
    · have e1 : (fun ρ => ev G (.bin op a b) ρ) = fun ρ => bnd (ev G a ρ) fun x => bnd (ev G b ρ) fun y => lft (binD op x y) := by funext ρ; rw [ev]
      rw [e1]
      exact sat_op (ops_bin op) p2.toP q2.toP
  · cases h
end
end Oi

/-! Oi, part L: the checker of expressions is right: the rest. -/
namespace Oi
open PySem PySem.Spec PyProof.Rows L2
section
variable {K : PySem.W.Frag} {W : Wd} {G : Gm} {k : Nat} {c : Ck} {E : XK} {i : I} {e : Expr}
/-- with a test of its own -/
theorem Rt.mkT (g : Ck → Expr → Bool) (hA : (chk i).A = fun _ _ => false) (hT : (chk i).T = some g) (hJ : (chk i).J = fun _ _ _ => false) (he : ∀ (c : Ck) (E : XK) (e : Expr), (chk i).E c e = true → RdE K W G k c E i e)
    (ht : ∀ (c : Ck) (E : XK) (e : Expr), g c e = true → RdT K W G k c E i e) : Rt K W G k i where
  p := fun c E es h => by rw [hA] at h; cases h
  e := he
  a := fun c E es h => by rw [hA] at h; cases h
  t := fun c E e h => by
    unfold Fs.t at h
    rw [hT] at h
    exact ht c E e h
  j := fun c E b e h => by rw [hJ] at h; cases h
theorem pe_cmp_of {op : COp} {a b : I} (ra : Rt K W G k a) (rb : Rt K W G k b) (h : cmpE op (chk a) (chk b) c e = true) : ∃ t : TE, (∀ X, XOk X K W E G k c → PE X e t ∧ PT X e (tTest t)) ∧ Sat K W E t (fun ρ => ev G (.cmp op a b) ρ) ∧ ∀ o vs p, e ≠ .BoolOp o vs p := by
  unfold cmpE at h
  split at h
  · rename_i l o r p
    simp only [Bool.and_eq_true, decide_eq_true_eq, Bool.not_eq_true'] at h
    obtain ⟨⟨⟨rfl, h1⟩, h2⟩, h3⟩ := h
    obtain ⟨t, p1, _, p2, _⟩ := ra.e c E _ h1
    obtain ⟨u, q1, _, q2, _⟩ := rb.e c E _ h2
    refine ⟨tOp (rCmp K op) t u, fun X x => ?_, ?_, fun _ _ _ z => by cases z⟩
    · have ho := op_cmp (X := X) (by have := x.u; omega) op
      rw [x.eK] at ho
      exact ⟨pe_cmpR ho (p1 X x) (q1 X x) h3, pt_cmpR ho (p1 X x) (q1 X x) h3⟩
    · have e1 : (fun ρ => ev G (.cmp op a b) ρ) = fun ρ => bnd (pe ρ a (ev G a ρ)) fun x => bnd (pe ρ b (ev G b ρ)) fun y => lft (cmpB op x y) := by funext ρ; rw [ev]; rfl
      rw [e1]
      exact sat_op (ops_cmp op) p2 q2
  · cases h
theorem rt_cmp {op : COp} {a b : I} (ra : Rt K W G k a) (rb : Rt K W G k b) : Rt K W G k (.cmp op a b) := .mkT _ rfl rfl rfl
  (fun c E e h => by
    obtain ⟨t, h1, h2, _⟩ := pe_cmp_of (E := E) ra rb h
    exact .mk (fun _ z => by cases z) rfl (fun X x => (h1 X x).1) h2)
  (fun c E e h => by
    obtain ⟨t, h1, h2, h3⟩ := pe_cmp_of (E := E) ra rb h
    exact ⟨tTest t, fun X x => ⟨(h1 X x).2, fun _ _ _ z => absurd z (h3 _ _ _)⟩, sat_test h2⟩)
theorem pe_chn_of {o1 o2 : COp} {a b d : I} (ra : Rt K W G k a) (rb : Rt K W G k b) (rd : Rt K W G k d) (h : chnE o1 o2 (chk a) (chk b) (chk d) c e = true) : ∃ t : TE, (∀ X, XOk X K W E G k c → PE X e t ∧ PT X e (tTest t)) ∧ Sat K W E t (fun ρ => ev G (.chain o1 o2 a b d) ρ) ∧ ∀ o vs p, e ≠ .BoolOp o vs p := by
  unfold chnE at h
  split at h
  · rename_i l p1 p2 m r p
    simp only [Bool.and_eq_true, decide_eq_true_eq, Bool.not_eq_true'] at h
    obtain ⟨⟨⟨⟨⟨rfl, rfl⟩, h1⟩, h2⟩, h3⟩, h4⟩ := h
    obtain ⟨t, p1, p2, _⟩ := ra.e c E _ h1
    obtain ⟨u, q1, q2, _⟩ := rb.e c E _ h2
    obtain ⟨v, r1, r2, _⟩ := rd.e c E _ h3
    refine ⟨tChain (rCmp K o1) (rCmp K o2) t u v, fun X x => ?_, ?_, fun _ _ _ z => by cases z⟩
    · have hu : X.A.units + 65 < cLine := by have := x.u; omega
      have ho := op_cmp (X := X) hu o1
      have ho2 := op_cmp (X := X) hu o2
      rw [x.eK] at ho ho2
      have hm : lastMarks [cOp o1, cOp o2] [m, r] = false := h4
      exact ⟨pe_chain ho ho2 (p1 X x) (q1 X x) (r1 X x) hm, pt_chain ho ho2 (p1 X x) (q1 X x) (r1 X x) hm⟩
    · have e1 : (fun ρ => ev G (.chain o1 o2 a b d) ρ) = fun ρ => bnd (ev G a ρ) fun x => bnd (ev G b ρ) fun y => bnd (lft (cmpD o1 x y)) fun k => iteM k (bnd (ev G d ρ) fun z => lft ((cmpD o2 y z).map .bl)) (ret (.bl false)) := by funext ρ; rw [ev]
      rw [e1]
      exact sat_chain (ops_cmp o1) (ops_cmp o2) p2 q2 r2
  · cases h
theorem rt_chain {o1 o2 : COp} {a b d : I} (ra : Rt K W G k a) (rb : Rt K W G k b) (rd : Rt K W G k d) : Rt K W G k (.chain o1 o2 a b d) := .mkT _ rfl rfl rfl
  (fun c E e h => by
    obtain ⟨t, h1, h2, _⟩ := pe_chn_of (E := E) ra rb rd h
    exact .mk (fun _ z => by cases z) rfl (fun X x => (h1 X x).1) h2)
  (fun c E e h => by
    obtain ⟨t, h1, h2, h3⟩ := pe_chn_of (E := E) ra rb rd h
    exact ⟨tTest t, fun X x => ⟨(h1 X x).2, fun _ _ _ z => absurd z (h3 _ _ _)⟩, sat_test h2⟩)
theorem rt_and {a b : I} (ra : Rt K W G k a) (rb : Rt K W G k b) : Rt K W G k (.and a b) := by
  have e1 : (fun ρ => ev G (.and a b) ρ) = fun ρ => bnd (ev G a ρ) fun x => andM x (ev G b ρ) := by funext ρ; rw [ev]
  have e2 : (fun ρ => tst (ev G (.and a b) ρ)) = fun ρ => bnd (tst (ev G a ρ)) fun c => iteM c (tst (ev G b ρ)) (ret false) := by funext ρ; rw [ev, tst_and]
  refine .mkT _ rfl rfl rfl (fun c E e h => ?_) (fun c E e h => ?_)
  · have h : andE (chk a) (chk b) c e = true := h
    unfold andE at h
    split at h
    · rw [Bool.and_eq_true] at h
      obtain ⟨t, p1, p2, _⟩ := ra.e c E _ h.1
      obtain ⟨u, q1, q2, _⟩ := rb.e c E _ h.2
      exact .mk (fun _ z => by cases z) rfl (fun X x => pe_and (p1 X x) (pe_one (q1 X x))) (by rw [e1]; exact sat_and p2 q2)
    · rw [Bool.and_eq_true] at h
      obtain ⟨t, p1, p2, _⟩ := ra.e c E _ h.1
      obtain ⟨u, q1, q2, _⟩ := rb.e c E _ h.2
      exact .mk (fun _ z => by cases z) rfl (fun X x => pe_and (p1 X x) (q1 X x)) (by rw [e1]; exact sat_and p2 q2)
    · cases h
  · have h : andT (chk a) (chk b) c e = true := h
    unfold andT at h
    split at h
    · rename_i l r pq hh
      rw [Bool.and_eq_true] at h
      obtain ⟨t, p1, p2⟩ := ra.t c E _ h.1
      obtain ⟨u, q1, q2⟩ := rb.t c E _ h.2
      refine ⟨tAnd t u, fun X x => ?_, by rw [e2]; exact satT_and p2 q2⟩
      have w := pw_and (pos := pq) (p1 X x).1 (pw_and1 (q1 X x).1)
      exact ⟨w.pt, fun _ _ _ z => by cases z; exact w⟩
    · rw [Bool.and_eq_true] at h
      obtain ⟨t, p1, p2⟩ := ra.t c E _ h.1
      obtain ⟨u, q1, q2⟩ := rb.t c E _ h.2
      refine ⟨tAnd t u, fun X x => ?_, by rw [e2]; exact satT_and p2 q2⟩
      have w := pw_and (p1 X x).1 ((q1 X x).2 _ _ _ rfl)
      exact ⟨w.pt, fun _ _ _ z => by cases z; exact w⟩
    · cases h
theorem rt_or {a b : I} (ra : Rt K W G k a) (rb : Rt K W G k b) : Rt K W G k (.or a b) := by
  have e1 : (fun ρ => ev G (.or a b) ρ) = fun ρ => bnd (ev G a ρ) fun x => orM x (ev G b ρ) := by funext ρ; rw [ev]
  have e2 : (fun ρ => tst (ev G (.or a b) ρ)) = fun ρ => bnd (tst (ev G a ρ)) fun c => iteM c (ret true) (tst (ev G b ρ)) := by funext ρ; rw [ev, tst_or]
  refine .mkT _ rfl rfl rfl (fun c E e h => ?_) (fun c E e h => ?_)
  · have h : orE (chk a) (chk b) c e = true := h
    unfold orE at h
    split at h
    · rw [Bool.and_eq_true] at h
      obtain ⟨t, p1, p2, _⟩ := ra.e c E _ h.1
      obtain ⟨u, q1, q2, _⟩ := rb.e c E _ h.2
      exact .mk (fun _ z => by cases z) rfl (fun X x => pe_or (p1 X x) (pe_one (q1 X x))) (by rw [e1]; exact sat_or p2 q2)
    · rw [Bool.and_eq_true] at h
      obtain ⟨t, p1, p2, _⟩ := ra.e c E _ h.1
      obtain ⟨u, q1, q2, _⟩ := rb.e c E _ h.2
      exact .mk (fun _ z => by cases z) rfl (fun X x => pe_or (p1 X x) (q1 X x)) (by rw [e1]; exact sat_or p2 q2)
    · cases h
  · have h : orT (chk a) (chk b) c e = true := h
    unfold orT at h
    split at h
    · rename_i l r pq hh
      rw [Bool.and_eq_true] at h
      obtain ⟨t, p1, p2⟩ := ra.t c E _ h.1
      obtain ⟨u, q1, q2⟩ := rb.t c E _ h.2
      refine ⟨tOr t u, fun X x => ?_, by rw [e2]; exact satT_or p2 q2⟩
      have w := pw_or (pos := pq) (p1 X x).1 (pw_or1 (q1 X x).1)
      exact ⟨w.pt, fun _ _ _ z => by cases z; exact w⟩
    · rw [Bool.and_eq_true] at h
      obtain ⟨t, p1, p2⟩ := ra.t c E _ h.1
      obtain ⟨u, q1, q2⟩ := rb.t c E _ h.2
      refine ⟨tOr t u, fun X x => ?_, by rw [e2]; exact satT_or p2 q2⟩
      have w := pw_or (p1 X x).1 ((q1 X x).2 _ _ _ rfl)
      exact ⟨w.pt, fun _ _ _ z => by cases z; exact w⟩
    · cases h
theorem rt_not {a : I} (ra : Rt K W G k a) : Rt K W G k (.not a) := by
  have e1 : (fun ρ => ev G (.not a) ρ) = fun ρ => bnd (ev G a ρ) fun x => lft (notD x) := by funext ρ; rw [ev]
  have e2 : (fun ρ => tst (ev G (.not a) ρ)) = fun ρ => bnd (tst (ev G a ρ)) fun c => ret (!c) := by funext ρ; rw [ev, tst_not]
  refine .mkT _ rfl rfl rfl (fun c E e h => ?_) (fun c E e h => ?_)
  · have h : (match (generalizing := false) e with
      | .UnaryOp .Not e _ => (chk a).E c e
      | _ => false) = true := h
    split at h
    · obtain ⟨t, p1, p2, _⟩ := ra.e c E _ h
      exact .mk (fun _ z => by cases z) rfl (fun X x => L2.pe_not (p1 X x)) (by rw [e1]; exact sat_not p2)
    · cases h
  · have h : (match (generalizing := false) e with
      | .UnaryOp .Not e _ => (chk a).t c e
      | _ => false) = true := h
    split at h
    · obtain ⟨t, p1, p2⟩ := ra.t c E _ h
      exact ⟨tNot t, fun X x => ⟨pt_not (p1 X x).1, fun _ _ _ z => by cases z⟩, by rw [e2]; exact satT_not p2⟩
    · cases h
theorem rt_ite {q a b : I} (rq : Rt K W G k q) (ra : Rt K W G k a) (rb : Rt K W G k b) : Rt K W G k (.ite q a b) := .mkE rfl rfl rfl fun c E e h => by
  have h : (match (generalizing := false) e with
    | .IfExp x y z _ => (chk q).t c x && (chk a).E c y && (chk b).E c z
    | _ => false) = true := h
  split at h
  · rw [Bool.and_eq_true, Bool.and_eq_true] at h
    obtain ⟨⟨h0, h1⟩, h2⟩ := h
    obtain ⟨s, o1, o2⟩ := rq.t c E _ h0
    obtain ⟨t, p1, p2, _⟩ := ra.e c E _ h1
    obtain ⟨u, q1, q2, _⟩ := rb.e c E _ h2
    have e1 : (fun ρ => ev G (.ite q a b) ρ) = fun ρ => bnd (tst (ev G q ρ)) fun t => iteM t (ev G a ρ) (ev G b ρ) := by funext ρ; rw [ev]
    exact .mk (fun _ z => by cases z) rfl (fun X x => pe_ifExp (o1 X x).1 (p1 X x) (q1 X x)) (by rw [e1]; exact sat_ite o2 p2 q2)
  · cases h
theorem rt_ix {a b : I} (ra : Rt K W G k a) (rb : Rt K W G k b) : Rt K W G k (.ix a b) := .mkE rfl rfl rfl fun c E e h => by
  have h : (match (generalizing := false) e with
    | .Subscript x y _ => (chk a).E c x && (chk b).E c y && noSlE y
    | _ => false) = true := h
  split at h
  · rw [Bool.and_eq_true, Bool.and_eq_true] at h
    obtain ⟨⟨h1, h2⟩, h3⟩ := h
    obtain ⟨t, p1, _, p2, _⟩ := ra.e c E _ h1
    obtain ⟨u, q1, q2, _⟩ := rb.e c E _ h2
    have e1 : (fun ρ => ev G (.ix a b) ρ) = fun ρ => bnd (pe ρ a (ev G a ρ)) fun x => bnd (ev G b ρ) fun y => lft (ixD x y) := by funext ρ; rw [ev]
    refine .mk (t := tOp (rIxA K) t u) (fun _ z => by cases z) rfl (fun X x => ?_) (by rw [e1]; exact sat_op ops_ix p2 q2.toP)
    rw [← x.eK]
    exact pe_ix ix_A (p1 X x) (q1 X x) (plainIx_of h3)
  · cases h
theorem rt_key {a : I} {s : String} (ra : Rt K W G k a) : Rt K W G k (.key a s) := .mkE rfl rfl rfl fun c E e h => by
  have h : (match (generalizing := false) e with
    | .Subscript x (.Constant (.str z) _ _) _ => (chk a).E c x && decide (Str.ofString s = z)
    | _ => false) = true := h
  split at h
  · rw [Bool.and_eq_true] at h
    obtain ⟨h1, h2⟩ := h
    have h2 := of_decide_eq_true h2
    subst h2
    obtain ⟨t, p1, p2, _⟩ := ra.e c E _ h1
    have e1 : (fun ρ => ev G (.key a s) ρ) = fun ρ => bnd (ev G a ρ) fun x => lft (keyD x s) := by funext ρ; rw [ev]
    exact .mk (fun _ z => by cases z) rfl (fun X x => pe_dget (by have := x.u; omega) (p1 X x) pe_str (fun _ _ => rfl)) (by rw [e1]; exact sat_key p2)
  · cases h
theorem po_of {a : I} (ra : Rt K W G k a) {o : Option Expr} (h : chO (chk a) a.isNil c o = true) : ∃ t : TO, (∀ X, XOk X K W E G k c → PO X o t) ∧ SatO K W E t (fun ρ => oe a (ev G a ρ)) := by
  cases o with
  | none =>
    have h : a.isNil = true := h
    refine ⟨tNoPart, fun X x => po_none, ?_⟩
    have e1 : (fun ρ => oe a (ev G a ρ)) = fun _ => ret none := by
      funext ρ
      unfold oe
      rw [h]
    rw [e1]
    exact satO_none
  | some e =>
    have h : (!a.isNil && (chk a).E c e) = true := h
    rw [Bool.and_eq_true, Bool.not_eq_true'] at h
    obtain ⟨t, p1, p2, _⟩ := ra.e c E _ h.2
    refine ⟨tPart t, fun X x => po_some (p1 X x), ?_⟩
    have e1 : (fun ρ => oe a (ev G a ρ)) = fun ρ => bnd (ev G a ρ) fun x => lft ((intD x).map some) := by
      funext ρ
      unfold oe
      rw [h.1]
    rw [e1]
    exact satO_some p2
theorem rt_sl {a lo hi : I} (ra : Rt K W G k a) (rl : Rt K W G k lo) (rh : Rt K W G k hi) : Rt K W G k (.sl a lo hi) := .mkE rfl rfl rfl fun c E e h => by
  have h : (match (generalizing := false) e with
    | .Subscript x (.Slice l h none _) _ => (chk a).E c x && chO (chk lo) lo.isNil c l && chO (chk hi) hi.isNil c h
    | _ => false) = true := h
  split at h
  · rw [Bool.and_eq_true, Bool.and_eq_true] at h
    obtain ⟨⟨h1, h2⟩, h3⟩ := h
    obtain ⟨t, p1, _, p2, _⟩ := ra.e c E _ h1
    obtain ⟨u, q1, q2⟩ := po_of (E := E) rl h2
    obtain ⟨v, r1, r2⟩ := po_of (E := E) rh h3
    have e1 : (fun ρ => ev G (.sl a lo hi) ρ) = fun ρ => bnd (pe ρ a (ev G a ρ)) fun x => bnd (oe lo (ev G lo ρ)) fun l => bnd (oe hi (ev G hi ρ)) fun h => lft (slD x l h) := by funext ρ; rw [ev]
    refine .mk (t := tSl (rSlU K) t u v) (fun _ z => by cases z) rfl (fun X x => ?_) (by rw [e1]; exact sat_sl sls p2 q2 r2)
    rw [← x.eK]
    exact pe_slice sl_U (p1 X x) (q1 X x) (r1 X x)
  · cases h
theorem rt_fld (g : GOk K G.toTb) {a : I} {s : String} (ra : Rt K W G k a) : Rt K W G k (.fld a s) := .mkE rfl rfl rfl fun c E e h => by
  have h : (match (generalizing := false) e with
    | .Attribute x g _ => (chk a).E c x && decide (Str.ofString s = g) && noCallE x
    | _ => false) = true := h
  split at h
  · rw [Bool.and_eq_true, Bool.and_eq_true] at h
    obtain ⟨⟨h1, h2⟩, h3⟩ := h
    have h2 := of_decide_eq_true h2
    subst h2
    obtain ⟨t, p1, p2, _⟩ := ra.e c E _ h1
    have e1 : (fun ρ => ev G (.fld a s) ρ) = fun ρ => bnd (ev G a ρ) fun x => lft (fldD G.toTb x s) := by funext ρ; rw [ev]
    refine .mk (t := tFld K t (Str.ofString s)) (fun _ z => by cases z) rfl (fun X x => ?_) (by rw [e1]; exact sat_fld g p2.toP)
    rw [← x.eK]
    exact pe_fld (p1 X x) (noCall_of h3)
  · cases h
theorem XOk.bltn {X : Cx} (h : XOk X K W E G k c) {x : Str} {n : String} (hb : blB c x n = true) : x = Str.ofString n ∧ Gl X x ∧ X.mg x = none ∧ (x == ("__debug__" : Str)) = false := by
  unfold blB at hb
  rw [Bool.and_eq_true, Bool.and_eq_true] at hb
  obtain ⟨⟨h1, h2⟩, h3⟩ := hb
  have h1 := of_decide_eq_true h1
  obtain ⟨g1, g2⟩ := h.gl h3
  rw [h.eG] at h2
  exact ⟨h1, g1, by rw [h1]; exact h.bl n (List.contains_iff_mem.mp h2), g2⟩
theorem evLP_len (G : Gm) : ∀ (i : I) (ρ : Rho), True := fun _ _ => trivial
theorem rt_bi {f : Bf} {es : I} (r : Rt K W G k es) : Rt K W G k (.bi f es) := .mkE rfl rfl rfl fun c E e h => by
  have h : (match (generalizing := false) e with
    | .Call (.Name x _) (y :: ys) [] _ => (chk es).A c (y :: ys) && blB c x f.name && (match (generalizing := false) f with | .repr => c.gd | _ => true)
    | _ => false) = true := h
  split at h
  · rename_i x p y ys pos
    rw [Bool.and_eq_true, Bool.and_eq_true] at h
    obtain ⟨⟨h1, h2⟩, h3⟩ := h
    obtain ⟨hs, _, t, p1, _, p2, _⟩ := r.a c E _ h1
    have e1 : (fun ρ => ev G (.bi f es) ρ) = fun ρ => bnd (evLP G es ρ) fun ds => lft (f.f ds) := by funext ρ; rw [ev]
    refine .of (t := tCB (rBf K f) t) (fun _ z => by cases z) (fun X x => ?_) (by rw [e1]; exact sat_call (cals_bf f) p2) fun hf => ?_
    · obtain ⟨g1, g2, g3, g4⟩ := x.bltn h2
      subst g1
      rw [← x.eK]
      exact pe_bf f x.u x.calm (fun z => x.gd (by cases f <;> first | exact h3 | cases z)) g2 g3 (p1 X x) hs g4
    · cases f <;> first | (cases hf; done) | skip
      rw [e1]
      exact satF_list p2
  · cases h
theorem pe_cls {X : Cx} (x : XOk X K W E G k c) {t : String} {z : Str} {p : Pos} (h : clB c t z = true) : PE X (.Name z p) (tC (cvV K G.toTb t)) := by
  unfold clB at h
  rw [Bool.and_eq_true, Bool.and_eq_true] at h
  obtain ⟨⟨h1, h2⟩, h3⟩ := h
  have h1 := of_decide_eq_true h1
  obtain ⟨g1, g2⟩ := x.gl h2
  rw [x.eG] at h3
  cases ho : G.own t with
  | true =>
    have e1 : cvV K G.toTb t = .ref (He.ga K (Str.ofString t)) := by unfold cvV; rw [ho]; rfl
    rw [e1]
    have hm := x.cl t ho
    rw [x.eK, ← h1] at hm
    rw [← h1]
    exact pe_glob g1 hm rfl g2
  | false =>
    have e1 : cvV K G.toTb t = .ty t := by unfold cvV; rw [ho]; rfl
    rw [e1]
    rw [ho, Bool.false_or, Bool.and_eq_true, Bool.and_eq_true] at h3
    have hm := x.bl t (List.contains_iff_mem.mp h3.1.1)
    rw [← h1] at hm
    exact pe_bltn g1 hm (of_decide_eq_true h3.1.2) rfl (of_decide_eq_true h3.2) g2
theorem boot_isi : bootBuiltins (Str.ofString "isinstance") = some (.builtin "isinstance") := by decide +kernel
theorem rt_isA (g : GOk K G.toTb) {a : I} {s : String} (ra : Rt K W G k a) : Rt K W G k (.isA a s) := .mkE rfl rfl rfl fun c E e h => by
  have h : (match (generalizing := false) e with
    | .Call (.Name x _) [y, .Name z _] [] _ => (chk a).E c y && plainE y && blB c x "isinstance" && clB c s z
    | _ => false) = true := h
  split at h
  · rename_i x0 p0 y z pz pos hh
    rw [Bool.and_eq_true, Bool.and_eq_true, Bool.and_eq_true] at h
    obtain ⟨⟨⟨h1, h2⟩, h3⟩, h4⟩ := h
    obtain ⟨t, p1, p2, _⟩ := ra.e c E _ h1
    have e1 : (fun ρ => ev G (.isA a s) ρ) = fun ρ => bnd (ev G a ρ) fun x => lft ((isD G.toTb x s).map .bl) := by funext ρ; rw [ev]
    refine .mk (t := tCB (rIsU K) (tCons t (tCons (tC (cvV K G.toTb s)) tNil))) (fun _ z => by cases z) rfl (fun X x => ?_) (by rw [e1]; exact sat_isA g p2)
    obtain ⟨g1, g2, g3, g4⟩ := x.bltn h3
    subst g1
    have pc : PE X (.Name z pz) (tC (cvV K G.toTb s)) := pe_cls x h4
    have hs := x.eK
    have := pe_bfB (X := X) (p := p0) (pos := pos) call_isU boot_isi (by decide +kernel) g2 g3 (pa_cons (p1 X x) (pa_cons pc pa_nil rfl) (star1 h2)) (by rw [List.all_cons, h2]; rfl) g4
    rw [hs] at this
    exact this
  · cases h
end
end Oi

/-! Oi, part M: calls, dicts, walks, comprehensions; all expressions. -/
namespace Oi
open PySem PySem.Spec PyProof.Rows L2 RZ
section
variable {K : PySem.W.Frag} {W : Wd} {G : Gm} {k : Nat} {c : Ck} {E : XK} {i : I} {e : Expr}
theorem XOk.pass {X : Cx} (x : XOk X K W E G k c) : Passes (L2.CX X.prog X.w) X E := passes_call x.tk fun _ _ _ _ h => h
theorem rt_call {f : String} {es : I} (r : Rt K W G k es) : Rt K W G k (.call f es) := .mkE rfl rfl rfl fun c E e h => by
  have h : (match (generalizing := false) e with
    | .Call (.Name x _) xs [] _ => (chk es).A c xs && fnB c f es.len x
    | _ => false) = true := h
  split at h
  · rename_i x p xs pos hh
    rw [Bool.and_eq_true] at h
    obtain ⟨h1, h2⟩ := h
    unfold fnB at h2
    rw [Bool.and_eq_true, Bool.and_eq_true, Bool.and_eq_true] at h2
    obtain ⟨⟨⟨h2, h3⟩, h4⟩, h5⟩ := h2
    have h2 := of_decide_eq_true h2
    subst h2
    obtain ⟨hs, _, t, p1, p2, _, p4⟩ := r.a c E _ h1
    have e1 : (fun ρ => ev G (.call f es) ρ) = fun ρ => bnd (evL G es ρ) fun ds => G.ft f ds := by funext ρ; rw [ev]
    have gd : ∀ X, XOk X K W E G k c → G.gr.contains f = true → X.A.guards = some [] := fun X x z => by
      rw [x.eG, z] at h5
      exact x.gd h5
    cases hf : c.G.fn.contains (f, es.len) with
    | true =>
      refine .mk (t := tCall (spD K W (G.ft f)) [] E t) (fun _ z => by cases z) rfl (fun X x => ?_) (by rw [e1]; exact sat_callD p2)
      obtain ⟨g1, g2⟩ := x.gl h3
      rw [x.eG] at hf
      obtain ⟨fa, fd, ps, F, hm, hk, hb, _⟩ := (x.fn _ (List.contains_iff_mem.mp hf)).ex
      rw [← x.eK]
      exact pe_callP F (x.room.mono (Nat.le_succ k)) (gd X x) g1 hm hk hb x.pass (p1 X x) p4 hs g2
    | false =>
      rw [hf, Bool.false_or] at h4
      refine .mk (t := tMake (He.ga K (Str.ofString f)) (spI K W f (G.ft f)) [] E t) (fun _ z => by cases z) rfl (fun X x => ?_) (by rw [e1]; exact sat_makeD p2)
      obtain ⟨g1, g2⟩ := x.gl h3
      rw [x.eG] at h4
      have q := x.cs _ (List.contains_iff_mem.mp h4)
      obtain ⟨fa, fd, ps, M, F, hb, _⟩ := q.ex
      have hm := x.cl f q.own
      rw [← x.eK]
      exact pe_makeP M F x.room (gd X x) g1 hm hb x.pass (p1 X x) p4 hs g2
  · cases h

/-- readings in a row -/
def tOf : List TE → TA
  | [] => tNil
  | t :: ts => tCons t (tOf ts)
theorem satPs_A {ts : List TE} {m : Rho → M (List D)} (h : SatPs K W E ts m) : SatA K W E (tOf ts) m := by
  induction h with
  | nil => exact sat_nil
  | cons h _ ih => exact sat_cons h ih
theorem pk_of {X : Cx} : ∀ {kws : List Keyword} {ts : List TE}, PEs X (kws.map (·.value)) ts → PK X kws (tOf ts)
  | [], _, .nil => pk_nil
  | ⟨_, _, _⟩ :: _, _, .cons p r => pk_cons p (pk_of r)
theorem rt_callK {f : String} {ks : List String} {pm : List Nat} {es ws : I} (r : Rt K W G k es) (rw' : Rt K W G k ws) : Rt K W G k (.callK f ks pm es ws) := .mkE rfl rfl rfl fun c E e h => by
  have h : (match (generalizing := false) e with
    | .Call (.Name x _) xs kws _ => (chk es).A c xs && (chk ws).A c (kws.map (·.value)) && decide (kws.map (·.arg) = ks.map fun k => some (Str.ofString k)) && fnB c f pm.length x && c.G.kw.contains ⟨f, es.len, ks, pm⟩ && decide (ws.len = ks.length)
    | _ => false) = true := h
  split at h
  · rename_i x p xs kws pos hh
    rw [Bool.and_eq_true, Bool.and_eq_true, Bool.and_eq_true, Bool.and_eq_true, Bool.and_eq_true] at h
    obtain ⟨⟨⟨⟨⟨h1, h6⟩, h7⟩, h2⟩, h8⟩, h9⟩ := h
    have h7 := of_decide_eq_true h7
    have h9 := of_decide_eq_true h9
    unfold fnB at h2
    rw [Bool.and_eq_true, Bool.and_eq_true, Bool.and_eq_true] at h2
    obtain ⟨⟨⟨h2, h3⟩, h4⟩, h5⟩ := h2
    have h2 := of_decide_eq_true h2
    subst h2
    have h7 : kws.map (·.arg) = (ks.map Str.ofString).map some := by rw [h7, List.map_map]; rfl
    obtain ⟨hs, _, t, p1, p2, _, p4⟩ := r.a c E _ h1
    obtain ⟨ts, q0, q1, q2⟩ := rw'.p c E _ h6
    have q3 := satPs_A q2
    have e1 : (fun ρ => ev G (.callK f ks pm es ws) ρ) = fun ρ => bnd (evL G es ρ) fun ds => bnd (evL G ws ρ) fun zs => bnd (lft (Oi.perm pm (ds ++ zs))) fun as => G.ft f as := by funext ρ; rw [ev]
    have gd : ∀ X, XOk X K W E G k c → G.gr.contains f = true → X.A.guards = some [] := fun X x z => by
      rw [x.eG, z] at h5
      exact x.gd h5
    have hl : (ks.map Str.ofString).length = ks.length := List.length_map _
    cases hf : c.G.fn.contains (f, pm.length) with
    | true =>
      refine .mk (t := tCallKP (spD K W (G.ft f)) pm es.len (ks.map Str.ofString).length E t (tOf ts)) (fun _ z => by cases z) rfl (fun X x => ?_) (by rw [e1]; exact sat_callK p2 q3 (fun ρ S ds S' z => evL_len G es ρ S ds S' z) fun ρ S ds S' z => by rw [evL_len G ws ρ S ds S' z, hl]; exact h9)
      obtain ⟨g1, g2⟩ := x.gl h3
      rw [x.eG] at hf h8
      obtain ⟨fa, fd, ps, F, hm, hk, _, hb⟩ := (x.fn _ (List.contains_iff_mem.mp hf)).ex
      rw [← x.eK]
      exact pe_callKP F (x.room.mono (Nat.le_succ k)) (gd X x) g1 hm hk (hb _ (List.contains_iff_mem.mp h8) rfl) x.pass (p1 X x) p4 hs (pk_of (q1 X x)) h7 g2
    | false =>
      rw [hf, Bool.false_or] at h4
      refine .mk (t := tMakeKP (He.ga K (Str.ofString f)) (spI K W f (G.ft f)) pm es.len (ks.map Str.ofString).length E t (tOf ts)) (fun _ z => by cases z) rfl (fun X x => ?_) (by rw [e1]; exact sat_makeK p2 q3 (fun ρ S ds S' z => evL_len G es ρ S ds S' z) fun ρ S ds S' z => by rw [evL_len G ws ρ S ds S' z, hl]; exact h9)
      obtain ⟨g1, g2⟩ := x.gl h3
      rw [x.eG] at h4 h8
      have q := x.cs _ (List.contains_iff_mem.mp h4)
      obtain ⟨fa, fd, ps, M, F, _, hb⟩ := q.ex
      have hm := x.cl f q.own
      rw [← x.eK]
      exact pe_makeKP M F x.room (gd X x) g1 hm (hb _ (List.contains_iff_mem.mp h8) rfl) x.pass (p1 X x) p4 hs (pk_of (q1 X x)) h7 g2
  · cases h

/-! ### dicts -/
theorem pps_of {X : Cx} {pos : Pos} : ∀ {ks : List Ky} {keys : List (Option Expr)} {vs : List Expr} {ts : List TE}, kysB ks keys = true → PEs X vs ts → ks.length = ts.length → PPs X pos keys vs (pairsOf ks ts)
  | [], [], _, _, _, .nil, _ => pps_nil
  | [], _ :: _, _, _, h, _, _ => by cases h
  | [], [], _, _, _, .cons _ _, h => by cases h
  | _ :: _, [], _, _, h, _, _ => by cases h
  | _ :: _, _ :: _, _, _, _, .nil, h => by cases h
  | q :: ks, z :: keys, _, _, h, .cons p r, hl => by
    have h : (kyB q z && kysB ks keys) = true := h
    rw [Bool.and_eq_true] at h
    have rest := pps_of (pos := pos) h.2 r (by simpa using hl)
    have h1 := h.1
    unfold kyB at h1
    split at h1
    · have h1 := of_decide_eq_true h1
      subst h1
      exact pps_cons pe_str p rest
    · have h1 := of_decide_eq_true h1
      subst h1
      exact pps_cons pe_int p rest
    · cases h1
theorem kys_len : ∀ {ks : List Ky} {keys : List (Option Expr)}, kysB ks keys = true → keys.length = ks.length ∧ keys.all (·.isSome) = true
  | [], [], _ => ⟨rfl, rfl⟩
  | [], _ :: _, h => by cases h
  | _ :: _, [], h => by cases h
  | q :: ks, z :: keys, h => by
    have h : (kyB q z && kysB ks keys) = true := h
    rw [Bool.and_eq_true] at h
    obtain ⟨h2, h3⟩ := kys_len h.2
    refine ⟨congrArg (· + 1) h2, ?_⟩
    rw [List.all_cons, h3]
    have h1 := h.1
    unfold kyB at h1
    split at h1 <;> first | rfl | cases h1
theorem peS_len {X : Cx} : ∀ {es : List Expr} {ts : List TE}, PEs X es ts → es.length = ts.length
  | _, _, .nil => rfl
  | _, _, .cons _ r => congrArg (· + 1) (peS_len r)
theorem chk_nil {es : I} (h : (chk es).A c [] = true) : es = .nil := by
  cases es <;> first | rfl | cases h
theorem rt_dct {ks : List Ky} {es : I} (r : Rt K W G k es) : Rt K W G k (.dct ks es) := .mkE rfl rfl rfl fun c E e h => by
  have h : (match (generalizing := false) e with
    | .Dict keys vs _ => kysB ks keys && (chk es).A c vs && decide (ks.length = es.len) && decide (ks.length ≤ 15)
    | _ => false) = true := h
  split at h
  · rename_i keys vs pos hh
    rw [Bool.and_eq_true, Bool.and_eq_true, Bool.and_eq_true] at h
    obtain ⟨⟨⟨h1, h2⟩, h3⟩, h4⟩ := h
    have h3 := of_decide_eq_true h3
    have h4 := of_decide_eq_true h4
    obtain ⟨_, hl, _⟩ := r.a c E _ h2
    obtain ⟨ts, q0, q1, q2⟩ := r.p c E _ h2
    obtain ⟨k1, k2⟩ := kys_len h1
    have e1 : (fun ρ => ev G (.dct ks es) ρ) = fun ρ => bnd (evL G es ρ) fun ds => lft (dctD ks ds) := by funext ρ; rw [ev]
    cases ks with
    | nil =>
      cases keys with
      | cons _ _ => cases k1
      | nil =>
        cases vs with
        | cons _ _ => rw [← h3] at hl; cases hl
        | nil =>
          have e0 := chk_nil h2
          subst e0
          refine .mk (t := tDNewK) (fun _ z => by cases z) rfl (fun X x => pe_dnewK) ?_
          rw [e1]
          have e2 : (fun ρ => bnd (evL G .nil ρ) fun ds => lft (dctD [] ds)) = fun (_ : Rho) => lft (dctD [] []) := by funext ρ; unfold evL; rfl
          rw [e2]
          exact sat_dct0
    | cons q ks =>
      refine .mk (t := tDisp (pairsOf (q :: ks) ts)) (fun _ z => by cases z) rfl (fun X x => ?_) (by rw [e1]; exact sat_dct (by rw [q0]; exact h3) (fun ρ S ds S' z => by rw [evL_len G es ρ S ds S' z, q0]) q2)
      refine pe_disp (pps_of h1 (q1 X x) (by rw [q0]; exact h3)) k2 (by rw [k1, hl]; exact h3) (fun z => ?_) (by rw [k1]; exact h4)
      rw [z] at k1
      cases k1
  · cases h

/-! ### walks -/
theorem satI_congr {w : Bool} {wi : TI} {m m' : Rho → M (List D)} (h : SatI K W E w wi m) (e : ∀ ρ, m ρ = m' ρ) : SatI K W E w wi m' := by
  have e : m = m' := funext e
  rw [← e]
  exact h
theorem satQ_peW {a : I} {t : TE} (p2 : Sat K W E t (fun ρ => ev G a ρ)) (p3 : SatP K W E t (fun ρ => pe ρ a (ev G a ρ))) (w : Bool) : SatQ K W E w t (fun ρ => peW w ρ a (ev G a ρ)) := by
  cases w with
  | true => exact satQ_of (w := true) p2 p3
  | false => exact satQ_of (w := false) p2 p3
theorem rt_itS {a : I} (ra : Rt K W G k a) : Rt K W G k (.itS a) := .mkJ rfl rfl rfl fun c E b e h => by
  have h : (chk a).E c e = true := h
  obtain ⟨t, p1, p2, p3, _⟩ := ra.e c E _ h
  refine ⟨iSeq K t, fun X tg x _ => ?_, fun w => satI_congr (sat_itS (satQ_peW p2 p3 w)) fun ρ => by rw [evI]⟩
  rw [← x.eK]
  exact pi_seq (p1 X x)
theorem starOne {e : Expr} {env : Env} (h : [e].all plainE = true) : starEach [e] env = [(false, eval e env)] := by
  rw [List.all_cons, Bool.and_eq_true] at h
  rw [star1 h.1]
  rfl
theorem rt_itR {es : I} (r : Rt K W G k es) : Rt K W G k (.itR es) := .mkJ rfl rfl rfl fun c E b e h => by
  have h : (match (generalizing := false) e with
    | .Call (.Name x _) [y] [] _ => blB c x "range" && (chk es).A c [y] && decide (es.len = 1)
    | .Call (.Name x _) [y, z] [] _ => blB c x "range" && (chk es).A c [y, z] && decide (es.len = 2)
    | _ => false) = true := h
  split at h
  · rw [Bool.and_eq_true, Bool.and_eq_true] at h
    obtain ⟨⟨h1, h2⟩, h3⟩ := h
    have h3 := of_decide_eq_true h3
    obtain ⟨hs, _, t, p1, p2, _⟩ := r.a c E _ h2
    refine ⟨iRng1 t, fun X tg x _ => ?_, fun w => satI_congr (sat_itR1 p2 fun ρ S ds S' z => by rw [evL_len G es ρ S ds S' z]; exact h3) fun ρ => by rw [evI]⟩
    obtain ⟨g1, g2, g3, g4⟩ := x.bltn h1
    subst g1
    exact pi_range1 g2 g3 (p1 X x) (starOne hs)
  · rw [Bool.and_eq_true, Bool.and_eq_true] at h
    obtain ⟨⟨h1, h2⟩, h3⟩ := h
    have h3 := of_decide_eq_true h3
    obtain ⟨hs, _, t, p1, p2, _⟩ := r.a c E _ h2
    refine ⟨iRng2 t, fun X tg x _ => ?_, fun w => satI_congr (sat_itR2 p2 fun ρ S ds S' z => by rw [evL_len G es ρ S ds S' z]; exact h3) fun ρ => by rw [evI]⟩
    obtain ⟨g1, g2, g3, g4⟩ := x.bltn h1
    subst g1
    rw [List.all_cons, Bool.and_eq_true] at hs
    exact pi_range2 g2 g3 (p1 X x) (by rw [star1 hs.1, starOne hs.2]) (starOne hs.2)
  · cases h
theorem tup_of {tg : Expr} (h : isTup tg = true) : ∃ es n p, tg = .Tuple es n p := by
  cases tg <;> first | exact ⟨_, _, _, rfl⟩ | cases h
theorem rt_itZ {a d : I} (ra : Rt K W G k a) (rd : Rt K W G k d) : Rt K W G k (.itZ a d) := .mkJ rfl rfl rfl fun c E b e h => by
  have h : (match (generalizing := false) e with
    | .Call (.Name x _) [y, z] [] _ => b && blB c x "zip" && (chk a).E c y && (chk d).E c z && plainE y && plainE z
    | _ => false) = true := h
  split at h
  · rw [Bool.and_eq_true, Bool.and_eq_true, Bool.and_eq_true, Bool.and_eq_true, Bool.and_eq_true] at h
    obtain ⟨⟨⟨⟨⟨h0, h1⟩, h2⟩, h3⟩, h4⟩, h5⟩ := h
    obtain ⟨t, p1, p2, p3, _⟩ := ra.e c E _ h2
    obtain ⟨u, q1, q2, q3, _⟩ := rd.e c E _ h3
    refine ⟨iZipA K (tCons t (tCons u tNil)), fun X tg x ht => ?_, fun w => satI_congr (sat_itZ (satQ_peW p2 p3 w) (satQ_peW q2 q3 w)) fun ρ => by rw [evI]⟩
    obtain ⟨g1, g2, g3, g4⟩ := x.bltn h1
    subst g1
    obtain ⟨es, n, p, rfl⟩ := tup_of (ht h0)
    rw [← x.eK]
    exact pi_zipA g2 g3 (pa_cons (p1 X x) (pa_cons (q1 X x) pa_nil (star1 h5)) (star1 h4)) (star1 h4) (starAny (by rw [List.all_cons, h5]; rfl))
  · cases h
theorem rt_itE {a : I} (ra : Rt K W G k a) : Rt K W G k (.itE a) := .mkJ rfl rfl rfl fun c E b e h => by
  have h : (match (generalizing := false) e with
    | .Call (.Name x _) [y] [] _ => b && blB c x "enumerate" && (chk a).E c y && plainE y
    | _ => false) = true := h
  split at h
  · rw [Bool.and_eq_true, Bool.and_eq_true, Bool.and_eq_true] at h
    obtain ⟨⟨⟨h0, h1⟩, h2⟩, h4⟩ := h
    obtain ⟨t, p1, p2, p3, _⟩ := ra.e c E _ h2
    refine ⟨iEnum K (tCons t tNil), fun X tg x ht => ?_, fun w => satI_congr (sat_itE (satQ_peW p2 p3 w)) fun ρ => by rw [evI]⟩
    obtain ⟨g1, g2, g3, g4⟩ := x.bltn h1
    subst g1
    obtain ⟨es, n, p, rfl⟩ := tup_of (ht h0)
    rw [← x.eK]
    exact pi_enum g2 g3 (pa_cons (p1 X x) pa_nil (star1 h4)) (starOne (by rw [List.all_cons, h4]; rfl))
  · cases h

/-! ### targets -/
theorem tgN_of {X : Cx} (x : XOk X K W E G k c) {j : Nat} {e : Expr} (h : tgN c j e = true) : ∃ y p, e = .Name y p ∧ X.N[j]? = some y ∧ L2.Loc X.env.scope y ∧ (X.fn y = true ∨ X.env.scope.names.lookup y = some .local) := by
  unfold tgN at h
  split at h
  · rename_i y p
    rw [Bool.and_eq_true] at h
    have h1 := of_decide_eq_true h.1
    have h2 := h.2
    have hst := x.st
    unfold L2.Loc
    rw [x.sc, x.nN]
    split at h2
    · rename_i q
      rw [q] at hst
      split at h2
      · rename_i q2
        exact ⟨y, p, rfl, h1, .inl q2, .inr q2⟩
      · rename_i q2
        exact ⟨y, p, rfl, h1, .inr q2, .inl (hst y)⟩
      · cases h2
    · rename_i s q
      rw [q] at hst
      split at h2
      · rename_i q2
        exact ⟨y, p, rfl, h1, .inl q2, .inr q2⟩
      · rename_i q2
        refine ⟨y, p, rfl, h1, .inr q2, .inl ?_⟩
        have h3 := of_decide_eq_true h2
        rw [hst y, h3]
        rfl
      · cases h2
  · cases h
theorem pg_nm {X : Cx} (x : XOk X K W E G k c) {j : Nat} {e : Expr} (h : tgN c j e = true) : PG X e (gName j) := by
  obtain ⟨y, p, rfl, h1, h2, h3⟩ := tgN_of x h
  exact pg_name x.nd h1 h2 h3
theorem pgs_nms {X : Cx} (x : XOk X K W E G k c) : ∀ {is : List Nat} {es : List Expr}, tgNs c is es = true → PGs X es (gNames is) ∧ (assignEach es X.env).length = is.length ∧ (assignEach es X.env).findIdx? (·.1) = none
  | [], [], _ => ⟨pgs_nil, rfl, rfl⟩
  | [], _ :: _, h => by cases h
  | _ :: _, [], h => by cases h
  | i :: is, e :: es, h => by
    have h : (tgN c i e && tgNs c is es) = true := h
    rw [Bool.and_eq_true] at h
    obtain ⟨h2, h3, h4⟩ := pgs_nms x h.2
    have h1 := pg_nm x h.1
    obtain ⟨y, p, rfl, _⟩ := tgN_of x h.1
    refine ⟨pgs_cons h1 h2 rfl, by show (assignEach es X.env).length + 1 = _; rw [h3]; rfl, ?_⟩
    show List.findIdx? (·.1) ((false, assign (.Name y p) X.env) :: assignEach es X.env) = none
    rw [List.findIdx?_cons]
    simp only [Bool.false_eq_true, if_false, h4, Option.map_none]
theorem pg_of {X : Cx} (x : XOk X K W E G k c) {tg : List Nat} {tup : Bool} {e : Expr} (h : tgB c tg tup e = true) : PG X e (gTarget K tg tup) := by
  unfold tgB at h
  cases tup with
  | false =>
    dsimp only at h
    split at h
    · exact pg_nm x h
    · cases h
  | true =>
    dsimp only at h
    split at h
    · obtain ⟨h2, h3, h4⟩ := pgs_nms x h
      rw [← x.eK]
      exact pg_tup x.calm h2 h3 h4
    · cases h

/-! ### comprehensions -/
theorem own_snd (N : List Str) (tg : List Nat) : (ownOf N tg).map (·.2) = tg := by
  unfold ownOf
  rw [List.map_map]
  exact List.map_id _
theorem ifs_of {a : I} (ra : Rt K W G k a) {fs : List Expr} (h : chIfs (chk a) a.isNil c fs = true) : ∃ t : TT, (∀ X, XOk X K W E G k c → PTs X fs t) ∧ SatT K W E t (fun ρ => ifsM a (ev G a ρ)) := by
  unfold chIfs at h
  split at h
  · refine ⟨tYes, fun X x => pts_nil, ?_⟩
    have e1 : (fun ρ => ifsM a (ev G a ρ)) = fun _ => ret true := by
      funext ρ
      unfold ifsM
      rw [h]
    rw [e1]
    exact fun H0 ρ S σ H Hf Q I p => p _ _ _ (Stp.refl I.fz) I.dok rfl
  · rw [Bool.and_eq_true, Bool.not_eq_true'] at h
    obtain ⟨t, p1, p2⟩ := ra.t c E _ h.2
    refine ⟨t, fun X x => pts_one (p1 X x).1, ?_⟩
    have e1 : (fun ρ => ifsM a (ev G a ρ)) = fun ρ => tst (ev G a ρ) := by
      funext ρ
      unfold ifsM
      rw [h.1]
    rw [e1]
    exact p2
  · cases h
/-- a comprehension's parts -/
def compB (elt : I) (tg : List Nat) (tup : Bool) (iter ifs : I) (c : Ck) (el tx it : Expr) (fs : List Expr) (sc : Scope) : Bool :=
  (chk iter).J c (isTup tx) it && blkC c.N c.sc sc (ownOf c.N tg) && tgB (c.blk sc) tg tup tx && chIfs (chk ifs) ifs.isNil (c.blk sc) fs && (chk elt).E (c.blk sc) el && noSetE it
theorem comp_of {elt iter ifs : I} {tg : List Nat} {tup : Bool} (re : Rt K W G k elt) (ri : Rt K W G k iter) (rf : Rt K W G k ifs) {el tx it : Expr} {fs : List Expr} {sc : Scope} (h : compB elt tg tup iter ifs c el tx it fs sc = true) :
    ∃ (wi : TI) (tt : TT) (te : TE), (∀ X, XOk X K W E G k c → PI X tx it wi ∧ BlkOk X.N X.env.scope sc (ownOf c.N tg) ∧ (∀ (s : Shared) (H : Hp) (C : Addr) (cl : List (Str × Addr)) (fp : List Addr), PG (X.blk s H sc (compEnvC sc cl C X.env) fp) tx (gTarget K tg tup)) ∧
      (∀ (s : Shared) (H : Hp) (C : Addr) (cl : List (Str × Addr)) (fp : List Addr), PTs (X.blk s H sc (compEnvC sc cl C X.env) fp) fs tt) ∧ (∀ (s : Shared) (H : Hp) (C : Addr) (cl : List (Str × Addr)) (fp : List Addr), PE (X.blk s H sc (compEnvC sc cl C X.env) fp) el te) ∧
      ∀ z, foldedSetIterable it X.env z = pure z) ∧ SatF K W E (tLc wi (gTarget K tg tup) tt te ((ownOf c.N tg).map (·.2))) (fun ρ => ev G (.comp elt tg tup iter ifs) ρ) := by
  unfold compB at h
  rw [Bool.and_eq_true, Bool.and_eq_true, Bool.and_eq_true, Bool.and_eq_true, Bool.and_eq_true] at h
  obtain ⟨⟨⟨⟨⟨h1, h2⟩, h3⟩, h4⟩, h5⟩, h6⟩ := h
  obtain ⟨wi, w1, w2⟩ := ri.j c E _ _ h1
  obtain ⟨tt, t1, t2⟩ := ifs_of (E := E0) rf h4
  obtain ⟨te, e1, e2, _⟩ := re.e (c.blk sc) E0 _ h5
  refine ⟨wi, tt, te, fun X x => ⟨w1 X tx x fun z => z, ?_, fun s H C cl fp => pg_of (x.blk s H sc C cl fp) h3, fun s H C cl fp => t1 _ (x.blk s H sc C cl fp), fun s H C cl fp => e1 _ (x.blk s H sc C cl fp), noSet_of h6⟩, ?_⟩
  · rw [x.nN, x.sc]
    exact blkOk_by h2
  · rw [own_snd]
    have e3 : (fun ρ => ev G (.comp elt tg tup iter ifs) ρ) = fun ρ => bnd (evI G true iter ρ) fun xs => iteM (sz xs.length)
      (bnd (compM (bindT (wipeR ρ tg) tg tup) (fun ρ => ifsM ifs (ev G ifs ρ)) (fun ρ => ev G elt ρ) xs) fun ys => ret (.lst ys)) stk := by funext ρ; rw [ev]
    rw [e3]
    exact satF_lc (w2 true) (satG tg tup) t2 e2
theorem rt_comp {elt iter ifs : I} {tg : List Nat} {tup : Bool} (re : Rt K W G k elt) (ri : Rt K W G k iter) (rf : Rt K W G k ifs) : Rt K W G k (.comp elt tg tup iter ifs) := .mkE rfl rfl rfl fun c E e h => by
  have h : (match (generalizing := false) e with
    | .ListComp el [⟨tx, it, fs, 0⟩] sc _ => (chk iter).J c (isTup tx) it && blkC c.N c.sc sc (ownOf c.N tg) && tgB (c.blk sc) tg tup tx && chIfs (chk ifs) ifs.isNil (c.blk sc) fs && (chk elt).E (c.blk sc) el && noSetE it
    | _ => false) = true := h
  split at h
  · obtain ⟨wi, tt, te, h1, h2⟩ := comp_of (E := E) (c := c) re ri rf h
    refine .of (fun _ z => by cases z) (fun X x => ?_) h2.sat fun _ => h2
    obtain ⟨p1, p2, p3, p4, p5, p6⟩ := h1 X x
    exact pe_lc x.calm x.nd p1 p2 p3 p4 p5 p6
  · cases h
theorem rt_lzip {a b : I} (ra : Rt K W G k a) (rb : Rt K W G k b) : Rt K W G k (.lzip a b) := .mkE rfl rfl rfl fun c E e h => by
  have h : (match (generalizing := false) e with
    | .Call (.Name l _) [.Call (.Name z _) [x, y] [] _] [] _ => blB c l "list" && blB c z "zip" && (chk a).E c x && (chk b).E c y && plainE x && plainE y
    | _ => false) = true := h
  split at h
  · rename_i l pl z pz x y pq pr hh
    rw [Bool.and_eq_true, Bool.and_eq_true, Bool.and_eq_true, Bool.and_eq_true, Bool.and_eq_true] at h
    obtain ⟨⟨⟨⟨⟨h0, h1⟩, h2⟩, h3⟩, h4⟩, h5⟩ := h
    obtain ⟨t, p1, p2, p3, _⟩ := ra.e c E _ h2
    obtain ⟨u, q1, q2, q3, _⟩ := rb.e c E _ h3
    have e1 : (fun ρ => ev G (.lzip a b) ρ) = fun ρ => bnd (pe ρ a (ev G a ρ)) fun x => bnd (pe ρ b (ev G b ρ)) fun y => lft (lzipD x y) := by funext ρ; rw [ev]
    refine .mk (t := tCB (rZipL K) (tCons t (tCons u tNil))) (fun _ z => by cases z) rfl (fun X x => ?_) (by rw [e1]; exact sat_lzip p3 q3)
    obtain ⟨g1, g2, g3, g4⟩ := x.bltn h0
    obtain ⟨f1, f2, f3, f4⟩ := x.bltn h1
    subst g1 f1
    rw [← x.eK]
    exact pe_listZip x.calm g2 g3 f2 f3 (pa_cons (p1 X x) (pa_cons (q1 X x) pa_nil (star1 h5)) (star1 h4)) (star1 h4) (starAny (by rw [List.all_cons, h5]; rfl))
  · cases h
theorem noPar {ps : Arguments} (h : noParB ps = true) : ps = ⟨[], [], none, [], [], none, []⟩ := by
  unfold noParB at h
  split at h
  · rfl
  · cases h
theorem XOk.lamb {X : Cx} (h : XOk X K W E G k c) {A : Around} {out : List Env} {s : Shared} {H : Hp} {E' : XK} {sc : Scope} {f q : Addr} (hr : Room (k + 1) (A.deeper (LamX.lamEnv X sc s.heap.objs.size f q))) : XOk (LamX.lamCx X A out s H E' sc f q) K W E' G k (c.lam sc) where
  eK := h.eK
  eG := h.eG
  nN := h.nN
  sc := rfl
  nd := h.nd
  calm := rfl
  room := hr
  gd := fun z => by cases z
  tk := takes_of rfl rfl rfl rfl
  st := fun x => rfl
  bl := h.bl
  cl := h.cl
  fn := fun p hp => ⟨(h.fn p hp).ar, (h.fn p hp).ex⟩
  cs := fun p hp => ⟨(h.cs p hp).own, (h.cs p hp).ex⟩
  lm := fun z => by cases z
theorem rt_caught {a : I} (ra : Rt K W G k a) : Rt K W G k (.caught a) := .mkE rfl rfl rfl fun c E e h => by
  have h : (match (generalizing := false) e with
    | .Call (.Name x _) [.Lambda ps body sc _] [] _ => c.lm && decide (x = Str.ofString "_law_caught") && glB c x && LamX.lamSB c.sc sc && noParB ps && (chk a).E (c.lam sc) body
    | _ => false) = true := h
  split at h
  · rename_i x px ps body sc pl pos hh
    rw [Bool.and_eq_true, Bool.and_eq_true, Bool.and_eq_true, Bool.and_eq_true, Bool.and_eq_true] at h
    obtain ⟨⟨⟨⟨⟨h0, h1⟩, h2⟩, h3⟩, h4⟩, h5⟩ := h
    have h1 := of_decide_eq_true h1
    subst h1
    have h4 := noPar h4
    subst h4
    obtain ⟨tb, htb⟩ : ∃ tb : XK → TE, ∀ E', (∀ X, XOk X K W E' G k (c.lam sc) → PE X body (tb E')) ∧ Sat K W E' (tb E') (fun ρ => ev G a ρ) := by
      have all := fun E' => ra.e (c.lam sc) E' _ h5
      exact ⟨fun E' => (all E').choose, fun E' => ⟨(all E').choose_spec.1, (all E').choose_spec.2.1⟩⟩
    have e1 : (fun ρ => ev G (.caught a) ρ) = fun ρ => cat G (ev G a ρ) := by funext ρ; rw [ev]
    by_cases hx : ∀ c ∈ G.fe, PySem.W.exmOne K (.ref (He.ga K (Str.ofString c))) (.ref (He.ga K (Str.ofString "FoundError"))) = some true
    · refine .mk (t := tLam3 W.T (TCau K (He.ga K (Str.ofString "FoundError"))) tb) (fun _ z => by cases z) rfl (fun X x => ?_) (by rw [e1]; exact sat_caught (fun E' => (htb E').2) hx)
      have L := x.lm h0
      obtain ⟨g1, g2⟩ := x.gl h2
      obtain ⟨cc, P, T1, T2, T3, T4⟩ := L.code
      obtain ⟨g, fd, pg, sg, j, p, F1, F2, F3, F4, F5, F6, F7, F8⟩ := L.cau
      have F0 := x.cl _ L.fe
      rw [← x.eK]
      refine pe_lam3 (k := k + 1) g1 F1 F2 F3 F4 rfl (.inl F5) (fun cdg => cau_gives F4.nd F5 F6 F7 F8 F0 (by decide +kernel) (by decide +kernel) (by decide +kernel) (by decide +kernel) (by decide +kernel)) T1 T2 T3 T4 L.room (by rw [x.sc]; exact LamX.lamS_by h3) rfl (fun _ _ _ _ _ => rfl) (fun A out s H E' f q hr => ?_) g2 (by decide +kernel) (by decide +kernel)
      exact (htb E').1 _ (x.lamb hr)
    · refine .mk (t := fun _ _ _ => True) (fun _ z => by cases z) rfl (fun X x => absurd (fun c' hc => ?_) hx) fun _ _ _ _ _ _ _ _ _ => trivial
      have := (x.lm h0).exm c' hc
      rw [x.eK] at this
      exact this
  · cases h
/-- THE CHECKER IS RIGHT -/
theorem rt_all (g : GOk K G.toTb) : ∀ i : I, Rt K W G k i
  | .nil => rt_nil
  | .cons a r => rt_cons (rt_all g a) (rt_all g r)
  | .nm j => rt_nm j
  | .kI j => rt_kI j
  | .kB j => rt_kB j
  | .kN => rt_kN
  | .kS j => rt_kS j
  | .neg a => rt_neg (rt_all g a)
  | .tup es => rt_tup (rt_all g es)
  | .lst es => rt_lst (rt_all g es)
  | .dct ks es => rt_dct (rt_all g es)
  | .bin op a b => rt_bin (rt_all g a) (rt_all g b)
  | .cmp op a b => rt_cmp (rt_all g a) (rt_all g b)
  | .chain o1 o2 a b d => rt_chain (rt_all g a) (rt_all g b) (rt_all g d)
  | .and a b => rt_and (rt_all g a) (rt_all g b)
  | .or a b => rt_or (rt_all g a) (rt_all g b)
  | .not a => rt_not (rt_all g a)
  | .ite q a b => rt_ite (rt_all g q) (rt_all g a) (rt_all g b)
  | .ix a b => rt_ix (rt_all g a) (rt_all g b)
  | .key a s => rt_key (rt_all g a)
  | .sl a lo hi => rt_sl (rt_all g a) (rt_all g lo) (rt_all g hi)
  | .fld a s => rt_fld g (rt_all g a)
  | .call f es => rt_call (rt_all g es)
  | .callK f ks pm es ws => rt_callK (rt_all g es) (rt_all g ws)
  | .bi f es => rt_bi (rt_all g es)
  | .isA a s => rt_isA g (rt_all g a)
  | .comp elt tg tup iter ifs => rt_comp (rt_all g elt) (rt_all g iter) (rt_all g ifs)
  | .itS a => rt_itS (rt_all g a)
  | .itR es => rt_itR (rt_all g es)
  | .itZ a b => rt_itZ (rt_all g a) (rt_all g b)
  | .itE a => rt_itE (rt_all g a)
  | .lstI _ => .none rfl rfl rfl rfl
  | .lzip a b => rt_lzip (rt_all g a) (rt_all g b)
  | .caught a => rt_caught (rt_all g a)
end
end Oi

/-! Oi, part N: the checker of statements, and that it is right. -/
namespace Oi
open PySem PySem.Spec PyProof.Rows L2

/-! ### what is checked -/
def noCompE : Expr → Bool
  | .ListComp _ _ _ _ => false
  | .SetComp _ _ _ _ => false
  | .DictComp _ _ _ _ _ => false
  | _ => true
/-- a local name of the def, in slot i -/
def locB (c : Ck) (i : Nat) (x : Str) : Bool := decide (c.N[i]? = some x) && (match c.sc.names.lookup x with | some .local => true | some .cell => true | _ => false)
/-- is a comprehension stored at once -/
def swB (c : Ck) (x : Str) (p : Pos) (sc : Scope) (pe : Pos) : Bool := decide (c.sc.names.lookup x = some .local) && (p.line == pe.line) && !(sc.names.any fun (n, k) => n == x && (k == .local || k == .cell))
/-- x = e -/
def setB (c : Ck) (i : Nat) (e : I) : Stmt → Bool
  | .Assign [.Name x p] (.ListComp el [⟨tx, it, fs, 0⟩] sc pe) _ => locB c i x && (match e with
    | .comp elt tg tup iter ifs => compB elt tg tup iter ifs c el tx it fs sc
    | _ => false)
  | .Assign [.Name x p] v _ => locB c i x && noCompE v && (chk e).E c v
  | _ => false
def parB (c : Ck) (i j : Nat) (a b : I) : Stmt → Bool
  | .Assign [.Tuple [.Name x px, .Name y py] _ _] (.Tuple [u, v] _ _) _ => decide (c.N[i]? = some x) && decide (c.N[j]? = some y) && decide (i ≠ j) && decide (c.sc.names.lookup x = some .local) && decide (c.sc.names.lookup y = some .local) && (px.line == py.line) &&
    plainE u && plainE v && (chk a).E c u && (chk b).E c v && !([u, v].all (foldedForSure 8)) && !([u, v].all (constantsAlone 8))
  | _ => false
def isLoc (c : Ck) : Expr → Bool
  | .Name x _ => decide (c.sc.names.lookup x = some .local)
  | _ => false
/-- a, b = e -/
def unpB (c : Ck) (is : List Nat) (e : I) : Stmt → Bool
  | .Assign [.Tuple ts n p] v _ => tgNs c is ts && (chk e).E c v && noCompE v && (!isTup v || !(ts.all (isLoc c)) || !(ts.length == 2 || ts.length == 3))
  | _ => false
def appB (c : Ck) (i : Nat) (e : I) : Stmt → Bool
  | .Expr (.Call (.Attribute (.Name x _) m ap) [v] [] cp) _ => decide (m = Str.ofString "append") && visB c i x && plainE v && (chk e).E c v && (ap.endLine == cp.line)
  | _ => false
def stxB (c : Ck) (i : Nat) (k e : I) : Stmt → Bool
  | .Assign [.Subscript (.Name x _) y _] v _ => visB c i x && (chk k).E c y && (chk e).E c v && noCompE v && noSlE y
  | _ => false
def fldB (c : Ck) (i : Nat) (f : String) (e : I) : Stmt → Bool
  | .Assign [.Attribute (.Name x _) g _] v _ => visB c i x && decide (Str.ofString f = g) && (chk e).E c v && noCompE v
  | _ => false
def rseB (c : Ck) (n : String) : Stmt → Bool
  | .Raise (some (.Call (.Name x _) [.Constant (.str _) _ _] [] _)) none _ => decide (x = Str.ofString n) && glB c x && c.G.rs.contains n && c.G.own n
  | _ => false
structure Gs where
  O : Ck → Stmt → Bool := fun _ _ => false
  L : Ck → List Stmt → Bool := fun _ _ => false
  /-- no statement -/
  z : Bool := false
def chS : Sm → Gs
  | .nil => { L := fun _ st => st.isEmpty }
  | .seq a r => { L := fun c st => match (chS a).z with
    | true => (chS r).L c st
    | false => (match st with
      | s :: st => (chS a).O c s && (chS r).L c st
      | [] => false) }
  | .set i e => { O := fun c s => setB c i e s }
  | .setO i e => { O := fun c s => isFr e && setB c i e s }
  | .par i j a b => { O := fun c s => parB c i j a b s }
  | .unp is e => { O := fun c s => unpB c is e s }
  | .ex e => { O := fun c s => match s with
    | .Expr v _ => noCompE v && (chk e).E c v
    | _ => false }
  | .ifs q a b => { O := fun c s => match s with
    | .If t x y _ => (chk q).t c t && (chS a).L c x && (chS b).L c y
    | _ => false }
  | .for_ tg tup it body => { O := fun c s => match s with
    | .For tx ix b [] _ => (chk it).J c (isTup tx) ix && tgB c tg tup tx && (chS body).L c b && noSetE ix
    | _ => false }
  | .whl q body => { O := fun c s => match s with
    | .While t b [] _ => (chk q).t c t && (chS body).L c b
    | _ => false }
  | .rt e => { O := fun c s => match s with
    | .Return (some v) _ => (chk e).E c v
    | _ => false }
  | .rtN => { O := fun _ s => match s with
    | .Return none _ => true
    | _ => false }
  | .app i e => { O := fun c s => appB c i e s }
  | .stx i k e => { O := fun c s => stxB c i k e s }
  | .fldS i f e => { O := fun c s => fldB c i f e s }
  | .rse n => { O := fun c s => rseB c n s }
  | .brk => { O := fun _ s => match s with
    | .Break _ => true
    | _ => false }
  | .cnt => { O := fun _ s => match s with
    | .Continue _ => true
    | _ => false }
  | .pass => { O := fun _ s => match s with
    | .Pass _ => true
    | _ => false }
  | .frz _ => { z := true }

/-! ### the contexts -/
abbrev veB : List Value := [.type "ValueError", .type "Exception", .type "BaseException", .type "object"]
structure RsOk (K : PySem.W.Frag) (n : String) : Prop where
  ex : PySem.W.excIn K (He.ga K (Str.ofString n)) veB "ValueError.__new__" = true
  kp : PySem.W.keepIn K (.ref (He.ga K (Str.ofString n))) = true
  sb : PySem.W.subIn K (.ref (He.ga K (Str.ofString n))) (.type "BaseException") = some true
  ty : PySem.W.typeIn K (.ref (He.ga K (Str.ofString n))) = some (.type "type")
structure XOkS (X : Cx) (K : PySem.W.Frag) (W : Wd) (E : XK) (G : Gm) (k : Nat) (c : Ck) : Prop extends XOk X K W E G k c where
  own : PassesOwn (model X.prog X.w) X.A X.env X.xe
  bk : X.env.blockKind = .function
  top : c.st = none
  rs : ∀ n ∈ G.rs, RsOk X.K n

/-! ### rules -/
section
variable {X : Cx} {e : Expr} {env : Env}
theorem noSwap (h : noCompE e = true) (t : Option Expr) (l : Nat) : swapsWith e t l env = pure false := by
  cases e <;> first | rfl | cases h
theorem swap_lc {el : Expr} {gs : List Comprehension} {sc : Scope} {pe p : Pos} {x : Str} {l : Nat} {c : Ck} (hb : env.blockKind = .function) (hs : env.scope = c.sc) : swapsWith (.ListComp el gs sc pe) (some (.Name x p)) l env = pure (swB c x p sc pe) := by
  have e1 : (env.kindOf x == some NameKind.local) = decide (c.sc.names.lookup x = some .local) := by
    show (env.scope.names.lookup x == some NameKind.local) = _
    rw [hs]
    cases h : c.sc.names.lookup x with
    | none => rfl
    | some k => cases k <;> rfl
  show (pure (env.blockKind == .function && env.kindOf x == some .local && p.line == pe.line && !(sc.names.any fun (n, k) => n == x && (k == .local || k == .cell))) : Sem Bool) = _
  rw [hb, e1]
  rfl
end
section
variable {K : PySem.W.Frag} {W : Wd} {G : Gm} {k : Nat} {c : Ck} {E : XK}
def RdS (K : PySem.W.Frag) (W : Wd) (G : Gm) (k : Nat) (c : Ck) (E : XK) (a : Sm) (s : Stmt) : Prop := ∃ t : TS, (∀ X, XOkS X K W E G k c → PS X s t) ∧ SatS K W E t (fun ρ => exec G a ρ)
def RdL (K : PySem.W.Frag) (W : Wd) (G : Gm) (k : Nat) (c : Ck) (E : XK) (a : Sm) (s : List Stmt) : Prop := ∃ t : TS, (∀ X, XOkS X K W E G k c → PSs X s t) ∧ SatS K W E t (fun ρ => exec G a ρ)
theorem XOk.loc {X : Cx} (x : XOk X K W E G k c) {i : Nat} {y : Str} (h : locB c i y = true) : X.N[i]? = some y ∧ L2.Loc X.env.scope y := by
  unfold locB at h
  rw [Bool.and_eq_true] at h
  have h2 := h.2
  unfold L2.Loc
  rw [x.sc, x.nN]
  refine ⟨of_decide_eq_true h.1, ?_⟩
  split at h2
  · exact .inl (by assumption)
  · exact .inr (by assumption)
  · cases h2
theorem XOkS.fnT {X : Cx} (x : XOkS X K W E G k c) (y : Str) : X.fn y = true := by
  have h := x.st
  rw [x.top] at h
  exact h y
/-- x = e: the value's reading, its store -/
theorem set_of (g : GOk K G.toTb) {i : Nat} {e : I} {s : Stmt} (h : setB c i e s = true) : ∃ t : TE, (∀ X, XOkS X K W E G k c → PS X s (tAsg t (gName i))) ∧ Sat K W E t (fun ρ => ev G e ρ) ∧ (isFr e = true → SatF K W E t (fun ρ => ev G e ρ)) := by
  unfold setB at h
  split at h
  · rename_i y p el tx it fs sc pe pos
    rw [Bool.and_eq_true] at h
    obtain ⟨h1, h2⟩ := h
    split at h2
    · rename_i elt tg tup iter ifs
      obtain ⟨wi, tt, te, q1, q2⟩ := comp_of (E := E) (rt_all g elt) (rt_all g iter) (rt_all g ifs) h2
      refine ⟨_, fun X x => ?_, q2.sat, fun _ => q2⟩
      obtain ⟨p1, p2, p3, p4, p5, p6⟩ := q1 X x.toXOk
      obtain ⟨l1, l2⟩ := x.toXOk.loc h1
      have hsw := swap_lc (el := el) (gs := [⟨tx, it, fs, 0⟩]) (pe := pe) (p := p) (x := y) (l := pos.line) (sc := sc) x.bk x.sc
      cases hw : swB c y p sc pe with
      | true =>
        rw [hw] at hsw
        have hl : X.env.scope.names.lookup y = some .local := by
          rw [x.sc]
          unfold swB at hw
          rw [Bool.and_eq_true, Bool.and_eq_true] at hw
          exact of_decide_eq_true hw.1.1
        exact ps_setLc x.calm x.nd l1 hl hsw p1 p2 p3 p4 p5 p6
      | false =>
        rw [hw] at hsw
        exact ps_set x.nd l1 l2 (pe_lc x.calm x.nd p1 p2 p3 p4 p5 p6) hsw (.inl (x.fnT y))
    · cases h2
  · rename_i y p v pos hh
    rw [Bool.and_eq_true, Bool.and_eq_true] at h
    obtain ⟨⟨h1, h2⟩, h3⟩ := h
    obtain ⟨t, p1, p2, _, p4⟩ := (rt_all g e).e c E _ h3
    refine ⟨t, fun X x => ?_, p2, p4⟩
    obtain ⟨l1, l2⟩ := x.toXOk.loc h1
    exact ps_set x.nd l1 l2 (p1 X x.toXOk) (noSwap h2 _ _) (.inl (x.fnT y))
  · cases h
theorem kind_b {X : Cx} (x : XOkS X K W E G k c) (y : Str) : (X.env.kindOf y == some NameKind.local) = decide (c.sc.names.lookup y = some .local) := by
  show (X.env.scope.names.lookup y == some NameKind.local) = _
  rw [x.sc]
  cases h : c.sc.names.lookup y with
  | none => rfl
  | some k => cases k <;> rfl
theorem nodup2 {X : Cx} (x : XOkS X K W E G k c) {i j : Nat} {y z : Str} (hi : X.N[i]? = some y) (hj : X.N[j]? = some z) (hn : i ≠ j) : y ≠ z := fun e => hn (nodup_ix x.nd hi (e ▸ hj))
theorem swapped2 {X : Cx} (x : XOkS X K W E G k c) {y z : Str} {py pz pt pv : Pos} {kt kv : Nat} {u v : Expr} (h1 : c.sc.names.lookup y = some .local) (h2 : c.sc.names.lookup z = some .local) (h3 : (py.line == pz.line) = true) (hn : y ≠ z) (hu : plainE u = true) (hv : plainE v = true)
    (hf : [u, v].all (foldedForSure 8) = false) (hc : [u, v].all (constantsAlone 8) = false) : swappedStores [.Tuple [.Name y py, .Name z pz] kt pt] (.Tuple [u, v] kv pv) X.env = pure (some [y, z]) := by
  have k1 : X.env.kindOf y = some .local := by
    show X.env.scope.names.lookup y = _
    rw [x.sc]
    exact h1
  have k2 : X.env.kindOf z = some .local := by
    show X.env.scope.names.lookup z = _
    rw [x.sc]
    exact h2
  have h3 : pz.line = py.line := (beq_iff_eq.mp h3).symm
  have k3 : (X.env.blockKind != .function) = false := by rw [x.bk]; rfl
  have hn' : (z == y) = false := beq_eq_false_iff_ne.mpr (Ne.symm hn)
  have hn2 : (y == z) = false := beq_eq_false_iff_ne.mpr hn
  unfold swappedStores
  simp only [List.length_cons, List.length_nil, k3, List.any_cons, List.any_nil, Bool.or_false]
  rw [if_neg (by decide), if_neg]
  · simp [hf, hc, k1, k2, h3, Expr.pos, List.eraseDups_cons, hn', hn2, hn, List.filterMap_cons]
  · rw [Bool.or_eq_true]
    rintro (h | h)
    · split at h
      · cases hu
      · cases h
    · split at h
      · cases hv
      · cases h
theorem fm_all {α β : Type} {f : α → Option β} : ∀ {l : List α}, (l.filterMap f).length = l.length → ∀ x ∈ l, (f x).isSome = true
  | [], _, x, h => by cases h
  | a :: l, e, x, h => by
    rw [List.filterMap_cons] at e
    cases q : f a with
    | none =>
      rw [q] at e
      have h1 := List.length_filterMap_le f l
      simp at e
      omega
    | some b =>
      rw [q] at e
      rcases List.mem_cons.mp h with z | z
      · rw [z, q]; rfl
      · exact fm_all (by simpa using e) x z
theorem swapped0 {X : Cx} (x : XOkS X K W E G k c) {ts : List Expr} {n : Nat} {p : Pos} {v : Expr} (h : (!isTup v || !(ts.all (isLoc c)) || !(ts.length == 2 || ts.length == 3)) = true) : swappedStores [.Tuple ts n p] v X.env = pure none := by
  cases v with
  | Tuple vs m q =>
    rw [show (!isTup (.Tuple vs m q)) = false from rfl, Bool.false_or] at h
    unfold swappedStores
    dsimp only
    split
    · rfl
    · rename_i c1
      split
      · rfl
      · split
        · rfl
        · rename_i c3
          exfalso
          rw [Bool.or_eq_true, not_or] at c3
          have c3 := c3.1
          simp only [bne_iff_ne, ne_eq, Decidable.not_not] at c3
          rw [Bool.or_eq_true] at h
          rcases h with h | h
          · rw [Bool.not_eq_true', List.all_eq_false] at h
            obtain ⟨e, he, hl⟩ := h
            have q := fm_all c3 e he
            cases e with
            | Name y py =>
              apply hl
              simp only [Option.isSome_ite, Bool.and_eq_true, beq_iff_eq] at q
              have q1 : X.env.scope.names.lookup y = some .local := q.1
              rw [x.sc] at q1
              exact decide_eq_true q1
            | _ => cases q
          · apply c1
            rw [h]
            rfl
  | _ => rfl

/-! ### one statement, several -/
theorem rs_par (g : GOk K G.toTb) {i j : Nat} {a b : I} {s : Stmt} (h : parB c i j a b s = true) : RdS K W G k c E (.par i j a b) s := by
  unfold parB at h
  split at h
  · rename_i y py z pz kt pt u v kv pv pos
    simp only [Bool.and_eq_true, decide_eq_true_eq, Bool.not_eq_true'] at h
    obtain ⟨⟨⟨⟨⟨⟨⟨⟨⟨⟨⟨h1, h2⟩, h3⟩, h4⟩, h5⟩, h6⟩, h7⟩, h8⟩, h9⟩, h10⟩, h11⟩, h12⟩ := h
    obtain ⟨t, p1, p2, _⟩ := (rt_all g a).e c E _ h9
    obtain ⟨w, q1, q2, _⟩ := (rt_all g b).e c E _ h10
    refine ⟨tPar i j (tCons t (tCons w tNil)), fun X x => ?_, ?_⟩
    · have hy : X.N[i]? = some y := by rw [x.nN]; exact h1
      have hz : X.N[j]? = some z := by rw [x.nN]; exact h2
      exact ps_par x.calm x.nd hy hz h3 (by rw [x.sc]; exact h4) (by rw [x.sc]; exact h5) (pa_cons (p1 X x.toXOk) (pa_cons (q1 X x.toXOk) pa_nil (star1 h8)) (star1 h7)) (swapped2 x h4 h5 h6 (nodup2 x hy hz h3) h7 h8 h11 h12)
    · have e1 : (fun ρ => exec G (.par i j a b) ρ) = fun ρ => bnd (ev G a ρ) fun x => bnd (ev G b ρ) fun y => bnd (lft (setR ρ i (.val x))) fun ρ => bnd (lft (setR ρ j (.val y))) fun ρ => ret (.nx, ρ) := by funext ρ; rw [exec]
      rw [e1]
      exact satS_par p2 q2
  · cases h
theorem rs_unp (g : GOk K G.toTb) {is : List Nat} {e : I} {s : Stmt} (h : unpB c is e s = true) : RdS K W G k c E (.unp is e) s := by
  unfold unpB at h
  split at h
  · rename_i ts n p v pos
    rw [Bool.and_eq_true, Bool.and_eq_true, Bool.and_eq_true] at h
    obtain ⟨⟨⟨h1, h2⟩, h3⟩, h4⟩ := h
    obtain ⟨t, p1, p2, _⟩ := (rt_all g e).e c E _ h2
    refine ⟨tAsg t (gTarget K is true), fun X x => ?_, ?_⟩
    · have hg : PG X (.Tuple ts n p) (gTarget K is true) := pg_of x.toXOk (c := c) (tup := true) h1
      exact ps_asg (p1 X x.toXOk) hg (noSwap (env := X.env) h3 (some (.Tuple ts n p)) pos.line) (swapped0 x h4) rfl
    · have e1 : (fun ρ => exec G (.unp is e) ρ) = fun ρ => bnd (ev G e ρ) fun d => bnd (lft (bindT ρ is true d)) fun ρ => ret (.nx, ρ) := by funext ρ; rw [exec]
      rw [e1]
      exact satS_unp p2
  · cases h
theorem rs_app (g : GOk K G.toTb) {i : Nat} {e : I} {s : Stmt} (h : appB c i e s = true) : RdS K W G k c E (.app i e) s := by
  unfold appB at h
  split at h
  · rename_i y py m ap v cp pos
    simp only [Bool.and_eq_true, decide_eq_true_eq] at h
    obtain ⟨⟨⟨⟨h1, h2⟩, h3⟩, h4⟩, h5⟩ := h
    subst h1
    obtain ⟨t, p1, p2, _⟩ := (rt_all g e).e c E _ h4
    refine ⟨tApp K i t, fun X x => ?_, ?_⟩
    · obtain ⟨v1, v2, v3, v4⟩ := x.toXOk.vis h2
      have := ps_expr (pos := pos) (pe_bm (X := X) (apos := ap) (cpos := cp) PySem.F.plainAttrs_list PySem.F.slot_list_append PySem.F.type_list_append mt_append (pe_var (pos := py) v1 v2 v3 v4) (pa_cons (p1 X x.toXOk) pa_nil (star1 h3)) rfl (by
        rw [star1 h3] <;> rfl) h5 (star1 h3) rfl) rfl
      rw [x.eK] at this
      exact this
    · have e1 : (fun ρ => exec G (.app i e) ρ) = fun ρ => bnd (lft (ownR ρ i)) fun _ => bnd (ev G e ρ) fun d => bnd (lft (appS ρ i d)) fun ρ => ret (.nx, ρ) := by funext ρ; rw [exec]
      rw [e1]
      exact satS_app p2
  · cases h
theorem rs_stx (g : GOk K G.toTb) {i : Nat} {q e : I} {s : Stmt} (h : stxB c i q e s = true) : RdS K W G k c E (.stx i q e) s := by
  unfold stxB at h
  split at h
  · rename_i y py z pz v pos
    simp only [Bool.and_eq_true] at h
    obtain ⟨⟨⟨⟨h1, h2⟩, h3⟩, h4⟩, h5⟩ := h
    obtain ⟨t, p1, p2, _⟩ := (rt_all g e).e c E _ h3
    obtain ⟨u, q1, q2, _⟩ := (rt_all g q).e c E _ h2
    refine ⟨tAsg t (gSub (tVar i) u rSetL), fun X x => ?_, ?_⟩
    · obtain ⟨v1, v2, v3, v4⟩ := x.toXOk.vis h1
      refine ps_asg (p1 X x.toXOk) (pg_sub (pe_var v1 v2 v3 v4) (q1 X x.toXOk) set_list fun w => ?_) (noSwap (env := X.env) h4 (some (.Subscript (.Name y py) z pz)) pos.line) rfl rfl
      cases z <;> first | rfl | cases h5
    · have e1 : (fun ρ => exec G (.stx i q e) ρ) = fun ρ => bnd (ev G e ρ) fun d => bnd (lft (ownR ρ i)) fun _ => bnd (ev G q ρ) fun k => bnd (lft (stxS ρ i k d)) fun ρ => ret (.nx, ρ) := by funext ρ; rw [exec]
      rw [e1]
      exact satS_stx p2 q2
  · cases h
theorem rs_fldS (g : GOk K G.toTb) {i : Nat} {f : String} {e : I} {s : Stmt} (h : fldB c i f e s = true) : RdS K W G k c E (.fldS i f e) s := by
  unfold fldB at h
  split at h
  · rename_i y py f' pf v pos
    simp only [Bool.and_eq_true, decide_eq_true_eq] at h
    obtain ⟨⟨⟨h1, h2⟩, h3⟩, h4⟩ := h
    subst h2
    obtain ⟨t, p1, p2, _⟩ := (rt_all g e).e c E _ h3
    refine ⟨sFld K (tVar i) t (Str.ofString f), fun X x => ?_, ?_⟩
    · obtain ⟨v1, v2, v3, v4⟩ := x.toXOk.vis h1
      rw [← x.eK]
      exact ps_fld (pe_var v1 v2 v3 v4) (p1 X x.toXOk) (noSwap h4 _ _)
    · have e1 : (fun ρ => exec G (.fldS i f e) ρ) = fun ρ => bnd (ev G e ρ) fun d => bnd (lft (fldS G.toTb ρ i f d)) fun ρ => ret (.nx, ρ) := by funext ρ; rw [exec]
      rw [e1]
      exact satS_fldS g p2
  · cases h
theorem rs_rse {n : String} {s : Stmt} (h : rseB c n s = true) : RdS K W G k c E (.rse n) s := by
  unfold rseB at h
  split at h
  · rename_i y py m j p2 p3 pos
    simp only [Bool.and_eq_true, decide_eq_true_eq] at h
    obtain ⟨⟨⟨h1, h2⟩, h3⟩, h4⟩ := h
    subst h1
    refine ⟨fun _ _ H => E (.ref (He.ga K (Str.ofString n))) none H, fun X x => ?_, ?_⟩
    · obtain ⟨g1, g2⟩ := x.toXOk.gl h2
      rw [x.eG] at h3 h4
      have r := x.rs n (List.contains_iff_mem.mp h3)
      have hm := x.cl n h4
      have := ps_raise (pos := pos) x.calm x.tk (pmk_own (m := m) (j := j) (p := py) (p2 := p2) (pos := p3) PySem.F.excBase_ValueError r.ex hm r.kp (raises_own r.sb r.ty) g1 g2)
      rw [x.eK] at this
      exact this
    · have e1 : (fun ρ => exec G (.rse n) ρ) = fun _ => rse n [] := by funext ρ; rw [exec]
      rw [e1]
      exact satS_rse
  · cases h
structure Rs2 (K : PySem.W.Frag) (W : Wd) (G : Gm) (k : Nat) (a : Sm) : Prop where
  o : ∀ (c : Ck) (E : XK) (s : Stmt), (chS a).O c s = true → RdS K W G k c E a s
  l : ∀ (c : Ck) (E : XK) (s : List Stmt), (chS a).L c s = true → RdL K W G k c E a s
theorem Rs2.mkO {a : Sm} (hL : (chS a).L = fun _ _ => false) (ho : ∀ (c : Ck) (E : XK) (s : Stmt), (chS a).O c s = true → RdS K W G k c E a s) : Rs2 K W G k a := ⟨ho, fun c E s h => by rw [hL] at h; cases h⟩
theorem rs_nil : Rs2 K W G k .nil where
  o := fun c E s h => by cases (show false = true from h)
  l := fun c E s h => by
    have h : s.isEmpty = true := h
    cases s with
    | cons _ _ => cases h
    | nil =>
      refine ⟨tNext, fun X x => pss_nil, ?_⟩
      have e1 : (fun ρ => exec G .nil ρ) = fun ρ => ret (.nx, ρ) := by funext ρ; rw [exec]
      rw [e1]
      exact satS_next
theorem rs_seq {a r : Sm} (ra : Rs2 K W G k a) (rr : Rs2 K W G k r) : Rs2 K W G k (.seq a r) where
  o := fun c E s h => by cases (show false = true from h)
  l := fun c E s h => by
    have h : (match (chS a).z with
      | true => (chS r).L c s
      | false => (match (generalizing := false) s with
        | s :: st => (chS a).O c s && (chS r).L c st
        | [] => false)) = true := h
    cases hz : (chS a).z with
    | true =>
      rw [hz] at h
      obtain ⟨t, p1, p2⟩ := rr.l c E s h
      refine ⟨t, p1, ?_⟩
      cases a <;> first | (cases hz; done) | skip
      rename_i i hh
      have e1 : (fun ρ => exec G (.seq (.frz i) r) ρ) = fun ρ => seqM (bnd (lft (frzS ρ i)) fun ρ => ret (.nx, ρ)) fun ρ => exec G r ρ := by funext ρ; rw [exec, exec]
      rw [e1]
      exact satS_frz p2
    | false =>
      rw [hz] at h
      cases s with
      | nil => cases h
      | cons s st =>
        have h : ((chS a).O c s && (chS r).L c st) = true := h
        rw [Bool.and_eq_true] at h
        obtain ⟨t, p1, p2⟩ := ra.o c E s h.1
        obtain ⟨u, q1, q2⟩ := rr.l c E st h.2
        refine ⟨tSeq t u, fun X x => pss_cons (p1 X x) (q1 X x), ?_⟩
        have e1 : (fun ρ => exec G (.seq a r) ρ) = fun ρ => seqM (exec G a ρ) fun ρ => exec G r ρ := by funext ρ; rw [exec]
        rw [e1]
        exact satS_seq p2 q2
/-- THE CHECKER IS RIGHT -/
theorem rs_all (g : GOk K G.toTb) : ∀ a : Sm, Rs2 K W G k a
  | .nil => rs_nil
  | .seq a r => rs_seq (rs_all g a) (rs_all g r)
  | .set i e => .mkO rfl fun c E s h => by
    obtain ⟨t, p1, p2, _⟩ := set_of (E := E) g h
    refine ⟨tAsg t (gName i), p1, ?_⟩
    have e1 : (fun ρ => exec G (.set i e) ρ) = fun ρ => bnd (ev G e ρ) fun d => bnd (lft (setR ρ i (.val d))) fun ρ => ret (.nx, ρ) := by funext ρ; rw [exec]
    rw [e1]
    exact satS_set p2
  | .setO i e => .mkO rfl fun c E s h => by
    have h : (isFr e && setB c i e s) = true := h
    rw [Bool.and_eq_true] at h
    obtain ⟨t, p1, _, p2⟩ := set_of (E := E) g h.2
    refine ⟨tAsg t (gName i), p1, ?_⟩
    have e1 : (fun ρ => exec G (.setO i e) ρ) = fun ρ => bnd (ev G e ρ) fun d => bnd (lft (lstD d)) fun ds => bnd (lft (setR ρ i (.own ds))) fun ρ => ret (.nx, ρ) := by funext ρ; rw [exec]
    rw [e1]
    exact satS_setO (p2 h.1)
  | .par i j a b => .mkO rfl fun c E s h => rs_par g h
  | .unp is e => .mkO rfl fun c E s h => rs_unp g h
  | .ex e => .mkO rfl fun c E s h => by
    have h : (match (generalizing := false) s with
      | .Expr v _ => noCompE v && (chk e).E c v
      | _ => false) = true := h
    split at h
    · rw [Bool.and_eq_true] at h
      obtain ⟨t, p1, p2, _⟩ := (rt_all g e).e c E _ h.2
      refine ⟨tDrop t, fun X x => ps_expr (p1 X x.toXOk) (noSwap h.1 _ _), ?_⟩
      have e1 : (fun ρ => exec G (.ex e) ρ) = fun ρ => bnd (ev G e ρ) fun _ => ret (.nx, ρ) := by funext ρ; rw [exec]
      rw [e1]
      exact satS_drop p2
    · cases h
  | .ifs q a b => .mkO rfl fun c E s h => by
    have h : (match (generalizing := false) s with
      | .If t x y _ => (chk q).t c t && (chS a).L c x && (chS b).L c y
      | _ => false) = true := h
    split at h
    · rw [Bool.and_eq_true, Bool.and_eq_true] at h
      obtain ⟨t, p1, p2⟩ := (rt_all g q).t c E _ h.1.1
      obtain ⟨u, q1, q2⟩ := (rs_all g a).l c E _ h.1.2
      obtain ⟨v, r1, r2⟩ := (rs_all g b).l c E _ h.2
      refine ⟨tIfS t u v, fun X x => ps_if (p1 X x.toXOk).1 (q1 X x) (r1 X x), ?_⟩
      have e1 : (fun ρ => exec G (.ifs q a b) ρ) = fun ρ => bnd (tst (ev G q ρ)) fun t => iteM t (exec G a ρ) (exec G b ρ) := by funext ρ; rw [exec]
      rw [e1]
      exact satS_if p2 q2 r2
    · cases h
  | .for_ tg tup it body => .mkO rfl fun c E s h => by
    have h : (match (generalizing := false) s with
      | .For tx ix b [] _ => (chk it).J c (isTup tx) ix && tgB c tg tup tx && (chS body).L c b && noSetE ix
      | _ => false) = true := h
    split at h
    · rename_i tx ix b pos hh
      rw [Bool.and_eq_true, Bool.and_eq_true, Bool.and_eq_true] at h
      obtain ⟨⟨⟨h1, h2⟩, h3⟩, h4⟩ := h
      obtain ⟨wi, p1, p2⟩ := (rt_all g it).j c E _ _ h1
      obtain ⟨u, q1, q2⟩ := (rs_all g body).l c E _ h3
      refine ⟨tFor wi (gTarget K tg tup) u, fun X x => ps_for x.own x.calm (p1 X tx x.toXOk fun z => z) (pg_of x.toXOk h2) (q1 X x) (noSet_of h4), ?_⟩
      have e1 : (fun ρ => exec G (.for_ tg tup it body) ρ) = fun ρ => bnd (evI G false it ρ) fun xs => forM (fun d ρ => bindT ρ tg tup d) (fun ρ => exec G body ρ) xs ρ := by funext ρ; rw [exec]
      rw [e1]
      exact satS_for (p2 false) (satG tg tup) q2
    · cases h
  | .whl q body => .mkO rfl fun c E s h => by
    have h : (match (generalizing := false) s with
      | .While t b [] _ => (chk q).t c t && (chS body).L c b
      | _ => false) = true := h
    split at h
    · rw [Bool.and_eq_true] at h
      obtain ⟨t, p1, p2⟩ := (rt_all g q).t c E _ h.1
      obtain ⟨u, q1, q2⟩ := (rs_all g body).l c E _ h.2
      refine ⟨tWhile t u, fun X x => ps_while x.own (p1 X x.toXOk).1 (q1 X x), ?_⟩
      have e1 : (fun ρ => exec G (.whl q body) ρ) = fun ρ => whlM (fun ρ => tst (ev G q ρ)) (fun ρ => exec G body ρ) ρ := by funext ρ; rw [exec]
      rw [e1]
      exact satS_while p2 q2
    · cases h
  | .rt e => .mkO rfl fun c E s h => by
    have h : (match (generalizing := false) s with
      | .Return (some v) _ => (chk e).E c v
      | _ => false) = true := h
    split at h
    · obtain ⟨t, p1, p2, _⟩ := (rt_all g e).e c E _ h
      refine ⟨tRet t, fun X x => ps_ret (p1 X x.toXOk), ?_⟩
      have e1 : (fun ρ => exec G (.rt e) ρ) = fun ρ => bnd (ev G e ρ) fun d => ret (.rt d, ρ) := by funext ρ; rw [exec]
      rw [e1]
      exact satS_ret p2
    · cases h
  | .rtN => .mkO rfl fun c E s h => by
    have h : (match (generalizing := false) s with
      | .Return none _ => true
      | _ => false) = true := h
    split at h
    · refine ⟨tRetN, fun X x => ps_retN, ?_⟩
      have e1 : (fun ρ => exec G .rtN ρ) = fun ρ => ret (.rt .non, ρ) := by funext ρ; rw [exec]
      rw [e1]
      exact satS_retN
    · cases h
  | .app i e => .mkO rfl fun c E s h => rs_app g h
  | .stx i q e => .mkO rfl fun c E s h => rs_stx g h
  | .fldS i f e => .mkO rfl fun c E s h => rs_fldS g h
  | .rse n => .mkO rfl fun c E s h => rs_rse h
  | .brk => .mkO rfl fun c E s h => by
    have h : (match (generalizing := false) s with
      | .Break _ => true
      | _ => false) = true := h
    split at h
    · refine ⟨tBreak, fun X x => ps_break, ?_⟩
      have e1 : (fun ρ => exec G .brk ρ) = fun ρ => ret (.bk, ρ) := by funext ρ; rw [exec]
      rw [e1]
      exact satS_brk
    · cases h
  | .cnt => .mkO rfl fun c E s h => by
    have h : (match (generalizing := false) s with
      | .Continue _ => true
      | _ => false) = true := h
    split at h
    · refine ⟨tCont, fun X x => ps_continue, ?_⟩
      have e1 : (fun ρ => exec G .cnt ρ) = fun ρ => ret (.ct, ρ) := by funext ρ; rw [exec]
      rw [e1]
      exact satS_cnt
    · cases h
  | .pass => .mkO rfl fun c E s h => by
    have h : (match (generalizing := false) s with
      | .Pass _ => true
      | _ => false) = true := h
    split at h
    · refine ⟨tNext, fun X x => ps_pass, ?_⟩
      have e1 : (fun ρ => exec G .pass ρ) = fun ρ => ret (.nx, ρ) := by funext ρ; rw [exec]
      rw [e1]
      exact satS_next
    · cases h
  | .frz i => .mkO rfl fun c E s h => by cases (show false = true from h)
end
end Oi

/-! Oi, part Q: all defs of a text, level by level. -/
namespace Oi
open PySem PySem.Spec PyProof.Rows L2

/-- a def (or a class's __init__): its names, its meaning, its text -/
structure Fe where
  nm : String
  cls : Bool
  ps : List String
  N : List String
  df : Df
  lm : Bool
  st : Stmt
def Fe.at_ (e : Fe) : Str × Option Str := (Str.ofString e.nm, if e.cls then some (Str.ofString "__init__") else none)
def Fe.name (e : Fe) : Str := if e.cls then Str.ofString "__init__" else Str.ofString e.nm
def Fe.qual (e : Fe) : Str := if e.cls then Str.ofString (e.nm ++ ".__init__") else Str.ofString e.nm
def Fe.dd (e : Fe) : He.DefD := ⟨e.at_, e.name, e.qual, defArgs e.st, defBody e.st, defScope e.st, [], []⟩
def Fe.ck (tb : Tb) (e : Fe) : Ck := { G := tb, N := e.N.map Str.ofString, sc := defScope e.st, st := none, gd := tb.gr.contains e.nm, lm := e.lm }
/-- the scope fits -/
def fsB (N ps : List Str) (sc : Scope) : Bool := decide (sc.kind = .function) && !sc.isCoroutine && !sc.isGenerator && decide N.Nodup && decide (N.take ps.length = ps) &&
  (ps.all fun x => decide (sc.names.lookup x = some .local) || decide (sc.names.lookup x = some .cell)) && (sc.names.all fun y => decide (y.2 ≠ .free))
theorem fs_of {N ps : List Str} {sc : Scope} (h : fsB N ps sc = true) : FnScope N ps sc := by
  unfold fsB at h
  simp only [Bool.and_eq_true, Bool.or_eq_true, Bool.not_eq_true', decide_eq_true_eq, List.all_eq_true] at h
  obtain ⟨⟨⟨⟨⟨⟨h1, h2⟩, h3⟩, h4⟩, h5⟩, h6⟩, h7⟩ := h
  exact ⟨h1, h2, h3, h4, h5, h6, h7⟩
def Fe.ok (tb : Tb) (e : Fe) : Bool := fsB (e.N.map Str.ofString) (e.ps.map Str.ofString) (defScope e.st) && (chS e.df.body).L (e.ck tb) (defBody e.st) && decide (e.N.length = e.df.ns) && decide (e.ps.length = e.df.np) && decide (e.df.np ≤ e.df.ns)
/-- how it binds -/
def Fe.bind (tb : Tb) (e : Fe) : Prop := (∀ (kV doc pm : Value) (an : Option Addr) (cdv ct : Value) (us : List Value), us.length = e.ps.length → bindArgs (PySem.W.fnOf e.name e.qual (defArgs e.st) (defBody e.st) (defScope e.st) .none kV doc pm an cdv ct) ⟨us, []⟩ = pure ((e.ps.map Str.ofString).zip us)) ∧
  ∀ q ∈ tb.kw, q.f = e.nm → ∀ (kV doc pm : Value) (an : Option Addr) (cdv ct : Value) (us ws as : List Value), us.length = (if e.cls then q.n + 1 else q.n) → ws.length = q.ks.length → perm (if e.cls then 0 :: q.ps.map (· + 1) else q.ps) (us ++ ws) = some as →
    bindArgs (PySem.W.fnOf e.name e.qual (defArgs e.st) (defBody e.st) (defScope e.st) .none kV doc pm an cdv ct) ⟨us, (q.ks.map Str.ofString).zip ws⟩ = pure ((e.ps.map Str.ofString).zip as)

/-! ### the levels -/
noncomputable def gmN (tb : Tb) (hd : String → Option (List D → M D)) (fs cs : List Fe) : Nat → Gm
  | 0 => { tb with ft := fun _ _ => stk }
  | n + 1 => { tb with ft := fun f ds => match hd f with
    | some m => m ds
    | none => (match List.find? (fun e : Fe => e.nm == f) fs with
      | some e => runD (gmN tb hd fs cs n) e.df ds
      | none => (match List.find? (fun e : Fe => e.nm == f) cs with
        | some e => makeD (gmN tb hd fs cs n) f e.df ds
        | none => stk)) }
theorem gmN_tb (tb : Tb) (hd : String → Option (List D → M D)) (fs cs : List Fe) (n : Nat) : (gmN tb hd fs cs n).toTb = tb := by
  cases n <;> rfl

/-! ### what is known of the text -/
section
variable (P : Program) (w : World) (K : PySem.W.Frag) (mg : Str → Option Value) (base : Heap) (W : Wd)
/-- a lambda's facts in the def e -/
structure LamF (tb : Tb) (e : Fe) : Prop where
  tab : LamX.TabB base mg (He.cT K e.at_).1 (He.cT K e.at_).2
  mem : ((He.cT K e.at_).2, e.qual ++ ".<locals>." ++ "<lambda>") ∈ W.T
  one : ∀ p ∈ W.T, p.1 = (He.cT K e.at_).2 → p.2 = e.qual ++ ".<locals>." ++ "<lambda>"
  cau : ∃ (g : Addr) (fd : FuncData) (pg : Arguments) (sg : Scope) (j : Nat) (p : Nat → Pos), mg (Str.ofString "_law_caught") = some (.ref g) ∧ FunD K (Str.ofString "_law_caught") (Str.ofString "_law_caught") pg (cauBody (Str.ofString "_law_work") (Str.ofString "_law_caught_here") (Str.ofString "FoundError") (Str.ofString "error") j p) sg [] [] g fd ∧
    Binds K fd [Str.ofString "_law_work"] [] ∧ FnScope [Str.ofString "_law_work", Str.ofString "_law_caught_here", Str.ofString "error"] [Str.ofString "_law_work"] sg ∧ sg.names.lookup (Str.ofString "_law_work") = some .local ∧ sg.names.lookup (Str.ofString "_law_caught_here") = some .local ∧ sg.names.lookup (Str.ofString "error") = some .local ∧ sg.names.lookup (Str.ofString "FoundError") = some .globalImplicit
  fe : tb.own "FoundError" = true
  exm : ∀ c ∈ tb.fe, PySem.W.exmOne K (.ref (He.ga K (Str.ofString c))) (.ref (He.ga K (Str.ofString "FoundError"))) = some true
structure TabF (tb : Tb) (hd : String → Option (List D → M D)) (fs cs : List Fe) : Prop where
  g : GOk K tb
  bl : ∀ x ∈ tb.bl, mg (Str.ofString x) = none
  cl : ∀ t, tb.own t = true → mg (Str.ofString t) = some (.ref (He.ga K (Str.ofString t)))
  rs : ∀ n ∈ tb.rs, RsOk K n
  lam : ∀ e ∈ fs, e.lm = true → LamF K mg base W tb e
  def_ : ∀ e ∈ fs ++ cs, ∃ fd, FunD K e.name e.qual (defArgs e.st) (defBody e.st) (defScope e.st) [] [] (He.fAd K e.at_) fd
  ok : ∀ e ∈ fs ++ cs, e.ok tb = true
  bind : ∀ e ∈ fs ++ cs, e.bind tb
  fc : ∀ e ∈ fs, e.cls = false
  cc : ∀ e ∈ cs, e.cls = true ∧ e.lm = false
  at_ : ∀ e ∈ fs, mg (Str.ofString e.nm) = some (.ref (He.fAd K e.at_))
  mkC : ∀ e ∈ cs, Mk K (He.ga K (Str.ofString e.nm)) (He.fAd K e.at_)
  /-- the functions that are called: by hand, or of the table -/
  fn : ∀ p ∈ tb.fn, (∃ m, hd p.1 = some m ∧ (∀ ds S r, m ds S = some r → ds.length = p.2) ∧ (∀ q ∈ tb.kw, q.f ≠ p.1) ∧ ∃ (fa : Addr) (fd : FuncData) (ps : List Str), FnP (tb.gr.contains p.1) P w K mg base 4 fa fd ps (spD K W m) ∧ mg (Str.ofString p.1) = some (.ref fa) ∧ PySem.W.keepIn K (.ref fa) = true ∧ Binds K fd ps [] ∧ ps.length = p.2) ∨
    (hd p.1 = none ∧ ∃ e ∈ fs, (fs.find? fun e => e.nm == p.1) = some e ∧ e.nm = p.1 ∧ e.df.np = p.2)
  cs : ∀ p ∈ tb.cs, hd p.1 = none ∧ (fs.find? fun e => e.nm == p.1) = none ∧ tb.own p.1 = true ∧ ∃ e ∈ cs, (cs.find? fun e => e.nm == p.1) = some e ∧ e.nm = p.1 ∧ e.df.np = p.2 + 1
end
section
variable {P : Program} {w : World} {K : PySem.W.Frag} {mg : Str → Option Value} {base : Heap} {W : Wd} {tb : Tb} {hd : String → Option (List D → M D)} {fs cs : List Fe}
/-- all defs at a level -/
structure AllAt (P : Program) (w : World) (K : PySem.W.Frag) (mg : Str → Option Value) (base : Heap) (W : Wd) (G : Gm) (k : Nat) : Prop where
  fn : ∀ p ∈ G.fn, (∀ ds S r, G.ft p.1 ds S = some r → ds.length = p.2) ∧ ∃ (fa : Addr) (fd : FuncData) (ps : List Str), FnP (G.gr.contains p.1) P w K mg base k fa fd ps (spD K W (G.ft p.1)) ∧ mg (Str.ofString p.1) = some (.ref fa) ∧ PySem.W.keepIn K (.ref fa) = true ∧ Binds K fd ps [] ∧
    ∀ q ∈ G.kw, q.f = p.1 → KwB K fd ps q.n (q.ks.map Str.ofString) q.ps
  cs : ∀ p ∈ G.cs, G.own p.1 = true ∧ ∃ (fa : Addr) (fd : FuncData) (ps : List Str), Mk K (He.ga K (Str.ofString p.1)) fa ∧ FnP (G.gr.contains p.1) P w K mg base k fa fd ps (spI K W p.1 (G.ft p.1)) ∧ Binds K fd ps [] ∧
    ∀ q ∈ G.kw, q.f = p.1 → KwB K fd ps (q.n + 1) (q.ks.map Str.ofString) (0 :: q.ps.map (· + 1))
theorem find_mem {l : List Fe} {f : String} {e : Fe} (h : l.find? (fun e => e.nm == f) = some e) : e ∈ l := List.mem_of_find?_eq_some h
theorem Fe.okI {e : Fe} (h : e.ok tb = true) : FnScope (e.N.map Str.ofString) (e.ps.map Str.ofString) (defScope e.st) ∧ (chS e.df.body).L (e.ck tb) (defBody e.st) = true ∧ e.N.length = e.df.ns ∧ e.ps.length = e.df.np ∧ e.df.np ≤ e.df.ns := by
  unfold Fe.ok at h
  rw [Bool.and_eq_true, Bool.and_eq_true, Bool.and_eq_true, Bool.and_eq_true] at h
  obtain ⟨⟨⟨⟨h1, h2⟩, h3⟩, h4⟩, h5⟩ := h
  exact ⟨fs_of h1, h2, of_decide_eq_true h3, of_decide_eq_true h4, of_decide_eq_true h5⟩
theorem bind_of {e : Fe} {fd : FuncData} {fa : Addr} (F : FunD K e.name e.qual (defArgs e.st) (defBody e.st) (defScope e.st) [] [] fa fd) (h : e.bind tb) : Binds K fd (e.ps.map Str.ofString) [] ∧
    ∀ q ∈ tb.kw, q.f = e.nm → KwB K fd (e.ps.map Str.ofString) (if e.cls then q.n + 1 else q.n) (q.ks.map Str.ofString) (if e.cls then 0 :: q.ps.map (· + 1) else q.ps) := by
  obtain ⟨h1, h2⟩ := h
  refine ⟨FunD.bindsN F fun kV doc pm an cdv ct us hl => h1 kV doc pm an cdv ct us (by rw [hl, List.length_map]), fun q hq hf s us ws as _ l1 l2 hp => ?_⟩
  obtain ⟨oc, od, dV, kV, doc, pm, an, cdv, ct, osl, e1, lk, hcd, hD, hK⟩ := F.ex
  subst e1
  rcases hD with ⟨_, e2⟩ | ⟨e2, _⟩
  · subst e2
    exact .of_eq (h2 q hq hf kV doc pm an cdv ct us ws as l1 (by rw [l2, List.length_map]) hp)
  · exact absurd rfl e2
/-- a def of the text, its code object told -/
theorem fnP_ofC {gr : Bool} {k : Nat} {p : Str × Option Str} {fd : FuncData} {ps : List Str} {sp : Sp} {x qual : Str} {params : Arguments} {body : List Stmt} {scope : Scope} {N : List Str} (F : FunD K x qual params body scope [] [] (He.fAd K p) fd) (S : FnScope N ps scope) (len : ∀ vs H Q E, sp vs H Q E → vs.length = ps.length)
    (hb : ∀ (cdv : Value) (A : Around) (out : List Env) (s : Shared) (H : Hp) (vs : List V) (Q : VK) (E : XK), cdv = .ref (He.codeOf K p) → Room k (A.deeper (envOfC qual scope s.heap.objs.size (He.fAd K p) cdv)) → (gr = true → A.guards = some []) → sp vs H Q E →
      ∃ t, PSs (cxOf (L2.CX P w) P w K mg base N qual scope (He.fAd K p) cdv A out s H E) body t ∧ t { nx := fun _ H' => Q .non H', rt := Q } (L2.start N vs) H) : FnP gr P w K mg base (k + 1) (He.fAd K p) fd ps sp := by
  obtain ⟨oc, od, dV, kV, doc, pm, an, cdv, ct, osl, e, lk, hcd, _⟩ := F.ex
  subst e
  obtain ⟨c, ec⟩ := He.codeIn_ref hcd
  have e2 : cdv = .ref (He.codeOf K p) := by rw [He.codeOf_eq lk ec]; exact ec
  exact ⟨len, fun A out s H ar us vs Q E hr hg e0 hbd r h => LamX.run_ofS lk hcd S hr e0 hbd r (len _ _ _ _ h) fun hr' => hb cdv A out s H vs Q E e2 hr' hg h⟩
/-- the context of a def's body -/
theorem xok_def (T : TabF P w K mg base W tb hd fs cs) {G : Gm} (hG : G.toTb = tb) {k : Nat} (AA : AllAt P w K mg base W G k) {e : Fe} (he : e ∈ fs ++ cs) {cdv : Value} {A : Around} {out : List Env} {s : Shared} {H : Hp} {E : XK} (hcd : cdv = .ref (He.codeOf K e.at_))
    (hr : Room (k + 3) (A.deeper (envOfC e.qual (defScope e.st) s.heap.objs.size (He.fAd K e.at_) cdv))) (hg : tb.gr.contains e.nm = true → A.guards = some []) :
    XOkS (cxOf (L2.CX P w) P w K mg base (e.N.map Str.ofString) e.qual (defScope e.st) (He.fAd K e.at_) cdv A out s H E) K W E G k (e.ck tb) where
  eK := rfl
  eG := hG.symm
  nN := rfl
  sc := rfl
  nd := (Fe.okI (T.ok e he)).1.nd
  calm := rfl
  room := hr.mono (by omega)
  gd := hg
  tk := takes_of rfl rfl rfl rfl
  st := fun x => rfl
  bl := by rw [show G.bl = tb.bl from congrArg Tb.bl hG]; exact T.bl
  cl := fun t ht => T.cl t (by
    have z : (G.toTb).own t = true := ht
    rw [hG] at z
    exact z)
  fn := fun p hp => ⟨(AA.fn p hp).1, (AA.fn p hp).2⟩
  cs := fun p hp => ⟨(AA.cs p hp).1, (AA.cs p hp).2⟩
  lm := fun z => by
    have z : e.lm = true := z
    have hm : e ∈ fs := by
      rcases List.mem_append.mp he with q | q
      · exact q
      · rw [(T.cc e q).2] at z; cases z
    have L := T.lam e hm z
    refine ⟨hr, ⟨_, _, L.tab, hcd, L.mem, L.one⟩, L.cau, ?_, ?_⟩
    · show (G.toTb).own "FoundError" = true
      rw [hG]
      exact L.fe
    · rw [show G.fe = tb.fe from congrArg Tb.fe hG]
      exact L.exm
  own := passes_of rfl
  bk := by
    show (if (defScope e.st).kind.isAnnotationScope then ScopeKind.function else (defScope e.st).kind) = .function
    rw [(Fe.okI (T.ok e he)).1.kind]
    rfl
  top := rfl
  rs := by rw [show G.rs = tb.rs from congrArg Tb.rs hG]; exact T.rs
/-- a def at the next level -/
theorem fnP_next (T : TabF P w K mg base W tb hd fs cs) {G : Gm} (hG : G.toTb = tb) {k : Nat} (AA : AllAt P w K mg base W G k) {e : Fe} (he : e ∈ fs ++ cs) : ∃ fd, FunD K e.name e.qual (defArgs e.st) (defBody e.st) (defScope e.st) [] [] (He.fAd K e.at_) fd ∧
    ((∀ {m : List D → M D}, (∀ ds, m ds = runD G e.df ds) → FnP (tb.gr.contains e.nm) P w K mg base (k + 4) (He.fAd K e.at_) fd (e.ps.map Str.ofString) (spD K W m)) ∧
     (∀ {m : List D → M D} {c : String}, (∀ ds, m ds = makeD G c e.df ds) → FnP (tb.gr.contains e.nm) P w K mg base (k + 4) (He.fAd K e.at_) fd (e.ps.map Str.ofString) (spI K W c m))) := by
  obtain ⟨fd, F⟩ := T.def_ e he
  obtain ⟨S, hck, hN, hp, hle⟩ := Fe.okI (T.ok e he)
  have g : GOk K G.toTb := by rw [hG]; exact T.g
  refine ⟨fd, F, fun {m} hm => ?_, fun {m c} hm => ?_⟩
  · refine FnP.mono (k := k + 3 + 1) (fnP_ofC F S (fun vs H Q E ⟨ds, S', Hf, r, _, _, p⟩ => ?_) fun cdv A out s H vs Q E hcd hr hg ⟨ds, S', Hf, r, f, kk, p⟩ => ?_) (Nat.le_refl _)
    · rw [hm] at p
      have h1 := (iteM_post p).1
      rw [r.length, of_decide_eq_true h1, List.length_map, hp]
    · obtain ⟨t, t1, t2⟩ := (rs_all (K := K) (W := W) (k := k) g e.df.body).l (e.ck tb) E (defBody e.st) hck
      rw [hm] at p
      exact ⟨t, t1 _ (xok_def T hG AA he hcd hr hg), run_body t2 (by rw [List.length_map]; exact hN) hle r f kk p⟩
  · refine FnP.mono (k := k + 3 + 1) (fnP_ofC F S (fun vs H Q E ⟨ds, S', Hf, H0, x, dx, ws, Q0, e1, _, _, _, _, r, _, _, _, p⟩ => ?_) fun cdv A out s H vs Q E hcd hr hg h => ?_) (Nat.le_refl _)
    · rw [hm] at p
      have h1 := (iteM_post p).1
      rw [e1, List.length_cons, r.length, of_decide_eq_true h1, List.length_map, hp]
    · obtain ⟨t, t1, t2⟩ := (rs_all (K := K) (W := W) (k := k) g e.df.body).l (e.ck tb) E (defBody e.st) hck
      have e1 : m = makeD G c e.df := funext hm
      rw [e1] at h
      exact ⟨t, t1 _ (xok_def T hG AA he hcd hr hg), run_init t2 (by rw [List.length_map]; exact hN) hle h⟩
theorem fnP_false {gr : Bool} {k : Nat} {f : Addr} {fd : FuncData} {ps : List Str} {sp : Sp} (h : ∀ vs H Q E, ¬ sp vs H Q E) : FnP gr P w K mg base k f fd ps sp := ⟨fun _ _ _ _ q => absurd q (h _ _ _ _), fun _ _ _ _ _ _ _ _ _ _ _ _ _ _ q => absurd q (h _ _ _ _)⟩
theorem ft_hand {n : Nat} {f : String} {m : List D → M D} (h : hd f = some m) (ds : List D) : (gmN tb hd fs cs (n + 1)).ft f ds = m ds := by
  show (match hd f with
    | some m => m ds
    | none => _) = _
  rw [h]
theorem ft_fn {n : Nat} {f : String} {e : Fe} (h : hd f = none) (he : (fs.find? fun e => e.nm == f) = some e) (ds : List D) : (gmN tb hd fs cs (n + 1)).ft f ds = runD (gmN tb hd fs cs n) e.df ds := by
  show (match hd f with
    | some m => m ds
    | none => (match List.find? (fun e : Fe => e.nm == f) fs with
      | some e => runD (gmN tb hd fs cs n) e.df ds
      | none => _)) = _
  rw [h, he]
theorem ft_cs {n : Nat} {f : String} {e : Fe} (h : hd f = none) (hf : (fs.find? fun e => e.nm == f) = none) (he : (cs.find? fun e => e.nm == f) = some e) (ds : List D) : (gmN tb hd fs cs (n + 1)).ft f ds = makeD (gmN tb hd fs cs n) f e.df ds := by
  show (match hd f with
    | some m => m ds
    | none => (match List.find? (fun e : Fe => e.nm == f) fs with
      | some e => runD (gmN tb hd fs cs n) e.df ds
      | none => (match List.find? (fun e : Fe => e.nm == f) cs with
        | some e => makeD (gmN tb hd fs cs n) f e.df ds
        | none => stk))) = _
  rw [h, hf, he]
theorem runD_len {G : Gm} {d : Df} {ds : List D} {S : DS} {r : Rs D × DS} (h : runD G d ds S = some r) : ds.length = d.np := by
  unfold runD at h
  cases q : decide (ds.length = d.np) with
  | false => rw [q] at h; cases h
  | true => exact of_decide_eq_true q
theorem allAt (T : TabF P w K mg base W tb hd fs cs) : ∀ n, AllAt P w K mg base W (gmN tb hd fs cs n) (4 * n)
  | 0 => {
      fn := fun p hp => by
        refine ⟨fun ds S r h => (by cases (show (none : Option (Rs D × DS)) = some r from h)), ?_⟩
        have no : ∀ vs H Q E, ¬ spD K W ((gmN tb hd fs cs 0).ft p.1) vs H Q E := fun vs H Q E ⟨ds, S, Hf, _, _, _, p⟩ => p
        rcases T.fn p hp with ⟨m, h1, h2, h3, fa, fd, ps, F, hm, hk, hb, hl⟩ | ⟨h1, e, he, h2, h3, h4⟩
        · exact ⟨fa, fd, ps, fnP_false no, hm, hk, hb, fun q hq hf => absurd hf (h3 q hq)⟩
        · obtain ⟨fd, F⟩ := T.def_ e (List.mem_append_left _ he)
          obtain ⟨b1, b2⟩ := bind_of F (T.bind e (List.mem_append_left _ he))
          rw [T.fc e he] at b2
          exact ⟨_, fd, _, fnP_false no, by rw [← h3]; exact T.at_ e he, F.kp, b1, fun q hq hf => b2 q hq (hf.trans h3.symm)⟩
      cs := fun p hp => by
        obtain ⟨h1, h2, h3, e, he, h4, h5, h6⟩ := T.cs p hp
        refine ⟨h3, ?_⟩
        have no : ∀ vs H Q E, ¬ spI K W p.1 ((gmN tb hd fs cs 0).ft p.1) vs H Q E := fun vs H Q E ⟨ds, S, Hf, H0, x, dx, ws, Q0, _, _, _, _, _, _, _, _, _, p⟩ => p
        obtain ⟨fd, F⟩ := T.def_ e (List.mem_append_right _ he)
        obtain ⟨b1, b2⟩ := bind_of F (T.bind e (List.mem_append_right _ he))
        rw [(T.cc e he).1] at b2
        exact ⟨_, fd, _, by rw [← h5]; exact T.mkC e he, fnP_false no, b1, fun q hq hf => b2 q hq (hf.trans h5.symm)⟩ }
  | n + 1 => {
      fn := fun p hp => by
        rcases T.fn p hp with ⟨m, h1, h2, h3, fa, fd, ps, F, hm, hk, hb, hl⟩ | ⟨h1, e, he, h2, h3, h4⟩
        · have e1 : (gmN tb hd fs cs (n + 1)).ft p.1 = m := funext fun ds => ft_hand h1 ds
          refine ⟨fun ds S r h => h2 ds S r (by rw [e1] at h; exact h), fa, fd, ps, ?_, hm, hk, hb, fun q hq hf => absurd hf (h3 q hq)⟩
          rw [e1]
          exact F.mono (by omega)
        · have e1 : ∀ ds, (gmN tb hd fs cs (n + 1)).ft p.1 ds = runD (gmN tb hd fs cs n) e.df ds := fun ds => ft_fn h1 h2 ds
          refine ⟨fun ds S r h => by rw [e1] at h; rw [← h4]; exact runD_len h, ?_⟩
          obtain ⟨fd, F, F1, _⟩ := fnP_next T (gmN_tb tb hd fs cs n) (allAt T n) (List.mem_append_left _ he)
          obtain ⟨b1, b2⟩ := bind_of F (T.bind e (List.mem_append_left _ he))
          rw [T.fc e he] at b2
          refine ⟨_, fd, _, ?_, by rw [← h3]; exact T.at_ e he, F.kp, b1, fun q hq hf => b2 q hq (hf.trans h3.symm)⟩
          have := F1 e1
          rw [h3] at this
          exact this
      cs := fun p hp => by
        obtain ⟨h1, h2, h3, e, he, h4, h5, h6⟩ := T.cs p hp
        refine ⟨h3, ?_⟩
        have e1 : ∀ ds, (gmN tb hd fs cs (n + 1)).ft p.1 ds = makeD (gmN tb hd fs cs n) p.1 e.df ds := fun ds => ft_cs h1 h2 h4 ds
        obtain ⟨fd, F, _, F1⟩ := fnP_next T (gmN_tb tb hd fs cs n) (allAt T n) (List.mem_append_right _ he)
        obtain ⟨b1, b2⟩ := bind_of F (T.bind e (List.mem_append_right _ he))
        rw [(T.cc e he).1] at b2
        refine ⟨_, fd, _, by rw [← h5]; exact T.mkC e he, ?_, b1, fun q hq hf => b2 q hq (hf.trans h5.symm)⟩
        have := F1 e1
        rw [h5] at this
        exact this }
end
end Oi

/-! Oi, part R: the draws. -/
namespace Oi
open PySem PySem.Spec PyProof.Rows L2

/-! ### what a draw does -/
def isSt (ρ : Rho) : Bool := match (ρ[0]? : Option Sl) with
  | some (.val .st) => true
  | _ => false
def gSt (f : DS → D) : Rho → M D := fun ρ S => if isSt ρ = true then some (.ok (f S), S) else none
def gLeft : Rho → M D := gSt fun S => .int S.left
def gTurn : Rho → M D := gSt fun S => .int S.turn
def gMore : Rho → M D := gSt fun S => .bl (!S.large.isEmpty)
def gCells (W : Wd) : Rho → M D := gSt fun _ => .lst (W.cells.map .int)
def gPop : Rho → M D := fun ρ S => if isSt ρ = true then (match S.large with
  | x :: r => some (.ok (.int x), { S with large := r })
  | [] => none) else none
def putLeft (d : D) (ρ : Rho) : M (Fl × Rho) := fun S => if isSt ρ = true then (match d with
  | .int i => some (.ok (.nx, ρ), { S with left := i })
  | _ => none) else none
def putTurn (d : D) (ρ : Rho) : M (Fl × Rho) := fun S => if isSt ρ = true then (match d with
  | .int i => if 0 ≤ i then some (.ok (.nx, ρ), { S with turn := i.toNat }) else none
  | _ => none) else none

section
variable {K : PySem.W.Frag} {W : Wd} {E : XK} {H0 : En} {ρ : Rho} {S : DS} {σ : L2.St} {H Hf : Hp}
theorem StOk.st0 (I : StOk K W H0 ρ S σ H Hf) (h : isSt ρ = true) : σ[0]? = some (some (.ref W.st)) := by
  unfold isSt at h
  split at h
  · rename_i e
    obtain ⟨o, hs, sl⟩ := I.slot e
    cases sl with
    | val r => cases r; exact hs
  · cases h
theorem gSt_inv {f : DS → D} {R : Hp → Hp → V → D → Prop} {Q : VK} (p : PostG K W E R H Hf (gSt f ρ S) Q) : isSt ρ = true ∧ ∀ v H' Hf', Stp W H Hf H' Hf' → DOk W S H' → R H' Hf' v (f S) → Q v H' := by
  unfold gSt at p
  cases h : isSt ρ with
  | true => rw [h, if_pos rfl] at p; exact ⟨rfl, p⟩
  | false => rw [h, if_neg (by decide)] at p; exact False.elim p
def kvLg : V → Key × V := fun v => (.inr (Str.ofString "large"), v)
theorem kv_left : valV (stKvs W S) (.inr (Str.ofString "left")) = some (.int S.left) := by
  unfold stKvs
  rw [valV_neg (show ¬ ((.inr (Str.ofString "large") : Key) = .inr (Str.ofString "left")) by decide +kernel), valV_neg (show ¬ ((.inr (Str.ofString "cells") : Key) = .inr (Str.ofString "left")) by decide +kernel), valV_pos rfl]
theorem kv_turn : valV (stKvs W S) (.inr (Str.ofString "turn")) = some (.int S.turn) := by
  unfold stKvs
  rw [valV_neg (show ¬ ((.inr (Str.ofString "large") : Key) = .inr (Str.ofString "turn")) by decide +kernel), valV_neg (show ¬ ((.inr (Str.ofString "cells") : Key) = .inr (Str.ofString "turn")) by decide +kernel), valV_neg (show ¬ ((.inr (Str.ofString "left") : Key) = .inr (Str.ofString "turn")) by decide +kernel), valV_pos rfl]
theorem kv_large : valV (stKvs W S) (.inr (Str.ofString "large")) = some (.ref W.l1) := by
  unfold stKvs
  rw [valV_pos rfl]
theorem kv_cells : valV (stKvs W S) (.inr (Str.ofString "cells")) = some (.ref W.l2) := by
  unfold stKvs
  rw [valV_neg (show ¬ ((.inr (Str.ofString "large") : Key) = .inr (Str.ofString "cells")) by decide +kernel), valV_pos rfl]
theorem put_left {i : Int} : putK (stKvs W S) (.inr (Str.ofString "left")) (.int i) = stKvs W { S with left := i } := by
  have h1 : ¬ ((.inr (Str.ofString "large") : Key) = .inr (Str.ofString "left")) := by decide +kernel
  have h2 : ¬ ((.inr (Str.ofString "cells") : Key) = .inr (Str.ofString "left")) := by decide +kernel
  have h3 : ¬ ((.inr (Str.ofString "turn") : Key) = .inr (Str.ofString "left")) := by decide +kernel
  unfold putK stKvs
  rw [if_pos (by simp)]
  simp only [List.map_cons, List.map_nil]
  rw [if_neg h1, if_neg h2, if_neg h3]
  simp
theorem put_turn {i : Int} (h : 0 ≤ i) : putK (stKvs W S) (.inr (Str.ofString "turn")) (.int i) = stKvs W { S with turn := i.toNat } := by
  have h1 : ¬ ((.inr (Str.ofString "large") : Key) = .inr (Str.ofString "turn")) := by decide +kernel
  have h2 : ¬ ((.inr (Str.ofString "cells") : Key) = .inr (Str.ofString "turn")) := by decide +kernel
  have h3 : ¬ ((.inr (Str.ofString "left") : Key) = .inr (Str.ofString "turn")) := by decide +kernel
  have h4 : ((i.toNat : Nat) : Int) = i := Int.toNat_of_nonneg h
  unfold putK stKvs
  rw [if_pos (by simp)]
  simp only [List.map_cons, List.map_nil]
  rw [if_neg h1, if_neg h2, if_neg h3, h4]
  simp
def tSt (k : String) : TE := tDGet (tVar 0) (tC (.str (Str.ofString k)))
theorem tSt_of (I : StOk K W H0 ρ S σ H Hf) (h : isSt ρ = true) {k : String} {v : V} (hv : valV (stKvs W S) (.inr (Str.ofString k)) = some v) {Q : VK} (q : Q v H) : tSt k σ H Q :=
  ⟨_, I.st0 h, W.st, v, rfl, .inl ⟨stKvs W S, .inr (Str.ofString k), .inl I.dok.st, rfl, hv.symm⟩, q⟩
theorem sat_left : Sat K W E (tSt "left") gLeft := fun H0 ρ S σ H Hf Q I p => by
  obtain ⟨h, q⟩ := gSt_inv p
  exact tSt_of I h kv_left (q _ _ _ (Stp.refl I.fz) I.dok (.int _))
theorem sat_turn : Sat K W E (tSt "turn") gTurn := fun H0 ρ S σ H Hf Q I p => by
  obtain ⟨h, q⟩ := gSt_inv p
  exact tSt_of I h kv_turn (q _ _ _ (Stp.refl I.fz) I.dok (.int _))
theorem repL_ints : ∀ ns : List Int, RepL K W Hf (ns.map V.int) (ns.map D.int)
  | [] => .nil
  | n :: ns => .cons (.int n) (repL_ints ns)
theorem DOk.d12 {S : DS} {H : Hp} (d : DOk W S H) : W.st ≠ W.l1 := fun z => by
  have h := d.st
  rw [z, d.l1] at h
  cases h
theorem DOk.d13 {S : DS} {H : Hp} (d : DOk W S H) : W.st ≠ W.l2 := fun z => by
  have h := d.st
  rw [z, d.l2] at h
  cases h
theorem satP_cells : SatP K W E (tSt "cells") (gCells W) := fun H0 ρ S σ H Hf Q I p => by
  obtain ⟨h, q⟩ := gSt_inv p
  exact tSt_of I h kv_cells (q _ _ _ (Stp.refl I.fz) I.dok (.own I.dok.l2 (repL_ints _) (fun z => I.dok.d13 z.symm) (fun z => W.ne z.symm)))
theorem dp_ints {H : Hp} : ∀ ns : List Int, DpAll K H (ns.map V.int) (ns.map PyData.int)
  | [] => .nil
  | n :: ns => .cons (.int n) (dp_ints ns)
theorem lay_ints : ∀ ns : List Int, PyData.canLayAll0 (ns.map PyData.int) = true
  | [] => rfl
  | n :: ns => by
    rw [List.map_cons]
    unfold PyData.canLayAll0
    rw [lay_ints ns]
    rfl
theorem depth_ints : ∀ ns : List Int, PyData.depthAll (ns.map PyData.int) ≤ 1
  | [] => by simp [PyData.depthAll]
  | n :: ns => by
    have := depth_ints ns
    simp only [List.map_cons, PyData.depthAll, PyData.depth]
    omega
theorem shaped_ints (ns : List Int) : SeqAt.shaped (.list (ns.map PyData.int)) = true := by
  unfold SeqAt.shaped
  have := depth_ints ns
  rw [Bool.and_eq_true, decide_eq_true_eq]
  refine ⟨?_, ?_⟩
  · unfold PyData.canLay0
    exact lay_ints ns
  · simp only [PyData.depth]
    omega
theorem sat_more : Sat K W E (tOp (rCmp K .ne) (tSt "large") (tLst tNil)) gMore := fun H0 ρ S σ H Hf Q I p => by
  obtain ⟨h, q⟩ := gSt_inv p
  refine tSt_of I h kv_large ⟨Nat.zero_le _, fun a ha => ?_⟩
  have st := Stp.newO (o := .lst []) I.fz ha
  have d := I.dok.new (o := .lst []) ha
  refine ⟨.list (S.large.map PyData.int), .list [], .lst (SqL.of d.l1) (dp_ints _), .lst (SqL.of upd_same) .nil, shaped_ints _, by decide +kernel, ?_⟩
  have e1 : (!PyData.eqv (.list (S.large.map PyData.int)) (.list [])) = !S.large.isEmpty := by
    cases S.large with
    | nil => rfl
    | cons x r => rfl
  rw [e1]
  exact q _ _ _ st d (.bl _)
/-- the state, or its list, is changed -/
theorem StOk.mutW {S' : DS} {b : Addr} {o : HO} (I : StOk K W H0 ρ S σ H Hf) (hb : b = W.st ∨ b = W.l1) (d : DOk W S' (upd H b o)) : StOk K W H0 ρ S' σ (upd H b o) Hf := by
  have n0 : H0 b ≠ none := hb.elim (fun z => z ▸ I.n1) fun z => z ▸ I.n2
  have nf : Hf b = none := hb.elim (fun z => z ▸ I.fz.st) fun z => z ▸ I.fz.l1
  have hne : ∀ a, H0 a = none → a ≠ b := fun a h z => n0 (by rw [← z]; exact h)
  refine ⟨⟨fun a o h n1 n2 n3 => ?_, fun a h => ?_⟩, I.fz.mut nf, d, I.n1, I.n2, I.n3, I.len, fun i s o h1 h2 => ?_, I.ap⟩
  · rw [upd_ne (by rcases hb with rfl | rfl <;> assumption)]
    exact I.kp.keep a o h n1 n2 n3
  · by_cases z : a = b
    · subst z; rw [upd_same] at h; cases h
    · rw [upd_ne z] at h; exact I.kp.back a h
  · have q := I.sl i s o h1 h2
    cases q with
    | no _ => exact .no _
    | val r => exact .val r
    | own h r hf0 h00 => exact .own (by rw [upd_ne (hne _ h00)]; exact h) r hf0 h00
    | slf h r hf0 h00 hx => exact .slf (by rw [upd_ne (hne _ h00)]; exact h) r hf0 h00 hx
theorem stp_mutW {b : Addr} {o : HO} (f : Fz W Hf H) (hb : b = W.st ∨ b = W.l1) (nH : H b ≠ none) : Stp W H Hf (upd H b o) Hf := by
  have nf : Hf b = none := hb.elim (fun z => z ▸ f.st) fun z => z ▸ f.l1
  refine ⟨⟨fun a o h n1 n2 n3 => ?_, fun a h => ?_⟩, Le.refl Hf, f.mut nf, fun _ z => .inl z⟩
  · rw [upd_ne (by rcases hb with rfl | rfl <;> assumption)]
    exact h
  · by_cases z : a = b
    · subst z; rw [upd_same] at h; cases h
    · rw [upd_ne z] at h; exact h
theorem tabs_mut {T : List (Addr × Str)} {b : Addr} {o u : HO} (h : H b = some u) (h1 : ∀ ps, u ≠ .tbl ps) (h2 : ∀ q, u ≠ LamX.CodeO b q) (t : LamX.Tabs T H) : LamX.Tabs T (upd H b o) := fun p hp => by
  obtain ⟨ps, a1, a2, a3⟩ := t p hp
  refine ⟨ps, ?_, a2, fun pz cv hcv => ?_⟩
  · rw [upd_ne (fun z => by rw [z, h] at a1; exact h1 _ (Option.some.inj a1))]
    exact a1
  · obtain ⟨c0, e1, e2⟩ := a3 pz cv hcv
    refine ⟨c0, e1, ?_⟩
    by_cases z : c0 = b
    · subst z
      rw [h] at e2
      exact absurd (Option.some.inj e2) (h2 _)
    · rw [upd_ne z]
      exact e2
theorem DOk.mut1 {xs : List Int} (d : DOk W S H) : DOk W { S with large := xs } (upd H W.l1 (.lst (xs.map V.int))) :=
  ⟨by rw [upd_ne d.d12]; exact d.st, upd_same, by rw [upd_ne (fun z => W.ne z.symm)]; exact d.l2, tabs_mut d.l1 (fun ps z => by cases z) (fun q z => by unfold LamX.CodeO at z; cases z) d.tabs⟩
theorem DOk.mutS {S' : DS} (d : DOk W S H) (h : S'.large = S.large) : DOk W S' (upd H W.st (.dK (stKvs W S'))) :=
  ⟨upd_same, by rw [upd_ne d.d12.symm, h]; exact d.l1, by rw [upd_ne d.d13.symm]; exact d.l2, tabs_mut d.st (fun ps z => by cases z) (fun q z => by unfold LamX.CodeO at z; cases z) d.tabs⟩
theorem sat_pop : Sat K W E (tBM K "list" rPopAt (tSt "large") (tCons (tC (.int 0)) tNil)) gPop := fun H0 ρ S σ H Hf Q I p => by
  have p : PostG K W E (RE K W) H Hf (if isSt ρ = true then (match S.large with
    | x :: r => some (.ok (.int x), { S with large := r })
    | [] => none) else none) Q := p
  cases h : isSt ρ with
  | false => rw [h, if_neg (by decide)] at p; exact False.elim p
  | true =>
    rw [h, if_pos rfl] at p
    cases hl : S.large with
    | nil => rw [hl] at p; exact False.elim p
    | cons x r =>
      rw [hl] at p
      have d := I.dok
      have hl1 := d.l1
      rw [hl] at hl1
      refine tSt_of I h kv_large ⟨.inl ⟨rfl, _, SqL.of d.l1⟩, W.l1, (x :: r).map V.int, 0, 0, .int x, rfl, rfl, hl1, by decide, by decide, ?_, rfl, ?_⟩
      · rw [List.length_map, List.length_cons]
        unfold seqIndex?
        simp
      · have e1 : (((x :: r).map V.int).eraseIdx 0) = r.map V.int := rfl
        rw [e1]
        exact p _ _ _ (stp_mutW I.fz (.inr rfl) d.n2) d.mut1 (.int x)
theorem satS_putLeft {t : TE} {m : Rho → M D} (h : Sat K W E t m) : SatS K W E (sDPut (tVar 0) (tC (.str (Str.ofString "left"))) t) (fun ρ => bnd (m ρ) fun d => putLeft d ρ) := fun H0 ρ S σ H Hf D I p => by
  refine h H0 ρ S σ H Hf _ I ((p.bind I.kp).mono fun x H1 ⟨d, S1, Hf1, _, s1, k1, r1, p1⟩ => ?_)
  have I1 := I.step s1 k1
  unfold putLeft at p1
  cases h : isSt ρ with
  | false => rw [h, if_neg (by decide)] at p1; exact False.elim p1
  | true =>
    rw [h, if_pos rfl] at p1
    cases r1 with
    | int i =>
      refine ⟨_, I1.st0 h, W.st, _, rfl, .inl ⟨stKvs W S1, .inr (Str.ofString "left"), k1.st, rfl, Nat.lt_of_lt_of_le (show 4 < 10000000 by decide) len_le, rfl⟩, ?_⟩
      rw [put_left]
      exact p1 _ _ _ (Lw.refl _ _) (I1.mutW (.inl rfl) (k1.mutS rfl))
    | _ => exact False.elim p1
theorem satS_putTurn {t : TE} {m : Rho → M D} (h : Sat K W E t m) : SatS K W E (sDPut (tVar 0) (tC (.str (Str.ofString "turn"))) t) (fun ρ => bnd (m ρ) fun d => putTurn d ρ) := fun H0 ρ S σ H Hf D I p => by
  refine h H0 ρ S σ H Hf _ I ((p.bind I.kp).mono fun x H1 ⟨d, S1, Hf1, _, s1, k1, r1, p1⟩ => ?_)
  have I1 := I.step s1 k1
  unfold putTurn at p1
  cases h : isSt ρ with
  | false => rw [h, if_neg (by decide)] at p1; exact False.elim p1
  | true =>
    rw [h, if_pos rfl] at p1
    cases r1 with
    | int i =>
      have p1 : PostS K W E H0 Hf1 D (if 0 ≤ i then some (.ok (.nx, ρ), { S1 with turn := i.toNat }) else none) := p1
      by_cases h0 : 0 ≤ i
      · rw [if_pos h0] at p1
        refine ⟨_, I1.st0 h, W.st, _, rfl, .inl ⟨stKvs W S1, .inr (Str.ofString "turn"), k1.st, rfl, Nat.lt_of_lt_of_le (show 4 < 10000000 by decide) len_le, rfl⟩, ?_⟩
        rw [put_turn h0]
        exact p1 _ _ _ (Lw.refl _ _) (I1.mutW (.inl rfl) (k1.mutS rfl))
      · rw [if_neg h0] at p1
        exact False.elim p1
    | _ => exact False.elim p1
end
end Oi

/-! Oi, part S: the def that draws. -/
namespace Oi
open PySem PySem.Spec PyProof.Rows L2

/-! ### its text -/
def eI (i : Int) (p : Pos) : Expr := .Constant (.int i) 0 p
def eS (s : Str) (k : String) (p : Nat → Pos) (i : Nat) : Expr := .Subscript (.Name s (p i)) (.Constant (.str (Str.ofString k)) 0 (p (i + 1))) (p (i + 2))
def drW (s : Str) (p : Nat → Pos) : Stmt := .While (.BoolOp .And [.Compare (eS s "left" p 0) [.Eq] [eI 0 (p 3)] (p 4), .Compare (eS s "large" p 5) [.NotEq] [.List [] (p 8)] (p 9)] (p 10))
  [.Assign [eS s "left" p 11] (.Call (.Attribute (eS s "large" p 14) (Str.ofString "pop") (p 17)) [eI 0 (p 18)] [] (p 19)) (p 20)] [] (p 21)
def drI (s n f : Str) (p : Nat → Pos) : Stmt := .If (.Compare (eS s "left" p 22) [.Gt] [eI 0 (p 25)] (p 26))
  [.Assign [.Name f (p 27)] (.BinOp (.Call (.Name (Str.ofString Bf.int.name) (p 28)) [eS s "left" p 29] [] (p 32)) .Mod (.Name n (p 33)) (p 34)) (p 35),
   .Assign [eS s "left" p 36] (.BinOp (eS s "left" p 39) .FloorDiv (.Name n (p 42)) (p 43)) (p 44), .Return (some (.Name f (p 45))) (p 46)] [] (p 47)
def drT (s t : Str) (p : Nat → Pos) : Stmt := .Assign [.Name t (p 48)] (.BinOp (eS s "turn" p 49) .Add (eI 1 (p 52)) (p 53)) (p 54)
def drU (s t : Str) (p : Nat → Pos) : Stmt := .Assign [eS s "turn" p 55] (.Name t (p 58)) (p 59)
def drC (s t c : Str) (p : Nat → Pos) : Stmt := .Assign [.Name c (p 60)] (.IfExp (.Compare (eS s "cells" p 61) [.NotEq] [.List [] (p 64)] (p 65))
  (.Subscript (eS s "cells" p 66) (.BinOp (.Call (.Name (Str.ofString Bf.int.name) (p 69)) [.Name t (p 70)] [] (p 71)) .Mod (.Call (.Name (Str.ofString Bf.len.name) (p 72)) [eS s "cells" p 73] [] (p 76)) (p 77)) (p 78)) (eI 0 (p 79)) (p 80)) (p 81)
/-- state, size, found, turn, cell -/
def drBody (s n f t c : Str) (p : Nat → Pos) (r : List Stmt) : List Stmt := drW s p :: drI s n f p :: drT s t p :: drU s t p :: drC s t c p :: r

/-! ### its meaning -/
def condM (ρ : Rho) : M Bool := bnd (tst (bnd (gLeft ρ) fun x => bnd (ret (.int 0)) fun y => lft (cmpB .eq x y))) fun c => iteM c (tst (gMore ρ)) (ret false)
def popM (ρ : Rho) : M (Fl × Rho) := bnd (gPop ρ) fun d => putLeft d ρ
noncomputable def m1 (ρ : Rho) : M (Fl × Rho) := whlM condM popM ρ
def posM (ρ : Rho) : M Bool := tst (bnd (gLeft ρ) fun x => bnd (ret (.int 0)) fun y => lft (cmpB .gt x y))
def modM (ρ : Rho) : M D := bnd (bnd (bnd (gLeft ρ) fun x => bnd (ret []) fun xs => ret (x :: xs)) fun xs => lft (intiD xs)) fun x => bnd (lft (nmD ρ 1)) fun y => lft (binD .mod x y)
def setM (i : Nat) (m : Rho → M D) (ρ : Rho) : M (Fl × Rho) := bnd (m ρ) fun d => bnd (lft (setR ρ i (.val d))) fun ρ => ret (.nx, ρ)
def divM (ρ : Rho) : M D := bnd (gLeft ρ) fun x => bnd (lft (nmD ρ 1)) fun y => lft (binD .fdiv x y)
def retM (i : Nat) (ρ : Rho) : M (Fl × Rho) := bnd (lft (nmD ρ i)) fun d => ret (.rt d, ρ)
def m2 (ρ : Rho) : M (Fl × Rho) := bnd (posM ρ) fun k => iteM k (seqM (setM 2 modM ρ) fun ρ => seqM (bnd (divM ρ) fun d => putLeft d ρ) fun ρ => retM 2 ρ) (ret (.nx, ρ))
def m3 (ρ : Rho) : M (Fl × Rho) := setM 3 (fun ρ => bnd (gTurn ρ) fun x => bnd (ret (.int 1)) fun y => lft (binD .add x y)) ρ
def m4 (ρ : Rho) : M (Fl × Rho) := bnd (lft (nmD ρ 3)) fun d => putTurn d ρ
def emptyM (W : Wd) (ρ : Rho) : M Bool := tst (bnd (gCells W ρ) fun x => bnd (bnd (ret []) fun ds => ret (.lst ds)) fun y => lft (cmpB .ne x y))
def idxM (W : Wd) (ρ : Rho) : M D := bnd (bnd (bnd (lft (nmD ρ 3)) fun x => bnd (ret []) fun xs => ret (x :: xs)) fun xs => lft (intiD xs)) fun x =>
  bnd (bnd (bnd (gCells W ρ) fun x => bnd (ret []) fun xs => ret (x :: xs)) fun xs => lft (lenD xs)) fun y => lft (binD .mod x y)
def cellM (W : Wd) (ρ : Rho) : M D := bnd (emptyM W ρ) fun k => iteM k (bnd (gCells W ρ) fun x => bnd (idxM W ρ) fun y => lft (ixD x y)) (ret (.int 0))
def m5 (W : Wd) (ρ : Rho) : M (Fl × Rho) := setM 4 (cellM W) ρ
noncomputable def drawS (W : Wd) (r : Rho → M (Fl × Rho)) (ρ : Rho) : M (Fl × Rho) := seqM (m1 ρ) fun ρ => seqM (m2 ρ) fun ρ => seqM (m3 ρ) fun ρ => seqM (m4 ρ) fun ρ => seqM (m5 W ρ) r

/-! ### its reading -/
section
variable {K : PySem.W.Frag} {W : Wd} {E : XK} {H0 : En} {ρ : Rho} {S : DS} {σ : L2.St} {H Hf : Hp}
theorem satP_cons2 {ta : TE} {tr : TA} {m : Rho → M D} {mr : Rho → M (List D)} (ha : SatP K W E ta m) (hr : SatAP K W E tr mr) :
    SatAP K W E (tCons ta tr) (fun ρ => bnd (m ρ) fun x => bnd (mr ρ) fun xs => ret (x :: xs)) := fun H0 ρ S σ H Hf Q I p => by
  refine ha H0 ρ S σ H Hf _ I (p.bind.mono fun x H1 ⟨d, S1, Hf1, _, s1, k1, r1, p1⟩ => ?_)
  refine hr H0 ρ S1 σ H1 Hf1 _ (I.step s1 k1) (p1.bind.mono fun y H2 ⟨e, S2, Hf2, _, s2, k2, r2, p2⟩ => ?_)
  exact p2 _ _ _ (Stp.refl s2.fz) k2 (.cons (r1.step s2) r2)
theorem satP_weak {t : TE} {m : Rho → M D} (h : Sat K W E t m) : SatP K W E t m := h.toP
theorem sat_i (i : Int) : Sat K W E (tC (.int i)) (fun _ => ret (.int i)) := sat_c fun _ => .int i
def tdW (K : PySem.W.Frag) : TS := tWhile (tAnd (tTest (tOp (rCmp K .eq) (tSt "left") (tC (.int 0)))) (tTest (tOp (rCmp K .ne) (tSt "large") (tLst tNil))))
  (sDPut (tVar 0) (tC (.str (Str.ofString "left"))) (tBM K "list" rPopAt (tSt "large") (tCons (tC (.int 0)) tNil)))
def tInt (K : PySem.W.Frag) (t : TE) : TE := tCB (rBf K .int) (tCons t tNil)
def tdI (K : PySem.W.Frag) : TS := tIfS (tTest (tOp (rCmp K .gt) (tSt "left") (tC (.int 0)))) (tSeq (tAsg (tOp (rBin K .mod) (tInt K (tSt "left")) (tVar 1)) (gName 2))
  (tSeq (sDPut (tVar 0) (tC (.str (Str.ofString "left"))) (tOp (rBin K .fdiv) (tSt "left") (tVar 1))) (tRet (tVar 2)))) tNext
def tdT (K : PySem.W.Frag) : TS := tAsg (tOp (rBin K .add) (tSt "turn") (tC (.int 1))) (gName 3)
def tdU : TS := sDPut (tVar 0) (tC (.str (Str.ofString "turn"))) (tVar 3)
def tdC (K : PySem.W.Frag) : TS := tAsg (tIf (tTest (tOp (rCmp K .ne) (tSt "cells") (tLst tNil))) (tOp (rIxA K) (tSt "cells") (tOp (rBin K .mod) (tInt K (tVar 3)) (tCB (rBf K .len) (tCons (tSt "cells") tNil)))) (tC (.int 0))) (gName 4)
theorem sat_tdW : SatS K W E (tdW K) m1 :=
  satS_while (satT_and (sat_test (sat_op (ops_cmp .eq) sat_left.toP (sat_i 0).toP)) (sat_test sat_more)) (satS_putLeft sat_pop)
theorem sat_tdI : SatS K W E (tdI K) m2 :=
  satS_if (sat_test (sat_op (ops_cmp .gt) sat_left.toP (sat_i 0).toP))
    (satS_seq (satS_set (sat_op (ops_bin .mod) (sat_call (cals_bf .int) (satP_cons2 sat_left.toP satP_nil)).toP sat_var.toP))
      (satS_seq (satS_putLeft (sat_op (ops_bin .fdiv) sat_left.toP sat_var.toP)) (satS_ret sat_var))) satS_next
theorem sat_tdT : SatS K W E (tdT K) m3 := satS_set (sat_op (ops_bin .add) sat_turn.toP (sat_i 1).toP)
theorem sat_tdU : SatS K W E tdU m4 := satS_putTurn sat_var
theorem sat_tdC : SatS K W E (tdC K) (m5 W) :=
  satS_set (sat_ite (sat_test (sat_op (ops_cmp .ne) satP_cells (sat_lst sat_nil fun ρ S ds S' h => by cases h; exact Nat.zero_le _).toP))
    (sat_op ops_ix satP_cells (sat_op (ops_bin .mod) (sat_call (cals_bf .int) (satP_cons2 sat_var.toP satP_nil)).toP (sat_call (cals_bf .len) (satP_cons2 satP_cells satP_nil)).toP).toP) (sat_i 0))
theorem sat_draw {u : TS} {r : Rho → M (Fl × Rho)} (h : SatS K W E u r) : SatS K W E (tSeq (tdW K) (tSeq (tdI K) (tSeq (tdT K) (tSeq tdU (tSeq (tdC K) u))))) (drawS W r) :=
  satS_seq sat_tdW (satS_seq sat_tdI (satS_seq sat_tdT (satS_seq sat_tdU (satS_seq sat_tdC h))))
end
section
variable {X : Cx} {K : PySem.W.Frag} {W : Wd} {E : XK} {G : Gm} {k : Nat} {c : Ck}
def drOk (c : Ck) (s n f t l : Str) (p : Nat → Pos) : Bool := visB c 0 s && visB c 1 n && visB c 2 f && visB c 3 t && locB c 2 f && locB c 3 t && locB c 4 l && blB c (Str.ofString Bf.int.name) Bf.int.name && blB c (Str.ofString Bf.len.name) Bf.len.name && ((p 17).endLine == (p 19).line)
theorem pe_eS (x : XOkS X K W E G k c) {s : Str} (h : visB c 0 s = true) {ky : String} {p : Nat → Pos} {i : Nat} : PE X (eS s ky p i) (tSt ky) := by
  obtain ⟨v1, v2, v3, v4⟩ := x.toXOk.vis h
  exact pe_dget (by have := x.u; omega) (pe_var v1 v2 v3 v4) pe_str (fun _ _ => rfl)
theorem pe_in (x : XOkS X K W E G k c) {f : Bf} {e : Expr} {t : TE} {p q : Pos} (hb : blB c (Str.ofString f.name) f.name = true) (hf : needG f = false) (he : PE X e t) (hp : plainE e = true) : PE X (.Call (.Name (Str.ofString f.name) p) [e] [] q) (tCB (rBf K f) (tCons t tNil)) := by
  obtain ⟨g1, g2, g3, g4⟩ := x.toXOk.bltn hb
  rw [← x.eK]
  exact pe_bf f x.u x.calm (fun z => by rw [hf] at z; cases z) g2 g3 (pa_cons he pa_nil (star1 hp)) (by simp [hp]) g4
theorem pss_draw (x : XOkS X K W E G k c) {s n f t l : Str} {p : Nat → Pos} {r : List Stmt} {u : TS} (h : drOk c s n f t l p = true) (hr : PSs X r u) :
    PSs X (drBody s n f t l p r) (tSeq (tdW K) (tSeq (tdI K) (tSeq (tdT K) (tSeq tdU (tSeq (tdC K) u))))) := by
  unfold drOk at h
  simp only [Bool.and_eq_true] at h
  obtain ⟨⟨⟨⟨⟨⟨⟨⟨⟨h0, h1⟩, h2⟩, h3⟩, l2⟩, l3⟩, l4⟩, b1⟩, b2⟩, hp⟩ := h
  obtain ⟨v1, v2, v3, v4⟩ := x.toXOk.vis h0
  obtain ⟨n1, n2, n3, n4⟩ := x.toXOk.vis h1
  obtain ⟨f1, f2, f3, f4⟩ := x.toXOk.vis h2
  obtain ⟨t1, t2, t3, t4⟩ := x.toXOk.vis h3
  obtain ⟨a1, a2⟩ := x.toXOk.loc l2
  obtain ⟨c1, c2⟩ := x.toXOk.loc l3
  obtain ⟨d1, d2⟩ := x.toXOk.loc l4
  have hu : X.A.units + 65 < cLine := by have := x.u; omega
  have hu1 : X.A.units + 1 < cLine := by omega
  have oc : ∀ o, OpR X (compareOp (cOp o)) (rCmp K o) := fun o => by
    have := op_cmp (X := X) hu o
    rwa [x.eK] at this
  have ob : ∀ o, OpR X (binaryOp (oper o)) (rBin K o) := fun o => by
    have := op_bin (X := X) o
    rwa [x.eK] at this
  have hix : ∀ {a b : Expr} {ta tb : TE} {pos : Pos}, PE X a ta → PE X b tb → PlainIx b → PE X (.Subscript a b pos) (tOp (rIxA K) ta tb) := fun {a b ta tb pos} p q r => by
    rw [← x.eK]
    exact pe_ix ix_A p q r
  refine pss_cons ?_ (pss_cons ?_ (pss_cons ?_ (pss_cons ?_ (pss_cons ?_ hr))))
  · refine ps_while x.own (pw_and (pt_cmpR (oc .eq) (pe_eS x h0) pe_int rfl) (pw_and1 (pt_cmpR (oc .ne) (pe_eS x h0) (pe_lst pa_nil) rfl))).pt (pss_one ?_)
    refine ps_dput hu1 (pe_var v1 v2 v3 v4) pe_str ?_ (noSwap rfl _ _)
    rw [← x.eK]
    exact pe_bm (X := X) (apos := p 17) (cpos := p 19) PySem.F.plainAttrs_list PySem.F.slot_list_pop PySem.F.type_list_pop mt_popAt (pe_eS x h0) (pa_cons pe_int pa_nil) rfl rfl hp
  · refine ps_if (pt_cmpR (oc .gt) (pe_eS x h0) pe_int rfl) (pss_cons ?_ (pss_cons ?_ (pss_one (ps_ret (pe_var f1 f2 f3 f4))))) pss_nil
    · exact ps_set x.nd a1 a2 (pe_op (ob .mod) (pe_in (f := .int) x b1 rfl (pe_eS x h0) rfl) (pe_var n1 n2 n3 n4)) (noSwap rfl _ _) (.inl (x.fnT f))
    · exact ps_dput hu1 (pe_var v1 v2 v3 v4) pe_str (pe_op (ob .fdiv) (pe_eS x h0) (pe_var n1 n2 n3 n4)) (noSwap rfl _ _)
  · exact ps_set x.nd c1 c2 (pe_op (ob .add) (pe_eS x h0) pe_int) (noSwap rfl _ _) (.inl (x.fnT t))
  · exact ps_dput hu1 (pe_var v1 v2 v3 v4) pe_str (pe_var t1 t2 t3 t4) (noSwap rfl _ _)
  · refine ps_set x.nd d1 d2 (pe_ifExp (pt_cmpR (oc .ne) (pe_eS x h0) (pe_lst pa_nil) rfl) (hix (pe_eS x h0) (pe_op (ob .mod) (pe_in (f := .int) x b1 rfl (pe_var t1 t2 t3 t4) rfl) (pe_in (f := .len) x b2 rfl (pe_eS x h0) rfl)) (fun _ _ => rfl)) pe_int) (noSwap rfl _ _) (.inl (x.fnT l))
end
end Oi

/-! Oi, part T: the promise of the def that draws; what it tells. -/
namespace Oi
open PySem PySem.Spec PyProof.Rows L2

def tbD : Tb := ⟨["int", "len"], [], [], [], [], [], [], [], [], [], []⟩
def gmD : Gm := { tbD with ft := fun _ _ => stk }
/-- the two last statements -/
def drMix : I := .bin .mod (.bi .int (.cons (.bin .pow (.bin .add (.bin .add (.bin .mod (.bi .int (.cons (.nm 4) .nil)) (.kI 2147483563)) (.bin .mul (.kI 40692) (.nm 3))) (.kI 24681)) (.kI 3)) .nil)) (.kI 2147483629)
def drEnd : I := .bin .mod (.bi .int (.cons (.bin .fdiv (.bin .mod (.bi .int (.cons (.bin .pow (.bin .add (.nm 5) (.bin .mul (.kI 104917) (.nm 3))) (.kI 5)) .nil)) (.kI 2147483579)) (.kI 29)) .nil)) (.nm 1)
def drRest : Sm := .seq (.set 5 drMix) (.seq (.rt drEnd) .nil)
noncomputable def drawM (W : Wd) (ds : List D) : M D := iteM (decide (ds.length = 2)) (bnd (drawS W (fun ρ => exec gmD drRest ρ) (ds.map Sl.val ++ List.replicate 4 Sl.no)) resM) stk
section
variable {P : Program} {w : World} {K : PySem.W.Frag} {W : Wd} {E : XK} {mg : Str → Option Value} {base : Heap}
theorem run_bodyM {m : Rho → M (Fl × Rho)} {np ns : Nat} {vs : List V} {ds : List D} {S : DS} {H Hf : Hp} {Q : VK} {t : TS} {N : List Str} (ht : SatS K W E t m) (hN : N.length = ns) (hp : np ≤ ns) (hl : ds.length = np) (r : RepL K W Hf vs ds) (f : Fz W Hf H) (k : DOk W S H)
    (p : PostG K W E (RE K W) H Hf (bnd (m (ds.map Sl.val ++ List.replicate (ns - np) Sl.no)) resM S) Q) : t { nx := fun _ H' => Q .non H', rt := Q } (L2.start N vs) H := by
  have I := stOk_start (a := 0) (n := ns) r f k (by omega)
  have e1 : L2.start N vs = vs.map some ++ List.replicate (ns - vs.length) none := by
    unfold L2.start
    rw [hN]
  rw [e1]
  rw [hl] at I
  refine ht ⟨H, 0⟩ _ S _ H Hf _ I ?_
  unfold bnd at p
  cases e : m (ds.map Sl.val ++ List.replicate (ns - np) Sl.no) S with
  | none => rw [e] at p; exact p
  | some q =>
    obtain ⟨q, S'⟩ := q
    rw [e] at p
    cases q with
    | ex c fs => exact p
    | ok z =>
      obtain ⟨fl, ρ'⟩ := z
      cases fl with
      | nx => exact fun σ H' Hf' l J => p _ _ _ ⟨J.kp, l.le, J.fz, l.nw⟩ J.dok .non
      | rt d => exact fun v H' Hf' l kp fz dk rv => p _ _ _ ⟨kp, l.le, fz, l.nw⟩ dk rv
      | bk => exact False.elim p
      | ct => exact False.elim p
theorem gok_D : GOk K tbD := ⟨fun _ h => (by cases h), fun _ h => (by cases h), fun _ h => (by cases h), fun c h => rfl, fun c t b h => (by cases h)⟩
theorem fnP_draw {x qual s n f t l mi : Str} {params : Arguments} {sc : Scope} {p : Nat → Pos} {r : List Stmt} {fa : Addr} {fd : FuncData} (gr : Bool) (F : FunD K x qual params (drBody s n f t l p r) sc [] [] fa fd) (S : FnScope [s, n, f, t, l, mi] [s, n] sc)
    (hm1 : mg (Str.ofString "int") = none) (hm2 : mg (Str.ofString "len") = none) (h1 : drOk ⟨tbD, [s, n, f, t, l, mi], sc, none, false, false⟩ s n f t l p = true) (h2 : (chS drRest).L ⟨tbD, [s, n, f, t, l, mi], sc, none, false, false⟩ r = true) :
    FnP gr P w K mg base 4 fa fd [s, n] (spD K W (drawM W)) := by
  refine FnP.less (gr := false) (FnP.mono (k := 3 + 1) (fnP_of F S (fun vs H Q E ⟨ds, S', Hf, rr, _, _, pp⟩ => ?_) fun cdv A out s' H vs Q E _ hr _ ⟨ds, S', Hf, rr, ff, kk, pp⟩ => ?_) (Nat.le_refl _)) (fun z => by cases z)
  · have h1 := (iteM_post pp).1
    rw [rr.length, of_decide_eq_true h1]
    rfl
  · obtain ⟨e1, pp⟩ := iteM_post pp
    obtain ⟨u, q1, q2⟩ := (rs_all (K := K) (W := W) (G := gmD) (k := 2) gok_D drRest).l _ E _ h2
    have x : XOkS (cxOf (L2.CX P w) P w K mg base [s, n, f, t, l, mi] qual sc fa cdv A out s' H E) K W E gmD 2 ⟨tbD, [s, n, f, t, l, mi], sc, none, false, false⟩ :=
      { eK := rfl, eG := rfl, nN := rfl, sc := rfl, nd := S.nd, calm := rfl, room := hr, gd := fun z => (by cases z), tk := takes_of rfl rfl rfl rfl, st := fun x => rfl,
        bl := fun x hx => by
          rcases List.mem_cons.mp hx with z | z
          · rw [z]; exact hm1
          · rcases List.mem_cons.mp z with z | z
            · rw [z]; exact hm2
            · cases z
        cl := fun t ht => by cases ht
        fn := fun p hp => by cases hp
        cs := fun p hp => by cases hp
        lm := fun z => by cases z
        own := passes_of rfl
        bk := by
          show (if sc.kind.isAnnotationScope then ScopeKind.function else sc.kind) = .function
          rw [S.kind]
          rfl
        top := rfl
        rs := fun n hn => by cases hn }
    exact ⟨_, pss_draw x h1 (q1 _ x), run_bodyM (np := 2) (ns := 6) (sat_draw q2) rfl (by decide) (of_decide_eq_true e1) rr ff kk pp⟩
end

/-! ### what it tells -/
theorem okPy_int (i : Int) : okPy (.int i) = some (.int i) := by
  unfold okPy
  rfl
def popL : List Int → Int → List Int × Int
  | [], l => ([], l)
  | x :: r, l => if l = 0 then popL r x else (x :: r, l)
section
variable {ρ : Rho} {S : DS}
theorem gSt_eq {f : DS → D} (h : isSt ρ = true) : gSt f ρ S = some (.ok (f S), S) := by
  unfold gSt
  rw [if_pos h]
theorem eqv_int (i j : Int) : PyData.eqv (.int i) (.int j) = decide (i = j) := by
  first
    | rfl
    | simp [PyData.eqv]
theorem bnd_at {α β : Type} {m : M α} {g : α → M β} {S S' : DS} {a : α} (h : m S = some (.ok a, S')) : bnd m g S = g a S' := by
  unfold bnd
  rw [h]
theorem condM_eq (h : isSt ρ = true) : condM ρ S = some (.ok (decide (S.left = 0) && !S.large.isEmpty), S) := by
  unfold condM tst gLeft gMore
  simp only [bnd_bnd]
  rw [bnd_at (gSt_eq h)]
  simp only [bnd_ret]
  have e1 : cmpB .eq (.int S.left) (.int 0) = some (.bl (decide (S.left = 0))) := by
    unfold cmpB cmpD eqD
    rw [okPy_int, okPy_int]
    simp only [Option.map_some, eqv_int]
  rw [e1]
  simp only [lft_some, bnd_ret, truD]
  cases decide (S.left = 0) with
  | false => rfl
  | true =>
    simp only [iteM]
    rw [bnd_at (gSt_eq h)]
    rfl
theorem m1_eq (h : isSt ρ = true) : m1 ρ S = some (.ok (.nx, ρ), { S with large := (popL S.large S.left).1, left := (popL S.large S.left).2 }) := by
  refine whlM_of (n := S.large.length + 1) ?_
  obtain ⟨lg, lf, tn⟩ := S
  induction lg generalizing lf with
  | nil =>
    unfold whlN
    rw [bnd_at (condM_eq h)]
    simp [iteM, popL, ret]
  | cons x r ih =>
    unfold whlN
    rw [bnd_at (condM_eq h)]
    by_cases z : lf = 0
    · subst z
      have e1 : popM ρ ⟨x :: r, 0, tn⟩ = some (.ok (.nx, ρ), ⟨r, x, tn⟩) := by
        unfold popM
        have : gPop ρ ⟨x :: r, 0, tn⟩ = some (.ok (.int x), ⟨r, 0, tn⟩) := by
          unfold gPop
          rw [if_pos h]
        rw [bnd_at this]
        unfold putLeft
        rw [if_pos h]
      have := ih x
      simp only [iteM, decide_true, List.isEmpty_cons, Bool.not_false, Bool.and_self]
      rw [bnd_at e1]
      simp only [popL, if_true]
      exact this
    · have e2 : (decide (lf = 0)) = false := decide_eq_false z
      simp [iteM, popL, z, ret]
end
end Oi

/-! Oi, part U: what a draw tells. -/
namespace Oi
open PySem PySem.Spec PyProof.Rows L2

section
variable {G : Gm} {ρ : Rho} {a b : I}
theorem ev_bin {op : BOp} {x y z : D} (ha : ev G a ρ = ret x) (hb : ev G b ρ = ret y) (h : binD op x y = some z) : ev G (.bin op a b) ρ = ret z := by
  rw [ev, ha, bnd_ret, hb, bnd_ret, h]
  rfl
theorem ev_kI {i : Int} : ev G (.kI i) ρ = ret (.int i) := by rw [ev]
theorem ev_nm {j : Nat} {d : D} (h : nmD ρ j = some d) : ev G (.nm j) ρ = ret d := by
  rw [ev, h]
  rfl
theorem ev_int1 {i : Int} (hp : pk ρ a = none) (ha : ev G a ρ = ret (.int i)) : ev G (.bi .int (.cons a .nil)) ρ = ret (.int i) := by
  rw [ev, evLP, evLP]
  unfold pe
  rw [hp, ha]
  rfl
end
theorem seqM_nx {ρ : Rho} {k : Rho → M (Fl × Rho)} : seqM (ret (.nx, ρ)) k = k ρ := rfl
theorem seqM_rt {ρ : Rho} {d : D} {k : Rho → M (Fl × Rho)} : seqM (ret (.rt d, ρ)) k = ret (.rt d, ρ) := rfl
theorem nat_pow64 {i : Int} (h : 0 ≤ i) (h2 : i < 18446744073709551616) : i.natAbs < 2 ^ 64 := by omega
theorem mixA_lt {c t : Int} (h0 : 0 ≤ t) (h1 : t ≤ 1099511627776) : 0 ≤ c % 2147483563 + 40692 * t + 24681 ∧ c % 2147483563 + 40692 * t + 24681 < 18446744073709551616 := by omega
theorem mixB_lt {c t : Int} (h0 : 0 ≤ t) (h1 : t ≤ 1099511627776) : 0 ≤ c % 2147483629 + 104917 * t ∧ c % 2147483629 + 104917 * t < 18446744073709551616 := by omega
theorem bin_pow {i j : Int} (h : 0 ≤ j ∧ j ≤ 1000000 ∧ i.natAbs < 2 ^ 64) : binD .pow (.int i) (.int j) = some (.int (i ^ j.toNat)) := if_pos h
theorem bin_mul {i j : Int} (h : -(2 ^ 64) < i ∧ i < 2 ^ 64) : binD .mul (.int i) (.int j) = some (.int (i * j)) := if_pos (.inl h)
theorem bin_mod {i j : Int} (h : 0 < j) : binD .mod (.int i) (.int j) = some (.int (i % j)) := if_pos h
theorem bin_div {i j : Int} (h : 0 < j ∧ j < 1073741824) : binD .fdiv (.int i) (.int j) = some (.int (i / j)) := if_pos h
theorem mod_lt' {i n : Int} (h : 0 < n) : 0 ≤ i % n ∧ i % n < n := ⟨Int.emod_nonneg _ (by omega), Int.emod_lt_of_pos _ h⟩
theorem rest_ok {c t n : Int} {S : DS} (hn : 0 < n) (h0 : 0 ≤ t) (h1 : t ≤ 1099511627776) : ∃ v ρ', exec gmD drRest [.val .st, .val (.int n), .no, .val (.int t), .val (.int c), .no] S = some (.ok (.rt (.int v), ρ'), S) ∧ 0 ≤ v ∧ v < n := by
  obtain ⟨a1, a2⟩ := mixA_lt (c := c) h0 h1
  obtain ⟨b1, b2⟩ := mixB_lt (c := (c % 2147483563 + 40692 * t + 24681) ^ (3 : Int).toNat) h0 h1
  have e6 : ev gmD drMix [.val .st, .val (.int n), .no, .val (.int t), .val (.int c), .no] = ret (.int ((c % 2147483563 + 40692 * t + 24681) ^ (3 : Int).toNat % 2147483629)) := by
    unfold drMix
    exact ev_bin (ev_int1 rfl (ev_bin (ev_bin (ev_bin (ev_bin (ev_int1 rfl (ev_nm rfl)) ev_kI (bin_mod (by decide))) (ev_bin ev_kI (ev_nm rfl) (bin_mul (by decide))) rfl) ev_kI rfl) ev_kI (bin_pow ⟨by decide, by decide, nat_pow64 a1 a2⟩))) ev_kI (bin_mod (by decide))
  generalize hm : (c % 2147483563 + 40692 * t + 24681) ^ (3 : Int).toNat % 2147483629 = m at e6 b1 b2
  have e7 : ev gmD drEnd [.val .st, .val (.int n), .no, .val (.int t), .val (.int c), .val (.int m)] = ret (.int ((m + 104917 * t) ^ (5 : Int).toNat % 2147483579 / 29 % n)) := by
    unfold drEnd
    exact ev_bin (ev_int1 rfl (ev_bin (ev_bin (ev_int1 rfl (ev_bin (ev_bin (ev_nm rfl) (ev_bin ev_kI (ev_nm rfl) (bin_mul (by decide))) rfl) ev_kI (bin_pow ⟨by decide, by decide, nat_pow64 b1 b2⟩))) ev_kI (bin_mod (by decide))) ev_kI (bin_div (by decide)))) (ev_nm rfl) (bin_mod hn)
  refine ⟨_, [.val .st, .val (.int n), .no, .val (.int t), .val (.int c), .val (.int m)], ?_, mod_lt' (i := (m + 104917 * t) ^ (5 : Int).toNat % 2147483579 / 29) hn⟩
  have s1 : exec gmD (.set 5 drMix) [.val .st, .val (.int n), .no, .val (.int t), .val (.int c), .no] = ret (.nx, [.val .st, .val (.int n), .no, .val (.int t), .val (.int c), .val (.int m)]) := by
    rw [exec, e6, bnd_ret]
    rfl
  have s2 : exec gmD (.seq (.rt drEnd) .nil) [.val .st, .val (.int n), .no, .val (.int t), .val (.int c), .val (.int m)] = ret (.rt (.int ((m + 104917 * t) ^ (5 : Int).toNat % 2147483579 / 29 % n)), [.val .st, .val (.int n), .no, .val (.int t), .val (.int c), .val (.int m)]) := by
    rw [exec, exec, e7, bnd_ret]
    rfl
  unfold drRest
  rw [exec, s1, seqM_nx, s2]
  rfl
theorem eqD_int (i j : Int) : eqD (.int i) (.int j) = some (decide (i = j)) := by
  unfold eqD
  rw [okPy_int, okPy_int]
  simp only [eqv_int]
theorem popL_ok : ∀ (ls : List Int) (l : Int), 0 ≤ l → (∀ x ∈ ls, 0 ≤ x) → 0 ≤ (popL ls l).2
  | [], l, h, _ => h
  | x :: r, l, h, hr => by
    unfold popL
    split
    · exact popL_ok r x (hr x List.mem_cons_self) fun y hy => hr y (List.mem_cons_of_mem _ hy)
    · exact h
theorem atI_eq {α : Type} {xs : List α} {i : Int} (h0 : 0 ≤ i) (h1 : i < xs.length) : L2.atI xs i = xs[i.toNat]? := by
  unfold L2.atI L2.ixN
  rw [if_pos h0, if_pos h1]
  rfl
theorem cell_ok {W : Wd} {n t : Int} {S : DS} (h0 : 0 ≤ t) : ∃ c, cellM W [.val .st, .val (.int n), .no, .val (.int t), .no, .no] S = some (.ok (.int c), S) := by
  have hs : isSt [.val .st, .val (.int n), .no, .val (.int t), .no, .no] = true := rfl
  have e1 : emptyM W [.val .st, .val (.int n), .no, .val (.int t), .no, .no] S = some (.ok (!W.cells.isEmpty), S) := by
    unfold emptyM tst gCells
    simp only [bnd_bnd, bnd_ret]
    rw [bnd_at (gSt_eq hs)]
    have e2 : cmpB .ne (.lst (W.cells.map D.int)) (.lst []) = some (.bl (!W.cells.isEmpty)) := by
      have e3 : D.toPys (W.cells.map D.int) = some (W.cells.map PyData.int) := by
        induction W.cells with
        | nil => rfl
        | cons x r ih => rw [List.map_cons, List.map_cons]; unfold D.toPys; rw [ih]; rfl
      have e4 : okPy (.lst (W.cells.map D.int)) = some (.list (W.cells.map PyData.int)) := by
        unfold okPy D.toPy
        rw [e3]
        simp only [Option.map_some]
        rw [if_pos (shaped_ints _)]
      have e5 : okPy (.lst []) = some (.list []) := rfl
      unfold cmpB cmpD eqD
      rw [e4, e5]
      cases W.cells with
      | nil => rfl
      | cons x r => rfl
    rw [e2]
    rfl
  unfold cellM
  rw [bnd_at e1]
  cases hc : W.cells with
  | nil => exact ⟨0, rfl⟩
  | cons x r =>
    simp only [List.isEmpty_cons, Bool.not_false, iteM]
    unfold gCells
    rw [bnd_at (gSt_eq hs)]
    have hl : (0 : Int) < ((x :: r).length : Nat) := by rw [List.length_cons]; omega
    have e6 : idxM W [.val .st, .val (.int n), .no, .val (.int t), .no, .no] S = some (.ok (.int (t % ((x :: r).length : Nat))), S) := by
      unfold idxM gCells
      have e8 : nmD [.val .st, .val (.int n), .no, .val (.int t), .no, .no] 3 = some (.int t) := rfl
      simp only [bnd_bnd, e8, lft_some, bnd_ret, intiD]
      rw [bnd_at (gSt_eq hs)]
      show bnd (lft (some (D.int ((W.cells.map D.int).length : Nat)))) _ S = _
      rw [lft_some, bnd_ret, List.length_map, hc, bin_mod hl]
      rfl
    rw [bnd_at e6, hc]
    obtain ⟨m1, m2⟩ := mod_lt' (i := t) hl
    have e7 : ∃ c, ixD (.lst ((x :: r).map D.int)) (.int (t % ((x :: r).length : Nat))) = some (.int c) := by
      have hk : (t % ((x :: r).length : Nat)).toNat < (x :: r).length := by omega
      refine ⟨(x :: r)[(t % ((x :: r).length : Nat)).toNat], ?_⟩
      show L2.atI ((x :: r).map D.int) (t % ((x :: r).length : Nat)) = _
      rw [atI_eq m1 (by rw [List.length_map]; exact m2), List.getElem?_map, List.getElem?_eq_getElem hk]
      rfl
    obtain ⟨c, e7⟩ := e7
    exact ⟨c, by rw [e7]; rfl⟩
theorem draw_ok {W : Wd} {n : Int} {S : DS} (hn : 0 < n) (hn2 : n < 1073741824) (ht : S.turn < 1099511627776) : ∃ v S', drawM W [.st, .int n] S = some (.ok (.int v), S') ∧ 0 ≤ v ∧ v < n ∧ S'.turn ≤ S.turn + 1 := by
  unfold drawM
  show ∃ v S', bnd (drawS W (fun ρ => exec gmD drRest ρ) [.val .st, .val (.int n), .no, .no, .no, .no]) resM S = some (.ok (.int v), S') ∧ 0 ≤ v ∧ v < n ∧ S'.turn ≤ S.turn + 1
  have hs : isSt [.val .st, .val (.int n), .no, .no, .no, .no] = true := rfl
  generalize hS1 : ({ S with large := (popL S.large S.left).1, left := (popL S.large S.left).2 } : DS) = S1
  have e1 : m1 [.val .st, .val (.int n), .no, .no, .no, .no] S = some (.ok (.nx, [.val .st, .val (.int n), .no, .no, .no, .no]), S1) := by rw [m1_eq hs, hS1]
  have hT : S1.turn = S.turn := by rw [← hS1]
  have e2 : posM [.val .st, .val (.int n), .no, .no, .no, .no] S1 = some (.ok (decide (0 < S1.left)), S1) := by
    unfold posM tst gLeft
    simp only [bnd_bnd, bnd_ret]
    rw [bnd_at (gSt_eq hs)]
    rfl
  unfold drawS
  rw [show bnd (seqM (m1 _) _) resM = bnd (m1 _) (fun r => bnd (match r with | (.nx, ρ) => seqM (m2 ρ) fun ρ => seqM (m3 ρ) fun ρ => seqM (m4 ρ) fun ρ => seqM (m5 W ρ) fun ρ => exec gmD drRest ρ | r => ret r) resM) from bnd_bnd _ _ _, bnd_at e1]
  by_cases hp : 0 < S1.left
  · obtain ⟨q1, q2⟩ := mod_lt' (i := S1.left) hn
    have e3 : modM [.val .st, .val (.int n), .no, .no, .no, .no] S1 = some (.ok (.int (S1.left % n)), S1) := by
      unfold modM gLeft
      have e8 : nmD [.val .st, .val (.int n), .no, .no, .no, .no] 1 = some (.int n) := rfl
      simp only [bnd_bnd, e8, lft_some, bnd_ret]
      rw [bnd_at (gSt_eq hs)]
      simp only [intiD, lft_some, bnd_ret, bin_mod hn]
      rfl
    have e4 : setM 2 modM [.val .st, .val (.int n), .no, .no, .no, .no] S1 = some (.ok (.nx, [.val .st, .val (.int n), .val (.int (S1.left % n)), .no, .no, .no]), S1) := by
      unfold setM
      rw [bnd_at e3]
      rfl
    have hs2 : isSt [.val .st, .val (.int n), .val (.int (S1.left % n)), .no, .no, .no] = true := rfl
    have e5 : divM [.val .st, .val (.int n), .val (.int (S1.left % n)), .no, .no, .no] S1 = some (.ok (.int (S1.left / n)), S1) := by
      unfold divM gLeft
      rw [bnd_at (gSt_eq hs2)]
      have e8 : nmD [.val .st, .val (.int n), .val (.int (S1.left % n)), .no, .no, .no] 1 = some (.int n) := rfl
      rw [e8, lft_some, bnd_ret, bin_div ⟨hn, hn2⟩]
      rfl
    have e6 : m2 [.val .st, .val (.int n), .no, .no, .no, .no] S1 = some (.ok (.rt (.int (S1.left % n)), [.val .st, .val (.int n), .val (.int (S1.left % n)), .no, .no, .no]), { S1 with left := S1.left / n }) := by
      unfold m2
      rw [bnd_at e2, decide_eq_true hp]
      show seqM _ _ S1 = _
      unfold seqM
      rw [bnd_at e4]
      show bnd (bnd (divM _) fun d => putLeft d _) _ S1 = _
      rw [bnd_bnd, bnd_at e5]
      rfl
    refine ⟨S1.left % n, { S1 with left := S1.left / n }, ?_, q1, q2, by show S1.turn ≤ S.turn + 1; omega⟩
    show bnd (seqM (m2 _) _) resM S1 = _
    unfold seqM
    rw [bnd_bnd, bnd_at e6]
    rfl
  · have e6 : m2 [.val .st, .val (.int n), .no, .no, .no, .no] S1 = some (.ok (.nx, [.val .st, .val (.int n), .no, .no, .no, .no]), S1) := by
      unfold m2
      rw [bnd_at e2, decide_eq_false hp]
      rfl
    have e7 : m3 [.val .st, .val (.int n), .no, .no, .no, .no] S1 = some (.ok (.nx, [.val .st, .val (.int n), .no, .val (.int (S1.turn + 1)), .no, .no]), S1) := by
      unfold m3 setM gTurn
      rw [bnd_bnd, bnd_at (gSt_eq hs)]
      rfl
    have h0 : (0 : Int) ≤ (S1.turn : Int) + 1 := by omega
    have e8 : m4 [.val .st, .val (.int n), .no, .val (.int (S1.turn + 1)), .no, .no] S1 = some (.ok (.nx, [.val .st, .val (.int n), .no, .val (.int (S1.turn + 1)), .no, .no]), { S1 with turn := ((S1.turn : Int) + 1).toNat }) := by
      unfold m4 putTurn
      have e9 : nmD [.val .st, .val (.int n), .no, .val (.int (S1.turn + 1)), .no, .no] 3 = some (.int (S1.turn + 1)) := rfl
      rw [e9, lft_some, bnd_ret]
      have hs3 : isSt [.val .st, .val (.int n), .no, .val (.int (S1.turn + 1)), .no, .no] = true := rfl
      rw [if_pos hs3]
      dsimp only
      rw [if_pos h0]
    obtain ⟨c, hc⟩ := cell_ok (W := W) (n := n) (t := S1.turn + 1) (S := { S1 with turn := ((S1.turn : Int) + 1).toNat }) h0
    have e9 : m5 W [.val .st, .val (.int n), .no, .val (.int (S1.turn + 1)), .no, .no] { S1 with turn := ((S1.turn : Int) + 1).toNat } = some (.ok (.nx, [.val .st, .val (.int n), .no, .val (.int (S1.turn + 1)), .val (.int c), .no]), { S1 with turn := ((S1.turn : Int) + 1).toNat }) := by
      unfold m5 setM
      rw [bnd_at hc]
      rfl
    obtain ⟨v, ρ', r1, r2, r3⟩ := rest_ok (c := c) (t := S1.turn + 1) (n := n) (S := { S1 with turn := ((S1.turn : Int) + 1).toNat }) hn h0 (by omega)
    refine ⟨v, { S1 with turn := ((S1.turn : Int) + 1).toNat }, ?_, r2, r3, by show ((S1.turn : Int) + 1).toNat ≤ S.turn + 1; omega⟩
    show bnd (seqM (m2 _) _) resM S1 = _
    unfold seqM
    rw [bnd_bnd, bnd_at e6]
    show bnd (bnd (m3 _) _) resM S1 = _
    rw [bnd_bnd, bnd_at e7]
    show bnd (bnd (m4 _) _) resM S1 = _
    rw [bnd_bnd, bnd_at e8]
    show bnd (bnd (m5 W _) _) resM _ = _
    rw [bnd_bnd, bnd_at e9]
    show bnd (exec gmD drRest _) resM _ = _
    rw [bnd_at r1]
    rfl
end Oi

/-! Oi, part V: the def that makes the draws' state. -/
namespace Oi
open PySem PySem.Spec PyProof.Rows L2

/-- script, cells, large; the cell of the blocks -/
def beBody (s c l x : Str) (sc1 sc2 : Scope) (p : Nat → Pos) : List Stmt :=
  [.Assign [.Name c (p 0)] (.ListComp (.Call (.Name (Str.ofString Bf.abs.name) (p 1)) [.Name x (p 2)] [] (p 3)) [⟨.Name x (p 4), .Name s (p 5), [], 0⟩] sc1 (p 6)) (p 7),
   .Assign [.Name l (p 8)] (.ListComp (.BinOp (.Name x (p 9)) .Sub (.BinOp (eI 10 (p 10)) .Pow (eI 18 (p 11)) (p 12)) (p 13))
     [⟨.Name x (p 14), .Name c (p 15), [.Compare (.Name x (p 16)) [.GtE] [.BinOp (eI 10 (p 17)) .Pow (eI 18 (p 18)) (p 19)] (p 20)], 0⟩] sc2 (p 21)) (p 22),
   .Return (some (.Dict [some (.Constant (.str (Str.ofString "large")) 0 (p 23)), some (.Constant (.str (Str.ofString "cells")) 0 (p 24)), some (.Constant (.str (Str.ofString "left")) 0 (p 25)), some (.Constant (.str (Str.ofString "turn")) 0 (p 26))]
     [.Name l (p 27), .Name c (p 28), eI 0 (p 29), eI 0 (p 30)] (p 31))) (p 32)]
def absI (i : Int) : Int := if i < 0 then -i else i
def lgI (xs : List Int) : List Int := (xs.filter fun c => decide (1000000000000000000 ≤ c)).map fun c => c - 1000000000000000000
theorem lgI_snoc (xs : List Int) (c : Int) : lgI (xs ++ [c]) = if 1000000000000000000 ≤ c then lgI xs ++ [c - 1000000000000000000] else lgI xs := by
  unfold lgI
  rw [List.filter_append, List.map_append]
  by_cases h : 1000000000000000000 ≤ c
  · rw [if_pos h, List.filter_cons_of_pos (by simpa using h)]
    rfl
  · rw [if_neg h, List.filter_cons_of_neg (by simpa using h)]
    simp
def e18 (K : PySem.W.Frag) : TE := tOp (rBin K .pow) (tC (.int 10)) (tC (.int 18))
def tLc1 (K : PySem.W.Frag) : TE := tLc (iSeq K (tVar 0)) (gName 3) tYes (tCB (rBf K .abs) (tCons (tVar 3) tNil)) [3]
def tLc2' (K : PySem.W.Frag) : TE := tLc (iSeq K (tVar 1)) (gName 3) (tTest (tOp (rCmp K .ge) (tVar 3) (e18 K))) (tOp (rBin K .sub) (tVar 3) (e18 K)) [3]
def tBeD : TE := tDisp (pairsOf [.s "large", .s "cells", .s "left", .s "turn"] [tVar 2, tVar 1, tC (.int 0), tC (.int 0)])
def tBeg (K : PySem.W.Frag) : TS := tSeq (tAsg (tLc1 K) (gName 1)) (tSeq (tAsg (tLc2' K) (gName 2)) (tRet tBeD))
structure Ext (H H' : Hp) : Prop where
  keep : ∀ b o, H b = some o → H' b = some o
  back : ∀ b, H' b = none → H b = none
theorem Ext.refl (H : Hp) : Ext H H := ⟨fun _ _ h => h, fun _ h => h⟩
theorem Ext.trans {H H1 H2 : Hp} (a : Ext H H1) (b : Ext H1 H2) : Ext H H2 := ⟨fun x o h => b.keep x o (a.keep x o h), fun x h => a.back x (b.back x h)⟩
theorem Ext.put {H H' : Hp} {D : Addr} {o : HO} (e : Ext H H') (h : H D = none) : Ext H (upd H' D o) := ⟨fun b u q => by
  rw [upd_ne (fun z => by rw [z, h] at q; cases q)]
  exact e.keep b u q, fun b q => by
  by_cases z : b = D
  · rw [z]; exact h
  · rw [upd_ne z] at q; exact e.back b q⟩
def spBeg (K : PySem.W.Frag) (T : List (Addr × Str)) : Sp := fun vs H Q _ => ∃ (a : Addr) (ns : List Int), vs = [.ref a] ∧ SqL K H a (ns.map V.int) ∧ ns.length ≤ 1000 ∧
  ∀ (W : Wd) (H' : Hp), W.T = T → W.cells = ns.map absI → Ext H H' → H' W.st = some (.dK (stKvs W ⟨lgI (ns.map absI), 0, 0⟩)) → H' W.l1 = some (.lst ((lgI (ns.map absI)).map V.int)) → H' W.l2 = some (.lst ((ns.map absI).map V.int)) → H W.st = none → H W.l1 = none → H W.l2 = none → Q (.ref W.st) H'
section
variable {K : PySem.W.Frag}
theorem ext_sqL {H H' : Hp} (e : Ext H H') {a : Addr} {xs : List V} (h : SqL K H a xs) : SqL K H' a xs := sqL_le e.keep h
theorem wipe_set {σ : L2.St} {x : V} : wipe (List.set (wipe σ [3]) 3 (some x)) [3] = wipe σ [3] := by
  show (((σ.set 3 none).set 3 (some x)).set 3 none) = σ.set 3 none
  rw [List.set_set, List.set_set]
theorem begun_gives {T : List (Addr × Str)} {N : List Str} (hN : N.length = 4) {vs : List V} {H : Hp} {Q : VK} {E : XK} (h : spBeg K T vs H Q E) : tBeg K { nx := fun _ H' => Q .non H', rt := Q } (L2.start N vs) H := by
  obtain ⟨a, ns, rfl, hS, hl, hQ⟩ := h
  have e0 : L2.start N [V.ref a] = [some (.ref a), none, none, none] := by
    unfold L2.start
    rw [hN]
    rfl
  rw [e0]
  generalize hcs : ns.map absI = cs at hQ
  refine ⟨_, rfl, a, rfl, .inl ⟨⟨_, hS⟩, fun D hD => ?_⟩⟩
  have hcl : ∀ i, i ≤ ns.length → ((ns.map V.int).length = ns.length) := fun _ _ => List.length_map _
  refine lc_list (xs := ns.map V.int) (fun i H' => Ext H H' ∧ H' D = some (.lst ((cs.take i).map V.int))) ⟨(Ext.refl H).put hD, upd_same⟩ (fun i H' _ p => ext_sqL p.1 hS) (fun i x H' hi p => ?_) (fun H1 p1 => ?_)
  · rw [List.getElem?_map] at hi
    obtain ⟨n, hn, rfl⟩ := map_some hi
    have hi2 : i < ns.length := (List.getElem?_eq_some_iff.mp hn).1
    refine ⟨wipe_set, ?_⟩
    unfold tYes
    dsimp only
    rw [if_pos rfl]
    refine ⟨.int n, rfl, n, rfl, _, p.2, ?_, p.1.put hD, ?_⟩
    · rw [List.length_map, List.length_take]
      exact Nat.lt_of_le_of_lt (Nat.min_le_left _ _) (Nat.lt_of_lt_of_le (show i < 10000000 by omega) len_le)
    · rw [upd_same]
      have e1 : cs.take (i + 1) = cs.take i ++ [absI n] := by
        rw [List.take_add_one, ← hcs, List.getElem?_map, hn]
        rfl
      rw [e1, List.map_append]
      rfl
  · obtain ⟨x1, h1⟩ := p1
    have h1 : H1 D = some (.lst (cs.map V.int)) := by
      rw [h1, List.length_map]
      have : cs.take ns.length = cs := List.take_of_length_le (by rw [← hcs, List.length_map]; exact Nat.le_refl _)
      rw [this]
    have hS1 : SqL K H1 D (cs.map V.int) := SqL.of h1
    refine ⟨_, rfl, D, rfl, .inl ⟨⟨_, hS1⟩, fun D2 hD2 => ?_⟩⟩
    have hlc : cs.length ≤ 1000 := by rw [← hcs, List.length_map]; exact hl
    refine lc_list (xs := cs.map V.int) (fun i H' => Ext H1 H' ∧ H' D2 = some (.lst ((lgI (cs.take i)).map V.int))) ⟨(Ext.refl H1).put hD2, upd_same⟩ (fun i H' _ p => ext_sqL p.1 hS1) (fun i x H' hi p => ?_) (fun H2 p2 => ?_)
    · rw [List.getElem?_map] at hi
      obtain ⟨n, hn, rfl⟩ := map_some hi
      have hi2 : i < cs.length := (List.getElem?_eq_some_iff.mp hn).1
      have e1 : cs.take (i + 1) = cs.take i ++ [n] := by rw [List.take_add_one, hn]; rfl
      refine ⟨wipe_set, ?_⟩
      refine ⟨.int n, rfl, 10, 18, rfl, rfl, ⟨by decide, by decide, by decide⟩, n, 10 ^ (18 : Int).toNat, rfl, rfl, decide ((10 : Int) ^ (18 : Int).toNat ≤ n), rfl, ?_⟩
      have e18 : (10 : Int) ^ (18 : Int).toNat = 1000000000000000000 := by decide
      rw [e18]
      have e2 := lgI_snoc (cs.take i) n
      by_cases hc : 1000000000000000000 ≤ n
      · rw [decide_eq_true hc]
        dsimp only
        rw [if_pos rfl]
        rw [if_pos hc] at e2
        refine ⟨.int n, rfl, 10, 18, rfl, rfl, ⟨by decide, by decide, by decide⟩, n, 10 ^ (18 : Int).toNat, rfl, rfl, _, p.2, ?_, p.1.put hD2, ?_⟩
        · rw [List.length_map]
          refine Nat.lt_of_le_of_lt (m := i) ?_ (Nat.lt_of_lt_of_le (show i < 10000000 by omega) len_le)
          unfold lgI
          rw [List.length_map]
          exact Nat.le_trans (List.length_filter_le _ _) (by rw [List.length_take]; exact Nat.min_le_left _ _)
        · rw [upd_same, e18, e1, e2, List.map_append]
          rfl
      · rw [decide_eq_false hc]
        dsimp only
        rw [if_neg (by decide)]
        rw [if_neg hc] at e2
        exact ⟨p.1, by rw [e1, e2]; exact p.2⟩
    · obtain ⟨x2, h2⟩ := p2
      have h2 : H2 D2 = some (.lst ((lgI cs).map V.int)) := by
        rw [h2, List.length_map, List.take_length]
      intro q hq
      have nD : D ≠ D2 := fun z => by rw [z, hD2] at h1; cases h1
      have hH2D : H2 D = some (.lst (cs.map V.int)) := x2.keep _ _ h1
      have nq1 : D ≠ q := fun z => by rw [z, hq] at hH2D; cases hH2D
      have nq2 : D2 ≠ q := fun z => by rw [z, hq] at h2; cases h2
      have x3 := x1.trans x2
      refine ⟨.ref D2, rfl, .ref D, rfl, upd_same, [(.inr (Str.ofString "large"), .ref D2), (.inr (Str.ofString "cells"), .ref D), (.inr (Str.ofString "left"), .int 0), (.inr (Str.ofString "turn"), .int 0)], rfl, (show 4 ≤ 15 by decide), ?_⟩
      have hm : mergeK [] [((.inr (Str.ofString "large") : Key), V.ref D2), (.inr (Str.ofString "cells"), .ref D), (.inr (Str.ofString "left"), .int 0), (.inr (Str.ofString "turn"), .int 0)] = [(.inr (Str.ofString "large"), .ref D2), (.inr (Str.ofString "cells"), .ref D), (.inr (Str.ofString "left"), .int 0), (.inr (Str.ofString "turn"), .int 0)] :=
        mergeK_new (ks := [.s "large", .s "cells", .s "left", .s "turn"]) (vs := [.ref D2, .ref D, .int 0, .int 0]) (acc := []) (by decide) fun _ _ => rfl
      rw [hm]
      refine hQ ⟨q, D2, D, cs, T, fun z => nD z.symm⟩ _ rfl rfl ?_ upd_same ?_ ?_ (x3.back _ hq) (x1.back _ hD2) hD
      · refine ⟨fun b o e => ?_, fun b e => ?_⟩
        · have e2 := x3.keep b o e
          have nb : b ≠ q := fun z => by rw [z, hq] at e2; cases e2
          rw [upd_ne nb, upd_ne nb]
          exact e2
        · by_cases z : b = q
          · rw [z, upd_same] at e; cases e
          · rw [upd_ne z, upd_ne z] at e
            exact x3.back b e
      · rw [upd_ne nq2, upd_ne nq2]; exact h2
      · rw [upd_ne nq1, upd_ne nq1]; exact hH2D
def tbB : Tb := ⟨["abs"], [], [], [], [], [], [], [], [], [], []⟩
def gmB : Gm := { tbB with ft := fun _ _ => stk }
def begCk (s c l x : Str) (sc : Scope) : Ck := ⟨tbB, [s, c, l, x], sc, none, false, false⟩
def begOk (s c l x : Str) (sc sc1 sc2 : Scope) : Bool := visB (begCk s c l x sc) 0 s && visB (begCk s c l x sc) 1 c && visB (begCk s c l x sc) 2 l && locB (begCk s c l x sc) 1 c && locB (begCk s c l x sc) 2 l &&
  blkC [s, c, l, x] sc sc1 (ownOf [s, c, l, x] [3]) && blkC [s, c, l, x] sc sc2 (ownOf [s, c, l, x] [3]) && tgN ((begCk s c l x sc).blk sc1) 3 (.Name x ⟨0, 0, 0, 0⟩) && tgN ((begCk s c l x sc).blk sc2) 3 (.Name x ⟨0, 0, 0, 0⟩) &&
  visB ((begCk s c l x sc).blk sc1) 3 x && visB ((begCk s c l x sc).blk sc2) 3 x && blB ((begCk s c l x sc).blk sc1) (Str.ofString Bf.abs.name) Bf.abs.name
section
variable {X : Cx} {W : Wd} {E : XK} {k : Nat} {s c l x : Str} {sc sc1 sc2 : Scope}
theorem ps_comp (xx : XOkS X K W E gmB k (begCk s c l x sc)) {i : Nat} {y : Str} {el it tx : Expr} {fs : List Expr} {sc0 : Scope} {pe p pos : Pos} {wi : TI} {g : TG} {tt : TT} {te : TE} {own : List (Str × Nat)} (hi : locB (begCk s c l x sc) i y = true)
    (p1 : PI X tx it wi) (p2 : BlkOk X.N X.env.scope sc0 own) (p3 : ∀ (s : Shared) (H : Hp) (C : Addr) (cl : List (Str × Addr)) (fp : List Addr), PG (X.blk s H sc0 (compEnvC sc0 cl C X.env) fp) tx g)
    (p4 : ∀ (s : Shared) (H : Hp) (C : Addr) (cl : List (Str × Addr)) (fp : List Addr), PTs (X.blk s H sc0 (compEnvC sc0 cl C X.env) fp) fs tt) (p5 : ∀ (s : Shared) (H : Hp) (C : Addr) (cl : List (Str × Addr)) (fp : List Addr), PE (X.blk s H sc0 (compEnvC sc0 cl C X.env) fp) el te)
    (p6 : ∀ z, foldedSetIterable it X.env z = pure z) : PS X (.Assign [.Name y p] (.ListComp el [⟨tx, it, fs, 0⟩] sc0 pe) pos) (tAsg (tLc wi g tt te (own.map (·.2))) (gName i)) := by
  obtain ⟨l1, l2⟩ := xx.toXOk.loc hi
  have hsw := swap_lc (el := el) (gs := [⟨tx, it, fs, 0⟩]) (pe := pe) (p := p) (x := y) (l := pos.line) (sc := sc0) xx.bk xx.sc
  cases hw : swB (begCk s c l x sc) y p sc0 pe with
  | true =>
    rw [hw] at hsw
    have hl : X.env.scope.names.lookup y = some .local := by
      rw [xx.sc]
      unfold swB at hw
      rw [Bool.and_eq_true, Bool.and_eq_true] at hw
      exact of_decide_eq_true hw.1.1
    exact ps_setLc xx.calm xx.nd l1 hl hsw p1 p2 p3 p4 p5 p6
  | false =>
    rw [hw] at hsw
    exact ps_set xx.nd l1 l2 (pe_lc xx.calm xx.nd p1 p2 p3 p4 p5 p6) hsw (.inl (xx.fnT y))
theorem pss_beg (xx : XOkS X K W E gmB k (begCk s c l x sc)) {p : Nat → Pos} (h : begOk s c l x sc sc1 sc2 = true) : PSs X (beBody s c l x sc1 sc2 p) (tBeg K) := by
  unfold begOk at h
  simp only [Bool.and_eq_true] at h
  obtain ⟨⟨⟨⟨⟨⟨⟨⟨⟨⟨⟨h0, h1⟩, h2⟩, l1⟩, l2⟩, b1⟩, b2⟩, g1⟩, g2⟩, w1⟩, w2⟩, a1⟩ := h
  obtain ⟨v1, v2, v3, v4⟩ := xx.toXOk.vis h0
  obtain ⟨c1, c2, c3, c4⟩ := xx.toXOk.vis h1
  obtain ⟨d1, d2, d3, d4⟩ := xx.toXOk.vis h2
  have own : (ownOf [s, c, l, x] [3]).map (·.2) = [3] := own_snd _ _
  have hbk : ∀ sc', blkC [s, c, l, x] sc sc' (ownOf [s, c, l, x] [3]) = true → BlkOk X.N X.env.scope sc' (ownOf [s, c, l, x] [3]) := fun sc' h => by
    rw [xx.nN, xx.sc]
    exact blkOk_by h
  have ob : ∀ {Y : Cx}, Y.K = K → ∀ o, OpR Y (binaryOp (oper o)) (rBin K o) := fun {Y} e o => by
    have := op_bin (X := Y) o
    rwa [e] at this
  have nmOf : ∀ {Y : Cx} {sc' : Scope} {E' : XK} {q : Pos}, XOk Y K W E' gmB k ((begCk s c l x sc).blk sc') → tgN ((begCk s c l x sc).blk sc') 3 (.Name x ⟨0, 0, 0, 0⟩) = true → PG Y (.Name x q) (gName 3) := fun {Y sc' E' q} y h => pg_nm y (e := .Name x q) h
  have c1e : tLc1 K = tLc (iSeq K (tVar 0)) (gName 3) tYes (tCB (rBf K .abs) (tCons (tVar 3) tNil)) ((ownOf [s, c, l, x] [3]).map (·.2)) := by rw [own]; rfl
  have c2e : tLc2' K = tLc (iSeq K (tVar 1)) (gName 3) (tTest (tOp (rCmp K .ge) (tVar 3) (e18 K))) (tOp (rBin K .sub) (tVar 3) (e18 K)) ((ownOf [s, c, l, x] [3]).map (·.2)) := by rw [own]; rfl
  have isq : ∀ {tg e : Expr} {t : TE}, PE X e t → PI X tg e (iSeq K t) := fun {tg e t} h => by
    rw [← xx.eK]
    exact pi_seq h
  refine pss_cons ?_ (pss_cons ?_ (pss_one (ps_ret ?_)))
  · rw [c1e]
    refine ps_comp xx l1 (isq (pe_var v1 v2 v3 v4)) (hbk _ b1) (fun s' H C cl fp => nmOf (xx.toXOk.blk s' H sc1 C cl fp) g1) (fun s' H C cl fp => pts_nil) (fun s' H C cl fp => ?_) (fun _ => rfl)
    have y := xx.toXOk.blk s' H sc1 C cl fp
    obtain ⟨x1, x2, x3, x4⟩ := y.vis w1
    obtain ⟨f1, f2, f3, f4⟩ := y.bltn a1
    have := pe_bf (X := X.blk s' H sc1 (compEnvC sc1 cl C X.env) fp) (p := p 1) (pos := p 3) .abs y.u y.calm (fun z => by cases z) f2 f3 (pa_cons (pe_var (pos := p 2) x1 x2 x3 x4) pa_nil) rfl f4
    rw [y.eK] at this
    exact this
  · rw [c2e]
    have y0 := fun s' H C cl fp => xx.toXOk.blk s' H sc2 C cl fp
    have e18p : ∀ {Y : Cx}, Y.K = K → ∀ {a b q : Pos}, PE Y (.BinOp (eI 10 a) .Pow (eI 18 b) q) (e18 K) := fun {Y} e {a b q} => pe_op (ob e .pow) pe_int pe_int
    refine ps_comp xx l2 (isq (pe_var c1 c2 c3 c4)) (hbk _ b2) (fun s' H C cl fp => nmOf (y0 s' H C cl fp) g2) (fun s' H C cl fp => pts_one ?_) (fun s' H C cl fp => ?_) (fun _ => rfl)
    · have y := y0 s' H C cl fp
      obtain ⟨x1, x2, x3, x4⟩ := y.vis w2
      have ho := op_cmp (X := X.blk s' H sc2 (compEnvC sc2 cl C X.env) fp) (by have := y.u; omega) .ge
      rw [y.eK] at ho
      exact pt_cmpR ho (pe_var x1 x2 x3 x4) (e18p y.eK) rfl
    · have y := y0 s' H C cl fp
      obtain ⟨x1, x2, x3, x4⟩ := y.vis w2
      exact pe_op (ob y.eK .sub) (pe_var x1 x2 x3 x4) (e18p y.eK)
  · exact pe_disp (pps_of (ks := [.s "large", .s "cells", .s "left", .s "turn"]) rfl (.cons (pe_var d1 d2 d3 d4) (.cons (pe_var c1 c2 c3 c4) (.cons pe_int (.cons pe_int .nil)))) rfl) rfl rfl (fun z => by cases z) (show 4 ≤ 15 by decide)
end
theorem fnP_beg {P : Program} {w : World} {mg : Str → Option Value} {base : Heap} {T : List (Addr × Str)} {xn qual s c l x : Str} {params : Arguments} {sc sc1 sc2 : Scope} {p : Nat → Pos} {fa : Addr} {fd : FuncData} (gr : Bool) (F : FunD K xn qual params (beBody s c l x sc1 sc2 p) sc [] [] fa fd) (S : FnScope [s, c, l, x] [s] sc)
    (hm1 : mg (Str.ofString "abs") = none) (h1 : begOk s c l x sc sc1 sc2 = true) : FnP gr P w K mg base 4 fa fd [s] (spBeg K T) := by
  refine FnP.less (gr := false) (FnP.mono (k := 3 + 1) (fnP_of F S (fun vs H Q E h => ?_) fun cdv A out s' H vs Q E _ hr _ h => ?_) (Nat.le_refl _)) (fun z => by cases z)
  · obtain ⟨a, ns, rfl, _⟩ := h
    rfl
  · have xx : XOkS (cxOf (L2.CX P w) P w K mg base [s, c, l, x] qual sc fa cdv A out s' H E) K ⟨0, 0, 1, [], T, by decide⟩ E gmB 2 (begCk s c l x sc) :=
      { eK := rfl, eG := rfl, nN := rfl, sc := rfl, nd := S.nd, calm := rfl, room := hr, gd := fun z => (by cases z), tk := takes_of rfl rfl rfl rfl, st := fun x => rfl,
        bl := fun x hx => by
          rcases List.mem_cons.mp hx with z | z
          · rw [z]; exact hm1
          · cases z
        cl := fun t ht => by cases ht
        fn := fun p hp => by cases hp
        cs := fun p hp => by cases hp
        lm := fun z => by cases z
        own := passes_of rfl
        bk := by
          show (if sc.kind.isAnnotationScope then ScopeKind.function else sc.kind) = .function
          rw [S.kind]
          rfl
        top := rfl
        rs := fun n hn => by cases hn }
    exact ⟨_, pss_beg xx h1, begun_gives (T := T) rfl h⟩
end
end Oi

/-! Oi, part W: the law itself. -/
namespace Oi
open PySem PySem.Spec PyProof.Rows L2

def begB (c : Ck) : Stmt → Bool
  | .Assign [.Name y _] (.Call (.Name f _) [.Name z _] [] _) _ => locB c 1 y && visB c 0 z && decide (f = Str.ofString "_law_begun") && glB c f
  | _ => false
/-- the law's text: the state's making, then what e tells -/
def lawOk (tb : Tb) (e : Fe) : Bool := fsB (e.N.map Str.ofString) (e.ps.map Str.ofString) (defScope e.st) && (match defBody e.st with
  | s :: r => begB (e.ck tb) s && (chS e.df.body).L (e.ck tb) r
  | [] => false) && decide (e.N.length = e.df.ns) && decide (e.ps.length = 1) && decide (2 ≤ e.df.ns) && !e.cls
def lawR (e : Fe) (ns : List Int) : Rho := .val (.scr ns) :: .val .st :: List.replicate (e.df.ns - 2) .no
noncomputable def lawM (G : Gm) (e : Fe) (ns : List Int) : M D := bnd (exec G e.df.body (lawR e ns)) resM
def spLaw (K : PySem.W.Frag) (T : List (Addr × Str)) : Sp := fun vs H Q _ => ∃ (a : Addr) (ns : List Int) (Hf : Hp), vs = [.ref a] ∧ SqL K Hf a (ns.map V.int) ∧ ns.length ≤ 63 ∧ Le Hf H ∧ (∀ b ps, Hf b ≠ some (.tbl ps)) ∧ LamX.Tabs T H ∧ ∀ H', Q (.bl true) H'
section
variable {P : Program} {w : World} {K : PySem.W.Frag} {mg : Str → Option Value} {base : Heap} {tb : Tb} {fs cs : List Fe} {T : List (Addr × Str)} {hd : Wd → String → Option (List D → M D)}
theorem xok_def2 {W : Wd} {hd : String → Option (List D → M D)} (T : TabF P w K mg base W tb hd fs cs) {G : Gm} (hG : G.toTb = tb) {k : Nat} (AA : AllAt P w K mg base W G k) {e : Fe} (S : FnScope (e.N.map Str.ofString) (e.ps.map Str.ofString) (defScope e.st)) (hL : e.lm = true → LamF K mg base W tb e) {cdv : Value} {A : Around} {out : List Env} {s : Shared} {H : Hp} {E : XK} (hcd : cdv = .ref (He.codeOf K e.at_))
    (hr : Room (k + 3) (A.deeper (envOfC e.qual (defScope e.st) s.heap.objs.size (He.fAd K e.at_) cdv))) (hg : tb.gr.contains e.nm = true → A.guards = some []) :
    XOkS (cxOf (L2.CX P w) P w K mg base (e.N.map Str.ofString) e.qual (defScope e.st) (He.fAd K e.at_) cdv A out s H E) K W E G k (e.ck tb) where
  eK := rfl
  eG := hG.symm
  nN := rfl
  sc := rfl
  nd := S.nd
  calm := rfl
  room := hr.mono (by omega)
  gd := hg
  tk := takes_of rfl rfl rfl rfl
  st := fun x => rfl
  bl := by rw [show G.bl = tb.bl from congrArg Tb.bl hG]; exact T.bl
  cl := fun t ht => T.cl t (by
    have z : (G.toTb).own t = true := ht
    rw [hG] at z
    exact z)
  fn := fun p hp => ⟨(AA.fn p hp).1, (AA.fn p hp).2⟩
  cs := fun p hp => ⟨(AA.cs p hp).1, (AA.cs p hp).2⟩
  lm := fun z => by
    have L := hL z
    refine ⟨hr, ⟨_, _, L.tab, hcd, L.mem, L.one⟩, L.cau, ?_, ?_⟩
    · show (G.toTb).own "FoundError" = true
      rw [hG]
      exact L.fe
    · rw [show G.fe = tb.fe from congrArg Tb.fe hG]
      exact L.exm
  own := passes_of rfl
  bk := by
    show (if (defScope e.st).kind.isAnnotationScope then ScopeKind.function else (defScope e.st).kind) = .function
    rw [S.kind]
    rfl
  top := rfl
  rs := by rw [show G.rs = tb.rs from congrArg Tb.rs hG]; exact T.rs
/-- the def that makes the state is known -/
structure BegAt (P : Program) (w : World) (K : PySem.W.Frag) (mg : Str → Option Value) (base : Heap) (T : List (Addr × Str)) : Prop where
  ex : ∃ (fa : Addr) (fd : FuncData) (ps : List Str), FnP false P w K mg base 4 fa fd ps (spBeg K T) ∧ mg (Str.ofString "_law_begun") = some (.ref fa) ∧ PySem.W.keepIn K (.ref fa) = true ∧ Binds K fd ps []
def tLaw (X : Cx) (K : PySem.W.Frag) (T : List (Addr × Str)) (E : XK) (r : List Stmt) : TS := tSeq (tAsg (tCall (spBeg K T) [] E (tCons (tVar 0) tNil)) (gName 1)) (fun D σ H => ∃ W : Wd, W.T = T ∧ ∃ t, PSs X r t ∧ t D σ H)
theorem pss_law {W0 : Wd} {E : XK} {G : Gm} {k : Nat} {c : Ck} {X : Cx} (B : BegAt X.prog X.w X.K X.mg X.base T) (x : XOkS X K W0 E G k c) (hk : 4 ≤ k + 1) {s : Stmt} {r : List Stmt} (h : begB c s = true) : PSs X (s :: r) (tLaw X K T E r) := by
  unfold begB at h
  split at h
  · rename_i y py f pf z pz pc pos
    simp only [Bool.and_eq_true, decide_eq_true_eq] at h
    obtain ⟨⟨⟨h1, h2⟩, h3⟩, h4⟩ := h
    subst h3
    obtain ⟨l1, l2⟩ := x.toXOk.loc h1
    obtain ⟨v1, v2, v3, v4⟩ := x.toXOk.vis h2
    obtain ⟨g1, g2⟩ := x.toXOk.gl h4
    obtain ⟨fa, fd, ps, F, hm, hkp, hb⟩ := B.ex
    refine pss_cons (ps_set x.nd l1 l2 ?_ (noSwap rfl _ _) (.inl (x.fnT y))) ⟨fun pins s σ H D I ⟨W, _, t, hp, ht⟩ => hp.run pins s σ H D I ht⟩
    rw [← x.eK]
    exact pe_callP F (x.room.mono hk) (fun z => by cases z) g1 hm hkp hb x.toXOk.pass (pa_cons (pe_var v1 v2 v3 v4) pa_nil) (fun z => by cases z) rfl g2
  · cases h
theorem stOk_law {W : Wd} {ns : List Int} {a : Addr} {H Hf : Hp} {n : Nat} (f : Fz W Hf H) (d : DOk W ⟨lgI (ns.map absI), 0, 0⟩ H) (hS : SqL K Hf a (ns.map V.int)) :
    StOk K W ⟨H, 0⟩ (.val (.scr ns) :: .val .st :: List.replicate n .no) ⟨lgI (ns.map absI), 0, 0⟩ (some (.ref a) :: some (.ref W.st) :: List.replicate n none) H Hf := by
  refine ⟨Kp.refl H, f, d, d.n1, d.n2, (by show H W.l2 ≠ none; rw [d.l2]; exact fun z => nomatch z), by simp, fun i s o e1 e2 => ?_, fun i j s t b e1 e2 m1 m2 e3 e4 => ?_⟩
  · match i, e1, e2 with
    | 0, e1, e2 => cases e1; cases e2; exact .val (.scr hS)
    | 1, e1, e2 => cases e1; cases e2; exact .val .st
    | i + 2, e1, e2 =>
      have e1 : (List.replicate n Sl.no)[i]? = some s := e1
      rw [List.getElem?_replicate] at e1
      split at e1
      · cases e1; exact .no _
      · cases e1
  · match i, e1 with
    | 0, e1 => cases e1; cases m1
    | 1, e1 => cases e1; cases m1
    | i + 2, e1 =>
      have e1 : (List.replicate n Sl.no)[i]? = some s := e1
      rw [List.getElem?_replicate] at e1
      split at e1
      · cases e1; cases m1
      · cases e1
theorem fnP_law {n : Nat} (TF : ∀ W : Wd, W.T = T → TabF P w K mg base W tb (hd W) fs cs) (B : BegAt P w K mg base T) {e : Fe} {fd : FuncData} (F : FunD K e.name e.qual (defArgs e.st) (defBody e.st) (defScope e.st) [] [] (He.fAd K e.at_) fd) (ok : lawOk tb e = true) (hL : ∀ W : Wd, W.T = T → e.lm = true → LamF K mg base W tb e) (hn : 1 ≤ n)
    (hlaw : ∀ (ns : List Int) (W : Wd), W.T = T → W.cells = ns.map absI → ns.length ≤ 63 → ∃ S', lawM (gmN tb (hd W) fs cs n) e ns ⟨lgI (ns.map absI), 0, 0⟩ = some (.ok (.bl true), S')) :
    FnP (tb.gr.contains e.nm) P w K mg base (4 * n + 4) (He.fAd K e.at_) fd (e.ps.map Str.ofString) (spLaw K T) := by
  unfold lawOk at ok
  rw [Bool.and_eq_true, Bool.and_eq_true, Bool.and_eq_true, Bool.and_eq_true, Bool.and_eq_true] at ok
  obtain ⟨⟨⟨⟨⟨o1, o2⟩, o3⟩, o4⟩, o5⟩, o6⟩ := ok
  have S := fs_of o1
  have o3 := of_decide_eq_true o3
  have o4 := of_decide_eq_true o4
  have o5 := of_decide_eq_true o5
  refine FnP.mono (k := 4 * n + 3 + 1) (fnP_ofC F S (fun vs H Q E h => ?_) fun cdv A out s H vs Q E hcd hr hg h => ?_) (Nat.le_refl _)
  · obtain ⟨a, ns, Hf, rfl, _⟩ := h
    rw [List.length_map, o4]
    rfl
  · obtain ⟨a, ns, Hf, rfl, hS, hl, hle, hnt, hT, hQ⟩ := h
    cases hbd : defBody e.st with
    | nil => rw [hbd] at o2; cases o2
    | cons s1 r =>
      rw [hbd] at o2
      have o2 : (begB (e.ck tb) s1 && (chS e.df.body).L (e.ck tb) r) = true := o2
      rw [Bool.and_eq_true] at o2
      have xk : ∀ W : Wd, W.T = T → XOkS (cxOf (L2.CX P w) P w K mg base (e.N.map Str.ofString) e.qual (defScope e.st) (He.fAd K e.at_) cdv A out s H E) K W E (gmN tb (hd W) fs cs n) (4 * n) (e.ck tb) := fun W hW =>
        xok_def2 (TF W hW) (gmN_tb ..) (allAt (TF W hW) n) S (hL W hW) hcd hr hg
      refine ⟨_, pss_law (T := T) (X := cxOf (L2.CX P w) P w K mg base (e.N.map Str.ofString) e.qual (defScope e.st) (He.fAd K e.at_) cdv A out s H E) B (xk ⟨0, 0, 1, [], T, by decide⟩ rfl) (by omega) o2.1, ?_⟩
      have e0 : L2.start (e.N.map Str.ofString) [V.ref a] = some (.ref a) :: none :: List.replicate (e.df.ns - 2) none := by
        unfold L2.start
        rw [List.length_map, o3]
        obtain ⟨m, hm⟩ : ∃ m, e.df.ns = m + 2 := ⟨e.df.ns - 2, by omega⟩
        rw [hm]
        rfl
      rw [e0]
      refine ⟨_, rfl, a, ns, rfl, sqL_le hle hS, by omega, fun W H' hWT hWc ex hst hl1 hl2 n1 n2 n3 => ?_⟩
      refine ⟨W, hWT, ?_⟩
      obtain ⟨t, t1, t2⟩ := (rs_all (K := K) (W := W) (G := gmN tb (hd W) fs cs n) (k := 4 * n) (by rw [gmN_tb]; exact (TF W hWT).g) e.df.body).l (e.ck tb) E r o2.2
      refine ⟨t, t1 _ (xk W hWT), ?_⟩
      have no : ∀ b, H b = none → Hf b = none := fun b hb => by
        cases q : Hf b with
        | none => rfl
        | some u => rw [hle b u q] at hb; cases hb
      have f : Fz W Hf H' := ⟨fun b o q => ex.keep b o (hle b o q), no _ n1, no _ n2, hnt⟩
      have d : DOk W ⟨lgI (ns.map absI), 0, 0⟩ H' := ⟨hst, hl1, by rw [hWc]; exact hl2, by rw [hWT]; exact hT.ext fun b u q => ex.keep b u q⟩
      refine t2 ⟨H', 0⟩ (lawR e ns) _ _ H' Hf _ (stOk_law f d hS) ?_
      obtain ⟨S', hrun⟩ := hlaw ns W hWT hWc hl
      unfold lawM bnd at hrun
      cases e2 : exec (gmN tb (hd W) fs cs n) e.df.body (lawR e ns) ⟨lgI (ns.map absI), 0, 0⟩ with
      | none => rw [e2] at hrun; cases hrun
      | some q =>
        obtain ⟨q, S2⟩ := q
        rw [e2] at hrun
        cases q with
        | ex c fs' => cases hrun
        | ok z =>
          obtain ⟨fl, ρ'⟩ := z
          cases fl with
          | nx => cases hrun
          | bk => cases hrun
          | ct => cases hrun
          | rt dd =>
            cases hrun
            show PostS K W E ⟨H', 0⟩ Hf _ (exec (gmN tb (hd W) fs cs n) e.df.body (lawR e ns) ⟨lgI (ns.map absI), 0, 0⟩)
            rw [e2]
            intro v H2 Hf2 _ _ _ _ rv
            cases rv
            exact hQ H2
end
end Oi

/-! Oi, part X: the law is called. -/
namespace Oi
open PySem PySem.Spec PyProof.Rows L2

/-- the heap that the law is entered with: its tables, maybe the script -/
def inH (tt : List Addr) (a : Addr) (z : Option HO) : Hp := fun b => if b ∈ tt then some (.tbl #[]) else if b = a then z else none
/-- .. without the tables -/
def inF (a : Addr) (z : Option HO) : Hp := fun b => if b = a then z else none
abbrev noTab : Obj := { cls := .none, data := .fields #[] }
abbrev lstO (vs : List Value) : Obj := { cls := .type "list", data := .seq vs.toArray }
section
variable {tt : List Addr} {a b : Addr} {z : Option HO}
theorem inH_t (h : b ∈ tt) : inH tt a z b = some (.tbl #[]) := if_pos h
theorem inH_n (h : b ∉ tt) : inH tt a z b = if b = a then z else none := if_neg h
theorem inF_le (ha : a ∉ tt) : Le (inF a z) (inH tt a z) := fun b o h => by
  by_cases q : b = a
  · rw [inH_n (q ▸ ha)]
    exact h
  · have h : (if b = a then z else none) = some o := h
    rw [if_neg q] at h
    cases h
end
section
variable {P : Program} {w : World} {K : PySem.W.Frag} {mg mb : Str → Option Value} {k : Nat} {fa a : Addr} {cs : List (Addr × Addr)} {T : List (Addr × Str)} {fd : FuncData} {x : Str} {st : Shared} {vs : List Value} {ns : List Int}
structure Entry (K : PySem.W.Frag) (mg mb : Str → Option Value) (cs : List (Addr × Addr)) (a : Addr) (vs : List Value) (st : Shared) : Prop where
  k : K.In st.heap
  g : st.heap.Ns mainGlobals mg
  b : st.heap.Ns builtinsNs mb
  bb : ∀ y : Str, y ≠ "__name__" → mb y = bootBuiltins y
  lim : st.heap.NoLimit
  gens : st.gens = #[]
  tab : ∀ q ∈ cs, st.heap.get? q.2 = some noTab
  out : ∀ q ∈ cs, K.lookup q.2 = none
  code : ∀ q ∈ cs, PySem.W.CodeHd st.heap q.1 q.2
  bm : ∃ (m : Addr) (om : Obj), mg "__builtins__" = some (.ref m) ∧ m ≠ builtinsNs ∧ st.heap.get? m = some om ∧ om.cls = .type "module" ∧ om.dict = some builtinsNs ∧ om.data = .plain
  arg : st.heap.get? a = some (lstO vs)
/-- from such a heap -/
theorem Entry.go (N : Entry K mg mb cs a vs st) {z : Option HO} (hz : z = none ∨ (K.lookup a = none ∧ ∃ xs, z = some (.frz (lstO vs) (.lst xs)))) (hok : HOk P w (inH (cs.map (·.2)) a z) st.heap) (hS : SqL K (inF a z) a (ns.map V.int)) (hl : ns.length ≤ 63) (hr : Room k callerA)
    (hT : ∀ p ∈ T, p.1 ∈ cs.map (·.2)) (F : ∀ base : Heap, K.In base → base.Ns mainGlobals mg → (∀ q ∈ cs, LamX.TabB base mg q.1 q.2) → FnP true P w K mg base k fa fd [x] (spLaw K T)) (hb : ∀ (s : Shared) (u : Value), BindsTo s fd ⟨[u], []⟩ [(x, u)]) :
    codeAny (model P w) callerA (.call (.ref fa) ⟨[.ref a], []⟩) (fun r s' => r = .ok (.ret (.bool true)) ∧ OldK st.heap s'.heap ∧ s'.os = st.os ∧ AllBare s'.gens) st := by
  have inT : ∀ {d : Addr}, d ∈ cs.map (·.2) → st.heap.get? d = some noTab := fun {d} hd => by
    obtain ⟨q, hq, rfl⟩ := List.mem_map.mp hd
    exact N.tab q hq
  have na : a ∉ cs.map (·.2) := fun h => by
    have e := N.arg.symm.trans (inT h)
    cases e
  -- nothing else is looked at
  have un : ∀ {d : Addr} {o : Obj}, st.heap.get? d = some o → o ≠ noTab → o ≠ lstO vs → inH (cs.map (·.2)) a z d = none := fun {d o} e h1 h2 => by
    by_cases hd : d ∈ cs.map (·.2)
    · exact absurd (Option.some.inj (e.symm.trans (inT hd))) h1
    · rw [inH_n hd]
      by_cases hda : d = a
      · rw [hda] at e
        exact absurd (Option.some.inj (e.symm.trans N.arg)) h2
      · rw [if_neg hda]
  have low : ∀ {d : Addr} {o : Obj}, st.heap.get? d = some o → o ≠ noTab → o ≠ lstO vs → (hidT st.heap (inH (cs.map (·.2)) a z)).get? d = some o := fun e h1 h2 => hidT_get e (un e h1 h2)
  have dic : ∀ {o : Obj} {es : Array DictEntry} {n : Nat}, o.data = .dict es n → o ≠ noTab ∧ o ≠ lstO vs := fun h => ⟨fun q => (by rw [q] at h; cases h), fun q => (by rw [q] at h; cases h)⟩
  have nsp : ∀ {d : Addr} {m : Str → Option Value}, st.heap.Ns d m → (hidT st.heap (inH (cs.map (·.2)) a z)).Ns d m := fun ⟨o, es, n, e, hd, r⟩ => ⟨o, es, n, low e (dic hd).1 (dic hd).2, hd, r⟩
  have kin : K.In (hidT st.heap (inH (cs.map (·.2)) a z)) := fun d o e => hidT_get (N.k d o e) (by
    by_cases hd : d ∈ cs.map (·.2)
    · obtain ⟨q, hq, rfl⟩ := List.mem_map.mp hd
      rw [N.out q hq] at e
      cases e
    · rw [inH_n hd]
      by_cases hda : d = a
      · rw [if_pos hda]
        rcases hz with hz | ⟨hz, _⟩
        · exact hz
        · rw [hda, hz] at e
          cases e
      · rw [if_neg hda])
  have md : L2.Mod K mg (hidT st.heap (inH (cs.map (·.2)) a z)) := ⟨kin, nsp N.g, ⟨mb, nsp N.b, N.bb⟩, by
    obtain ⟨mc, h1, h2⟩ := N.lim
    exact ⟨mc, nsp h1, h2⟩⟩
  have tb : ∀ q ∈ cs, LamX.TabB (hidT st.heap (inH (cs.map (·.2)) a z)) mg q.1 q.2 := fun q hq => by
    have hTq := N.tab q hq
    refine ⟨?_, ?_, fun y => ?_⟩
    · obtain ⟨o, us, file, tf, flags, tg, inF, text, tt, e1, r1, r2, r3, rest⟩ := N.code q hq
      refine ⟨o, us, file, tf, flags, tg, inF, text, tt, low e1 (fun y => ?_) (fun y => ?_), r1, r2, r3, rest⟩
      · rw [y] at r2
        cases r2
        simp at r3
      · rw [y] at r2
        cases r2
    · obtain ⟨m, om, b1, b2, b3, b4, b5, b6⟩ := N.bm
      refine ⟨m, om, b1, b2, fun y => ?_, fun y => ?_, low b3 (fun y => ?_) (fun y => ?_), b4, b5, b6⟩
      · obtain ⟨o, es, n, e, hd, _⟩ := N.g
        rw [y, e] at b3
        rw [← Option.some.inj b3, hd] at b6
        cases b6
      · rw [y, hTq] at b3
        rw [← Option.some.inj b3] at b6
        cases b6
      · rw [y] at b6
        cases b6
      · rw [y] at b6
        cases b6
    · obtain ⟨o, es, n, e, hd, _⟩ := N.g
      rw [y, hTq] at e
      rw [← Option.some.inj e] at hd
      cases hd
  have en : Env0 P w K mg (hidT st.heap (inH (cs.map (·.2)) a z)) callerA [] st (inH (cs.map (·.2)) a z) := ⟨rfl, md, fun d o e => of_hidT e, Nat.le_of_eq (hidT_size _ _), trivial, fun d hd => (by cases hd), hok, .of_eq N.gens⟩
  have sp : spLaw K T [V.ref a] (inH (cs.map (·.2)) a z) (fun v _ => v = .bl true) (fun _ _ _ => False) := ⟨a, ns, inF a z, rfl, hS, hl, inF_le na, fun d ps h => (by
      have h : (if d = a then z else none) = some (.tbl ps) := h
      by_cases hda : d = a
      · rw [if_pos hda] at h
        rcases hz with hz | ⟨_, xs, hz⟩
        · rw [hz] at h; cases h
        · rw [hz] at h; cases h
      · rw [if_neg hda] at h; cases h), fun p hp => ⟨#[], inH_t (hT p hp), trivial, fun pos cv h => (by cases h)⟩, fun _ => rfl⟩
  refine codeAny_mono ((F _ kin (nsp N.g) tb).go callerA [] st _ ⟨[.ref a], []⟩ [.ref a] [.ref a] _ _ hr (fun _ => rfl) en (hb st (.ref a)) (.cons rfl .nil) sp) fun r s' h => ?_
  match r, h with
  | .error e, h =>
    obtain ⟨_, _, _, _, _, _, _, _, _, _, _, _, y⟩ := h
    exact False.elim y
  | .ok (.ret u), h =>
    obtain ⟨v, H', os, bare, ub, hok', rv, q⟩ := h
    have q : v = .bl true := q
    rw [q] at rv
    have rv : u = Value.bool true := rv
    have keep : ∀ d o, d ∉ cs.map (·.2) → st.heap.get? d = some o → s'.heap.get? d = some o := fun d o hd e => by
      by_cases hda : d = a ∧ z ≠ none
      · obtain ⟨rfl, zn⟩ := hda
        rcases hz with hz | ⟨_, xs, hz⟩
        · exact absurd hz zn
        · have hin : inH (cs.map (·.2)) d z d = some (.frz (lstO vs) (.lst xs)) := by rw [inH_n hd, if_pos rfl, hz]
          obtain ⟨e2, _⟩ := hok' d _ (ub.frzs d _ _ hin)
          rw [N.arg] at e
          rw [← Option.some.inj e]
          exact e2
      · refine ub.keep d o e ?_ (fun y => by cases y) (by simp)
        rw [inH_n hd]
        by_cases y : d = a
        · rw [if_pos y]
          exact Classical.byContradiction fun zn => hda ⟨y, zn⟩
        · rw [if_neg y]
    have grew : ∀ d ∈ cs.map (·.2), ∃ more : Array Value, s'.heap.get? d = some { cls := .none, data := .fields more } := fun d hd => by
      obtain ⟨more, y⟩ := ub.tbls d #[] (inH_t hd)
      exact ⟨_, hok' d _ y⟩
    refine ⟨by rw [rv], ⟨fun d o e => ?_, fun d o e => ?_⟩, os, bare⟩
    · by_cases hd : d ∈ cs.map (·.2)
      · obtain ⟨more, hm⟩ := grew d hd
        have e0 := Option.some.inj (e.symm.trans (inT hd))
        obtain ⟨q, hq, eq⟩ := List.mem_map.mp hd
        refine .inr (.inl ⟨?_, by rw [e0], #[], more, by rw [e0], by rw [Array.empty_append, hm, e0]⟩)
        rw [← eq]
        exact ((N.code q hq).tab (N.tab q hq)).isCodeTable
      · exact .inl (keep d o hd e)
    · by_cases hd : d ∈ cs.map (·.2)
      · obtain ⟨more, hm⟩ := grew d hd
        exact ⟨_, hm⟩
      · exact ⟨o, keep d o hd e⟩
/-- .. from the machine's heap -/
theorem Entry.call (N : Entry K mg mb cs a vs st) (hi : IntsAre vs ns) (hl : ns.length ≤ 63) (hr : Room k callerA) (hT : ∀ p ∈ T, p.1 ∈ cs.map (·.2))
    (F : ∀ base : Heap, K.In base → base.Ns mainGlobals mg → (∀ q ∈ cs, LamX.TabB base mg q.1 q.2) → FnP true P w K mg base k fa fd [x] (spLaw K T)) (hb : ∀ (s : Shared) (u : Value), BindsTo s fd ⟨[u], []⟩ [(x, u)]) :
    codeAny (model P w) callerA (.call (.ref fa) ⟨[.ref a], []⟩) (fun r s' => r = .ok (.ret (.bool true)) ∧ OldK st.heap s'.heap ∧ s'.os = st.os ∧ AllBare s'.gens) st := by
  have rv := vals_ints hi
  have big : ns.length ≤ sizeLine := Nat.le_trans (Nat.le_trans hl (by decide)) len_le
  cases hk : K.lookup a with
  | some o =>
    have e : o = lstO vs := Option.some.inj ((N.k a o hk).symm.trans N.arg)
    rw [e] at hk
    refine N.go (z := none) (.inl rfl) (fun d u h => ?_) (.inr ⟨_, vs.toArray, _, hk, rfl, rfl, rfl, by rw [List.size_toArray, hi.length]; exact big, by simpa using rv⟩) hl hr hT F hb
    by_cases hd : d ∈ cs.map (·.2)
    · rw [inH_t hd] at h
      cases h
      obtain ⟨q, hq, rfl⟩ := List.mem_map.mp hd
      exact N.tab q hq
    · rw [inH_n hd] at h
      split at h <;> cases h
  | none =>
    refine N.go (z := some (.frz (lstO vs) (.lst (ns.map V.int)))) (.inr ⟨hk, _, rfl⟩) (fun d u h => ?_) (.inl (.inr ⟨lstO vs, if_pos rfl⟩)) hl hr hT F hb
    by_cases hd : d ∈ cs.map (·.2)
    · rw [inH_t hd] at h
      cases h
      obtain ⟨q, hq, rfl⟩ := List.mem_map.mp hd
      exact N.tab q hq
    · rw [inH_n hd] at h
      by_cases y : d = a
      · rw [if_pos y] at h
        cases h
        rw [y]
        exact ⟨N.arg, by rw [List.length_map]; exact big, vs, _, rv, N.arg⟩
      · rw [if_neg y] at h
        cases h
end
end Oi

/-! Oi, part Y: a law's data, what is looked at in its text and in the heap behind its text's run. -/
namespace Oi
open PySem PySem.Spec PyProof.Rows L2

/-- a law's data -/
structure Dt where
  tb : Tb
  fs : List Fe
  cs : List Fe
  lw : Fe
  dr : Fe
  be : Fe
  ca : List Fe
  /-- the draw: state, size, found, turn, cell, mixed -/
  d1 : String
  d2 : String
  d3 : String
  d4 : String
  d5 : String
  d6 : String
  dp : Nat → Pos
  drs : List Stmt
  /-- the state's making: script, cells, large, cell -/
  b1 : String
  b2 : String
  b3 : String
  b4 : String
  bp : Nat → Pos
  bs1 : Scope
  bs2 : Scope
  cp : Nat → Pos
  cj : Nat
def cau3 : List Str := [Str.ofString "_law_work", Str.ofString "_law_caught_here", Str.ofString "error"]
noncomputable def Dt.hd (W : Wd) : String → Option (List D → M D) := fun f => if f = "_law_draw" then some (drawM W) else none
def Dt.defs (d : Dt) : List Fe := d.fs ++ d.cs ++ (d.lw :: d.dr :: d.be :: d.ca)
def Dt.fn (d : Dt) : List He.DefD := d.defs.map Fe.dd
def Dt.lms (d : Dt) : List Fe := (d.fs ++ [d.lw]).filter (·.lm)
def Dt.tf (d : Dt) : List He.Defn := d.lms.map Fe.at_
def lamQ (e : Fe) : Str := e.qual ++ ".<locals>." ++ "<lambda>"
def Dt.T (d : Dt) (K : PySem.W.Frag) : List (Addr × Str) := d.lms.map fun e => ((He.cT K e.at_).2, lamQ e)
def Dt.tt (d : Dt) (K : PySem.W.Frag) : List (Addr × Addr) := d.tf.map (He.cT K)
def Dt.owns (d : Dt) : List String := d.tb.obs ++ d.tb.exs
def Dt.fa (d : Dt) : List He.Fa := ("abs" :: "int" :: "len" :: d.tb.bl).map (fun x => He.Fa.free (Str.ofString x)) ++ (d.owns ++ "_law_draw" :: "_law_begun" :: (d.fs ++ d.lw :: d.ca).map (·.nm)).map (fun x => He.Fa.glo (Str.ofString x)) ++
  d.cs.map (fun e => He.Fa.mkr (Str.ofString e.nm)) ++ d.tb.rs.map (fun x => He.Fa.exc (Str.ofString x)) ++ d.tb.obs.map (fun x => He.Fa.cls (Str.ofString x)) ++ (d.tb.obs.flatMap fun c => d.tb.fl.map fun f => He.Fa.noat (Str.ofString c) (Str.ofString f)) ++ d.tb.fe.map (fun c => He.Fa.exm (Str.ofString c) (Str.ofString "FoundError") true)
def insB (K : PySem.W.Frag) (C : Addr) : Bool := He.eqO (PySem.W.findIn K (.ref C) "__class__") (some (some (.builtin "object.__class__"))) && He.eqO (PySem.W.specialIn K (.builtin "object.__class__") "__get__") (some (some (.builtin "getset_descriptor.__get__"))) &&
  decide (PySem.W.takesIn K (.builtin "object.__class__") = some true) && decide (PySem.W.mroIn K C (.type "object") = some true)
def excB (K : PySem.W.Frag) (C : Addr) : Bool := insB K C && He.eqO (PySem.W.findIn K (.ref C) "__getattribute__") (some (some (.builtin "BaseException.__getattribute__"))) && He.eqO (PySem.W.findIn K (.ref C) "__getattr__") (some none) && decide (PySem.W.subIn K (.ref C) (.type "BaseException") = some true) && PySem.W.hasDictIn K C
def Dt.ex (d : Dt) (K : PySem.W.Frag) : Bool := (d.tb.obs.all fun c => insB K (He.ga K (Str.ofString c))) && (d.tb.exs.all fun c => excB K (He.ga K (Str.ofString c))) && (d.tb.tab.all fun p => decide (PySem.W.kitOne K (cvA K d.tb p.1.1) (cvA K d.tb p.1.2) = some p.2)) &&
  decide (((d.T K).map (·.1)).Nodup) && (d.ca.all fun e => PySem.W.keepIn K (.ref (He.fAd K e.at_)))
/-- the functions that are called -/
def Dt.fnB (d : Dt) (p : String × Nat) : Bool := (decide (p = ("_law_draw", 2)) && (d.tb.kw.all fun q => decide (q.f ≠ "_law_draw"))) ||
  (decide (p.1 ≠ "_law_draw") && (match d.fs.find? fun e => e.nm == p.1 with
    | some e => decide (e.nm = p.1) && decide (e.df.np = p.2)
    | none => false))
def Dt.csB (d : Dt) (p : String × Nat) : Bool := decide (p.1 ≠ "_law_draw") && (d.fs.find? fun e => e.nm == p.1).isNone && d.tb.own p.1 && (match d.cs.find? fun e => e.nm == p.1 with
    | some e => decide (e.nm = p.1) && decide (e.df.np = p.2 + 1)
    | none => false)
def Dt.dN (d : Dt) : List Str := [Str.ofString d.d1, Str.ofString d.d2, Str.ofString d.d3, Str.ofString d.d4, Str.ofString d.d5, Str.ofString d.d6]
def Dt.dck (d : Dt) : Ck := ⟨tbD, d.dN, defScope d.dr.st, none, false, false⟩
/-- what a look at the text tells -/
def Dt.look (d : Dt) : Bool := ((d.fs ++ d.cs).all (Fe.ok d.tb)) && (d.fs.all fun e => !e.cls) && (d.cs.all fun e => e.cls && !e.lm) && (d.tb.fn.all d.fnB) && (d.tb.cs.all d.csB) && lawOk d.tb d.lw &&
  (["NoneType", "bool", "int", "str", "tuple", "list", "dict"].all fun c => !d.tb.own c) && (d.lms.isEmpty || (!d.ca.isEmpty && d.tb.own "FoundError")) && d.tb.gr.contains d.lw.nm && decide (d.tb.obs.all fun c => d.tb.own c)
def Dt.lookD (d : Dt) : Bool := fsB d.dN [Str.ofString d.d1, Str.ofString d.d2] (defScope d.dr.st) && drOk d.dck (Str.ofString d.d1) (Str.ofString d.d2) (Str.ofString d.d3) (Str.ofString d.d4) (Str.ofString d.d5) d.dp && (chS drRest).L d.dck d.drs &&
  fsB [Str.ofString d.b1, Str.ofString d.b2, Str.ofString d.b3, Str.ofString d.b4] [Str.ofString d.b1] (defScope d.be.st) && begOk (Str.ofString d.b1) (Str.ofString d.b2) (Str.ofString d.b3) (Str.ofString d.b4) (defScope d.be.st) d.bs1 d.bs2 &&
  decide (d.dr.at_ = (Str.ofString "_law_draw", none)) && decide (d.be.at_ = (Str.ofString "_law_begun", none)) &&
  (d.ca.all fun e => fsB cau3 [Str.ofString "_law_work"] (defScope e.st) && decide (e.nm = "_law_caught") && !e.cls && (cau3.all fun x => decide ((defScope e.st).names.lookup x = some .local)) && decide ((defScope e.st).names.lookup (Str.ofString "FoundError") = some .globalImplicit))
structure Dt.Ok (d : Dt) : Prop where
  look : d.look = true
  lookD : d.lookD = true
  bind : ∀ e ∈ d.fs ++ d.cs, e.bind d.tb
  one : ∀ e ∈ d.lw :: d.dr :: d.be :: d.ca, ∀ (kV doc pm : Value) (an : Option Addr) (cdv ct : Value) (us : List Value), us.length = e.ps.length → bindArgs (PySem.W.fnOf e.name e.qual (defArgs e.st) (defBody e.st) (defScope e.st) .none kV doc pm an cdv ct) ⟨us, []⟩ = pure ((e.ps.map Str.ofString).zip us)
  dps : d.dr.ps = [d.d1, d.d2]
  bps : d.be.ps = [d.b1]
  cps : ∀ e ∈ d.ca, e.ps = ["_law_work"]
  dbody : defBody d.dr.st = drBody (Str.ofString d.d1) (Str.ofString d.d2) (Str.ofString d.d3) (Str.ofString d.d4) (Str.ofString d.d5) d.dp d.drs
  bbody : defBody d.be.st = beBody (Str.ofString d.b1) (Str.ofString d.b2) (Str.ofString d.b3) (Str.ofString d.b4) d.bs1 d.bs2 d.bp
  cbody : ∀ e ∈ d.ca, defBody e.st = cauBody (Str.ofString "_law_work") (Str.ofString "_law_caught_here") (Str.ofString "FoundError") (Str.ofString "error") d.cj d.cp

section
variable {d : Dt} {P : Program} {w : World} {K : PySem.W.Frag} {mg : Str → Option Value} {base h : Heap}
theorem nb {a : Bool} (h : (!a) = true) : a = false := by cases a <;> first | rfl | cases h
theorem and5 {a b : Bool} (h : (a && b) = true) : a = true ∧ b = true := Bool.and_eq_true_iff.mp h
structure Looked (d : Dt) : Prop where
  ok : ∀ e ∈ d.fs ++ d.cs, e.ok d.tb = true
  fc : ∀ e ∈ d.fs, e.cls = false
  cc : ∀ e ∈ d.cs, e.cls = true ∧ e.lm = false
  fn : ∀ p ∈ d.tb.fn, d.fnB p = true
  cs : ∀ p ∈ d.tb.cs, d.csB p = true
  lw : lawOk d.tb d.lw = true
  nob : ∀ c ∈ ["NoneType", "bool", "int", "str", "tuple", "list", "dict"], d.tb.own c = false
  lms : ∀ e ∈ d.lms, d.ca ≠ [] ∧ d.tb.own "FoundError" = true
  gr : d.tb.gr.contains d.lw.nm = true
theorem Dt.Ok.looked (o : d.Ok) : Looked d := by
  have h := o.look
  unfold Dt.look at h
  obtain ⟨h, _⟩ := and5 h
  obtain ⟨h, h9⟩ := and5 h
  obtain ⟨h, h8⟩ := and5 h
  obtain ⟨h, h7⟩ := and5 h
  obtain ⟨h, h6⟩ := and5 h
  obtain ⟨h, h5⟩ := and5 h
  obtain ⟨h, h4⟩ := and5 h
  obtain ⟨h, h3⟩ := and5 h
  obtain ⟨h1, h2⟩ := and5 h
  refine ⟨List.all_eq_true.mp h1, fun e he => ?_, fun e he => ?_, List.all_eq_true.mp h4, List.all_eq_true.mp h5, h6, fun c hc => ?_, fun e he => ?_, h9⟩
  · exact nb (List.all_eq_true.mp h2 e he)
  · obtain ⟨a, b⟩ := and5 (List.all_eq_true.mp h3 e he)
    exact ⟨a, nb b⟩
  · exact nb (List.all_eq_true.mp h7 c hc)
  · rw [Bool.or_eq_true] at h8
    rcases h8 with z | z
    · rw [List.isEmpty_iff.mp z] at he
      cases he
    · obtain ⟨a, b⟩ := and5 z
      exact ⟨fun q => (by rw [q] at a; cases a), b⟩
theorem own_mem {tb : Tb} {t : String} (h : tb.own t = true) : t ∈ tb.obs ++ tb.exs := by
  unfold Tb.own at h
  rw [Bool.or_eq_true] at h
  exact List.mem_append.mpr (h.imp List.contains_iff_mem.mp List.contains_iff_mem.mp)
/-- what the run told -/
abbrev Says (d : Dt) (w : World) (h : Heap) (K : PySem.W.Frag) : Prop := He.SaysX d.fa d.fn [] d.tf d.ex w h K
theorem Says.fact (c : Says d w h K) {f : He.Fa} (hf : f ∈ d.fa) : f.ok K = true := c.t.d.facts hf
theorem Says.fun_ (c : Says d w h K) {e : Fe} (he : e ∈ d.defs) : ∃ fd, FunD K e.name e.qual (defArgs e.st) (defBody e.st) (defScope e.st) [] [] (He.fAd K e.at_) fd := by
  obtain ⟨fd, F⟩ := c.t.d.defs (List.mem_map.mpr ⟨e, he, rfl⟩)
  exact ⟨fd, F⟩
theorem fa_free {x : String} (h : x ∈ "abs" :: "int" :: "len" :: d.tb.bl) : He.Fa.free (Str.ofString x) ∈ d.fa := by
  unfold Dt.fa
  simp only [List.mem_append]
  exact .inl (.inl (.inl (.inl (.inl (.inl (List.mem_map.mpr ⟨x, h, rfl⟩))))))
theorem fa_glo {x : String} (h : x ∈ d.owns ++ "_law_draw" :: "_law_begun" :: (d.fs ++ d.lw :: d.ca).map (·.nm)) : He.Fa.glo (Str.ofString x) ∈ d.fa := by
  unfold Dt.fa
  simp only [List.mem_append]
  exact .inl (.inl (.inl (.inl (.inl (.inr (List.mem_map.mpr ⟨x, h, rfl⟩))))))
theorem fa_mkr {e : Fe} (h : e ∈ d.cs) : He.Fa.mkr (Str.ofString e.nm) ∈ d.fa := by
  unfold Dt.fa
  simp only [List.mem_append]
  exact .inl (.inl (.inl (.inl (.inr (List.mem_map.mpr ⟨e, h, rfl⟩)))))
theorem fa_exc {x : String} (h : x ∈ d.tb.rs) : He.Fa.exc (Str.ofString x) ∈ d.fa := by
  unfold Dt.fa
  simp only [List.mem_append]
  exact .inl (.inl (.inl (.inr (List.mem_map.mpr ⟨x, h, rfl⟩))))
theorem fa_cls {x : String} (h : x ∈ d.tb.obs) : He.Fa.cls (Str.ofString x) ∈ d.fa := by
  unfold Dt.fa
  simp only [List.mem_append]
  exact .inl (.inl (.inr (List.mem_map.mpr ⟨x, h, rfl⟩)))
theorem fa_noat {x f : String} (h : x ∈ d.tb.obs) (hf : f ∈ d.tb.fl) : He.Fa.noat (Str.ofString x) (Str.ofString f) ∈ d.fa := by
  unfold Dt.fa
  simp only [List.mem_append]
  exact .inl (.inr (List.mem_flatMap.mpr ⟨x, h, List.mem_map.mpr ⟨f, hf, rfl⟩⟩))
theorem fa_exm {x : String} (h : x ∈ d.tb.fe) : He.Fa.exm (Str.ofString x) (Str.ofString "FoundError") true ∈ d.fa := by
  unfold Dt.fa
  simp only [List.mem_append]
  exact .inr (List.mem_map.mpr ⟨x, h, rfl⟩)
theorem insB_ok {C : Addr} (h : insB K C = true) : PySem.W.findIn K (.ref C) "__class__" = some (some (.builtin "object.__class__")) ∧ PySem.W.specialIn K (.builtin "object.__class__") "__get__" = some (some (.builtin "getset_descriptor.__get__")) ∧ PySem.W.takesIn K (.builtin "object.__class__") = some true ∧ PySem.W.mroIn K C (.type "object") = some true := by
  unfold insB at h
  obtain ⟨h, h4⟩ := and5 h
  obtain ⟨h, h3⟩ := and5 h
  obtain ⟨h1, h2⟩ := and5 h
  exact ⟨He.eqO_ok h1, He.eqO_ok h2, of_decide_eq_true h3, of_decide_eq_true h4⟩
theorem lookup_all {α : Type} {p : (String × String) × Bool → Bool} : ∀ {l : List ((String × String) × Bool)} {a : String × String} {b : Bool}, l.all p = true → l.lookup a = some b → p (a, b) = true
  | [], _, _, _, h => by cases h
  | (x, y) :: l, a, b, h1, h2 => by
    rw [List.all_cons] at h1
    obtain ⟨h3, h4⟩ := and5 h1
    rw [List.lookup_cons] at h2
    split at h2
    · rename_i q
      cases h2
      rw [eq_of_beq q]
      exact h3
    · exact lookup_all (α := α) h4 h2
theorem Says.gok (o : d.Ok) (c : Says d w h K) : GOk K d.tb := by
  have L := o.looked
  have m := c.more
  unfold Dt.ex at m
  obtain ⟨m, _⟩ := and5 m
  obtain ⟨m, _⟩ := and5 m
  obtain ⟨m, m3⟩ := and5 m
  obtain ⟨m1, m2⟩ := and5 m
  refine ⟨fun x hx => ?_, fun x hx => ?_, fun x hx f hf => He.noat_ok (c.fact (fa_noat hx hf)), L.nob, fun x t b hb => ?_⟩
  · obtain ⟨q1, q2, q3, q4⟩ := insB_ok (List.all_eq_true.mp m1 x hx)
    exact ⟨He.cls_ok (c.fact (fa_cls hx)), q1, q2, q3, q4⟩
  · have z := List.all_eq_true.mp m2 x hx
    unfold excB at z
    obtain ⟨z, z5⟩ := and5 z
    obtain ⟨z, z4⟩ := and5 z
    obtain ⟨z, z3⟩ := and5 z
    obtain ⟨z1, z2⟩ := and5 z
    obtain ⟨q1, q2, q3, q4⟩ := insB_ok z1
    exact ⟨He.eqO_ok z2, He.eqO_ok z3, of_decide_eq_true z4, z5, q1, q2, q3, q4⟩
  · exact of_decide_eq_true (lookup_all (α := Unit) m3 hb)
end
end Oi

/-! Oi, part Z: a law's data tell all that the law leans on. -/
namespace Oi
open PySem PySem.Spec PyProof.Rows L2

theorem nodup_fst {α β : Type} : ∀ {l : List (α × β)} {a : α} {b c : β}, (l.map (·.1)).Nodup → (a, b) ∈ l → (a, c) ∈ l → b = c
  | [], _, _, _, _, h, _ => by cases h
  | (x, y) :: l, a, b, c, n, h1, h2 => by
    rw [List.map_cons, List.nodup_cons] at n
    rcases List.mem_cons.mp h1 with z1 | z1
    · rcases List.mem_cons.mp h2 with z2 | z2
      · cases z1; cases z2; rfl
      · cases z1
        exact absurd (List.mem_map.mpr ⟨_, z2, rfl⟩) n.1
    · rcases List.mem_cons.mp h2 with z2 | z2
      · cases z2
        exact absurd (List.mem_map.mpr ⟨_, z1, rfl⟩) n.1
      · exact nodup_fst n.2 z1 z2
structure Dlook (d : Dt) : Prop where
  dS : FnScope d.dN [Str.ofString d.d1, Str.ofString d.d2] (defScope d.dr.st)
  d1 : drOk d.dck (Str.ofString d.d1) (Str.ofString d.d2) (Str.ofString d.d3) (Str.ofString d.d4) (Str.ofString d.d5) d.dp = true
  d2 : (chS drRest).L d.dck d.drs = true
  bS : FnScope [Str.ofString d.b1, Str.ofString d.b2, Str.ofString d.b3, Str.ofString d.b4] [Str.ofString d.b1] (defScope d.be.st)
  b1 : begOk (Str.ofString d.b1) (Str.ofString d.b2) (Str.ofString d.b3) (Str.ofString d.b4) (defScope d.be.st) d.bs1 d.bs2 = true
  da : d.dr.at_ = (Str.ofString "_law_draw", none)
  ba : d.be.at_ = (Str.ofString "_law_begun", none)
  ca : ∀ e ∈ d.ca, FnScope cau3 [Str.ofString "_law_work"] (defScope e.st) ∧ e.nm = "_law_caught" ∧ e.cls = false ∧ (∀ x ∈ cau3, (defScope e.st).names.lookup x = some .local) ∧ (defScope e.st).names.lookup (Str.ofString "FoundError") = some .globalImplicit
theorem Dt.Ok.dlook {d : Dt} (o : d.Ok) : Dlook d := by
  have h := o.lookD
  unfold Dt.lookD at h
  obtain ⟨h, h8⟩ := and5 h
  obtain ⟨h, h7⟩ := and5 h
  obtain ⟨h, h6⟩ := and5 h
  obtain ⟨h, h5⟩ := and5 h
  obtain ⟨h, h4⟩ := and5 h
  obtain ⟨h, h3⟩ := and5 h
  obtain ⟨h1, h2⟩ := and5 h
  refine ⟨fs_of h1, h2, h3, fs_of h4, h5, of_decide_eq_true h6, of_decide_eq_true h7, fun e he => ?_⟩
  obtain ⟨z, z5⟩ := and5 (List.all_eq_true.mp h8 e he)
  obtain ⟨z, z4⟩ := and5 z
  obtain ⟨z, z3⟩ := and5 z
  obtain ⟨z1, z2⟩ := and5 z
  exact ⟨fs_of z1, of_decide_eq_true z2, nb z3, fun x hx => of_decide_eq_true (List.all_eq_true.mp z4 x hx), of_decide_eq_true z5⟩
section
variable {d : Dt} {P : Program} {w : World} {K : PySem.W.Frag} {mg : Str → Option Value} {base h : Heap}
theorem mem_defs_f {e : Fe} (h : e ∈ d.fs ++ d.cs) : e ∈ d.defs := List.mem_append_left _ h
theorem mem_defs_m {e : Fe} (h : e ∈ d.lw :: d.dr :: d.be :: d.ca) : e ∈ d.defs := List.mem_append_right _ h
theorem mem_lms {e : Fe} (h : e ∈ d.fs ++ [d.lw]) (hl : e.lm = true) : e ∈ d.lms := List.mem_filter.mpr ⟨h, hl⟩
theorem Says.lamF (o : d.Ok) (c : Says d w h K) (hK : K.In base) (hG : base.Ns mainGlobals mg) (hT : ∀ q ∈ d.tt K, LamX.TabB base mg q.1 q.2) {W : Wd} (hW : W.T = d.T K) {e : Fe} (he : e ∈ d.fs ++ [d.lw]) (hl : e.lm = true) : LamF K mg base W d.tb e := by
  have hm := mem_lms he hl
  obtain ⟨hca, hfe⟩ := o.looked.lms e hm
  have D := o.dlook
  have m := c.more
  unfold Dt.ex at m
  obtain ⟨m, _⟩ := and5 m
  obtain ⟨_, m4⟩ := and5 m
  have nd := of_decide_eq_true m4
  have hin : ((He.cT K e.at_).2, lamQ e) ∈ d.T K := List.mem_map.mpr ⟨e, hm, rfl⟩
  refine ⟨hT _ (List.mem_map.mpr ⟨e.at_, List.mem_map.mpr ⟨e, hm, rfl⟩, rfl⟩), by rw [hW]; exact hin, fun p hp q => ?_, ?_, hfe, fun x hx => He.exm_ok (c.fact (fa_exm hx))⟩
  · rw [hW] at hp
    obtain ⟨p1, p2⟩ := p
    have q : p1 = (He.cT K e.at_).2 := q
    subst q
    exact nodup_fst nd hp hin
  · cases hc : d.ca with
    | nil => exact absurd hc hca
    | cons u r =>
      have hu : u ∈ d.ca := by rw [hc]; exact List.mem_cons_self
      obtain ⟨s1, s2, s3, s4, s5⟩ := D.ca u hu
      obtain ⟨fd, F⟩ := c.fun_ (mem_defs_m (List.mem_cons_of_mem _ (List.mem_cons_of_mem _ (List.mem_cons_of_mem _ hu))))
      have e1 : u.name = Str.ofString "_law_caught" := by unfold Fe.name; rw [s3, s2]; rfl
      have e2 : u.qual = Str.ofString "_law_caught" := by unfold Fe.qual; rw [s3, s2]; rfl
      have e3 : u.at_ = (Str.ofString "_law_caught", none) := by unfold Fe.at_; rw [s3, s2]; rfl
      have e4 : u.ps.map Str.ofString = [Str.ofString "_law_work"] := by rw [o.cps u hu]; rfl
      have b := FunD.bindsN F fun kV doc pm an cdv ct us hl => o.one u (List.mem_cons_of_mem _ (List.mem_cons_of_mem _ (List.mem_cons_of_mem _ hu))) kV doc pm an cdv ct us (by rw [hl, List.length_map])
      rw [e1, e2, e3, o.cbody u hu] at F
      rw [e4] at b
      have gl := He.glo_ok hK hG (c.fact (fa_glo (x := u.nm) (List.mem_append_right _ (List.mem_cons_of_mem _ (List.mem_cons_of_mem _ (List.mem_map.mpr ⟨u, List.mem_append_right _ (List.mem_cons_of_mem _ hu), rfl⟩))))))
      rw [s2] at gl
      refine ⟨_, fd, _, defScope u.st, d.cj, d.cp, gl, F, b, s1, s4 _ (by simp [cau3]), s4 _ (by simp [cau3]), s4 _ (by simp [cau3]), s5⟩
theorem drawM_len {W : Wd} {ds : List D} {S : DS} {r : Rs D × DS} (h : drawM W ds S = some r) : ds.length = 2 := by
  unfold drawM at h
  cases e : decide (ds.length = 2) with
  | true => exact of_decide_eq_true e
  | false =>
    rw [e] at h
    cases h
theorem Says.tabF (o : d.Ok) (c : Says d w h K) (hK : K.In base) (hG : base.Ns mainGlobals mg) (hT : ∀ q ∈ d.tt K, LamX.TabB base mg q.1 q.2) {W : Wd} (hW : W.T = d.T K) : TabF P w K mg base W d.tb (Dt.hd W) d.fs d.cs := by
  have L := o.looked
  have D := o.dlook
  have free : ∀ {x : String}, x ∈ "abs" :: "int" :: "len" :: d.tb.bl → mg (Str.ofString x) = none := fun hx => He.free_ok hK hG (c.fact (fa_free hx))
  have glo : ∀ {x : String}, x ∈ d.owns ++ "_law_draw" :: "_law_begun" :: (d.fs ++ d.lw :: d.ca).map (·.nm) → mg (Str.ofString x) = some (.ref (He.ga K (Str.ofString x))) := fun hx => He.glo_ok hK hG (c.fact (fa_glo hx))
  refine ⟨Says.gok o c, fun x hx => free (List.mem_cons_of_mem _ (List.mem_cons_of_mem _ (List.mem_cons_of_mem _ hx))), fun t ht => glo (List.mem_append_left _ (own_mem ht)), fun x hx => ?_, fun e he hl => Says.lamF o c hK hG hT hW (List.mem_append_left _ he) hl,
    fun e he => c.fun_ (mem_defs_f he), L.ok, o.bind, L.fc, L.cc, fun e he => ?_, fun e he => ?_, fun p hp => ?_, fun p hp => ?_⟩
  · obtain ⟨a1, a2, a3, a4⟩ := He.exc_ok (c.fact (fa_exc hx))
    exact ⟨a1, a2, a3, a4⟩
  · have e1 : He.fAd K e.at_ = He.ga K (Str.ofString e.nm) := by
      unfold Fe.at_
      rw [L.fc e he]
      rfl
    rw [e1]
    exact glo (List.mem_append_right _ (List.mem_cons_of_mem _ (List.mem_cons_of_mem _ (List.mem_map.mpr ⟨e, List.mem_append_left _ he, rfl⟩))))
  · have e1 : He.fAd K e.at_ = He.ma K (He.ga K (Str.ofString e.nm)) "__init__" := by
      unfold Fe.at_
      rw [(L.cc e he).1]
      rfl
    rw [e1]
    exact He.mkr_ok (c.fact (fa_mkr he))
  · have z := L.fn p hp
    unfold Dt.fnB at z
    rw [Bool.or_eq_true] at z
    rcases z with z | z
    · obtain ⟨z1, z2⟩ := and5 z
      have z1 := of_decide_eq_true z1
      subst z1
      refine .inl ⟨drawM W, by unfold Dt.hd; rw [if_pos rfl], fun ds S r hr => drawM_len hr, fun q hq => of_decide_eq_true (List.all_eq_true.mp z2 q hq), ?_⟩
      obtain ⟨fd, F⟩ := c.fun_ (mem_defs_m (d := d) (e := d.dr) (List.mem_cons_of_mem _ List.mem_cons_self))
      have b := FunD.bindsN F fun kV doc pm an cdv ct us hl => o.one d.dr (List.mem_cons_of_mem _ List.mem_cons_self) kV doc pm an cdv ct us (by rw [hl, List.length_map])
      have kp := F.kp
      rw [o.dps] at b
      have e1 : He.fAd K d.dr.at_ = He.ga K (Str.ofString "_law_draw") := by rw [D.da]; rfl
      rw [o.dbody] at F
      refine ⟨He.fAd K d.dr.at_, fd, _, fnP_draw _ F D.dS (free (List.mem_cons_of_mem _ List.mem_cons_self)) (free (List.mem_cons_of_mem _ (List.mem_cons_of_mem _ List.mem_cons_self))) D.d1 D.d2, ?_, kp, b, rfl⟩
      rw [e1]
      exact glo (List.mem_append_right _ List.mem_cons_self)
    · obtain ⟨z1, z2⟩ := and5 z
      have z1 := of_decide_eq_true z1
      refine .inr ⟨by unfold Dt.hd; rw [if_neg z1], ?_⟩
      cases q : d.fs.find? fun e => e.nm == p.1 with
      | none => rw [q] at z2; cases z2
      | some e =>
        rw [q] at z2
        obtain ⟨y1, y2⟩ := and5 z2
        exact ⟨e, List.mem_of_find?_eq_some q, rfl, of_decide_eq_true y1, of_decide_eq_true y2⟩
  · have z := L.cs p hp
    unfold Dt.csB at z
    obtain ⟨z, z4⟩ := and5 z
    obtain ⟨z, z3⟩ := and5 z
    obtain ⟨z1, z2⟩ := and5 z
    refine ⟨by unfold Dt.hd; rw [if_neg (of_decide_eq_true z1)], by rw [Option.isNone_iff_eq_none.mp z2], z3, ?_⟩
    cases q : d.cs.find? fun e => e.nm == p.1 with
    | none => rw [q] at z4; cases z4
    | some e =>
      rw [q] at z4
      obtain ⟨y1, y2⟩ := and5 z4
      exact ⟨e, List.mem_of_find?_eq_some q, rfl, of_decide_eq_true y1, of_decide_eq_true y2⟩
theorem Says.begAt (o : d.Ok) (c : Says d w h K) (hK : K.In base) (hG : base.Ns mainGlobals mg) {T : List (Addr × Str)} : BegAt P w K mg base T := by
  have D := o.dlook
  have hb : d.be ∈ d.lw :: d.dr :: d.be :: d.ca := List.mem_cons_of_mem _ (List.mem_cons_of_mem _ List.mem_cons_self)
  obtain ⟨fd, F⟩ := c.fun_ (mem_defs_m hb)
  have b := FunD.bindsN F fun kV doc pm an cdv ct us hl => o.one d.be hb kV doc pm an cdv ct us (by rw [hl, List.length_map])
  have kp := F.kp
  rw [o.bps] at b
  have e1 : He.fAd K d.be.at_ = He.ga K (Str.ofString "_law_begun") := by rw [D.ba]; rfl
  rw [o.bbody] at F
  refine ⟨He.fAd K d.be.at_, fd, _, fnP_beg _ F D.bS (He.free_ok hK hG (c.fact (fa_free List.mem_cons_self))) D.b1, ?_, kp, b⟩
  rw [e1]
  exact He.glo_ok hK hG (c.fact (fa_glo (List.mem_append_right _ (List.mem_cons_of_mem _ List.mem_cons_self))))
/-- THE WALK: what is to be shown of the law's meaning -/
theorem walk_oi {l : PySem.W.OpenLaw} {n : Nat} {q : Program} {loose : List Str} {XP : (Str → Option Value) → Heap → Prop} {dr : DefRec} {x : Str} (o : d.Ok) (hn : l.most = some 63) (hdf : dr.params.defaults = []) (hr : Room (4 * n + 4) callerA) (h1 : 1 ≤ n) (hx : d.lw.ps.map Str.ofString = [x]) (hnm : dr.name = Str.ofString d.lw.nm)
    (hat : d.lw.at_ = (Str.ofString d.lw.nm, none))
    (hlaw : ∀ (ns : List Int) (W : Wd), W.cells = ns.map absI → ns.length ≤ 63 → ∃ S', lawM (gmN d.tb (Dt.hd W) d.fs d.cs n) d.lw ns ⟨lgI (ns.map absI), 0, 0⟩ = some (.ok (.bl true), S')) :
    PySem.W.WalkO q loose XP (fun w h => ∃ K : PySem.W.Frag, K.In h ∧ Says d w h K) l.row.toRowW dr [] (fun f vs => PySem.call f vs) := by
  refine Att.attach_callB hn hdf fun w s₀ st mg mb fa ob pm cd doc a vs ns G Y ho hd hcd hmg hobj hints hlen hbits hg => ?_
  obtain ⟨K, hK, c⟩ := Y
  have hlw : d.lw ∈ d.lw :: d.dr :: d.be :: d.ca := List.mem_cons_self
  obtain ⟨fd, F⟩ := c.fun_ (mem_defs_m hlw)
  have eg := He.glo_ok hK G.T.g (c.fact (fa_glo (x := d.lw.nm) (List.mem_append_right _ (List.mem_cons_of_mem _ (List.mem_cons_of_mem _ (List.mem_map.mpr ⟨d.lw, List.mem_append_right _ List.mem_cons_self, rfl⟩))))))
  rw [hnm] at hmg
  have efa : fa = He.fAd K d.lw.at_ := by
    rw [hat]
    have e := hmg.symm.trans eg
    cases e
    rfl
  subst efa
  have ent : Entry K mg mb (d.tt K) a vs st := by
    refine ⟨hK, G.T.g, G.T.b, G.T.builtins, G.T.nolimit, hg, fun q hq => ?_, fun q hq => ?_, fun q hq => ?_, G.T.bmain, hobj⟩
    · obtain ⟨p, hp, rfl⟩ := List.mem_map.mp hq
      exact c.empty p hp
    · obtain ⟨p, hp, rfl⟩ := List.mem_map.mp hq
      exact c.out p hp
    · obtain ⟨p, hp, rfl⟩ := List.mem_map.mp hq
      exact PySem.W.codeHd_of_K hK (c.hd p hp)
  refine ent.call (T := d.T K) (x := x) (fd := fd) hints hlen hr (fun p hp => ?_) (fun base kin hG hT => ?_) (fun s u => ?_)
  · obtain ⟨e, he, rfl⟩ := List.mem_map.mp hp
    exact List.mem_map.mpr ⟨_, List.mem_map.mpr ⟨e.at_, List.mem_map.mpr ⟨e, he, rfl⟩, rfl⟩, rfl⟩
  · have z := fnP_law (P := l.prog) (hd := Dt.hd) (n := n) (T := d.T K) (fun W hW => Says.tabF o c kin hG hT hW) (Says.begAt o c kin hG) F o.looked.lw (fun W hW hl => Says.lamF o c kin hG hT hW (List.mem_append_right _ (List.mem_singleton.mpr rfl)) hl) h1 (fun ns W _ hc hl => hlaw ns W hc hl)
    rw [o.looked.gr, hx] at z
    exact z
  · have b := FunD.bindsA F fun kV doc pm an cdv ct us hl => o.one d.lw hlw kV doc pm an cdv ct us (by rw [hl, List.length_map])
    rw [hx] at b
    exact b s [u] rfl
end
end Oi

/-! Oj: rules to work out a meaning. Plain Lean. -/
namespace Oi
open PySem

/-! ### slots -/
section
variable {ρ : Rho} {d : D} {ds : List D} {s : Sl} {i : Nat} {m : M D}
theorem nm_0 : nmD (.val d :: ρ) 0 = some d := rfl
theorem nm_s : nmD (s :: ρ) (i + 1) = nmD ρ i := rfl
theorem pkn_v : pk (.val d :: ρ) (.nm 0) = none := rfl
theorem pkn_o : pk (.own ds :: ρ) (.nm 0) = some (.lst ds) := rfl
theorem pkn_n : pk (.no :: ρ) (.nm 0) = none := rfl
theorem pkn_s : pk (s :: ρ) (.nm (i + 1)) = pk ρ (.nm i) := rfl
theorem pe_some (h : pk ρ (.nm i) = some d) : pe ρ (.nm i) m = ret d := by unfold pe; rw [h]
theorem pe_nm : pe ρ (.nm i) m = (match pk ρ (.nm i) with | some d => ret d | none => m) := rfl
theorem pe_kI {a} : pe ρ (.kI a) m = m := rfl
theorem pe_kB {a} : pe ρ (.kB a) m = m := rfl
theorem pe_kN : pe ρ .kN m = m := rfl
theorem pe_kS {a} : pe ρ (.kS a) m = m := rfl
theorem pe_neg {a} : pe ρ (.neg a) m = m := rfl
theorem pe_tup {a} : pe ρ (.tup a) m = m := rfl
theorem pe_lst' {a} : pe ρ (.lst a) m = m := rfl
theorem pe_dct {a b} : pe ρ (.dct a b) m = m := rfl
theorem pe_bin {o a b} : pe ρ (.bin o a b) m = m := rfl
theorem pe_cmp {o a b} : pe ρ (.cmp o a b) m = m := rfl
theorem pe_ite {o a b} : pe ρ (.ite o a b) m = m := rfl
theorem pe_ix' {a b} : pe ρ (.ix a b) m = m := rfl
theorem pe_key {a b} : pe ρ (.key a b) m = m := rfl
theorem pe_sl {a b c} : pe ρ (.sl a b c) m = m := rfl
theorem pe_fld {a b} : pe ρ (.fld a b) m = m := rfl
theorem pe_call' {a b} : pe ρ (.call a b) m = m := rfl
theorem pe_callK {a b c e f} : pe ρ (.callK a b c e f) m = m := rfl
theorem pe_bi {a b} : pe ρ (.bi a b) m = m := rfl
theorem pe_comp {a b c e f} : pe ρ (.comp a b c e f) m = m := rfl
theorem pe_lzip {a b} : pe ρ (.lzip a b) m = m := rfl
theorem pe_caught {a} : pe ρ (.caught a) m = m := rfl
theorem pe_and' {a b} : pe ρ (.and a b) m = m := rfl
theorem pe_or' {a b} : pe ρ (.or a b) m = m := rfl
theorem pe_not' {a} : pe ρ (.not a) m = m := rfl
theorem pe_isA {a b} : pe ρ (.isA a b) m = m := rfl
theorem pe_chain' {a b c e f} : pe ρ (.chain a b c e f) m = m := rfl
theorem pw_t {a} : peW true ρ a m = pe ρ a m := rfl
theorem pw_f {a} : peW false ρ a m = m := rfl
theorem set_0 {t : Sl} : setR (s :: ρ) 0 t = some (t :: ρ) := rfl
theorem set_s {t : Sl} : setR (s :: ρ) (i + 1) t = (setR ρ i t).map (s :: ·) := by
  unfold setR
  by_cases h : i < ρ.length
  · rw [if_pos h, if_pos (by rw [List.length_cons]; omega)]
    rfl
  · rw [if_neg h, if_neg (by rw [List.length_cons]; omega)]
    rfl
theorem ow_0 : ownR (.own ds :: ρ) 0 = some ds := rfl
theorem ow_s : ownR (s :: ρ) (i + 1) = ownR ρ i := rfl
theorem app_0 : appS (.own ds :: ρ) 0 d = (if sz ds.length then some (.own (ds ++ [d]) :: ρ) else none) := rfl
theorem app_s : appS (s :: ρ) (i + 1) d = (appS ρ i d).map (s :: ·) := by
  unfold appS
  rw [List.getElem?_cons_succ]
  cases ρ[i]? with
  | none => rfl
  | some t =>
    cases t with
    | own ds => dsimp only; split <;> rfl
    | _ => rfl
theorem stx_0 {k : Int} : stxS (.own ds :: ρ) 0 (.int k) d = (match L2.ixN ds.length k with | some j => some (.own (ds.set j d) :: ρ) | none => none) := rfl
theorem stx_s {k : D} : stxS (s :: ρ) (i + 1) k d = (stxS ρ i k d).map (s :: ·) := by
  unfold stxS
  rw [List.getElem?_cons_succ]
  cases ρ[i]? with
  | none => rfl
  | some t =>
    cases t with
    | own ds =>
      cases k with
      | int k =>
        dsimp only
        cases L2.ixN ds.length k <;> rfl
      | _ => rfl
    | _ => rfl
theorem frz_v : frzS (.val d :: ρ) 0 = some (.val d :: ρ) := rfl
theorem frz_o : frzS (.own ds :: ρ) 0 = some (.val (.lst ds) :: ρ) := rfl
theorem frz_s : frzS (s :: ρ) (i + 1) = (frzS ρ i).map (s :: ·) := by
  unfold frzS
  rw [List.getElem?_cons_succ]
  cases ρ[i]? with
  | none => rfl
  | some t => cases t <;> rfl
theorem fls_0 {G : Tb} {c f : String} {fs : List (String × D)} : fldS G (.slf c fs :: ρ) 0 f d = (if f ∉ fs.map (·.1) ∧ fs.length < 100 ∧ (G.obs.contains c && G.fl.contains f) = true then some (.slf c (fs ++ [(f, d)]) :: ρ) else none) := rfl
end

/-! ### control -/
section
variable {α β : Type}
theorem ite_t {a b : M α} : iteM true a b = a := rfl
theorem ite_f {a b : M α} : iteM false a b = b := rfl
theorem seq_nx {ρ : Rho} {k : Rho → M (Fl × Rho)} : seqM (ret (.nx, ρ)) k = k ρ := rfl
theorem seq_rt {ρ : Rho} {d : D} {k : Rho → M (Fl × Rho)} : seqM (ret (.rt d, ρ)) k = ret (.rt d, ρ) := rfl
def seqK (k : Rho → M (Fl × Rho)) (r : Fl × Rho) : M (Fl × Rho) := match r with
  | (.nx, ρ) => k ρ
  | r => ret r
theorem seq_def {m : M (Fl × Rho)} {k : Rho → M (Fl × Rho)} : seqM m k = bnd m (seqK k) := rfl
theorem seqK_nx {ρ : Rho} {k : Rho → M (Fl × Rho)} : seqK k (.nx, ρ) = k ρ := rfl
theorem seqK_rt {ρ : Rho} {d : D} {k : Rho → M (Fl × Rho)} : seqK k (.rt d, ρ) = ret (.rt d, ρ) := rfl
theorem seq_ex {c : String} {fs : List (String × D)} {k : Rho → M (Fl × Rho)} : seqM (rse c fs) k = rse c fs := rfl
theorem seq_stk {k : Rho → M (Fl × Rho)} : seqM stk k = stk := rfl
theorem seq_bnd {m : M α} {f : α → M (Fl × Rho)} {k : Rho → M (Fl × Rho)} : seqM (bnd m f) k = bnd m fun a => seqM (f a) k := by
  unfold seqM
  rw [bnd_bnd]
theorem seq_ite {b : Bool} {x y : M (Fl × Rho)} {k : Rho → M (Fl × Rho)} : seqM (iteM b x y) k = iteM b (seqM x k) (seqM y k) := by cases b <;> rfl
theorem bnd_ite {b : Bool} {x y : M α} {f : α → M β} : bnd (iteM b x y) f = iteM b (bnd x f) (bnd y f) := by cases b <;> rfl
theorem res_nx {ρ : Rho} : resM (.nx, ρ) = ret .non := rfl
theorem res_rt {ρ : Rho} {d : D} : resM (.rt d, ρ) = ret d := rfl
theorem tst_ret {b : Bool} : tst (ret (.bl b)) = ret b := rfl
theorem tst_bnd {m : M α} {f : α → M D} : tst (bnd m f) = bnd m fun a => tst (f a) := by
  unfold tst
  rw [bnd_bnd]
theorem tst_ite {b : Bool} {x y : M D} : tst (iteM b x y) = iteM b (tst x) (tst y) := by cases b <;> rfl
theorem and_b {b : Bool} {m : M D} : andM (.bl b) m = iteM b m (ret (.bl false)) := by cases b <;> rfl
theorem or_b {b : Bool} {m : M D} : orM (.bl b) m = iteM b (ret (.bl true)) m := by cases b <;> rfl
theorem not_b {b : Bool} : notD (.bl b) = some (.bl !b) := rfl
theorem tru_b {b : Bool} : truD (.bl b) = some b := rfl
theorem ifs_nil {m : M D} : ifsM .nil m = ret true := rfl
theorem ifs_and {a b : I} {m : M D} : ifsM (.and a b) m = tst m := rfl
theorem ifs_or {a b : I} {m : M D} : ifsM (.or a b) m = tst m := rfl
theorem ifs_not {a : I} {m : M D} : ifsM (.not a) m = tst m := rfl
theorem ifs_cmp {o} {a b : I} {m : M D} : ifsM (.cmp o a b) m = tst m := rfl
theorem ifs_call {f} {b : I} {m : M D} : ifsM (.call f b) m = tst m := rfl
theorem ite_bool {b : Bool} : iteM b (ret (D.bl true)) (ret (D.bl false)) = ret (D.bl b) := by cases b <;> rfl
theorem ite_and {b c : Bool} : iteM b (ret (D.bl c)) (ret (D.bl false)) = ret (D.bl (b && c)) := by cases b <;> rfl
theorem ite_or {b c : Bool} : iteM b (ret (D.bl true)) (ret (D.bl c)) = ret (D.bl (b || c)) := by cases b <;> rfl
theorem ite_andT {b c : Bool} : iteM b (ret c) (ret false) = ret (b && c) := by cases b <;> rfl
theorem ite_orT {b c : Bool} : iteM b (ret true) (ret c) = ret (b || c) := by cases b <;> rfl
theorem oe_nil {m : M D} : oe .nil m = ret none := rfl
theorem oe_ret {i : Int} {a : I} (h : a.isNil = false) : oe a (ret (.int i)) = ret (some i) := by
  unfold oe
  rw [h]
  rfl
theorem nox_ret {a : α} : nox (ret a) = ret a := rfl
end

/-! ### operations -/
theorem le_i {i j : Int} : cmpD .le (.int i) (.int j) = some (decide (i ≤ j)) := rfl
theorem lt_i {i j : Int} : cmpD .lt (.int i) (.int j) = some (decide (i < j)) := rfl
theorem ge_i {i j : Int} : cmpD .ge (.int i) (.int j) = some (decide (j ≤ i)) := rfl
theorem gt_i {i j : Int} : cmpD .gt (.int i) (.int j) = some (decide (j < i)) := rfl
theorem eq_i {i j : Int} : cmpD .eq (.int i) (.int j) = some (decide (i = j)) := eqD_int i j
theorem ne_i {i j : Int} : cmpD .ne (.int i) (.int j) = some (!decide (i = j)) := by
  show (eqD (.int i) (.int j)).map not = _
  rw [eqD_int]
  rfl
theorem is_n {x : D} : cmpD .isN x .non = some x.isNon := rfl
theorem nis_n {x : D} : cmpD .notN x .non = some (!x.isNon) := rfl
theorem add_i {i j : Int} : binD .add (.int i) (.int j) = some (.int (i + j)) := rfl
theorem sub_i {i j : Int} : binD .sub (.int i) (.int j) = some (.int (i - j)) := rfl
theorem bl_i {i : Int} : (some (D.int i)).isSome = true := rfl
theorem len_t {ys : List D} : lenD [.tup ys] = some (.int ys.length) := rfl
theorem len_l {ys : List D} : lenD [.lst ys] = some (.int ys.length) := rfl
theorem len_sc {ys : List Int} : lenD [.scr ys] = some (.int ys.length) := rfl
theorem toPys_ints : ∀ ns : List Int, D.toPys (ns.map D.int) = some (ns.map PyData.int)
  | [] => rfl
  | n :: ns => by
    rw [List.map_cons, List.map_cons]
    unfold D.toPys
    rw [toPys_ints ns]
    rfl
theorem okPy_ints (ns : List Int) : okPy (.lst (ns.map D.int)) = some (.list (ns.map PyData.int)) := by
  unfold okPy D.toPy
  rw [toPys_ints]
  simp only [Option.map_some]
  rw [if_pos (shaped_ints _)]
theorem okPy_nil : okPy (.lst []) = some (.list []) := rfl
theorem eq_nil (ns : List Int) : cmpD .eq (.lst (ns.map D.int)) (.lst []) = some ns.isEmpty := by
  show eqD _ _ = _
  unfold eqD
  rw [okPy_ints, okPy_nil]
  cases ns <;> rfl
theorem ne_nil' (ns : List Int) : cmpD .ne (.lst (ns.map D.int)) (.lst []) = some (!ns.isEmpty) := by
  show (eqD _ _).map not = _
  rw [show eqD (.lst (ns.map D.int)) (.lst []) = some ns.isEmpty from eq_nil ns]
  rfl
theorem allBl_map {α : Type} (g : α → Bool) : ∀ xs : List α, allBl (xs.map fun x => .bl (g x)) = some (xs.map g)
  | [] => rfl
  | x :: xs => by
    rw [List.map_cons]
    unfold allBl
    rw [allBl_map g xs]
    rfl
theorem all_map {α : Type} (g : α → Bool) (xs : List α) : allD [.lst (xs.map fun x => .bl (g x))] = some (.bl (xs.all g)) := by
  show (allBl _).map _ = _
  rw [allBl_map]
  simp [List.all_map]
/-! ### comprehensions -/
theorem comp_map {b : D → Option Rho} {t : Rho → M Bool} {e : Rho → M D} {f : D → D} : ∀ {xs : List D}, (∀ x ∈ xs, ∃ ρ, b x = some ρ ∧ t ρ = ret true ∧ e ρ = ret (f x)) → compM b t e xs = ret (xs.map f)
  | [], _ => rfl
  | x :: xs, h => by
    obtain ⟨ρ, h1, h2, h3⟩ := h x List.mem_cons_self
    have ih := comp_map (b := b) (t := t) (e := e) (f := f) fun y hy => h y (List.mem_cons_of_mem _ hy)
    unfold compM
    rw [h1, lft_some, bnd_ret, h2, nox_ret, bnd_ret]
    dsimp only
    rw [h3, nox_ret, bnd_ret, ih, bnd_ret]
    rfl
theorem comp_filter {b : D → Option Rho} {t : Rho → M Bool} {e : Rho → M D} {p : D → Bool} {f : D → D} : ∀ {xs : List D}, (∀ x ∈ xs, ∃ ρ, b x = some ρ ∧ t ρ = ret (p x) ∧ e ρ = ret (f x)) → compM b t e xs = ret ((xs.filter p).map f)
  | [], _ => rfl
  | x :: xs, h => by
    obtain ⟨ρ, h1, h2, h3⟩ := h x List.mem_cons_self
    have ih := comp_filter (b := b) (t := t) (e := e) (p := p) (f := f) fun y hy => h y (List.mem_cons_of_mem _ hy)
    unfold compM
    rw [h1, lft_some, bnd_ret, h2, nox_ret, bnd_ret]
    cases hp : p x with
    | true =>
      dsimp only
      rw [h3, nox_ret, bnd_ret, ih, bnd_ret, List.filter_cons_of_pos hp]
      rfl
    | false =>
      dsimp only
      rw [ih, List.filter_cons_of_neg (by rw [hp]; decide)]
/-- ones: as many as are found -/
theorem comp_ones {b : D → Option Rho} {t : Rho → M Bool} {e : Rho → M D} {p : D → Bool} {xs : List D} (h : ∀ x ∈ xs, ∃ ρ, b x = some ρ ∧ t ρ = ret (p x) ∧ e ρ = ret (.int 1)) : compM b t e xs = ret (((xs.filter p).map fun _ => (1 : Int)).map D.int) := by
  rw [comp_filter (f := fun _ => .int 1) h, List.map_map]
  rfl
theorem ones_empty {α : Type} {p : α → Bool} {xs : List α} {f : α → Int} : ((xs.filter p).map f).isEmpty = xs.all fun x => !p x := by
  induction xs with
  | nil => rfl
  | cons x xs ih =>
    cases h : p x with
    | true => rw [List.filter_cons_of_pos h, List.all_cons, h]; rfl
    | false => rw [List.filter_cons_of_neg (by rw [h]; decide), List.all_cons, h, ih]; rfl

/-! ### forms (no comprehension) -/
section
variable {G : Gm} {ρ : Rho} {a b c : I} {es ws : I}
theorem ex_nm {i : Nat} : ev G (.nm i) ρ = lft (nmD ρ i) := by rw [ev]
theorem ex_kI {i : Int} : ev G (.kI i) ρ = ret (.int i) := by rw [ev]
theorem ex_kB {i : Bool} : ev G (.kB i) ρ = ret (.bl i) := by rw [ev]
theorem ex_kN : ev G .kN ρ = ret .non := by rw [ev]
theorem ex_kS {i : String} : ev G (.kS i) ρ = ret (.str (Str.ofString i)) := by rw [ev]
theorem ex_neg : ev G (.neg a) ρ = bnd (ev G a ρ) fun x => lft (negD x) := by rw [ev]
theorem ex_tup : ev G (.tup es) ρ = bnd (evL G es ρ) fun ds => ret (.tup ds) := by rw [ev]
theorem ex_lst : ev G (.lst es) ρ = bnd (evL G es ρ) fun ds => ret (.lst ds) := by rw [ev]
theorem ex_dct {ks : List Ky} : ev G (.dct ks es) ρ = bnd (evL G es ρ) fun ds => lft (dctD ks ds) := by rw [ev]
theorem ex_bin {o : BOp} : ev G (.bin o a b) ρ = bnd (ev G a ρ) fun x => bnd (ev G b ρ) fun y => lft (binD o x y) := by rw [ev]
theorem ex_cmp {o : COp} : ev G (.cmp o a b) ρ = bnd (pe ρ a (ev G a ρ)) fun x => bnd (pe ρ b (ev G b ρ)) fun y => lft ((cmpD o x y).map .bl) := by rw [ev]
theorem ex_chain {o p : COp} : ev G (.chain o p a b c) ρ = bnd (ev G a ρ) fun x => bnd (ev G b ρ) fun y => bnd (lft (cmpD o x y)) fun k => iteM k (bnd (ev G c ρ) fun z => lft ((cmpD p y z).map .bl)) (ret (.bl false)) := by rw [ev]
theorem ex_and : ev G (.and a b) ρ = bnd (ev G a ρ) fun x => andM x (ev G b ρ) := by rw [ev]
theorem ex_or : ev G (.or a b) ρ = bnd (ev G a ρ) fun x => orM x (ev G b ρ) := by rw [ev]
theorem ex_not : ev G (.not a) ρ = bnd (ev G a ρ) fun x => lft (notD x) := by rw [ev]
theorem ex_ite : ev G (.ite c a b) ρ = bnd (tst (ev G c ρ)) fun t => iteM t (ev G a ρ) (ev G b ρ) := by rw [ev]
theorem ex_ix : ev G (.ix a b) ρ = bnd (pe ρ a (ev G a ρ)) fun x => bnd (ev G b ρ) fun y => lft (ixD x y) := by rw [ev]
theorem ex_key {k : String} : ev G (.key a k) ρ = bnd (ev G a ρ) fun x => lft (keyD x k) := by rw [ev]
theorem ex_sl : ev G (.sl a b c) ρ = bnd (pe ρ a (ev G a ρ)) fun x => bnd (oe b (ev G b ρ)) fun l => bnd (oe c (ev G c ρ)) fun h => lft (slD x l h) := by rw [ev]
theorem ex_fld {f : String} : ev G (.fld a f) ρ = bnd (ev G a ρ) fun x => lft (fldD G.toTb x f) := by rw [ev]
theorem ex_call {f : String} : ev G (.call f es) ρ = bnd (evL G es ρ) fun ds => G.ft f ds := by rw [ev]
theorem ex_callK {f : String} {ks : List String} {ps : List Nat} : ev G (.callK f ks ps es ws) ρ = bnd (evL G es ρ) fun ds => bnd (evL G ws ρ) fun zs => bnd (lft (perm ps (ds ++ zs))) fun as => G.ft f as := by rw [ev]
theorem ex_bi {f : Bf} : ev G (.bi f es) ρ = bnd (evLP G es ρ) fun ds => lft (f.f ds) := by rw [ev]
theorem ex_isA {t : String} : ev G (.isA a t) ρ = bnd (ev G a ρ) fun x => lft ((isD G.toTb x t).map .bl) := by rw [ev]
theorem ex_lzip : ev G (.lzip a b) ρ = bnd (pe ρ a (ev G a ρ)) fun x => bnd (pe ρ b (ev G b ρ)) fun y => lft (lzipD x y) := by rw [ev]
theorem ex_caught : ev G (.caught a) ρ = cat G (ev G a ρ) := by rw [ev]
theorem ev_comp_map {elt iter ifs : I} {tg : List Nat} {tup : Bool} {xs : List D} (f : D → D) (hi : evI G true iter ρ = ret xs) (hz : sz xs.length = true) (h : ∀ x ∈ xs, ∃ ρ', bindT (wipeR ρ tg) tg tup x = some ρ' ∧ ifsM ifs (ev G ifs ρ') = ret true ∧ ev G elt ρ' = ret (f x)) :
    ev G (.comp elt tg tup iter ifs) ρ = ret (.lst (xs.map f)) := by
  rw [ev, hi, bnd_ret, hz]
  show bnd (compM _ _ _ xs) _ = _
  rw [comp_map h, bnd_ret]
theorem ev_comp_filter {elt iter ifs : I} {tg : List Nat} {tup : Bool} {xs : List D} (p : D → Bool) (f : D → D) (hi : evI G true iter ρ = ret xs) (hz : sz xs.length = true) (h : ∀ x ∈ xs, ∃ ρ', bindT (wipeR ρ tg) tg tup x = some ρ' ∧ ifsM ifs (ev G ifs ρ') = ret (p x) ∧ ev G elt ρ' = ret (f x)) :
    ev G (.comp elt tg tup iter ifs) ρ = ret (.lst ((xs.filter p).map f)) := by
  rw [ev, hi, bnd_ret, hz]
  show bnd (compM _ _ _ xs) _ = _
  rw [comp_filter h, bnd_ret]
theorem ev_comp_ones {iter ifs : I} {tg : List Nat} {tup : Bool} {xs : List D} (p : D → Bool) (hi : evI G true iter ρ = ret xs) (hz : sz xs.length = true) (h : ∀ x ∈ xs, ∃ ρ', bindT (wipeR ρ tg) tg tup x = some ρ' ∧ ifsM ifs (ev G ifs ρ') = ret (p x)) :
    ev G (.comp (.kI 1) tg tup iter ifs) ρ = ret (.lst (((xs.filter p).map fun _ => (1 : Int)).map D.int)) := by
  rw [ev_comp_filter p (fun _ => .int 1) hi hz fun x hx => by
    obtain ⟨ρ', h1, h2⟩ := h x hx
    exact ⟨ρ', h1, h2, ex_kI⟩, List.map_map]
  rfl
end
theorem bT1 {ρ : Rho} {i : Nat} {d : D} : bindT ρ [i] false d = some (ρ.set i (.val d)) := rfl
theorem bT2 {ρ : Rho} {i j : Nat} {d e : D} : bindT ρ [i, j] true (.tup [d, e]) = some ((ρ.set i (.val d)).set j (.val e)) := rfl
theorem zip_t {xs ys : List D} : zipD (.tup xs) (.tup ys) = some (xs.zipWith (fun p q => .tup [p, q]) ys) := rfl
theorem zip_l {xs ys : List D} : zipD (.lst xs) (.lst ys) = some (xs.zipWith (fun p q => .tup [p, q]) ys) := rfl
theorem el_t {xs : List D} : elems (.tup xs) = some xs := rfl
theorem el_l {xs : List D} : elems (.lst xs) = some xs := rfl
theorem sz_le' {a b : Nat} (h : sz b = true) (hl : a ≤ b) : sz a = true := by
  unfold sz at h ⊢
  rw [decide_eq_true_eq] at h ⊢
  omega

/-! ### loops -/
theorem for_find {b : D → Rho → Option Rho} {body : Rho → M (Fl × Rho)} (J : Rho → Prop) (p : D → Bool) (g : D → D) : ∀ {xs : List D} {ρ : Rho}, J ρ →
    (∀ x ∈ xs, ∀ ρ, J ρ → ∃ ρ' ρ'', b x ρ = some ρ' ∧ body ρ' = ret ((if p x = true then .rt (g x) else .nx), ρ'') ∧ J ρ'') → ∃ ρ', forM b body xs ρ = ret ((match xs.find? p with | some x => .rt (g x) | none => .nx), ρ') ∧ J ρ'
  | [], ρ, h, _ => ⟨ρ, rfl, h⟩
  | x :: xs, ρ, h, hb => by
    obtain ⟨ρ', ρ'', h1, h2, h3⟩ := hb x List.mem_cons_self ρ h
    unfold forM
    rw [h1, lft_some, bnd_ret, h2, bnd_ret]
    cases hp : p x with
    | true =>
      refine ⟨ρ'', ?_, h3⟩
      rw [List.find?_cons_of_pos hp, if_pos rfl]
    | false =>
      rw [List.find?_cons_of_neg (by rw [hp]; decide), if_neg (by decide)]
      exact for_find J p g h3 fun y hy => hb y (List.mem_cons_of_mem _ hy)
theorem exec_for {G : Gm} {tg : List Nat} {tup : Bool} {it : I} {body : Sm} {ρ : Rho} {xs : List D} (h : evI G false it ρ = ret xs) : exec G (.for_ tg tup it body) ρ = forM (fun d ρ => bindT ρ tg tup d) (fun ρ => exec G body ρ) xs ρ := by
  rw [exec, h, bnd_ret]
theorem rng_n {m : Nat} (h : sz m = true) : rngD [.int m] = some ((List.range m).map fun (k : Nat) => .int k) := by
  show (if sz (m : Int).toNat ∧ -10000000 < (m : Int) then some ((List.range (m : Int).toNat).map fun (k : Nat) => D.int k) else none) = _
  rw [Int.toNat_natCast, if_pos ⟨h, by omega⟩]
theorem ix_t {xs : List D} {j : Nat} (h : j < xs.length) : ixD (.tup xs) (.int j) = some xs[j] := by
  show L2.atI xs j = _
  rw [atI_eq (by omega) (by omega), Int.toNat_natCast, List.getElem?_eq_getElem h]
theorem ix_ti {xs : List D} {i : Int} (h0 : 0 ≤ i) (h : i.toNat < xs.length) : ixD (.tup xs) (.int i) = some xs[i.toNat] := by
  show L2.atI xs i = _
  rw [atI_eq h0 (by omega), List.getElem?_eq_getElem h]
theorem ix_li {xs : List D} {i : Int} (h0 : 0 ≤ i) (h : i.toNat < xs.length) : ixD (.lst xs) (.int i) = some xs[i.toNat] := by
  show L2.atI xs i = _
  rw [atI_eq h0 (by omega), List.getElem?_eq_getElem h]

/-! ### draws -/
def top40 : Nat := 1099511627776
def Ok {α : Type} (k : Nat) (m : M α) (P : α → Prop) : Prop := ∀ S : DS, S.turn + k < top40 → ∃ a S', m S = some (.ok a, S') ∧ P a ∧ S'.turn ≤ S.turn + k
section
variable {α β : Type} {P : α → Prop} {Q : β → Prop} {k k1 k2 : Nat} {m : M α} {f : α → M β}
theorem Ok.ret {a : α} (h : P a) : Ok k (ret a) P := fun S hS => ⟨a, S, rfl, h, Nat.le_add_right _ _⟩
theorem Ok.bnd (h : Ok k1 m P) (hf : ∀ a, P a → Ok k2 (f a) Q) (hk : k1 + k2 ≤ k := by omega) : Ok k (bnd m f) Q := fun S hS => by
  obtain ⟨a, S1, e1, p1, t1⟩ := h S (by omega)
  obtain ⟨b, S2, e2, p2, t2⟩ := hf a p1 S1 (by omega)
  exact ⟨b, S2, by rw [bnd_at e1, e2], p2, by omega⟩
theorem Ok.mono {P' : α → Prop} {k' : Nat} (h : Ok k m P) (hp : ∀ a, P a → P' a) (hk : k ≤ k' := by omega) : Ok k' m P' := fun S hS => by
  obtain ⟨a, S1, e1, p1, t1⟩ := h S (by omega)
  exact ⟨a, S1, e1, hp a p1, by omega⟩
theorem Ok.ite {b : Bool} {x y : M α} (h1 : b = true → Ok k x P) (h2 : b = false → Ok k y P) : Ok k (iteM b x y) P := by
  cases b with
  | true => exact h1 rfl
  | false => exact h2 rfl
theorem Ok.nox (h : Ok k m P) : Ok k (nox m) P := fun S hS => by
  obtain ⟨a, S1, e1, p1, t1⟩ := h S hS
  exact ⟨a, S1, nox_ok e1, p1, t1⟩
theorem Ok.draw {W : Wd} {n : Int} (h1 : 0 < n) (h2 : n < 1073741824) : Ok 1 (drawM W [.st, .int n]) (fun d => ∃ v, d = .int v ∧ 0 ≤ v ∧ v < n) := fun S hS => by
  obtain ⟨v, S', e1, q1, q2, t⟩ := draw_ok (W := W) (S := S) h1 h2 (by unfold top40 at hS; omega)
  exact ⟨_, S', e1, ⟨v, rfl, q1, q2⟩, t⟩
/-- as many results, each as wanted -/
inductive Two {α β : Type} (R : α → β → Prop) : List α → List β → Prop where
  | nil : Two R [] []
  | cons {a : α} {b : β} {as : List α} {bs : List β} : R a b → Two R as bs → Two R (a :: as) (b :: bs)
theorem Two.len {α β : Type} {R : α → β → Prop} {as : List α} {bs : List β} (h : Two R as bs) : bs.length = as.length := by
  induction h with
  | nil => rfl
  | cons _ _ ih => rw [List.length_cons, List.length_cons, ih]
theorem Two.all {α β : Type} {R : α → β → Prop} {T : β → Prop} (hT : ∀ a b, R a b → T b) {as : List α} {bs : List β} (h : Two R as bs) : ∀ b ∈ bs, T b := by
  induction h with
  | nil => intro b hb; cases hb
  | cons r _ ih =>
    intro b hb
    rcases List.mem_cons.mp hb with z | z
    · rw [z]; exact hT _ _ r
    · exact ih b z
theorem Two.mono {α β : Type} {R R' : α → β → Prop} {as : List α} {bs : List β} (h : Two R as bs) (hr : ∀ a b, R a b → R' a b) : Two R' as bs := by
  induction h with
  | nil => exact .nil
  | cons r _ ih => exact .cons (hr _ _ r) ih
theorem Ok.comp {b : D → Option Rho} {t : Rho → M Bool} {e : Rho → M D} {R : D → D → Prop} {k : Nat} : ∀ {xs : List D}, (∀ x ∈ xs, ∃ ρ, b x = some ρ ∧ t ρ = Oi.ret true ∧ Ok k (e ρ) (R x)) → Ok (k * xs.length) (compM b t e xs) (Two R xs)
  | [], _ => .ret .nil
  | x :: xs, h => by
    obtain ⟨ρ, h1, h2, h3⟩ := h x List.mem_cons_self
    have ih := Ok.comp (b := b) (t := t) (e := e) (R := R) (k := k) fun y hy => h y (List.mem_cons_of_mem _ hy)
    unfold compM
    rw [h1, lft_some, bnd_ret, h2, nox_ret, bnd_ret]
    dsimp only
    have e1 : k * (x :: xs).length = k + k * xs.length := by rw [List.length_cons, Nat.mul_succ]; omega
    rw [e1]
    refine h3.nox.bnd (k1 := k) (k2 := k * xs.length) (fun y hy => ?_) (Nat.le_refl _)
    exact ih.bnd (k1 := k * xs.length) (k2 := 0) (fun ys hys => .ret (.cons hy hys)) (by omega)
/-- a for loop whose body goes on -/
theorem Ok.for_ {b : D → Rho → Option Rho} {body : Rho → M (Fl × Rho)} {k : Nat} (J : Nat → Rho → Prop) : ∀ {xs : List D} {i : Nat} {ρ : Rho}, J i ρ →
    (∀ (j : Nat) (x : D) (ρ : Rho), xs[j]? = some x → J (i + j) ρ → ∃ ρ', b x ρ = some ρ' ∧ Ok k (body ρ') (fun r => (r.1 = .nx ∨ r.1 = .ct) ∧ J (i + j + 1) r.2)) → Ok (k * xs.length) (forM b body xs ρ) (fun r => r.1 = .nx ∧ J (i + xs.length) r.2)
  | [], i, ρ, h, _ => .ret ⟨rfl, h⟩
  | x :: xs, i, ρ, h, hb => by
    obtain ⟨ρ', h1, h2⟩ := hb 0 x ρ rfl h
    have e1 : k * (x :: xs).length = k + k * xs.length := by rw [List.length_cons, Nat.mul_succ]; omega
    rw [e1]
    unfold forM
    rw [h1, lft_some, bnd_ret]
    refine h2.bnd (k1 := k) (k2 := k * xs.length) (fun r hr => ?_) (Nat.le_refl _)
    obtain ⟨f, ρ2⟩ := r
    obtain ⟨hf, hJ⟩ := hr
    have ih := Ok.for_ (b := b) (body := body) (k := k) J (xs := xs) (i := i + 1) (ρ := ρ2) hJ fun j y ρ3 hy hj => by
      have z := hb (j + 1) y ρ3 (by rw [List.getElem?_cons_succ]; exact hy) (by rw [show i + (j + 1) = i + 1 + j by omega]; exact hj)
      rw [show i + (j + 1) + 1 = i + 1 + j + 1 by omega] at z
      exact z
    have e2 : i + (x :: xs).length = i + 1 + xs.length := by rw [List.length_cons]; omega
    rw [e2]
    rcases hf with hf | hf
    · have hf : f = .nx := hf
      subst hf
      exact ih
    · have hf : f = .ct := hf
      subst hf
      exact ih
theorem Ok.drawB {W : Wd} {n : Int} {k : Nat} {f : D → M β} (h1 : 0 < n) (h2 : n < 1073741824) (hf : ∀ v : Int, 0 ≤ v → v < n → Ok k (f (.int v)) Q) : Ok (k + 1) (Oi.bnd (drawM W [.st, .int n]) f) Q :=
  (Ok.draw h1 h2).bnd (k1 := 1) (k2 := k) (fun a ⟨v, e, h3, h4⟩ => by rw [e]; exact hf v h3 h4) (by omega)
theorem Ok.callB {j : Nat} (h : Ok j m P) (hf : ∀ a, P a → Ok k (f a) Q) : Ok (k + j) (Oi.bnd m f) Q := h.bnd (k1 := j) (k2 := k) hf (by omega)
end
/-! ### slices, sums -/
theorem oe_nm {i : Nat} {m : M D} : oe (.nm i) m = bnd m fun x => lft ((intD x).map some) := rfl
theorem oe_bin {o : BOp} {a b : I} {m : M D} : oe (.bin o a b) m = bnd m fun x => lft ((intD x).map some) := rfl
theorem oe_call {f : String} {a : I} {m : M D} : oe (.call f a) m = bnd m fun x => lft ((intD x).map some) := rfl
theorem oe_kI {i : Int} {m : M D} : oe (.kI i) m = bnd m fun x => lft ((intD x).map some) := rfl
theorem int_i {i : Int} : intD (.int i) = some i := rfl
theorem sl_to {xs : List D} {v : Int} (h0 : 0 ≤ v) (h : v.toNat ≤ xs.length) : slD (.tup xs) none (some v) = some (.tup (xs.take v.toNat)) := by
  have e : HT.sIx xs.length xs.length (some v) = v.toNat := by
    show (if v < 0 then (v + (xs.length : Int)).toNat else min v.toNat xs.length) = _
    rw [if_neg (by omega), Nat.min_eq_left h]
  show some (D.tup ((xs.drop 0).take (HT.sIx xs.length xs.length (some v) - 0))) = _
  rw [e, List.drop_zero, Nat.sub_zero]
theorem sl_cut {xs : List D} {v : Int} (h0 : 0 ≤ v) : slD (.tup xs) none (some v) = some (.tup (xs.take (min v.toNat xs.length))) := by
  have e : HT.sIx xs.length xs.length (some v) = min v.toNat xs.length := by
    show (if v < 0 then (v + (xs.length : Int)).toNat else min v.toNat xs.length) = _
    rw [if_neg (by omega)]
  show some (D.tup ((xs.drop 0).take (HT.sIx xs.length xs.length (some v) - 0))) = _
  rw [e, List.drop_zero, Nat.sub_zero]
theorem sl_from {xs : List D} {v : Int} (h0 : 0 ≤ v) (h : v.toNat ≤ xs.length) : slD (.tup xs) (some v) none = some (.tup (xs.drop v.toNat)) := by
  have e : HT.sIx xs.length 0 (some v) = v.toNat := by
    show (if v < 0 then (v + (xs.length : Int)).toNat else min v.toNat xs.length) = _
    rw [if_neg (by omega), Nat.min_eq_left h]
  show some (D.tup ((xs.drop (HT.sIx xs.length 0 (some v))).take (xs.length - HT.sIx xs.length 0 (some v)))) = _
  rw [e, List.take_of_length_le (by rw [List.length_drop]; exact Nat.le_refl _)]
theorem add_t {a b : List D} (h : a.length + b.length ≤ 100000) : binD .add (.tup a) (.tup b) = some (.tup (a ++ b)) := by
  show (if sz (a.length + b.length) then some (D.tup (a ++ b)) else none) = _
  rw [sz_of (by omega), if_pos rfl]
theorem neg_i {i : Int} : negD (.int i) = some (.int (-i)) := rfl
theorem tuple_l {ys : List D} : tupleD [.lst ys] = some (.tup ys) := rfl
theorem tuple_t {ys : List D} : tupleD [.tup ys] = some (.tup ys) := rfl
theorem list_t {ys : List D} : listD [.tup ys] = some (.lst ys) := rfl
theorem list_l {ys : List D} : listD [.lst ys] = some (.lst ys) := rfl
theorem mul_one {d : D} {k : Int} (h : 2 ≤ k ∧ k ≤ 1000) : binD .mul (.tup [d]) (.int k) = some (.tup (List.replicate k.toNat [d]).flatten) := if_pos ⟨h.1, h.2, by simp, by simp⟩
end Oi

/-! Ojr: texts of small data. Plain Lean. -/
namespace Oi
open PySem
structure Fit (d : D) (p : PyData) (B k : Nat) : Prop where
  py : d.toPy = some p
  lay : p.canLay0 = true
  dep : p.depth ≤ k
  shw : p.showable = true
  ok : PyData.strOk p.shown = true
  len : p.shown.length ≤ B
theorem ok_app {a b : Str} (ha : PyData.strOk a = true) (hb : PyData.strOk b = true) : PyData.strOk (a ++ b) = true := by
  unfold PyData.strOk at *
  rw [Str.cps_append, Array.all_append, ha, hb]
  rfl
theorem ok_join : ∀ {ts : List Str}, (∀ t ∈ ts, PyData.strOk t = true) → PyData.strOk (Str.join ", " ts) = true
  | [], _ => by decide +kernel
  | [x], h => h x List.mem_cons_self
  | x :: y :: r, h => by
    have ih := ok_join (ts := y :: r) fun t ht => h t (List.mem_cons_of_mem _ ht)
    show PyData.strOk (x ++ ", " ++ Str.join ", " (y :: r)) = true
    exact ok_app (ok_app (h x List.mem_cons_self) (by decide +kernel)) ih
structure Fits (ds : List D) (ps : List PyData) (B k : Nat) : Prop where
  py : D.toPys ds = some ps
  lay : PyData.canLayAll0 ps = true
  dep : PyData.depthAll ps ≤ k
  shw : PyData.showableAll ps = true
  ok : ∀ t ∈ PyData.shownAll ps, PyData.strOk t = true
  len : piled (PyData.shownAll ps) ≤ ds.length * (B + 2)
theorem fits_of {B k : Nat} : ∀ {ds : List D}, (∀ d ∈ ds, ∃ p, Fit d p B k) → ∃ ps, Fits ds ps B k
  | [], _ => ⟨[], rfl, rfl, Nat.zero_le _, rfl, fun _ h => (by cases h), Nat.le_of_eq (by rw [List.length_nil, Nat.zero_mul]; rfl)⟩
  | d :: ds, h => by
    obtain ⟨p, hp⟩ := h d List.mem_cons_self
    obtain ⟨ps, hps⟩ := fits_of (ds := ds) fun x hx => h x (List.mem_cons_of_mem _ hx)
    refine ⟨p :: ps, ?_, ?_, ?_, ?_, ?_, ?_⟩
    · unfold D.toPys
      rw [hp.py, hps.py]
    · unfold PyData.canLayAll0
      rw [hp.lay, hps.lay]
      rfl
    · have h1 := hp.dep
      have h2 := hps.dep
      simp only [PyData.depthAll]
      omega
    · simp only [PyData.showableAll, hp.shw, hps.shw, Bool.and_self]
    · intro t ht
      simp only [PyData.shownAll] at ht
      rcases List.mem_cons.mp ht with z | z
      · rw [z]; exact hp.ok
      · exact hps.ok t z
    · have h1 := hp.len
      have h2 := hps.len
      simp only [PyData.shownAll, piled_cons, List.length_cons, Nat.succ_mul]
      omega
theorem fit_tup {B k : Nat} {ds : List D} (h : ∀ d ∈ ds, ∃ p, Fit d p B k) : ∃ p, Fit (.tup ds) p (ds.length * (B + 2) + 4) (k + 1) := by
  obtain ⟨ps, hp⟩ := fits_of h
  refine ⟨.tuple ps, ?_, ?_, ?_, ?_, ?_, ?_⟩
  · unfold D.toPy
    rw [hp.py]
    rfl
  · unfold PyData.canLay0
    exact hp.lay
  · have := hp.dep
    simp only [PyData.depth]
    omega
  · simp only [PyData.showable]
    exact hp.shw
  · simp only [PyData.shown]
    unfold tupleText
    refine ok_app (ok_app (by decide +kernel) (ok_join hp.ok)) ?_
    split <;> decide +kernel
  · simp only [PyData.shown]
    unfold tupleText
    rw [Str.length_append, Str.length_append]
    have h1 := hp.len
    have h2 : (Str.join ", " (PyData.shownAll ps)).length ≤ piled (PyData.shownAll ps) := by
      by_cases q : PyData.shownAll ps = []
      · rw [q]; exact Nat.zero_le _
      · have := join_length_add _ q
        omega
    have h3 : (("(" : Str)).length = 1 := rfl
    have h4 : ((if (PyData.shownAll ps).length == 1 then ",)" else ")" : String) : Str).length ≤ 2 := by split <;> decide +kernel
    omega
theorem fit_non : ∃ p, Fit .non p 4 1 := ⟨.none, rfl, rfl, by simp [PyData.depth], rfl, by decide +kernel, by decide +kernel⟩
theorem fit_int {i : Int} (h0 : 0 ≤ i) (h1 : i ≤ 6) : ∃ p, Fit (.int i) p 4 1 := by
  have h : i = 0 ∨ i = 1 ∨ i = 2 ∨ i = 3 ∨ i = 4 ∨ i = 5 ∨ i = 6 := by omega
  rcases h with h | h | h | h | h | h | h <;> subst h <;> exact ⟨_, rfl, rfl, by simp [PyData.depth], by decide +kernel, by decide +kernel, by decide +kernel⟩
theorem repr_of {d : D} {p : PyData} {B k : Nat} (f : Fit d p B k) (hB : B ≤ 10000000) (hk : k ≤ 64) : reprD d = some p.shown := by
  have h1 : okPy d = some p := by
    unfold okPy
    rw [f.py]
    dsimp only
    have h2 : SeqAt.shaped p = true := by
      unfold SeqAt.shaped
      rw [f.lay, decide_eq_true (Nat.le_trans f.dep hk)]
      rfl
    rw [if_pos h2]
  unfold reprD
  rw [h1]
  dsimp only
  rw [if_pos ⟨f.shw, Nat.le_trans (Nat.le_trans f.len hB) len_le⟩]
theorem eq_str {s : Str} (h : PyData.strOk s = true) : cmpD .eq (.str s) (.str s) = some true := by
  show eqD (.str s) (.str s) = _
  have h1 : okPy (.str s) = some (.str s) := by
    unfold okPy D.toPy
    dsimp only
    have h2 : SeqAt.shaped (.str s) = true := by
      unfold SeqAt.shaped
      simp only [PyData.canLay0, h, PyData.depth]
      rfl
    rw [if_pos h2]
  unfold eqD
  rw [h1]
  simp [PyData.eqv]
end Oi

namespace K00
open PySem PySem.Spec PyProof.Rows L2 Oi
abbrev modl : List Stmt := PySem.Challenge.pw_oncefound_k00_tables_and_what_is_none.main.body
def top (i : Nat) : Stmt := modl.getD i (.Pass ⟨0, 0, 0, 0⟩)
def meth (i j : Nat) : Stmt := match top i with
  | .ClassDef _ _ _ b _ _ _ _ _ _ _ => b.getD j (.Pass ⟨0, 0, 0, 0⟩)
  | s => s
def compSc : Stmt → Scope
  | .Assign _ (.ListComp _ _ sc _) _ => sc
  | _ => defScope (.Pass ⟨0, 0, 0, 0⟩)
def tb : Tb := {
  bl := ["all", "isinstance", "len", "list", "min", "range", "repr", "tuple", "zip", "ValueError", "bool", "int"]
  fn := [("is_between", 3), ("is_cell", 2), ("is_row_of", 2), ("are_kinds", 1), ("are_rows", 2), ("first_unread", 2), ("need_table", 1), ("is_row", 2), ("_law_draw", 2), ("_law_pick", 2), ("_law_is_whole", 1), ("_law_is_below", 2), ("_law_odd", 1), ("_law_less", 2), ("_law_put", 3), ("_law_made", 1), ("_law_bad_table", 1), ("_law_cell", 2), ("_law_wide", 1), ("_law_same", 2), ("_law_is_row", 2), ("_law_first_unread", 2), ("_law_spoilt_row", 3), ("_law_no_table", 1), ("_law_are_kinds", 1), ("_law_are_rows", 2), ("_law_spoilt_kinds", 2), ("_law_spoilt_rows", 2), ("_law_built", 2)]
  cs := [("Table", 2)]
  obs := ["Table"]
  exs := ["BadKinds", "BadRows", "BadTable", "FoundError"]
  tab := [(("Table", "BadKinds"), false), (("Table", "BadRows"), false), (("Table", "BadTable"), false), (("Table", "Table"), true), (("Table", "ValueError"), false), (("Table", "bool"), false), (("Table", "int"), false), (("Table", "tuple"), false), (("BadKinds", "BadKinds"), true), (("BadKinds", "BadRows"), false), (("BadKinds", "BadTable"), false), (("BadKinds", "Table"), false), (("BadKinds", "ValueError"), true), (("BadKinds", "bool"), false), (("BadKinds", "int"), false), (("BadKinds", "tuple"), false), (("BadRows", "BadKinds"), false), (("BadRows", "BadRows"), true), (("BadRows", "BadTable"), false), (("BadRows", "Table"), false), (("BadRows", "ValueError"), true), (("BadRows", "bool"), false), (("BadRows", "int"), false), (("BadRows", "tuple"), false), (("BadTable", "BadKinds"), false), (("BadTable", "BadRows"), false), (("BadTable", "BadTable"), true), (("BadTable", "Table"), false), (("BadTable", "ValueError"), true), (("BadTable", "bool"), false), (("BadTable", "int"), false), (("BadTable", "tuple"), false), (("FoundError", "BadKinds"), false), (("FoundError", "BadRows"), false), (("FoundError", "BadTable"), false), (("FoundError", "Table"), false), (("FoundError", "ValueError"), true), (("FoundError", "bool"), false), (("FoundError", "int"), false), (("FoundError", "tuple"), false), (("NoneType", "BadKinds"), false), (("NoneType", "BadRows"), false), (("NoneType", "BadTable"), false), (("NoneType", "Table"), false), (("bool", "BadKinds"), false), (("bool", "BadRows"), false), (("bool", "BadTable"), false), (("bool", "Table"), false), (("int", "BadKinds"), false), (("int", "BadRows"), false), (("int", "BadTable"), false), (("int", "Table"), false), (("str", "BadKinds"), false), (("str", "BadRows"), false), (("str", "BadTable"), false), (("str", "Table"), false), (("tuple", "BadKinds"), false), (("tuple", "BadRows"), false), (("tuple", "BadTable"), false), (("tuple", "Table"), false), (("list", "BadKinds"), false), (("list", "BadRows"), false), (("list", "BadTable"), false), (("list", "Table"), false), (("dict", "BadKinds"), false), (("dict", "BadRows"), false), (("dict", "BadTable"), false), (("dict", "Table"), false)]
  fl := ["kinds", "rows"]
  gr := ["_law_built", "_law_same", "law"]
  rs := ["BadKinds", "BadRows", "BadTable"]
  kw := [⟨"Table", 0, ["rows", "kinds"], [1, 0]⟩]
  fe := ["BadKinds", "BadRows", "BadTable"] }
def bf_is_between : Sm := (.seq (.rt (.and (.isA (.nm 0) "int") (.and (.not (.isA (.nm 0) "bool")) (.chain .le .le (.nm 1) (.nm 0) (.nm 2))))) .nil)
def f_is_between : Fe := ⟨"is_between", false, ["thing", "low", "high"], ["thing", "low", "high"], ⟨3, 3, bf_is_between⟩, false, top 6⟩
def bf_is_cell : Sm := (.seq (.rt (.or (.cmp .isN (.nm 1) .kN) (.call "is_between" (.cons (.nm 1) (.cons (.kI 0) (.cons (.bin .sub (.nm 0) (.kI 1)) .nil)))))) .nil)
def f_is_cell : Fe := ⟨"is_cell", false, ["kind", "thing"], ["kind", "thing"], ⟨2, 2, bf_is_cell⟩, false, top 7⟩
def bf_is_row_of : Sm := (.seq (.ifs (.or (.not (.isA (.nm 1) "tuple")) (.cmp .ne (.bi .len (.cons (.nm 1) .nil)) (.bi .len (.cons (.nm 0) .nil)))) (.seq (.rt (.kB false)) .nil) .nil) (.seq (.rt (.bi .all (.cons (.comp (.call "is_cell" (.cons (.nm 2) (.cons (.nm 3) .nil))) [2, 3] true (.itZ (.nm 0) (.nm 1)) .nil) .nil))) .nil))
def f_is_row_of : Fe := ⟨"is_row_of", false, ["kinds", "thing"], ["kinds", "thing", "kind", "cell"], ⟨2, 4, bf_is_row_of⟩, false, top 8⟩
def bf_are_kinds : Sm := (.seq (.ifs (.or (.not (.isA (.nm 0) "tuple")) (.not (.chain .le .le (.kI 1) (.bi .len (.cons (.nm 0) .nil)) (.kI 8)))) (.seq (.rt (.kB false)) .nil) .nil) (.seq (.rt (.bi .all (.cons (.comp (.call "is_between" (.cons (.nm 1) (.cons (.kI 1) (.cons (.kI 6) .nil)))) [1] false (.itS (.nm 0)) .nil) .nil))) .nil))
def f_are_kinds : Fe := ⟨"are_kinds", false, ["thing"], ["thing", "kind"], ⟨1, 2, bf_are_kinds⟩, false, top 9⟩
def bf_are_rows : Sm := (.seq (.ifs (.or (.not (.isA (.nm 1) "tuple")) (.not (.chain .le .le (.kI 1) (.bi .len (.cons (.nm 1) .nil)) (.kI 12)))) (.seq (.rt (.kB false)) .nil) .nil) (.seq (.ifs (.not (.bi .all (.cons (.comp (.call "is_row_of" (.cons (.nm 0) (.cons (.nm 2) .nil))) [2] false (.itS (.nm 1)) .nil) .nil))) (.seq (.rt (.kB false)) .nil) .nil) (.seq (.rt (.cmp .isN (.call "first_unread" (.cons (.bi .len (.cons (.nm 0) .nil)) (.cons (.nm 1) .nil))) .kN)) .nil)))
def f_are_rows : Fe := ⟨"are_rows", false, ["kinds", "thing"], ["kinds", "thing", "row"], ⟨2, 3, bf_are_rows⟩, false, top 10⟩
def bf_first_unread : Sm := (.seq (.for_ [2] false (.itR (.cons (.nm 0) .nil)) (.seq (.ifs (.bi .all (.cons (.comp (.cmp .isN (.ix (.nm 3) (.nm 2)) .kN) [3] false (.itS (.nm 1)) .nil) .nil)) (.seq (.rt (.nm 2)) .nil) .nil) .nil)) (.seq (.rt .kN) .nil))
def f_first_unread : Fe := ⟨"first_unread", false, ["many", "rows"], ["many", "rows", "matter", "row"], ⟨2, 4, bf_first_unread⟩, false, top 11⟩
def bf_need_table : Sm := (.seq (.ifs (.not (.isA (.nm 0) "Table")) (.seq (.rse "BadTable") .nil) .nil) .nil)
def f_need_table : Fe := ⟨"need_table", false, ["table"], ["table"], ⟨1, 1, bf_need_table⟩, false, top 13⟩
def bf_is_row : Sm := (.seq (.ex (.call "need_table" (.cons (.nm 0) .nil))) (.seq (.rt (.call "is_row_of" (.cons (.fld (.nm 0) "kinds") (.cons (.nm 1) .nil)))) .nil))
def f_is_row : Fe := ⟨"is_row", false, ["table", "thing"], ["table", "thing"], ⟨2, 2, bf_is_row⟩, false, top 14⟩
def bg_law_pick : Sm := (.seq (.rt (.ix (.nm 1) (.call "_law_draw" (.cons (.nm 0) (.cons (.bi .len (.cons (.nm 1) .nil)) .nil))))) .nil)
def g_law_pick : Fe := ⟨"_law_pick", false, ["_law_state", "_law_several"], ["_law_state", "_law_several"], ⟨2, 2, bg_law_pick⟩, false, top 18⟩
def bg_law_is_whole : Sm := (.seq (.rt (.and (.isA (.nm 0) "int") (.not (.isA (.nm 0) "bool")))) .nil)
def g_law_is_whole : Fe := ⟨"_law_is_whole", false, ["_law_item"], ["_law_item"], ⟨1, 1, bg_law_is_whole⟩, false, top 20⟩
def bg_law_is_below : Sm := (.seq (.rt (.and (.call "_law_is_whole" (.cons (.nm 0) .nil)) (.chain .le .lt (.kI 0) (.nm 0) (.nm 1)))) .nil)
def g_law_is_below : Fe := ⟨"_law_is_below", false, ["_law_item", "_law_size_here"], ["_law_item", "_law_size_here"], ⟨2, 2, bg_law_is_below⟩, false, top 21⟩
def bg_law_odd : Sm := (.seq (.rt (.call "_law_pick" (.cons (.nm 0) (.cons (.lst (.cons .kN (.cons (.kB true) (.cons (.kB false) (.cons (.kS "0") (.cons (.kS "") (.cons (.lst .nil) (.cons (.dct [] .nil) (.cons (.tup (.cons .kN .nil)) (.cons (.tup (.cons (.kS "a") (.cons (.kI 1) .nil))) (.cons (.lst (.cons (.lst (.cons (.kI 0) .nil)) .nil)) (.cons (.dct [.i 0] (.cons (.kI 0) .nil)) (.cons (.tup (.cons (.kB true) .nil)) (.cons (.kI 5) (.cons (.neg (.kI 1)) .nil))))))))))))))) .nil)))) .nil)
def g_law_odd : Fe := ⟨"_law_odd", false, ["_law_state"], ["_law_state"], ⟨1, 1, bg_law_odd⟩, false, top 22⟩
def bg_law_less : Sm := (.seq (.rt (.bin .add (.sl (.nm 0) .nil (.nm 1)) (.sl (.nm 0) (.bin .add (.nm 1) (.kI 1)) .nil))) .nil)
def g_law_less : Fe := ⟨"_law_less", false, ["_law_row", "_law_spot"], ["_law_row", "_law_spot"], ⟨2, 2, bg_law_less⟩, false, top 23⟩
def bg_law_put : Sm := (.seq (.rt (.bin .add (.bin .add (.sl (.nm 0) .nil (.nm 1)) (.tup (.cons (.nm 2) .nil))) (.sl (.nm 0) (.bin .add (.nm 1) (.kI 1)) .nil))) .nil)
def g_law_put : Fe := ⟨"_law_put", false, ["_law_row", "_law_spot", "_law_item"], ["_law_row", "_law_spot", "_law_item"], ⟨3, 3, bg_law_put⟩, false, top 24⟩
def bg_law_made : Sm := (.seq (.rt (.call "Table" (.cons (.key (.nm 0) "kinds") (.cons (.key (.nm 0) "rows") .nil)))) .nil)
def g_law_made : Fe := ⟨"_law_made", false, ["_law_scope"], ["_law_scope"], ⟨1, 1, bg_law_made⟩, false, top 25⟩
def bg_law_bad_table : Sm := (.seq (.rt (.call "_law_pick" (.cons (.nm 0) (.cons (.lst (.cons .kN (.cons (.kI 5) (.cons (.tup .nil) (.cons (.dct [] .nil) (.cons (.kS "table") (.cons (.tup (.cons (.tup (.cons (.kI 2) .nil)) (.cons (.tup (.cons (.tup (.cons (.kI 0) .nil)) .nil)) .nil))) .nil))))))) .nil)))) .nil)
def g_law_bad_table : Fe := ⟨"_law_bad_table", false, ["_law_state"], ["_law_state"], ⟨1, 1, bg_law_bad_table⟩, false, top 26⟩
def bg_law_cell : Sm := (.seq (.rt (.ite (.cmp .eq (.call "_law_draw" (.cons (.nm 0) (.cons (.kI 5) .nil))) (.kI 0)) .kN (.call "_law_draw" (.cons (.nm 0) (.cons (.nm 1) .nil))))) .nil)
def g_law_cell : Fe := ⟨"_law_cell", false, ["_law_state", "_law_size_here"], ["_law_state", "_law_size_here"], ⟨2, 2, bg_law_cell⟩, false, top 27⟩
def bg_law_wide : Sm := (.seq (.set 1 (.bi .tuple (.cons (.comp (.bin .add (.kI 1) (.call "_law_draw" (.cons (.nm 0) (.cons (.kI 6) .nil)))) [5] false (.itR (.cons (.bin .add (.kI 1) (.call "_law_draw" (.cons (.nm 0) (.cons (.kI 8) .nil)))) .nil)) .nil) .nil))) (.seq (.set 2 (.bin .add (.kI 1) (.call "_law_draw" (.cons (.nm 0) (.cons (.kI 12) .nil))))) (.seq (.setO 3 (.comp (.bi .tuple (.cons (.comp (.call "_law_cell" (.cons (.nm 0) (.cons (.nm 7) .nil))) [7] false (.itS (.nm 1)) .nil) .nil)) [5] false (.itR (.cons (.nm 2) .nil)) .nil)) (.seq (.stx 3 (.call "_law_draw" (.cons (.nm 0) (.cons (.nm 2) .nil))) (.ix (.nm 3) (.call "_law_draw" (.cons (.nm 0) (.cons (.nm 2) .nil))))) (.seq (.for_ [4] false (.itR (.cons (.bi .len (.cons (.nm 1) .nil)) .nil)) (.seq (.ifs (.cmp .eq (.comp (.kI 1) [8] false (.itS (.nm 3)) (.cmp .notN (.ix (.nm 8) (.nm 4)) .kN)) (.lst .nil)) (.seq (.set 6 (.call "_law_draw" (.cons (.nm 0) (.cons (.nm 2) .nil)))) (.seq (.stx 3 (.nm 6) (.call "_law_put" (.cons (.ix (.nm 3) (.nm 6)) (.cons (.nm 4) (.cons (.call "_law_draw" (.cons (.nm 0) (.cons (.ix (.nm 1) (.nm 4)) .nil))) .nil))))) .nil)) .nil) .nil)) (.seq (.rt (.dct [.s "kinds", .s "rows"] (.cons (.nm 1) (.cons (.bi .tuple (.cons (.nm 3) .nil)) .nil)))) .nil))))))
def g_law_wide : Fe := ⟨"_law_wide", false, ["_law_state"], ["_law_state", "_law_kinds_here", "_law_many", "_law_rows_here", "_law_spot", "_law_lap", "_law_at", "_law_size_here", "_law_row"], ⟨1, 9, bg_law_wide⟩, false, top 28⟩
def bg_law_same : Sm := (.seq (.rt (.and (.isA (.nm 0) "Table") (.cmp .eq (.bi .repr (.cons (.tup (.cons (.fld (.nm 0) "kinds") (.cons (.fld (.nm 0) "rows") .nil))) .nil)) (.bi .repr (.cons (.tup (.cons (.key (.nm 1) "kinds") (.cons (.key (.nm 1) "rows") .nil))) .nil))))) .nil)
def g_law_same : Fe := ⟨"_law_same", false, ["_law_thing", "_law_scope"], ["_law_thing", "_law_scope"], ⟨2, 2, bg_law_same⟩, false, top 29⟩
def bg_law_is_row : Sm := (.seq (.ifs (.or (.not (.isA (.nm 1) "tuple")) (.cmp .ne (.bi .len (.cons (.nm 1) .nil)) (.bi .len (.cons (.nm 0) .nil)))) (.seq (.rt (.kB false)) .nil) .nil) (.seq (.set 2 (.lzip (.nm 0) (.nm 1))) (.seq (.rt (.cmp .eq (.comp (.kI 1) [3, 4] true (.itS (.nm 2)) (.and (.cmp .notN (.nm 4) .kN) (.not (.call "_law_is_below" (.cons (.nm 4) (.cons (.nm 3) .nil)))))) (.lst .nil))) .nil)))
def g_law_is_row : Fe := ⟨"_law_is_row", false, ["_law_kinds_here", "_law_thing"], ["_law_kinds_here", "_law_thing", "_law_pairs", "_law_size_here", "_law_item"], ⟨2, 5, bg_law_is_row⟩, false, top 30⟩
def bg_law_first_unread : Sm := (.seq (.rt (.comp (.nm 2) [2] false (.itR (.cons (.nm 0) .nil)) (.cmp .eq (.comp (.kI 1) [3] false (.itS (.nm 1)) (.cmp .notN (.ix (.nm 3) (.nm 2)) .kN)) (.lst .nil)))) .nil)
def g_law_first_unread : Fe := ⟨"_law_first_unread", false, ["_law_many", "_law_rows_here"], ["_law_many", "_law_rows_here", "_law_spot", "_law_row"], ⟨2, 4, bg_law_first_unread⟩, false, top 31⟩
def bg_law_spoilt_row : Sm := (.seq (.par 4 5 (.call "_law_draw" (.cons (.nm 0) (.cons (.bi .len (.cons (.nm 2) .nil)) .nil))) (.call "_law_draw" (.cons (.nm 0) (.cons (.kI 7) .nil)))) (.seq (.ifs (.cmp .eq (.nm 5) (.kI 0)) (.seq (.rt (.call "_law_pick" (.cons (.nm 0) (.cons (.lst (.cons (.bi .list (.cons (.nm 2) .nil)) (.cons .kN (.cons (.kI 5) (.cons (.kS "row") (.cons (.dct [] .nil) (.cons (.tup .nil) (.cons (.ix (.nm 2) (.nm 4)) .nil)))))))) .nil)))) .nil) .nil) (.seq (.ifs (.cmp .eq (.nm 5) (.kI 1)) (.seq (.rt (.call "_law_less" (.cons (.nm 2) (.cons (.nm 4) .nil)))) .nil) .nil) (.seq (.ifs (.cmp .eq (.nm 5) (.kI 2)) (.seq (.rt (.bin .add (.bin .add (.sl (.nm 2) .nil (.nm 4)) (.tup (.cons (.ix (.nm 2) (.nm 4)) .nil))) (.sl (.nm 2) (.nm 4) .nil))) .nil) .nil) (.seq (.set 3 (.ix (.nm 1) (.nm 4))) (.seq (.rt (.call "_law_put" (.cons (.nm 2) (.cons (.nm 4) (.cons (.call "_law_pick" (.cons (.nm 0) (.cons (.lst (.cons (.nm 3) (.cons (.neg (.kI 1)) (.cons (.kB true) (.cons (.kB false) (.cons (.kS "0") (.cons (.tup (.cons (.kI 0) .nil)) (.cons (.bin .sub (.nm 3) (.kI 1)) (.cons .kN (.cons (.kI 0) (.cons (.kI 6) .nil))))))))))) .nil))) .nil))))) .nil))))))
def g_law_spoilt_row : Fe := ⟨"_law_spoilt_row", false, ["_law_state", "_law_kinds_here", "_law_row"], ["_law_state", "_law_kinds_here", "_law_row", "_law_size_here", "_law_spot", "_law_way"], ⟨3, 6, bg_law_spoilt_row⟩, false, top 32⟩
def bg_law_no_table : Sm := (.seq (.rt (.isA (.nm 0) "BadTable")) .nil)
def g_law_no_table : Fe := ⟨"_law_no_table", false, ["_law_caught_here"], ["_law_caught_here"], ⟨1, 1, bg_law_no_table⟩, false, top 33⟩
def bg_law_are_kinds : Sm := (.seq (.ifs (.or (.not (.isA (.nm 0) "tuple")) (.not (.chain .le .le (.kI 1) (.bi .len (.cons (.nm 0) .nil)) (.kI 8)))) (.seq (.rt (.kB false)) .nil) .nil) (.seq (.rt (.cmp .eq (.comp (.kI 1) [1] false (.itS (.nm 0)) (.or (.not (.call "_law_is_whole" (.cons (.nm 1) .nil))) (.not (.chain .le .le (.kI 1) (.nm 1) (.kI 6))))) (.lst .nil))) .nil))
def g_law_are_kinds : Fe := ⟨"_law_are_kinds", false, ["_law_thing"], ["_law_thing", "_law_item"], ⟨1, 2, bg_law_are_kinds⟩, false, top 34⟩
def bg_law_are_rows : Sm := (.seq (.ifs (.or (.not (.isA (.nm 1) "tuple")) (.not (.chain .le .le (.kI 1) (.bi .len (.cons (.nm 1) .nil)) (.kI 12)))) (.seq (.rt (.kB false)) .nil) .nil) (.seq (.ifs (.cmp .ne (.comp (.kI 1) [2] false (.itS (.nm 1)) (.not (.call "_law_is_row" (.cons (.nm 0) (.cons (.nm 2) .nil))))) (.lst .nil)) (.seq (.rt (.kB false)) .nil) .nil) (.seq (.rt (.cmp .eq (.call "_law_first_unread" (.cons (.bi .len (.cons (.nm 0) .nil)) (.cons (.nm 1) .nil))) (.lst .nil))) .nil)))
def g_law_are_rows : Fe := ⟨"_law_are_rows", false, ["_law_kinds_here", "_law_thing"], ["_law_kinds_here", "_law_thing", "_law_row"], ⟨2, 3, bg_law_are_rows⟩, false, top 35⟩
def bg_law_spoilt_kinds : Sm := (.seq (.par 2 3 (.call "_law_draw" (.cons (.nm 0) (.cons (.bi .len (.cons (.nm 1) .nil)) .nil))) (.call "_law_draw" (.cons (.nm 0) (.cons (.kI 6) .nil)))) (.seq (.ifs (.cmp .eq (.nm 3) (.kI 0)) (.seq (.rt (.call "_law_pick" (.cons (.nm 0) (.cons (.lst (.cons (.bi .list (.cons (.nm 1) .nil)) (.cons .kN (.cons (.kI 5) (.cons (.kS "23") (.cons (.dct [] .nil) (.cons (.tup .nil) (.cons (.tup (.cons (.nm 1) .nil)) .nil)))))))) .nil)))) .nil) .nil) (.seq (.ifs (.cmp .eq (.nm 3) (.kI 1)) (.seq (.rt (.call "_law_less" (.cons (.nm 1) (.cons (.nm 2) .nil)))) .nil) .nil) (.seq (.ifs (.cmp .eq (.nm 3) (.kI 2)) (.seq (.rt (.sl (.bin .add (.nm 1) (.bin .mul (.tup (.cons (.kI 1) .nil)) (.kI 8))) .nil (.call "_law_pick" (.cons (.nm 0) (.cons (.lst (.cons (.kI 8) (.cons (.kI 9) .nil))) .nil))))) .nil) .nil) (.seq (.rt (.call "_law_put" (.cons (.nm 1) (.cons (.nm 2) (.cons (.call "_law_pick" (.cons (.nm 0) (.cons (.lst (.cons (.kI 0) (.cons (.kI 7) (.cons (.neg (.kI 1)) (.cons (.kB true) (.cons (.kS "2") (.cons .kN (.cons (.tup (.cons (.kI 2) .nil)) (.cons (.kI 6) (.cons (.kI 1) .nil)))))))))) .nil))) .nil))))) .nil)))))
def g_law_spoilt_kinds : Fe := ⟨"_law_spoilt_kinds", false, ["_law_state", "_law_kinds_here"], ["_law_state", "_law_kinds_here", "_law_spot", "_law_way"], ⟨2, 4, bg_law_spoilt_kinds⟩, false, top 36⟩
def bg_law_spoilt_rows : Sm := (.seq (.par 3 4 (.key (.nm 1) "rows") (.call "_law_draw" (.cons (.nm 0) (.cons (.kI 8) .nil)))) (.seq (.set 2 (.call "_law_draw" (.cons (.nm 0) (.cons (.bi .len (.cons (.nm 3) .nil)) .nil)))) (.seq (.ifs (.cmp .eq (.nm 4) (.kI 0)) (.seq (.rt (.call "_law_pick" (.cons (.nm 0) (.cons (.lst (.cons (.bi .list (.cons (.nm 3) .nil)) (.cons .kN (.cons (.kI 5) (.cons (.tup .nil) (.cons (.dct [] .nil) (.cons (.ix (.nm 3) (.kI 0)) (.cons (.kS "rows") .nil)))))))) .nil)))) .nil) .nil) (.seq (.ifs (.cmp .eq (.nm 4) (.kI 1)) (.seq (.rt (.call "_law_less" (.cons (.nm 3) (.cons (.nm 2) .nil)))) .nil) .nil) (.seq (.ifs (.cmp .eq (.nm 4) (.kI 2)) (.seq (.rt (.sl (.bin .add (.nm 3) (.bin .mul (.tup (.cons (.ix (.nm 3) (.nm 2)) .nil)) (.kI 12))) .nil (.call "_law_pick" (.cons (.nm 0) (.cons (.lst (.cons (.kI 12) (.cons (.kI 13) .nil))) .nil))))) .nil) .nil) (.seq (.ifs (.cmp .eq (.nm 4) (.kI 3)) (.seq (.set 5 (.call "_law_draw" (.cons (.nm 0) (.cons (.bi .len (.cons (.key (.nm 1) "kinds") .nil)) .nil)))) (.seq (.rt (.bi .tuple (.cons (.comp (.call "_law_put" (.cons (.nm 6) (.cons (.nm 5) (.cons .kN .nil)))) [6] false (.itS (.nm 3)) .nil) .nil))) .nil)) .nil) (.seq (.rt (.call "_law_put" (.cons (.nm 3) (.cons (.nm 2) (.cons (.call "_law_spoilt_row" (.cons (.nm 0) (.cons (.key (.nm 1) "kinds") (.cons (.ix (.nm 3) (.nm 2)) .nil)))) .nil))))) .nil)))))))
def g_law_spoilt_rows : Fe := ⟨"_law_spoilt_rows", false, ["_law_state", "_law_scope"], ["_law_state", "_law_scope", "_law_at", "_law_rows_here", "_law_way", "_law_spot", "_law_row"], ⟨2, 7, bg_law_spoilt_rows⟩, false, top 37⟩
def bg_law_built : Sm := (.seq (.set 2 (.caught (.call "Table" (.cons (.nm 0) (.cons (.nm 1) .nil))))) (.seq (.ifs (.not (.call "_law_are_kinds" (.cons (.nm 0) .nil))) (.seq (.rt (.and (.isA (.nm 2) "BadKinds") (.isA (.nm 2) "ValueError"))) .nil) .nil) (.seq (.ifs (.not (.call "_law_are_rows" (.cons (.nm 0) (.cons (.nm 1) .nil)))) (.seq (.rt (.and (.isA (.nm 2) "BadRows") (.isA (.nm 2) "ValueError"))) .nil) .nil) (.seq (.ifs (.cmp .notN (.nm 2) .kN) (.seq (.rt (.kB false)) .nil) .nil) (.seq (.rt (.call "_law_same" (.cons (.callK "Table" ["rows", "kinds"] [1, 0] .nil (.cons (.nm 1) (.cons (.nm 0) .nil))) (.cons (.dct [.s "kinds", .s "rows"] (.cons (.nm 0) (.cons (.nm 1) .nil))) .nil)))) .nil)))))
def g_law_built : Fe := ⟨"_law_built", false, ["_law_kinds_told", "_law_rows_told"], ["_law_kinds_told", "_law_rows_told", "_law_caught_here"], ⟨2, 3, bg_law_built⟩, true, top 38⟩
def bf_Table : Sm := (.seq (.ifs (.not (.call "are_kinds" (.cons (.nm 1) .nil))) (.seq (.rse "BadKinds") .nil) .nil) (.seq (.ifs (.not (.call "are_rows" (.cons (.nm 1) (.cons (.nm 2) .nil)))) (.seq (.rse "BadRows") .nil) .nil) (.seq (.fldS 0 "kinds" (.nm 1)) (.seq (.fldS 0 "rows" (.nm 2)) .nil))))
def f_Table : Fe := ⟨"Table", true, ["self", "kinds", "rows"], ["self", "kinds", "rows"], ⟨3, 3, bf_Table⟩, false, meth 12 0⟩
def bf_law : Sm := (.seq (.for_ [2] false (.itR (.cons (.bin .add (.kI 2) (.bi .min (.cons (.bi .len (.cons (.nm 0) .nil)) (.cons (.kI 6) .nil)))) .nil)) (.seq (.unp [9, 10] (.tup (.cons (.call "_law_wide" (.cons (.nm 1) .nil)) (.cons (.call "_law_draw" (.cons (.nm 1) (.cons (.kI 4) .nil))) .nil)))) (.seq (.set 3 (.ite (.cmp .isIn (.nm 10) (.tup (.cons (.kI 1) (.cons (.kI 3) .nil)))) (.call "_law_spoilt_kinds" (.cons (.nm 1) (.cons (.key (.nm 9) "kinds") .nil))) (.key (.nm 9) "kinds"))) (.seq (.set 4 (.ite (.cmp .isIn (.nm 10) (.tup (.cons (.kI 2) (.cons (.kI 3) .nil)))) (.call "_law_spoilt_rows" (.cons (.nm 1) (.cons (.nm 9) .nil))) (.key (.nm 9) "rows"))) (.seq (.ifs (.or (.not (.call "_law_built" (.cons (.nm 3) (.cons (.nm 4) .nil)))) (.not (.call "_law_built" (.cons (.key (.nm 9) "kinds") (.cons (.key (.nm 9) "rows") .nil))))) (.seq (.rt (.kB false)) .nil) .nil) (.seq (.set 5 (.call "_law_made" (.cons (.nm 9) .nil))) (.seq (.for_ [6] false (.itR (.cons (.kI 4) .nil)) (.seq (.set 11 (.call "_law_pick" (.cons (.nm 1) (.cons (.key (.nm 9) "rows") .nil)))) (.seq (.set 12 (.call "_law_pick" (.cons (.nm 1) (.cons (.lst (.cons (.nm 11) (.cons (.call "_law_spoilt_row" (.cons (.nm 1) (.cons (.key (.nm 9) "kinds") (.cons (.nm 11) .nil)))) (.cons (.call "_law_odd" (.cons (.nm 1) .nil)) (.cons (.nm 5) .nil))))) .nil)))) (.seq (.ifs (.cmp .ne (.bi .reprB (.cons (.call "is_row" (.cons (.nm 5) (.cons (.nm 12) .nil))) .nil)) (.bi .reprB (.cons (.call "_law_is_row" (.cons (.key (.nm 9) "kinds") (.cons (.nm 12) .nil))) .nil))) (.seq (.rt (.kB false)) .nil) .nil) .nil)))) (.seq (.set 7 (.call "_law_bad_table" (.cons (.nm 1) .nil))) (.seq (.set 8 (.caught (.call "is_row" (.cons (.nm 7) (.cons (.ix (.key (.nm 9) "rows") (.kI 0)) .nil))))) (.seq (.ifs (.or (.not (.call "_law_no_table" (.cons (.nm 8) .nil))) (.not (.isA (.nm 8) "ValueError"))) (.seq (.rt (.kB false)) .nil) .nil) (.seq (.ifs (.not (.call "_law_same" (.cons (.nm 5) (.cons (.nm 9) .nil)))) (.seq (.rt (.kB false)) .nil) .nil) .nil))))))))))) (.seq (.rt (.kB true)) .nil))
def f_law : Fe := ⟨"law", false, ["_law_script"], ["_law_script", "_law_state", "_law_lap", "_law_kinds_told", "_law_rows_told", "_law_table_here", "_law_turn", "_law_bad_here", "_law_caught_here", "_law_scope", "_law_way", "_law_row", "_law_thing"], ⟨1, 13, bf_law⟩, true, top 39⟩
def g_law_begun : Fe := ⟨"_law_begun", false, ["_law_script"], [], ⟨0, 0, .nil⟩, false, top 16⟩
def g_law_draw : Fe := ⟨"_law_draw", false, ["_law_state", "_law_size_here"], [], ⟨0, 0, .nil⟩, false, top 17⟩
def g_law_caught : Fe := ⟨"_law_caught", false, ["_law_work"], [], ⟨0, 0, .nil⟩, false, top 19⟩
def posD (n : Nat) : Pos := ([⟨58, 10, 58, 20⟩, ⟨58, 21, 58, 27⟩, ⟨58, 10, 58, 28⟩, ⟨58, 32, 58, 33⟩, ⟨58, 10, 58, 33⟩, ⟨58, 38, 58, 48⟩, ⟨58, 49, 58, 56⟩, ⟨58, 38, 58, 57⟩, ⟨58, 61, 58, 63⟩, ⟨58, 38, 58, 63⟩, ⟨58, 10, 58, 63⟩, ⟨59, 8, 59, 18⟩, ⟨59, 19, 59, 25⟩, ⟨59, 8, 59, 26⟩, ⟨59, 29, 59, 39⟩, ⟨59, 40, 59, 47⟩, ⟨59, 29, 59, 48⟩, ⟨59, 29, 59, 52⟩, ⟨59, 53, 59, 54⟩, ⟨59, 29, 59, 55⟩, ⟨59, 8, 59, 55⟩, ⟨58, 4, 59, 55⟩, ⟨60, 7, 60, 17⟩, ⟨60, 18, 60, 24⟩, ⟨60, 7, 60, 25⟩, ⟨60, 28, 60, 29⟩, ⟨60, 7, 60, 29⟩, ⟨61, 8, 61, 18⟩, ⟨61, 21, 61, 24⟩, ⟨61, 25, 61, 35⟩, ⟨61, 36, 61, 42⟩, ⟨61, 25, 61, 43⟩, ⟨61, 21, 61, 44⟩, ⟨61, 47, 61, 61⟩, ⟨61, 21, 61, 61⟩, ⟨61, 8, 61, 61⟩, ⟨62, 8, 62, 18⟩, ⟨62, 19, 62, 25⟩, ⟨62, 8, 62, 26⟩, ⟨62, 29, 62, 39⟩, ⟨62, 40, 62, 46⟩, ⟨62, 29, 62, 47⟩, ⟨62, 51, 62, 65⟩, ⟨62, 29, 62, 65⟩, ⟨62, 8, 62, 65⟩, ⟨63, 15, 63, 25⟩, ⟨63, 8, 63, 25⟩, ⟨60, 4, 63, 25⟩, ⟨64, 4, 64, 13⟩, ⟨64, 16, 64, 26⟩, ⟨64, 27, 64, 33⟩, ⟨64, 16, 64, 34⟩, ⟨64, 37, 64, 38⟩, ⟨64, 16, 64, 38⟩, ⟨64, 4, 64, 38⟩, ⟨65, 4, 65, 14⟩, ⟨65, 15, 65, 21⟩, ⟨65, 4, 65, 22⟩, ⟨65, 25, 65, 34⟩, ⟨65, 4, 65, 34⟩, ⟨66, 4, 66, 18⟩, ⟨66, 87, 66, 97⟩, ⟨66, 98, 66, 105⟩, ⟨66, 87, 66, 106⟩, ⟨66, 110, 66, 112⟩, ⟨66, 87, 66, 112⟩, ⟨66, 21, 66, 31⟩, ⟨66, 32, 66, 39⟩, ⟨66, 21, 66, 40⟩, ⟨66, 41, 66, 44⟩, ⟨66, 45, 66, 54⟩, ⟨66, 41, 66, 55⟩, ⟨66, 58, 66, 61⟩, ⟨66, 62, 66, 72⟩, ⟨66, 73, 66, 80⟩, ⟨66, 62, 66, 81⟩, ⟨66, 58, 66, 82⟩, ⟨66, 41, 66, 82⟩, ⟨66, 21, 66, 83⟩, ⟨66, 118, 66, 119⟩, ⟨66, 21, 66, 119⟩, ⟨66, 4, 66, 119⟩, ⟨67, 4, 67, 14⟩, ⟨67, 17, 67, 20⟩, ⟨67, 22, 67, 25⟩, ⟨67, 26, 67, 40⟩, ⟨67, 22, 67, 41⟩, ⟨67, 44, 67, 54⟩, ⟨67, 22, 67, 54⟩, ⟨67, 57, 67, 62⟩, ⟨67, 65, 67, 74⟩, ⟨67, 57, 67, 74⟩, ⟨67, 22, 67, 74⟩, ⟨67, 77, 67, 82⟩, ⟨67, 22, 67, 82⟩, ⟨67, 87, 67, 88⟩, ⟨67, 21, 67, 88⟩, ⟨67, 17, 67, 89⟩, ⟨67, 92, 67, 102⟩, ⟨67, 17, 67, 102⟩, ⟨67, 4, 67, 102⟩, ⟨68, 11, 68, 14⟩, ⟨68, 15, 68, 18⟩, ⟨68, 20, 68, 30⟩, ⟨68, 33, 68, 39⟩, ⟨68, 42, 68, 51⟩, ⟨68, 33, 68, 51⟩, ⟨68, 20, 68, 51⟩, ⟨68, 56, 68, 57⟩, ⟨68, 19, 68, 57⟩, ⟨68, 15, 68, 58⟩, ⟨68, 61, 68, 71⟩, ⟨68, 15, 68, 71⟩, ⟨68, 75, 68, 77⟩, ⟨68, 15, 68, 77⟩, ⟨68, 11, 68, 78⟩, ⟨68, 81, 68, 95⟩, ⟨68, 11, 68, 95⟩, ⟨68, 4, 68, 95⟩] : List Pos).getD n ⟨0, 0, 0, 0⟩
def posB (n : Nat) : Pos := ([⟨54, 4, 54, 19⟩, ⟨54, 23, 54, 26⟩, ⟨54, 27, 54, 41⟩, ⟨54, 23, 54, 42⟩, ⟨54, 47, 54, 61⟩, ⟨54, 65, 54, 76⟩, ⟨54, 22, 54, 77⟩, ⟨54, 4, 54, 77⟩, ⟨55, 4, 55, 14⟩, ⟨55, 18, 55, 32⟩, ⟨55, 35, 55, 37⟩, ⟨55, 41, 55, 43⟩, ⟨55, 35, 55, 43⟩, ⟨55, 18, 55, 43⟩, ⟨55, 48, 55, 62⟩, ⟨55, 66, 55, 81⟩, ⟨55, 85, 55, 99⟩, ⟨55, 103, 55, 105⟩, ⟨55, 109, 55, 111⟩, ⟨55, 103, 55, 111⟩, ⟨55, 85, 55, 111⟩, ⟨55, 17, 55, 112⟩, ⟨55, 4, 55, 112⟩, ⟨56, 12, 56, 19⟩, ⟨56, 33, 56, 40⟩, ⟨56, 59, 56, 65⟩, ⟨56, 70, 56, 76⟩, ⟨56, 21, 56, 31⟩, ⟨56, 42, 56, 57⟩, ⟨56, 67, 56, 68⟩, ⟨56, 78, 56, 79⟩, ⟨56, 11, 56, 80⟩, ⟨56, 4, 56, 80⟩] : List Pos).getD n ⟨0, 0, 0, 0⟩
def posC (n : Nat) : Pos := ([⟨72, 4, 72, 20⟩, ⟨72, 23, 72, 27⟩, ⟨72, 4, 72, 27⟩, ⟨74, 8, 74, 17⟩, ⟨74, 8, 74, 19⟩, ⟨74, 8, 74, 19⟩, ⟨75, 11, 75, 21⟩, ⟨76, 8, 76, 24⟩, ⟨76, 27, 76, 32⟩, ⟨76, 8, 76, 32⟩, ⟨75, 4, 76, 32⟩, ⟨73, 4, 76, 32⟩, ⟨77, 11, 77, 27⟩, ⟨77, 4, 77, 27⟩] : List Pos).getD n ⟨0, 0, 0, 0⟩
def data : Dt := {
  tb := tb
  fs := [f_is_between, f_is_cell, f_is_row_of, f_are_kinds, f_are_rows, f_first_unread, f_need_table, f_is_row, g_law_pick, g_law_is_whole, g_law_is_below, g_law_odd, g_law_less, g_law_put, g_law_made, g_law_bad_table, g_law_cell, g_law_wide, g_law_same, g_law_is_row, g_law_first_unread, g_law_spoilt_row, g_law_no_table, g_law_are_kinds, g_law_are_rows, g_law_spoilt_kinds, g_law_spoilt_rows, g_law_built]
  cs := [f_Table]
  lw := f_law
  dr := g_law_draw
  be := g_law_begun
  ca := [g_law_caught]
  d1 := "_law_state"
  d2 := "_law_size_here"
  d3 := "_law_found"
  d4 := "_law_turn"
  d5 := "_law_cell_here"
  d6 := "_law_mixed"
  dp := posD
  drs := (defBody (top 17)).drop 5
  b1 := "_law_script"
  b2 := "_law_cells_here"
  b3 := "_law_large"
  b4 := "_law_cell_here"
  bp := posB
  bs1 := compSc ((defBody (top 16)).getD 0 (.Pass ⟨0, 0, 0, 0⟩))
  bs2 := compSc ((defBody (top 16)).getD 1 (.Pass ⟨0, 0, 0, 0⟩))
  cp := posC
  cj := 0 }
abbrev lev : Nat := 6
theorem bind_f_is_between : Fe.bind tb f_is_between := by
  exact ⟨fun _ _ _ _ _ _ us hl => match us, hl with | [_, _, _], _ => rfl, fun q hq hf => absurd hf (of_decide_eq_true (List.all_eq_true.mp (show (tb.kw.all fun q => decide (q.f ≠ f_is_between.nm)) = true by decide +kernel) q hq))⟩
theorem bind_f_is_cell : Fe.bind tb f_is_cell := by
  exact ⟨fun _ _ _ _ _ _ us hl => match us, hl with | [_, _], _ => rfl, fun q hq hf => absurd hf (of_decide_eq_true (List.all_eq_true.mp (show (tb.kw.all fun q => decide (q.f ≠ f_is_cell.nm)) = true by decide +kernel) q hq))⟩
theorem bind_f_is_row_of : Fe.bind tb f_is_row_of := by
  exact ⟨fun _ _ _ _ _ _ us hl => match us, hl with | [_, _], _ => rfl, fun q hq hf => absurd hf (of_decide_eq_true (List.all_eq_true.mp (show (tb.kw.all fun q => decide (q.f ≠ f_is_row_of.nm)) = true by decide +kernel) q hq))⟩
theorem bind_f_are_kinds : Fe.bind tb f_are_kinds := by
  exact ⟨fun _ _ _ _ _ _ us hl => match us, hl with | [_], _ => rfl, fun q hq hf => absurd hf (of_decide_eq_true (List.all_eq_true.mp (show (tb.kw.all fun q => decide (q.f ≠ f_are_kinds.nm)) = true by decide +kernel) q hq))⟩
theorem bind_f_are_rows : Fe.bind tb f_are_rows := by
  exact ⟨fun _ _ _ _ _ _ us hl => match us, hl with | [_, _], _ => rfl, fun q hq hf => absurd hf (of_decide_eq_true (List.all_eq_true.mp (show (tb.kw.all fun q => decide (q.f ≠ f_are_rows.nm)) = true by decide +kernel) q hq))⟩
theorem bind_f_first_unread : Fe.bind tb f_first_unread := by
  exact ⟨fun _ _ _ _ _ _ us hl => match us, hl with | [_, _], _ => rfl, fun q hq hf => absurd hf (of_decide_eq_true (List.all_eq_true.mp (show (tb.kw.all fun q => decide (q.f ≠ f_first_unread.nm)) = true by decide +kernel) q hq))⟩
theorem bind_f_need_table : Fe.bind tb f_need_table := by
  exact ⟨fun _ _ _ _ _ _ us hl => match us, hl with | [_], _ => rfl, fun q hq hf => absurd hf (of_decide_eq_true (List.all_eq_true.mp (show (tb.kw.all fun q => decide (q.f ≠ f_need_table.nm)) = true by decide +kernel) q hq))⟩
theorem bind_f_is_row : Fe.bind tb f_is_row := by
  exact ⟨fun _ _ _ _ _ _ us hl => match us, hl with | [_, _], _ => rfl, fun q hq hf => absurd hf (of_decide_eq_true (List.all_eq_true.mp (show (tb.kw.all fun q => decide (q.f ≠ f_is_row.nm)) = true by decide +kernel) q hq))⟩
theorem bind_g_law_pick : Fe.bind tb g_law_pick := by
  exact ⟨fun _ _ _ _ _ _ us hl => match us, hl with | [_, _], _ => rfl, fun q hq hf => absurd hf (of_decide_eq_true (List.all_eq_true.mp (show (tb.kw.all fun q => decide (q.f ≠ g_law_pick.nm)) = true by decide +kernel) q hq))⟩
theorem bind_g_law_is_whole : Fe.bind tb g_law_is_whole := by
  exact ⟨fun _ _ _ _ _ _ us hl => match us, hl with | [_], _ => rfl, fun q hq hf => absurd hf (of_decide_eq_true (List.all_eq_true.mp (show (tb.kw.all fun q => decide (q.f ≠ g_law_is_whole.nm)) = true by decide +kernel) q hq))⟩
theorem bind_g_law_is_below : Fe.bind tb g_law_is_below := by
  exact ⟨fun _ _ _ _ _ _ us hl => match us, hl with | [_, _], _ => rfl, fun q hq hf => absurd hf (of_decide_eq_true (List.all_eq_true.mp (show (tb.kw.all fun q => decide (q.f ≠ g_law_is_below.nm)) = true by decide +kernel) q hq))⟩
theorem bind_g_law_odd : Fe.bind tb g_law_odd := by
  exact ⟨fun _ _ _ _ _ _ us hl => match us, hl with | [_], _ => rfl, fun q hq hf => absurd hf (of_decide_eq_true (List.all_eq_true.mp (show (tb.kw.all fun q => decide (q.f ≠ g_law_odd.nm)) = true by decide +kernel) q hq))⟩
theorem bind_g_law_less : Fe.bind tb g_law_less := by
  exact ⟨fun _ _ _ _ _ _ us hl => match us, hl with | [_, _], _ => rfl, fun q hq hf => absurd hf (of_decide_eq_true (List.all_eq_true.mp (show (tb.kw.all fun q => decide (q.f ≠ g_law_less.nm)) = true by decide +kernel) q hq))⟩
theorem bind_g_law_put : Fe.bind tb g_law_put := by
  exact ⟨fun _ _ _ _ _ _ us hl => match us, hl with | [_, _, _], _ => rfl, fun q hq hf => absurd hf (of_decide_eq_true (List.all_eq_true.mp (show (tb.kw.all fun q => decide (q.f ≠ g_law_put.nm)) = true by decide +kernel) q hq))⟩
theorem bind_g_law_made : Fe.bind tb g_law_made := by
  exact ⟨fun _ _ _ _ _ _ us hl => match us, hl with | [_], _ => rfl, fun q hq hf => absurd hf (of_decide_eq_true (List.all_eq_true.mp (show (tb.kw.all fun q => decide (q.f ≠ g_law_made.nm)) = true by decide +kernel) q hq))⟩
theorem bind_g_law_bad_table : Fe.bind tb g_law_bad_table := by
  exact ⟨fun _ _ _ _ _ _ us hl => match us, hl with | [_], _ => rfl, fun q hq hf => absurd hf (of_decide_eq_true (List.all_eq_true.mp (show (tb.kw.all fun q => decide (q.f ≠ g_law_bad_table.nm)) = true by decide +kernel) q hq))⟩
theorem bind_g_law_cell : Fe.bind tb g_law_cell := by
  exact ⟨fun _ _ _ _ _ _ us hl => match us, hl with | [_, _], _ => rfl, fun q hq hf => absurd hf (of_decide_eq_true (List.all_eq_true.mp (show (tb.kw.all fun q => decide (q.f ≠ g_law_cell.nm)) = true by decide +kernel) q hq))⟩
theorem bind_g_law_wide : Fe.bind tb g_law_wide := by
  exact ⟨fun _ _ _ _ _ _ us hl => match us, hl with | [_], _ => rfl, fun q hq hf => absurd hf (of_decide_eq_true (List.all_eq_true.mp (show (tb.kw.all fun q => decide (q.f ≠ g_law_wide.nm)) = true by decide +kernel) q hq))⟩
theorem bind_g_law_same : Fe.bind tb g_law_same := by
  exact ⟨fun _ _ _ _ _ _ us hl => match us, hl with | [_, _], _ => rfl, fun q hq hf => absurd hf (of_decide_eq_true (List.all_eq_true.mp (show (tb.kw.all fun q => decide (q.f ≠ g_law_same.nm)) = true by decide +kernel) q hq))⟩
theorem bind_g_law_is_row : Fe.bind tb g_law_is_row := by
  exact ⟨fun _ _ _ _ _ _ us hl => match us, hl with | [_, _], _ => rfl, fun q hq hf => absurd hf (of_decide_eq_true (List.all_eq_true.mp (show (tb.kw.all fun q => decide (q.f ≠ g_law_is_row.nm)) = true by decide +kernel) q hq))⟩
theorem bind_g_law_first_unread : Fe.bind tb g_law_first_unread := by
  exact ⟨fun _ _ _ _ _ _ us hl => match us, hl with | [_, _], _ => rfl, fun q hq hf => absurd hf (of_decide_eq_true (List.all_eq_true.mp (show (tb.kw.all fun q => decide (q.f ≠ g_law_first_unread.nm)) = true by decide +kernel) q hq))⟩
theorem bind_g_law_spoilt_row : Fe.bind tb g_law_spoilt_row := by
  exact ⟨fun _ _ _ _ _ _ us hl => match us, hl with | [_, _, _], _ => rfl, fun q hq hf => absurd hf (of_decide_eq_true (List.all_eq_true.mp (show (tb.kw.all fun q => decide (q.f ≠ g_law_spoilt_row.nm)) = true by decide +kernel) q hq))⟩
theorem bind_g_law_no_table : Fe.bind tb g_law_no_table := by
  exact ⟨fun _ _ _ _ _ _ us hl => match us, hl with | [_], _ => rfl, fun q hq hf => absurd hf (of_decide_eq_true (List.all_eq_true.mp (show (tb.kw.all fun q => decide (q.f ≠ g_law_no_table.nm)) = true by decide +kernel) q hq))⟩
theorem bind_g_law_are_kinds : Fe.bind tb g_law_are_kinds := by
  exact ⟨fun _ _ _ _ _ _ us hl => match us, hl with | [_], _ => rfl, fun q hq hf => absurd hf (of_decide_eq_true (List.all_eq_true.mp (show (tb.kw.all fun q => decide (q.f ≠ g_law_are_kinds.nm)) = true by decide +kernel) q hq))⟩
theorem bind_g_law_are_rows : Fe.bind tb g_law_are_rows := by
  exact ⟨fun _ _ _ _ _ _ us hl => match us, hl with | [_, _], _ => rfl, fun q hq hf => absurd hf (of_decide_eq_true (List.all_eq_true.mp (show (tb.kw.all fun q => decide (q.f ≠ g_law_are_rows.nm)) = true by decide +kernel) q hq))⟩
theorem bind_g_law_spoilt_kinds : Fe.bind tb g_law_spoilt_kinds := by
  exact ⟨fun _ _ _ _ _ _ us hl => match us, hl with | [_, _], _ => rfl, fun q hq hf => absurd hf (of_decide_eq_true (List.all_eq_true.mp (show (tb.kw.all fun q => decide (q.f ≠ g_law_spoilt_kinds.nm)) = true by decide +kernel) q hq))⟩
theorem bind_g_law_spoilt_rows : Fe.bind tb g_law_spoilt_rows := by
  exact ⟨fun _ _ _ _ _ _ us hl => match us, hl with | [_, _], _ => rfl, fun q hq hf => absurd hf (of_decide_eq_true (List.all_eq_true.mp (show (tb.kw.all fun q => decide (q.f ≠ g_law_spoilt_rows.nm)) = true by decide +kernel) q hq))⟩
theorem bind_g_law_built : Fe.bind tb g_law_built := by
  exact ⟨fun _ _ _ _ _ _ us hl => match us, hl with | [_, _], _ => rfl, fun q hq hf => absurd hf (of_decide_eq_true (List.all_eq_true.mp (show (tb.kw.all fun q => decide (q.f ≠ g_law_built.nm)) = true by decide +kernel) q hq))⟩
theorem bind_f_Table : Fe.bind tb f_Table := by
  refine ⟨fun _ _ _ _ _ _ us hl => match us, hl with | [_, _, _], _ => rfl, fun q hq hf kV doc pm an cdv ct us ws as l1 l2 hp => ?_⟩
  have hq : q ∈ tb.kw.filter (fun q => decide (q.f = f_Table.nm)) := List.mem_filter.mpr ⟨hq, decide_eq_true hf⟩
  have e : tb.kw.filter (fun q => decide (q.f = f_Table.nm)) = [⟨"Table", 0, ["rows", "kinds"], [1, 0]⟩] := by decide +kernel
  rw [e] at hq
  rcases List.mem_cons.mp hq with z | hq
  · subst z
    match us, l1, ws, l2 with
    | [_], _, [_, _], _ => cases hp; rfl
  · cases hq
theorem ok_look : data.look = true := by decide +kernel
theorem ok_lookD : data.lookD = true := by decide +kernel
theorem ok : data.Ok where
  look := ok_look
  lookD := ok_lookD
  bind := show ∀ e ∈ [f_is_between, f_is_cell, f_is_row_of, f_are_kinds, f_are_rows, f_first_unread, f_need_table, f_is_row, g_law_pick, g_law_is_whole, g_law_is_below, g_law_odd, g_law_less, g_law_put, g_law_made, g_law_bad_table, g_law_cell, g_law_wide, g_law_same, g_law_is_row, g_law_first_unread, g_law_spoilt_row, g_law_no_table, g_law_are_kinds, g_law_are_rows, g_law_spoilt_kinds, g_law_spoilt_rows, g_law_built, f_Table], Fe.bind tb e from List.forall_mem_cons.mpr ⟨bind_f_is_between, List.forall_mem_cons.mpr ⟨bind_f_is_cell, List.forall_mem_cons.mpr ⟨bind_f_is_row_of, List.forall_mem_cons.mpr ⟨bind_f_are_kinds, List.forall_mem_cons.mpr ⟨bind_f_are_rows, List.forall_mem_cons.mpr ⟨bind_f_first_unread, List.forall_mem_cons.mpr ⟨bind_f_need_table, List.forall_mem_cons.mpr ⟨bind_f_is_row, List.forall_mem_cons.mpr ⟨bind_g_law_pick, List.forall_mem_cons.mpr ⟨bind_g_law_is_whole, List.forall_mem_cons.mpr ⟨bind_g_law_is_below, List.forall_mem_cons.mpr ⟨bind_g_law_odd, List.forall_mem_cons.mpr ⟨bind_g_law_less, List.forall_mem_cons.mpr ⟨bind_g_law_put, List.forall_mem_cons.mpr ⟨bind_g_law_made, List.forall_mem_cons.mpr ⟨bind_g_law_bad_table, List.forall_mem_cons.mpr ⟨bind_g_law_cell, List.forall_mem_cons.mpr ⟨bind_g_law_wide, List.forall_mem_cons.mpr ⟨bind_g_law_same, List.forall_mem_cons.mpr ⟨bind_g_law_is_row, List.forall_mem_cons.mpr ⟨bind_g_law_first_unread, List.forall_mem_cons.mpr ⟨bind_g_law_spoilt_row, List.forall_mem_cons.mpr ⟨bind_g_law_no_table, List.forall_mem_cons.mpr ⟨bind_g_law_are_kinds, List.forall_mem_cons.mpr ⟨bind_g_law_are_rows, List.forall_mem_cons.mpr ⟨bind_g_law_spoilt_kinds, List.forall_mem_cons.mpr ⟨bind_g_law_spoilt_rows, List.forall_mem_cons.mpr ⟨bind_g_law_built, List.forall_mem_cons.mpr ⟨bind_f_Table, fun _ h => nomatch h⟩⟩⟩⟩⟩⟩⟩⟩⟩⟩⟩⟩⟩⟩⟩⟩⟩⟩⟩⟩⟩⟩⟩⟩⟩⟩⟩⟩⟩
  one := List.forall_mem_cons.mpr ⟨(fun _ _ _ _ _ _ us hl => match us, hl with | [_], _ => rfl), List.forall_mem_cons.mpr ⟨(fun _ _ _ _ _ _ us hl => match us, hl with | [_, _], _ => rfl), List.forall_mem_cons.mpr ⟨(fun _ _ _ _ _ _ us hl => match us, hl with | [_], _ => rfl), List.forall_mem_cons.mpr ⟨(fun _ _ _ _ _ _ us hl => match us, hl with | [_], _ => rfl), fun _ h => nomatch h⟩⟩⟩⟩
  dps := rfl
  bps := rfl
  cps := List.forall_mem_cons.mpr ⟨rfl, fun _ h => nomatch h⟩
  dbody := by kernel_rfl
  bbody := by kernel_rfl
  cbody := List.forall_mem_cons.mpr ⟨(by kernel_rfl), fun _ h => nomatch h⟩
end K00


namespace K00
open PySem Oi
noncomputable abbrev Gn (W : Wd) (n : Nat) : Gm := gmN data.tb (Dt.hd W) data.fs data.cs n
theorem Gn_tb (W : Wd) (n : Nat) : (Gn W n).toTb = tb := gmN_tb _ _ _ _ _
theorem ft_draw (W : Wd) (n : Nat) (ds : List D) : (Gn W (n + 1)).ft "_law_draw" ds = drawM W ds := ft_hand (by unfold Dt.hd; rw [if_pos rfl]) ds
theorem cf_is_between (W : Wd) (n : Nat) (a0 a1 a2 : D) : (Gn W (n + 1)).ft "is_between" [a0, a1, a2] = bnd (Oi.exec (Gn W n) bf_is_between [.val a0, .val a1, .val a2]) resM := (ft_fn (e := f_is_between) (by unfold Dt.hd; rw [if_neg (by decide)]) (by kernel_rfl) _).trans rfl
theorem cf_is_cell (W : Wd) (n : Nat) (a0 a1 : D) : (Gn W (n + 1)).ft "is_cell" [a0, a1] = bnd (Oi.exec (Gn W n) bf_is_cell [.val a0, .val a1]) resM := (ft_fn (e := f_is_cell) (by unfold Dt.hd; rw [if_neg (by decide)]) (by kernel_rfl) _).trans rfl
theorem cf_is_row_of (W : Wd) (n : Nat) (a0 a1 : D) : (Gn W (n + 1)).ft "is_row_of" [a0, a1] = bnd (Oi.exec (Gn W n) bf_is_row_of [.val a0, .val a1, .no, .no]) resM := (ft_fn (e := f_is_row_of) (by unfold Dt.hd; rw [if_neg (by decide)]) (by kernel_rfl) _).trans rfl
theorem cf_are_kinds (W : Wd) (n : Nat) (a0 : D) : (Gn W (n + 1)).ft "are_kinds" [a0] = bnd (Oi.exec (Gn W n) bf_are_kinds [.val a0, .no]) resM := (ft_fn (e := f_are_kinds) (by unfold Dt.hd; rw [if_neg (by decide)]) (by kernel_rfl) _).trans rfl
theorem cf_are_rows (W : Wd) (n : Nat) (a0 a1 : D) : (Gn W (n + 1)).ft "are_rows" [a0, a1] = bnd (Oi.exec (Gn W n) bf_are_rows [.val a0, .val a1, .no]) resM := (ft_fn (e := f_are_rows) (by unfold Dt.hd; rw [if_neg (by decide)]) (by kernel_rfl) _).trans rfl
theorem cf_first_unread (W : Wd) (n : Nat) (a0 a1 : D) : (Gn W (n + 1)).ft "first_unread" [a0, a1] = bnd (Oi.exec (Gn W n) bf_first_unread [.val a0, .val a1, .no, .no]) resM := (ft_fn (e := f_first_unread) (by unfold Dt.hd; rw [if_neg (by decide)]) (by kernel_rfl) _).trans rfl
theorem cf_need_table (W : Wd) (n : Nat) (a0 : D) : (Gn W (n + 1)).ft "need_table" [a0] = bnd (Oi.exec (Gn W n) bf_need_table [.val a0]) resM := (ft_fn (e := f_need_table) (by unfold Dt.hd; rw [if_neg (by decide)]) (by kernel_rfl) _).trans rfl
theorem cf_is_row (W : Wd) (n : Nat) (a0 a1 : D) : (Gn W (n + 1)).ft "is_row" [a0, a1] = bnd (Oi.exec (Gn W n) bf_is_row [.val a0, .val a1]) resM := (ft_fn (e := f_is_row) (by unfold Dt.hd; rw [if_neg (by decide)]) (by kernel_rfl) _).trans rfl
theorem cg_law_pick (W : Wd) (n : Nat) (a0 a1 : D) : (Gn W (n + 1)).ft "_law_pick" [a0, a1] = bnd (Oi.exec (Gn W n) bg_law_pick [.val a0, .val a1]) resM := (ft_fn (e := g_law_pick) (by unfold Dt.hd; rw [if_neg (by decide)]) (by kernel_rfl) _).trans rfl
theorem cg_law_is_whole (W : Wd) (n : Nat) (a0 : D) : (Gn W (n + 1)).ft "_law_is_whole" [a0] = bnd (Oi.exec (Gn W n) bg_law_is_whole [.val a0]) resM := (ft_fn (e := g_law_is_whole) (by unfold Dt.hd; rw [if_neg (by decide)]) (by kernel_rfl) _).trans rfl
theorem cg_law_is_below (W : Wd) (n : Nat) (a0 a1 : D) : (Gn W (n + 1)).ft "_law_is_below" [a0, a1] = bnd (Oi.exec (Gn W n) bg_law_is_below [.val a0, .val a1]) resM := (ft_fn (e := g_law_is_below) (by unfold Dt.hd; rw [if_neg (by decide)]) (by kernel_rfl) _).trans rfl
theorem cg_law_odd (W : Wd) (n : Nat) (a0 : D) : (Gn W (n + 1)).ft "_law_odd" [a0] = bnd (Oi.exec (Gn W n) bg_law_odd [.val a0]) resM := (ft_fn (e := g_law_odd) (by unfold Dt.hd; rw [if_neg (by decide)]) (by kernel_rfl) _).trans rfl
theorem cg_law_less (W : Wd) (n : Nat) (a0 a1 : D) : (Gn W (n + 1)).ft "_law_less" [a0, a1] = bnd (Oi.exec (Gn W n) bg_law_less [.val a0, .val a1]) resM := (ft_fn (e := g_law_less) (by unfold Dt.hd; rw [if_neg (by decide)]) (by kernel_rfl) _).trans rfl
theorem cg_law_put (W : Wd) (n : Nat) (a0 a1 a2 : D) : (Gn W (n + 1)).ft "_law_put" [a0, a1, a2] = bnd (Oi.exec (Gn W n) bg_law_put [.val a0, .val a1, .val a2]) resM := (ft_fn (e := g_law_put) (by unfold Dt.hd; rw [if_neg (by decide)]) (by kernel_rfl) _).trans rfl
theorem cg_law_made (W : Wd) (n : Nat) (a0 : D) : (Gn W (n + 1)).ft "_law_made" [a0] = bnd (Oi.exec (Gn W n) bg_law_made [.val a0]) resM := (ft_fn (e := g_law_made) (by unfold Dt.hd; rw [if_neg (by decide)]) (by kernel_rfl) _).trans rfl
theorem cg_law_bad_table (W : Wd) (n : Nat) (a0 : D) : (Gn W (n + 1)).ft "_law_bad_table" [a0] = bnd (Oi.exec (Gn W n) bg_law_bad_table [.val a0]) resM := (ft_fn (e := g_law_bad_table) (by unfold Dt.hd; rw [if_neg (by decide)]) (by kernel_rfl) _).trans rfl
theorem cg_law_cell (W : Wd) (n : Nat) (a0 a1 : D) : (Gn W (n + 1)).ft "_law_cell" [a0, a1] = bnd (Oi.exec (Gn W n) bg_law_cell [.val a0, .val a1]) resM := (ft_fn (e := g_law_cell) (by unfold Dt.hd; rw [if_neg (by decide)]) (by kernel_rfl) _).trans rfl
theorem cg_law_wide (W : Wd) (n : Nat) (a0 : D) : (Gn W (n + 1)).ft "_law_wide" [a0] = bnd (Oi.exec (Gn W n) bg_law_wide [.val a0, .no, .no, .no, .no, .no, .no, .no, .no]) resM := (ft_fn (e := g_law_wide) (by unfold Dt.hd; rw [if_neg (by decide)]) (by kernel_rfl) _).trans rfl
theorem cg_law_same (W : Wd) (n : Nat) (a0 a1 : D) : (Gn W (n + 1)).ft "_law_same" [a0, a1] = bnd (Oi.exec (Gn W n) bg_law_same [.val a0, .val a1]) resM := (ft_fn (e := g_law_same) (by unfold Dt.hd; rw [if_neg (by decide)]) (by kernel_rfl) _).trans rfl
theorem cg_law_is_row (W : Wd) (n : Nat) (a0 a1 : D) : (Gn W (n + 1)).ft "_law_is_row" [a0, a1] = bnd (Oi.exec (Gn W n) bg_law_is_row [.val a0, .val a1, .no, .no, .no]) resM := (ft_fn (e := g_law_is_row) (by unfold Dt.hd; rw [if_neg (by decide)]) (by kernel_rfl) _).trans rfl
theorem cg_law_first_unread (W : Wd) (n : Nat) (a0 a1 : D) : (Gn W (n + 1)).ft "_law_first_unread" [a0, a1] = bnd (Oi.exec (Gn W n) bg_law_first_unread [.val a0, .val a1, .no, .no]) resM := (ft_fn (e := g_law_first_unread) (by unfold Dt.hd; rw [if_neg (by decide)]) (by kernel_rfl) _).trans rfl
theorem cg_law_spoilt_row (W : Wd) (n : Nat) (a0 a1 a2 : D) : (Gn W (n + 1)).ft "_law_spoilt_row" [a0, a1, a2] = bnd (Oi.exec (Gn W n) bg_law_spoilt_row [.val a0, .val a1, .val a2, .no, .no, .no]) resM := (ft_fn (e := g_law_spoilt_row) (by unfold Dt.hd; rw [if_neg (by decide)]) (by kernel_rfl) _).trans rfl
theorem cg_law_no_table (W : Wd) (n : Nat) (a0 : D) : (Gn W (n + 1)).ft "_law_no_table" [a0] = bnd (Oi.exec (Gn W n) bg_law_no_table [.val a0]) resM := (ft_fn (e := g_law_no_table) (by unfold Dt.hd; rw [if_neg (by decide)]) (by kernel_rfl) _).trans rfl
theorem cg_law_are_kinds (W : Wd) (n : Nat) (a0 : D) : (Gn W (n + 1)).ft "_law_are_kinds" [a0] = bnd (Oi.exec (Gn W n) bg_law_are_kinds [.val a0, .no]) resM := (ft_fn (e := g_law_are_kinds) (by unfold Dt.hd; rw [if_neg (by decide)]) (by kernel_rfl) _).trans rfl
theorem cg_law_are_rows (W : Wd) (n : Nat) (a0 a1 : D) : (Gn W (n + 1)).ft "_law_are_rows" [a0, a1] = bnd (Oi.exec (Gn W n) bg_law_are_rows [.val a0, .val a1, .no]) resM := (ft_fn (e := g_law_are_rows) (by unfold Dt.hd; rw [if_neg (by decide)]) (by kernel_rfl) _).trans rfl
theorem cg_law_spoilt_kinds (W : Wd) (n : Nat) (a0 a1 : D) : (Gn W (n + 1)).ft "_law_spoilt_kinds" [a0, a1] = bnd (Oi.exec (Gn W n) bg_law_spoilt_kinds [.val a0, .val a1, .no, .no]) resM := (ft_fn (e := g_law_spoilt_kinds) (by unfold Dt.hd; rw [if_neg (by decide)]) (by kernel_rfl) _).trans rfl
theorem cg_law_spoilt_rows (W : Wd) (n : Nat) (a0 a1 : D) : (Gn W (n + 1)).ft "_law_spoilt_rows" [a0, a1] = bnd (Oi.exec (Gn W n) bg_law_spoilt_rows [.val a0, .val a1, .no, .no, .no, .no, .no]) resM := (ft_fn (e := g_law_spoilt_rows) (by unfold Dt.hd; rw [if_neg (by decide)]) (by kernel_rfl) _).trans rfl
theorem cg_law_built (W : Wd) (n : Nat) (a0 a1 : D) : (Gn W (n + 1)).ft "_law_built" [a0, a1] = bnd (Oi.exec (Gn W n) bg_law_built [.val a0, .val a1, .no]) resM := (ft_fn (e := g_law_built) (by unfold Dt.hd; rw [if_neg (by decide)]) (by kernel_rfl) _).trans rfl
theorem cf_Table (W : Wd) (n : Nat) (a0 a1 : D) : (Gn W (n + 1)).ft "Table" [a0, a1] = bnd (Oi.exec (Gn W n) bf_Table [.slf "Table" [], .val a0, .val a1]) madeM := (ft_cs (e := f_Table) (by unfold Dt.hd; rw [if_neg (by decide)]) (by kernel_rfl) (by kernel_rfl) _).trans rfl
end K00


/-! k00, plain: what the program's functions and the law's tell of a value. -/
namespace K00
open PySem Oi

/-! ### plain values -/
mutual
def good : D → Bool
  | .non => true
  | .bl _ => true
  | .int _ => true
  | .str _ => true
  | .tup xs => sz xs.length && goods xs
  | .lst xs => sz xs.length && goods xs
  | .dct _ => true
  | .obj c _ => c == "Table"
  | .exc _ _ => false
  | .st => false
  | .scr _ => false
def goods : List D → Bool
  | [] => true
  | x :: xs => good x && goods xs
end
theorem goods_mem : ∀ {xs : List D} {x : D}, goods xs = true → x ∈ xs → good x = true
  | [], _, _, h => by cases h
  | y :: ys, x, h, hx => by
    have h : (good y && goods ys) = true := by rw [← h, goods]
    rw [Bool.and_eq_true] at h
    rcases List.mem_cons.mp hx with z | z
    · rw [z]; exact h.1
    · exact goods_mem h.2 z
theorem goods_of : ∀ {xs : List D}, (∀ x ∈ xs, good x = true) → goods xs = true
  | [], _ => by rw [goods]
  | y :: ys, h => by
    rw [goods, h y List.mem_cons_self, goods_of fun x hx => h x (List.mem_cons_of_mem _ hx)]
    rfl
theorem good_tup {xs : List D} (h : good (.tup xs) = true) : sz xs.length = true ∧ ∀ x ∈ xs, good x = true := by
  have h : (sz xs.length && goods xs) = true := by rw [← h, good]
  rw [Bool.and_eq_true] at h
  exact ⟨h.1, fun x hx => goods_mem h.2 hx⟩
theorem tup_good {xs : List D} (h1 : sz xs.length = true) (h2 : ∀ x ∈ xs, good x = true) : good (.tup xs) = true := by
  rw [good, h1, goods_of h2]
  rfl
theorem lst_good {xs : List D} (h1 : sz xs.length = true) (h2 : ∀ x ∈ xs, good x = true) : good (.lst xs) = true := by
  rw [good, h1, goods_of h2]
  rfl
theorem obj_good {c : String} {fs : List (String × D)} (h : good (.obj c fs) = true) : c = "Table" := by
  have h : (c == "Table") = true := by rw [← h, good]
  exact eq_of_beq h
def isIn : D → Bool
  | .int _ => true
  | .bl _ => true
  | _ => false
def isBl : D → Bool
  | .bl _ => true
  | _ => false
def isTp : D → Bool
  | .tup _ => true
  | _ => false
def isTb : D → Bool
  | .obj _ _ => true
  | _ => false
theorem isa_int {x : D} (h : good x = true) : isD tb x "int" = some (isIn x) := by
  cases x with
  | obj c fs => rw [obj_good h]; rfl
  | exc _ _ => rw [good] at h; cases h
  | st => rw [good] at h; cases h
  | scr _ => rw [good] at h; cases h
  | _ => rfl
theorem isa_bool {x : D} (h : good x = true) : isD tb x "bool" = some (isBl x) := by
  cases x with
  | obj c fs => rw [obj_good h]; rfl
  | exc _ _ => rw [good] at h; cases h
  | st => rw [good] at h; cases h
  | scr _ => rw [good] at h; cases h
  | _ => rfl
theorem isa_tuple {x : D} (h : good x = true) : isD tb x "tuple" = some (isTp x) := by
  cases x with
  | obj c fs => rw [obj_good h]; rfl
  | exc _ _ => rw [good] at h; cases h
  | st => rw [good] at h; cases h
  | scr _ => rw [good] at h; cases h
  | _ => rfl
theorem isa_table {x : D} (h : good x = true) : isD tb x "Table" = some (isTb x) := by
  cases x with
  | obj c fs => rw [obj_good h]; rfl
  | exc _ _ => rw [good] at h; cases h
  | st => rw [good] at h; cases h
  | scr _ => rw [good] at h; cases h
  | _ => rfl
def btw (lo hi : Int) : D → Bool
  | .int i => decide (lo ≤ i) && decide (i ≤ hi)
  | _ => false
variable {W : Wd} {n : Nat}
theorem is_between {x : D} {lo hi : Int} (h : good x = true) : (Gn W (n + 1)).ft "is_between" [x, .int lo, .int hi] = ret (.bl (btw lo hi x)) := by
  rw [cf_is_between]
  unfold bf_is_between
  simp only [Oi.exec, ex_nm, ex_kI, ex_kB, ex_kN, ex_kS, ex_neg, ex_tup, ex_lst, ex_dct, ex_bin, ex_cmp, ex_chain, ex_and, ex_or, ex_not, ex_ite, ex_ix, ex_key, ex_sl, ex_fld, ex_call, ex_callK, ex_bi, ex_isA, ex_lzip, evL, evLP, evI, nm_0, nm_s, pe_nm, pkn_v, pkn_o, pkn_n, pkn_s, pe_kI, pe_kB, pe_kN, pe_kS, pe_neg, pe_tup, pe_lst', pe_dct, pe_bin, pe_cmp, pe_ite, pe_ix', pe_key, pe_sl, pe_fld, pe_call', pe_callK, pe_bi, pe_comp, pe_lzip, pe_caught, pe_and', pe_or', pe_not', pe_isA, pe_chain', pw_t, pw_f, set_0, set_s, ow_0, ow_s, app_0, app_s, stx_0, stx_s, frz_v, frz_o, frz_s, Option.map_some, ite_t, ite_f, seq_nx, seq_rt, seqK_nx, seqK_rt, seq_ex, seq_bnd, seq_ite, bnd_ite, res_nx, res_rt, tst_bnd, tst_ret, tst_ite, and_b, or_b, not_b, tru_b, ifs_nil, ifs_and, ifs_or, ifs_not, ifs_cmp, ifs_call, ite_bool, ite_and, ite_or, ite_andT, ite_orT, oe_nil, bnd_ret, bnd_bnd, bnd_rse, bnd_stk, lft_some, le_i, lt_i, ge_i, gt_i, eq_i, ne_i, is_n, nis_n, add_i, sub_i, len_t, len_l, len_sc, zip_t, zip_l, el_t, el_l, Gn_tb, Bf.f, oe_nm, oe_bin, oe_call, oe_kI, int_i, neg_i, tuple_l, tuple_t, list_t, list_l, ft_draw, isa_int h, isa_bool h]
  cases x <;> first | rfl | (simp only [Oi.exec, ex_nm, ex_kI, ex_kB, ex_kN, ex_kS, ex_neg, ex_tup, ex_lst, ex_dct, ex_bin, ex_cmp, ex_chain, ex_and, ex_or, ex_not, ex_ite, ex_ix, ex_key, ex_sl, ex_fld, ex_call, ex_callK, ex_bi, ex_isA, ex_lzip, evL, evLP, evI, nm_0, nm_s, pe_nm, pkn_v, pkn_o, pkn_n, pkn_s, pe_kI, pe_kB, pe_kN, pe_kS, pe_neg, pe_tup, pe_lst', pe_dct, pe_bin, pe_cmp, pe_ite, pe_ix', pe_key, pe_sl, pe_fld, pe_call', pe_callK, pe_bi, pe_comp, pe_lzip, pe_caught, pe_and', pe_or', pe_not', pe_isA, pe_chain', pw_t, pw_f, set_0, set_s, ow_0, ow_s, app_0, app_s, stx_0, stx_s, frz_v, frz_o, frz_s, Option.map_some, ite_t, ite_f, seq_nx, seq_rt, seqK_nx, seqK_rt, seq_ex, seq_bnd, seq_ite, bnd_ite, res_nx, res_rt, tst_bnd, tst_ret, tst_ite, and_b, or_b, not_b, tru_b, ifs_nil, ifs_and, ifs_or, ifs_not, ifs_cmp, ifs_call, ite_bool, ite_and, ite_or, ite_andT, ite_orT, oe_nil, bnd_ret, bnd_bnd, bnd_rse, bnd_stk, lft_some, le_i, lt_i, ge_i, gt_i, eq_i, ne_i, is_n, nis_n, add_i, sub_i, len_t, len_l, len_sc, zip_t, zip_l, el_t, el_l, Gn_tb, Bf.f, oe_nm, oe_bin, oe_call, oe_kI, int_i, neg_i, tuple_l, tuple_t, list_t, list_l, ft_draw, isIn, isBl, btw, Bool.not_false, ite_t]; done)
def cellB (k : Int) (x : D) : Bool := x.isNon || btw 0 (k - 1) x
theorem is_cell {x : D} {k : Int} (h : good x = true) : (Gn W (n + 2)).ft "is_cell" [.int k, x] = ret (.bl (cellB k x)) := by
  rw [cf_is_cell]
  unfold bf_is_cell
  simp only [Oi.exec, ex_nm, ex_kI, ex_kB, ex_kN, ex_kS, ex_neg, ex_tup, ex_lst, ex_dct, ex_bin, ex_cmp, ex_chain, ex_and, ex_or, ex_not, ex_ite, ex_ix, ex_key, ex_sl, ex_fld, ex_call, ex_callK, ex_bi, ex_isA, ex_lzip, evL, evLP, evI, nm_0, nm_s, pe_nm, pkn_v, pkn_o, pkn_n, pkn_s, pe_kI, pe_kB, pe_kN, pe_kS, pe_neg, pe_tup, pe_lst', pe_dct, pe_bin, pe_cmp, pe_ite, pe_ix', pe_key, pe_sl, pe_fld, pe_call', pe_callK, pe_bi, pe_comp, pe_lzip, pe_caught, pe_and', pe_or', pe_not', pe_isA, pe_chain', pw_t, pw_f, set_0, set_s, ow_0, ow_s, app_0, app_s, stx_0, stx_s, frz_v, frz_o, frz_s, Option.map_some, ite_t, ite_f, seq_nx, seq_rt, seqK_nx, seqK_rt, seq_ex, seq_bnd, seq_ite, bnd_ite, res_nx, res_rt, tst_bnd, tst_ret, tst_ite, and_b, or_b, not_b, tru_b, ifs_nil, ifs_and, ifs_or, ifs_not, ifs_cmp, ifs_call, ite_bool, ite_and, ite_or, ite_andT, ite_orT, oe_nil, bnd_ret, bnd_bnd, bnd_rse, bnd_stk, lft_some, le_i, lt_i, ge_i, gt_i, eq_i, ne_i, is_n, nis_n, add_i, sub_i, len_t, len_l, len_sc, zip_t, zip_l, el_t, el_l, Gn_tb, Bf.f, oe_nm, oe_bin, oe_call, oe_kI, int_i, neg_i, tuple_l, tuple_t, list_t, list_l, ft_draw, is_between h]
  rfl
/-! ### kinds, rows -/
def kd (ki : List Int) : D := .tup (ki.map D.int)
theorem zw (ki : List Int) (xs : List D) : (ki.map D.int).zipWith (fun p q => D.tup [p, q]) xs = (ki.zip xs).map fun p => D.tup [.int p.1, p.2] := by
  induction ki generalizing xs with
  | nil => rfl
  | cons k ki ih =>
    cases xs with
    | nil => rfl
    | cons x xs => rw [List.map_cons, List.zipWith_cons_cons, ih, List.zip_cons_cons, List.map_cons]
theorem len_kd {ki : List Int} : lenD [kd ki] = some (.int ki.length) := by
  show some (D.int ((ki.map D.int).length : Nat)) = _
  rw [List.length_map]
theorem zip_kd {ki : List Int} {xs : List D} : zipD (kd ki) (.tup xs) = some ((ki.zip xs).map fun p => D.tup [.int p.1, p.2]) := by rw [← zw]; rfl
theorem zip_len (ki : List Int) (xs : List D) : (ki.zip xs).length ≤ ki.length := by rw [List.length_zip]; exact Nat.min_le_left _ _
def rowB (ki : List Int) : D → Bool
  | .tup xs => decide (xs.length = ki.length) && (ki.zip xs).all fun p => cellB p.1 p.2
  | _ => false
def pairF (f : Int → D → D) : D → D
  | .tup [.int k, x] => f k x
  | _ => .non
theorem int_len (a b : Nat) : decide ((a : Int) = (b : Int)) = decide (a = b) := by
  by_cases h : a = b
  · rw [h, decide_eq_true rfl, decide_eq_true rfl]
  · rw [decide_eq_false h, decide_eq_false (by omega)]
theorem is_row_of {ki : List Int} {x : D} (hk : sz ki.length = true) (h : good x = true) : (Gn W (n + 3)).ft "is_row_of" [kd ki, x] = ret (.bl (rowB ki x)) := by
  rw [cf_is_row_of]
  unfold bf_is_row_of
  have ht := isa_tuple h
  cases x with
  | tup xs =>
    have hc : ev (Gn W (n + 2)) (.comp (.call "is_cell" (.cons (.nm 2) (.cons (.nm 3) .nil))) [2, 3] true (.itZ (.nm 0) (.nm 1)) .nil) [.val (kd ki), .val (.tup xs), .no, .no] = ret (.lst ((ki.zip xs).map fun p => .bl (cellB p.1 p.2))) := by
      rw [ev_comp_map (pairF fun k x => .bl (cellB k x)) (xs := (ki.zip xs).map fun p => D.tup [.int p.1, p.2]) (by simp only [Oi.exec, ex_nm, ex_kI, ex_kB, ex_kN, ex_kS, ex_neg, ex_tup, ex_lst, ex_dct, ex_bin, ex_cmp, ex_chain, ex_and, ex_or, ex_not, ex_ite, ex_ix, ex_key, ex_sl, ex_fld, ex_call, ex_callK, ex_bi, ex_isA, ex_lzip, evL, evLP, evI, nm_0, nm_s, pe_nm, pkn_v, pkn_o, pkn_n, pkn_s, pe_kI, pe_kB, pe_kN, pe_kS, pe_neg, pe_tup, pe_lst', pe_dct, pe_bin, pe_cmp, pe_ite, pe_ix', pe_key, pe_sl, pe_fld, pe_call', pe_callK, pe_bi, pe_comp, pe_lzip, pe_caught, pe_and', pe_or', pe_not', pe_isA, pe_chain', pw_t, pw_f, set_0, set_s, ow_0, ow_s, app_0, app_s, stx_0, stx_s, frz_v, frz_o, frz_s, Option.map_some, ite_t, ite_f, seq_nx, seq_rt, seqK_nx, seqK_rt, seq_ex, seq_bnd, seq_ite, bnd_ite, res_nx, res_rt, tst_bnd, tst_ret, tst_ite, and_b, or_b, not_b, tru_b, ifs_nil, ifs_and, ifs_or, ifs_not, ifs_cmp, ifs_call, ite_bool, ite_and, ite_or, ite_andT, ite_orT, oe_nil, bnd_ret, bnd_bnd, bnd_rse, bnd_stk, lft_some, le_i, lt_i, ge_i, gt_i, eq_i, ne_i, is_n, nis_n, add_i, sub_i, len_t, len_l, len_sc, zip_t, zip_l, el_t, el_l, Gn_tb, Bf.f, oe_nm, oe_bin, oe_call, oe_kI, int_i, neg_i, tuple_l, tuple_t, list_t, list_l, ft_draw, zip_kd]) (by rw [List.length_map]; exact sz_le' hk (zip_len _ _)) (fun z hz => ?_), List.map_map]
      · rfl
      · obtain ⟨⟨k, y⟩, hp, rfl⟩ := List.mem_map.mp hz
        have hy : good y = true := (good_tup h).2 y (List.of_mem_zip hp).2
        exact ⟨[.val (kd ki), .val (.tup xs), .val (.int k), .val y], rfl, rfl, by simp only [Oi.exec, ex_nm, ex_kI, ex_kB, ex_kN, ex_kS, ex_neg, ex_tup, ex_lst, ex_dct, ex_bin, ex_cmp, ex_chain, ex_and, ex_or, ex_not, ex_ite, ex_ix, ex_key, ex_sl, ex_fld, ex_call, ex_callK, ex_bi, ex_isA, ex_lzip, evL, evLP, evI, nm_0, nm_s, pe_nm, pkn_v, pkn_o, pkn_n, pkn_s, pe_kI, pe_kB, pe_kN, pe_kS, pe_neg, pe_tup, pe_lst', pe_dct, pe_bin, pe_cmp, pe_ite, pe_ix', pe_key, pe_sl, pe_fld, pe_call', pe_callK, pe_bi, pe_comp, pe_lzip, pe_caught, pe_and', pe_or', pe_not', pe_isA, pe_chain', pw_t, pw_f, set_0, set_s, ow_0, ow_s, app_0, app_s, stx_0, stx_s, frz_v, frz_o, frz_s, Option.map_some, ite_t, ite_f, seq_nx, seq_rt, seqK_nx, seqK_rt, seq_ex, seq_bnd, seq_ite, bnd_ite, res_nx, res_rt, tst_bnd, tst_ret, tst_ite, and_b, or_b, not_b, tru_b, ifs_nil, ifs_and, ifs_or, ifs_not, ifs_cmp, ifs_call, ite_bool, ite_and, ite_or, ite_andT, ite_orT, oe_nil, bnd_ret, bnd_bnd, bnd_rse, bnd_stk, lft_some, le_i, lt_i, ge_i, gt_i, eq_i, ne_i, is_n, nis_n, add_i, sub_i, len_t, len_l, len_sc, zip_t, zip_l, el_t, el_l, Gn_tb, Bf.f, oe_nm, oe_bin, oe_call, oe_kI, int_i, neg_i, tuple_l, tuple_t, list_t, list_l, ft_draw, is_cell hy, pairF]⟩
    simp only [Oi.exec, ex_nm, ex_kI, ex_kB, ex_kN, ex_kS, ex_neg, ex_tup, ex_lst, ex_dct, ex_bin, ex_cmp, ex_chain, ex_and, ex_or, ex_not, ex_ite, ex_ix, ex_key, ex_sl, ex_fld, ex_call, ex_callK, ex_bi, ex_isA, ex_lzip, evL, evLP, evI, nm_0, nm_s, pe_nm, pkn_v, pkn_o, pkn_n, pkn_s, pe_kI, pe_kB, pe_kN, pe_kS, pe_neg, pe_tup, pe_lst', pe_dct, pe_bin, pe_cmp, pe_ite, pe_ix', pe_key, pe_sl, pe_fld, pe_call', pe_callK, pe_bi, pe_comp, pe_lzip, pe_caught, pe_and', pe_or', pe_not', pe_isA, pe_chain', pw_t, pw_f, set_0, set_s, ow_0, ow_s, app_0, app_s, stx_0, stx_s, frz_v, frz_o, frz_s, Option.map_some, ite_t, ite_f, seq_nx, seq_rt, seqK_nx, seqK_rt, seq_ex, seq_bnd, seq_ite, bnd_ite, res_nx, res_rt, tst_bnd, tst_ret, tst_ite, and_b, or_b, not_b, tru_b, ifs_nil, ifs_and, ifs_or, ifs_not, ifs_cmp, ifs_call, ite_bool, ite_and, ite_or, ite_andT, ite_orT, oe_nil, bnd_ret, bnd_bnd, bnd_rse, bnd_stk, lft_some, le_i, lt_i, ge_i, gt_i, eq_i, ne_i, is_n, nis_n, add_i, sub_i, len_t, len_l, len_sc, zip_t, zip_l, el_t, el_l, Gn_tb, Bf.f, oe_nm, oe_bin, oe_call, oe_kI, int_i, neg_i, tuple_l, tuple_t, list_t, list_l, ft_draw, ht, isTp, hc, Bool.not_true, len_kd, int_len, all_map]
    rw [show rowB ki (.tup xs) = (decide (xs.length = ki.length) && (ki.zip xs).all fun p => cellB p.1 p.2) from rfl]
    cases decide (xs.length = ki.length) <;> rfl
  | _ => simp only [Oi.exec, ex_nm, ex_kI, ex_kB, ex_kN, ex_kS, ex_neg, ex_tup, ex_lst, ex_dct, ex_bin, ex_cmp, ex_chain, ex_and, ex_or, ex_not, ex_ite, ex_ix, ex_key, ex_sl, ex_fld, ex_call, ex_callK, ex_bi, ex_isA, ex_lzip, evL, evLP, evI, nm_0, nm_s, pe_nm, pkn_v, pkn_o, pkn_n, pkn_s, pe_kI, pe_kB, pe_kN, pe_kS, pe_neg, pe_tup, pe_lst', pe_dct, pe_bin, pe_cmp, pe_ite, pe_ix', pe_key, pe_sl, pe_fld, pe_call', pe_callK, pe_bi, pe_comp, pe_lzip, pe_caught, pe_and', pe_or', pe_not', pe_isA, pe_chain', pw_t, pw_f, set_0, set_s, ow_0, ow_s, app_0, app_s, stx_0, stx_s, frz_v, frz_o, frz_s, Option.map_some, ite_t, ite_f, seq_nx, seq_rt, seqK_nx, seqK_rt, seq_ex, seq_bnd, seq_ite, bnd_ite, res_nx, res_rt, tst_bnd, tst_ret, tst_ite, and_b, or_b, not_b, tru_b, ifs_nil, ifs_and, ifs_or, ifs_not, ifs_cmp, ifs_call, ite_bool, ite_and, ite_or, ite_andT, ite_orT, oe_nil, bnd_ret, bnd_bnd, bnd_rse, bnd_stk, lft_some, le_i, lt_i, ge_i, gt_i, eq_i, ne_i, is_n, nis_n, add_i, sub_i, len_t, len_l, len_sc, zip_t, zip_l, el_t, el_l, Gn_tb, Bf.f, oe_nm, oe_bin, oe_call, oe_kI, int_i, neg_i, tuple_l, tuple_t, list_t, list_l, ft_draw, ht, isTp, Bool.not_false] <;> rfl
def kindsB : D → Bool
  | .tup xs => decide (1 ≤ xs.length) && decide (xs.length ≤ 8) && xs.all fun x => btw 1 6 x
  | _ => false
theorem cast1 (a : Nat) : decide ((1 : Int) ≤ (a : Int)) = decide (1 ≤ a) := by
  by_cases h : 1 ≤ a
  · rw [decide_eq_true h, decide_eq_true (by omega)]
  · rw [decide_eq_false h, decide_eq_false (by omega)]
theorem cast8 (a : Nat) : decide ((a : Int) ≤ 8) = decide (a ≤ 8) := by
  by_cases h : a ≤ 8
  · rw [decide_eq_true h, decide_eq_true (by omega)]
  · rw [decide_eq_false h, decide_eq_false (by omega)]
theorem cast12 (a : Nat) : decide ((a : Int) ≤ 12) = decide (a ≤ 12) := by
  by_cases h : a ≤ 12
  · rw [decide_eq_true h, decide_eq_true (by omega)]
  · rw [decide_eq_false h, decide_eq_false (by omega)]
theorem bool3 (a b c : Bool) : (if (!(a && b)) = true then false else c) = (a && b && c) := by cases a <;> cases b <;> cases c <;> rfl
theorem are_kinds {x : D} (h : good x = true) : (Gn W (n + 2)).ft "are_kinds" [x] = ret (.bl (kindsB x)) := by
  rw [cf_are_kinds]
  unfold bf_are_kinds
  have ht := isa_tuple h
  cases x with
  | tup xs =>
    have hc : ev (Gn W (n + 1)) (.comp (.call "is_between" (.cons (.nm 1) (.cons (.kI 1) (.cons (.kI 6) .nil)))) [1] false (.itS (.nm 0)) .nil) [.val (.tup xs), .no] = ret (.lst (xs.map fun x => .bl (btw 1 6 x))) :=
      ev_comp_map (fun x => .bl (btw 1 6 x)) (by simp only [Oi.exec, ex_nm, ex_kI, ex_kB, ex_kN, ex_kS, ex_neg, ex_tup, ex_lst, ex_dct, ex_bin, ex_cmp, ex_chain, ex_and, ex_or, ex_not, ex_ite, ex_ix, ex_key, ex_sl, ex_fld, ex_call, ex_callK, ex_bi, ex_isA, ex_lzip, evL, evLP, evI, nm_0, nm_s, pe_nm, pkn_v, pkn_o, pkn_n, pkn_s, pe_kI, pe_kB, pe_kN, pe_kS, pe_neg, pe_tup, pe_lst', pe_dct, pe_bin, pe_cmp, pe_ite, pe_ix', pe_key, pe_sl, pe_fld, pe_call', pe_callK, pe_bi, pe_comp, pe_lzip, pe_caught, pe_and', pe_or', pe_not', pe_isA, pe_chain', pw_t, pw_f, set_0, set_s, ow_0, ow_s, app_0, app_s, stx_0, stx_s, frz_v, frz_o, frz_s, Option.map_some, ite_t, ite_f, seq_nx, seq_rt, seqK_nx, seqK_rt, seq_ex, seq_bnd, seq_ite, bnd_ite, res_nx, res_rt, tst_bnd, tst_ret, tst_ite, and_b, or_b, not_b, tru_b, ifs_nil, ifs_and, ifs_or, ifs_not, ifs_cmp, ifs_call, ite_bool, ite_and, ite_or, ite_andT, ite_orT, oe_nil, bnd_ret, bnd_bnd, bnd_rse, bnd_stk, lft_some, le_i, lt_i, ge_i, gt_i, eq_i, ne_i, is_n, nis_n, add_i, sub_i, len_t, len_l, len_sc, zip_t, zip_l, el_t, el_l, Gn_tb, Bf.f, oe_nm, oe_bin, oe_call, oe_kI, int_i, neg_i, tuple_l, tuple_t, list_t, list_l, ft_draw]) (good_tup h).1 fun z hz => ⟨[.val (.tup xs), .val z], rfl, rfl, by simp only [Oi.exec, ex_nm, ex_kI, ex_kB, ex_kN, ex_kS, ex_neg, ex_tup, ex_lst, ex_dct, ex_bin, ex_cmp, ex_chain, ex_and, ex_or, ex_not, ex_ite, ex_ix, ex_key, ex_sl, ex_fld, ex_call, ex_callK, ex_bi, ex_isA, ex_lzip, evL, evLP, evI, nm_0, nm_s, pe_nm, pkn_v, pkn_o, pkn_n, pkn_s, pe_kI, pe_kB, pe_kN, pe_kS, pe_neg, pe_tup, pe_lst', pe_dct, pe_bin, pe_cmp, pe_ite, pe_ix', pe_key, pe_sl, pe_fld, pe_call', pe_callK, pe_bi, pe_comp, pe_lzip, pe_caught, pe_and', pe_or', pe_not', pe_isA, pe_chain', pw_t, pw_f, set_0, set_s, ow_0, ow_s, app_0, app_s, stx_0, stx_s, frz_v, frz_o, frz_s, Option.map_some, ite_t, ite_f, seq_nx, seq_rt, seqK_nx, seqK_rt, seq_ex, seq_bnd, seq_ite, bnd_ite, res_nx, res_rt, tst_bnd, tst_ret, tst_ite, and_b, or_b, not_b, tru_b, ifs_nil, ifs_and, ifs_or, ifs_not, ifs_cmp, ifs_call, ite_bool, ite_and, ite_or, ite_andT, ite_orT, oe_nil, bnd_ret, bnd_bnd, bnd_rse, bnd_stk, lft_some, le_i, lt_i, ge_i, gt_i, eq_i, ne_i, is_n, nis_n, add_i, sub_i, len_t, len_l, len_sc, zip_t, zip_l, el_t, el_l, Gn_tb, Bf.f, oe_nm, oe_bin, oe_call, oe_kI, int_i, neg_i, tuple_l, tuple_t, list_t, list_l, ft_draw, is_between ((good_tup h).2 z hz)]⟩
    simp only [Oi.exec, ex_nm, ex_kI, ex_kB, ex_kN, ex_kS, ex_neg, ex_tup, ex_lst, ex_dct, ex_bin, ex_cmp, ex_chain, ex_and, ex_or, ex_not, ex_ite, ex_ix, ex_key, ex_sl, ex_fld, ex_call, ex_callK, ex_bi, ex_isA, ex_lzip, evL, evLP, evI, nm_0, nm_s, pe_nm, pkn_v, pkn_o, pkn_n, pkn_s, pe_kI, pe_kB, pe_kN, pe_kS, pe_neg, pe_tup, pe_lst', pe_dct, pe_bin, pe_cmp, pe_ite, pe_ix', pe_key, pe_sl, pe_fld, pe_call', pe_callK, pe_bi, pe_comp, pe_lzip, pe_caught, pe_and', pe_or', pe_not', pe_isA, pe_chain', pw_t, pw_f, set_0, set_s, ow_0, ow_s, app_0, app_s, stx_0, stx_s, frz_v, frz_o, frz_s, Option.map_some, ite_t, ite_f, seq_nx, seq_rt, seqK_nx, seqK_rt, seq_ex, seq_bnd, seq_ite, bnd_ite, res_nx, res_rt, tst_bnd, tst_ret, tst_ite, and_b, or_b, not_b, tru_b, ifs_nil, ifs_and, ifs_or, ifs_not, ifs_cmp, ifs_call, ite_bool, ite_and, ite_or, ite_andT, ite_orT, oe_nil, bnd_ret, bnd_bnd, bnd_rse, bnd_stk, lft_some, le_i, lt_i, ge_i, gt_i, eq_i, ne_i, is_n, nis_n, add_i, sub_i, len_t, len_l, len_sc, zip_t, zip_l, el_t, el_l, Gn_tb, Bf.f, oe_nm, oe_bin, oe_call, oe_kI, int_i, neg_i, tuple_l, tuple_t, list_t, list_l, ft_draw, ht, isTp, hc, Bool.not_true, cast1, cast8, all_map]
    rw [show kindsB (.tup xs) = (decide (1 ≤ xs.length) && decide (xs.length ≤ 8) && xs.all fun x => btw 1 6 x) from rfl]
    cases decide (1 ≤ xs.length) <;> cases decide (xs.length ≤ 8) <;> rfl
  | _ => simp only [Oi.exec, ex_nm, ex_kI, ex_kB, ex_kN, ex_kS, ex_neg, ex_tup, ex_lst, ex_dct, ex_bin, ex_cmp, ex_chain, ex_and, ex_or, ex_not, ex_ite, ex_ix, ex_key, ex_sl, ex_fld, ex_call, ex_callK, ex_bi, ex_isA, ex_lzip, evL, evLP, evI, nm_0, nm_s, pe_nm, pkn_v, pkn_o, pkn_n, pkn_s, pe_kI, pe_kB, pe_kN, pe_kS, pe_neg, pe_tup, pe_lst', pe_dct, pe_bin, pe_cmp, pe_ite, pe_ix', pe_key, pe_sl, pe_fld, pe_call', pe_callK, pe_bi, pe_comp, pe_lzip, pe_caught, pe_and', pe_or', pe_not', pe_isA, pe_chain', pw_t, pw_f, set_0, set_s, ow_0, ow_s, app_0, app_s, stx_0, stx_s, frz_v, frz_o, frz_s, Option.map_some, ite_t, ite_f, seq_nx, seq_rt, seqK_nx, seqK_rt, seq_ex, seq_bnd, seq_ite, bnd_ite, res_nx, res_rt, tst_bnd, tst_ret, tst_ite, and_b, or_b, not_b, tru_b, ifs_nil, ifs_and, ifs_or, ifs_not, ifs_cmp, ifs_call, ite_bool, ite_and, ite_or, ite_andT, ite_orT, oe_nil, bnd_ret, bnd_bnd, bnd_rse, bnd_stk, lft_some, le_i, lt_i, ge_i, gt_i, eq_i, ne_i, is_n, nis_n, add_i, sub_i, len_t, len_l, len_sc, zip_t, zip_l, el_t, el_l, Gn_tb, Bf.f, oe_nm, oe_bin, oe_call, oe_kI, int_i, neg_i, tuple_l, tuple_t, list_t, list_l, ft_draw, ht, isTp, Bool.not_false] <;> rfl
/-- a kinds tuple's numbers -/
theorem kinds_of {x : D} (h : kindsB x = true) : ∃ ki : List Int, x = kd ki ∧ 1 ≤ ki.length ∧ ki.length ≤ 8 ∧ ∀ k ∈ ki, 1 ≤ k ∧ k ≤ 6 := by
  cases x with
  | tup xs =>
    rw [show kindsB (.tup xs) = (decide (1 ≤ xs.length) && decide (xs.length ≤ 8) && xs.all fun x => btw 1 6 x) from rfl, Bool.and_eq_true, Bool.and_eq_true, decide_eq_true_eq, decide_eq_true_eq, List.all_eq_true] at h
    obtain ⟨⟨h1, h2⟩, h3⟩ := h
    have key : ∀ xs : List D, (∀ x ∈ xs, btw 1 6 x = true) → ∃ ki : List Int, xs = ki.map D.int ∧ ∀ k ∈ ki, 1 ≤ k ∧ k ≤ 6 := by
      intro xs
      induction xs with
      | nil => exact fun _ => ⟨[], rfl, fun _ h => by cases h⟩
      | cons x xs ih =>
        intro hx
        obtain ⟨ki, e, hk⟩ := ih fun y hy => hx y (List.mem_cons_of_mem _ hy)
        have h0 := hx x List.mem_cons_self
        cases x with
        | int i =>
          rw [show btw 1 6 (.int i) = (decide (1 ≤ i) && decide (i ≤ 6)) from rfl, Bool.and_eq_true, decide_eq_true_eq, decide_eq_true_eq] at h0
          exact ⟨i :: ki, by rw [e]; rfl, fun k hk' => (List.mem_cons.mp hk').elim (fun z => by rw [z]; exact h0) (hk k)⟩
        | _ => cases h0
    obtain ⟨ki, e, hk⟩ := key xs h3
    subst e
    rw [List.length_map] at h1 h2
    exact ⟨ki, rfl, h1, h2, hk⟩
  | _ => cases h
theorem kindsB_kd {ki : List Int} (h1 : 1 ≤ ki.length) (h2 : ki.length ≤ 8) (h3 : ∀ k ∈ ki, 1 ≤ k ∧ k ≤ 6) : kindsB (kd ki) = true := by
  rw [show kindsB (kd ki) = (decide (1 ≤ (ki.map D.int).length) && decide ((ki.map D.int).length ≤ 8) && (ki.map D.int).all fun x => btw 1 6 x) from rfl, List.length_map, decide_eq_true h1, decide_eq_true h2, Bool.and_self, Bool.true_and, List.all_eq_true]
  intro x hx
  obtain ⟨k, hk, rfl⟩ := List.mem_map.mp hx
  obtain ⟨a, b⟩ := h3 k hk
  rw [show btw 1 6 (.int k) = (decide (1 ≤ k) && decide (k ≤ 6)) from rfl, decide_eq_true a, decide_eq_true b]
  rfl
def cellAt (r : D) (j : Nat) : D := match r with
  | .tup xs => xs.getD j .non
  | _ => .non
def unreadAt (rs : List D) (j : Nat) : Bool := rs.all fun r => (cellAt r j).isNon
theorem cell_ix {xs : List D} {j : Nat} (h : j < xs.length) : ixD (.tup xs) (.int j) = some (cellAt (.tup xs) j) := by
  rw [ix_t h]
  show _ = some (xs.getD j .non)
  rw [List.getD_eq_getElem?_getD, List.getElem?_eq_getElem h]
  rfl
def Rect (m : Nat) (rs : List D) : Prop := ∀ r ∈ rs, ∃ xs, r = .tup xs ∧ xs.length = m
def firstUn (m : Nat) (rs : List D) : D := match ((List.range m).map fun (k : Nat) => D.int k).find? fun d => (match d with | .int i => unreadAt rs i.toNat | _ => false) with
  | some d => d
  | none => .non
theorem first_unread {m : Nat} {rs : List D} (hm : sz m = true) (hz : sz rs.length = true) (hr : Rect m rs) : (Gn W (n + 1)).ft "first_unread" [.int m, .tup rs] = ret (firstUn m rs) := by
  rw [cf_first_unread]
  unfold bf_first_unread
  have hi : evI (Gn W n) false (.itR (.cons (.nm 0) .nil)) [.val (.int m), .val (.tup rs), .no, .no] = ret ((List.range m).map fun (k : Nat) => .int k) := by simp only [Oi.exec, ex_nm, ex_kI, ex_kB, ex_kN, ex_kS, ex_neg, ex_tup, ex_lst, ex_dct, ex_bin, ex_cmp, ex_chain, ex_and, ex_or, ex_not, ex_ite, ex_ix, ex_key, ex_sl, ex_fld, ex_call, ex_callK, ex_bi, ex_isA, ex_lzip, evL, evLP, evI, nm_0, nm_s, pe_nm, pkn_v, pkn_o, pkn_n, pkn_s, pe_kI, pe_kB, pe_kN, pe_kS, pe_neg, pe_tup, pe_lst', pe_dct, pe_bin, pe_cmp, pe_ite, pe_ix', pe_key, pe_sl, pe_fld, pe_call', pe_callK, pe_bi, pe_comp, pe_lzip, pe_caught, pe_and', pe_or', pe_not', pe_isA, pe_chain', pw_t, pw_f, set_0, set_s, ow_0, ow_s, app_0, app_s, stx_0, stx_s, frz_v, frz_o, frz_s, Option.map_some, ite_t, ite_f, seq_nx, seq_rt, seqK_nx, seqK_rt, seq_ex, seq_bnd, seq_ite, bnd_ite, res_nx, res_rt, tst_bnd, tst_ret, tst_ite, and_b, or_b, not_b, tru_b, ifs_nil, ifs_and, ifs_or, ifs_not, ifs_cmp, ifs_call, ite_bool, ite_and, ite_or, ite_andT, ite_orT, oe_nil, bnd_ret, bnd_bnd, bnd_rse, bnd_stk, lft_some, le_i, lt_i, ge_i, gt_i, eq_i, ne_i, is_n, nis_n, add_i, sub_i, len_t, len_l, len_sc, zip_t, zip_l, el_t, el_l, Gn_tb, Bf.f, oe_nm, oe_bin, oe_call, oe_kI, int_i, neg_i, tuple_l, tuple_t, list_t, list_l, ft_draw, rng_n hm]
  obtain ⟨ρ', hf, hJ⟩ := for_find (b := fun d ρ => bindT ρ [2] false d) (body := fun ρ => Oi.exec (Gn W n) (.seq (.ifs (.bi .all (.cons (.comp (.cmp .isN (.ix (.nm 3) (.nm 2)) .kN) [3] false (.itS (.nm 1)) .nil) .nil)) (.seq (.rt (.nm 2)) .nil) .nil) .nil) ρ)
    (fun ρ => ∃ s, ρ = [.val (.int m), .val (.tup rs), s, .no]) (fun d => (match d with | .int i => unreadAt rs i.toNat | _ => false)) id (xs := (List.range m).map fun (k : Nat) => .int k) (ρ := [.val (.int m), .val (.tup rs), .no, .no]) ⟨_, rfl⟩ (fun x hx ρ hρ => by
      obtain ⟨s, rfl⟩ := hρ
      obtain ⟨k, hk, rfl⟩ := List.mem_map.mp hx
      have hk := List.mem_range.mp hk
      refine ⟨[.val (.int m), .val (.tup rs), .val (.int k), .no], [.val (.int m), .val (.tup rs), .val (.int k), .no], rfl, ?_, _, rfl⟩
      have hc : ev (Gn W n) (.comp (.cmp .isN (.ix (.nm 3) (.nm 2)) .kN) [3] false (.itS (.nm 1)) .nil) [.val (.int m), .val (.tup rs), .val (.int k), .no] = ret (.lst (rs.map fun r => .bl (cellAt r k).isNon)) :=
        ev_comp_map (fun r => .bl (cellAt r k).isNon) (by simp only [Oi.exec, ex_nm, ex_kI, ex_kB, ex_kN, ex_kS, ex_neg, ex_tup, ex_lst, ex_dct, ex_bin, ex_cmp, ex_chain, ex_and, ex_or, ex_not, ex_ite, ex_ix, ex_key, ex_sl, ex_fld, ex_call, ex_callK, ex_bi, ex_isA, ex_lzip, evL, evLP, evI, nm_0, nm_s, pe_nm, pkn_v, pkn_o, pkn_n, pkn_s, pe_kI, pe_kB, pe_kN, pe_kS, pe_neg, pe_tup, pe_lst', pe_dct, pe_bin, pe_cmp, pe_ite, pe_ix', pe_key, pe_sl, pe_fld, pe_call', pe_callK, pe_bi, pe_comp, pe_lzip, pe_caught, pe_and', pe_or', pe_not', pe_isA, pe_chain', pw_t, pw_f, set_0, set_s, ow_0, ow_s, app_0, app_s, stx_0, stx_s, frz_v, frz_o, frz_s, Option.map_some, ite_t, ite_f, seq_nx, seq_rt, seqK_nx, seqK_rt, seq_ex, seq_bnd, seq_ite, bnd_ite, res_nx, res_rt, tst_bnd, tst_ret, tst_ite, and_b, or_b, not_b, tru_b, ifs_nil, ifs_and, ifs_or, ifs_not, ifs_cmp, ifs_call, ite_bool, ite_and, ite_or, ite_andT, ite_orT, oe_nil, bnd_ret, bnd_bnd, bnd_rse, bnd_stk, lft_some, le_i, lt_i, ge_i, gt_i, eq_i, ne_i, is_n, nis_n, add_i, sub_i, len_t, len_l, len_sc, zip_t, zip_l, el_t, el_l, Gn_tb, Bf.f, oe_nm, oe_bin, oe_call, oe_kI, int_i, neg_i, tuple_l, tuple_t, list_t, list_l, ft_draw]) hz fun r hr' => by
          obtain ⟨xs, rfl, hxs⟩ := hr r hr'
          exact ⟨[.val (.int m), .val (.tup rs), .val (.int k), .val (.tup xs)], rfl, rfl, by simp only [Oi.exec, ex_nm, ex_kI, ex_kB, ex_kN, ex_kS, ex_neg, ex_tup, ex_lst, ex_dct, ex_bin, ex_cmp, ex_chain, ex_and, ex_or, ex_not, ex_ite, ex_ix, ex_key, ex_sl, ex_fld, ex_call, ex_callK, ex_bi, ex_isA, ex_lzip, evL, evLP, evI, nm_0, nm_s, pe_nm, pkn_v, pkn_o, pkn_n, pkn_s, pe_kI, pe_kB, pe_kN, pe_kS, pe_neg, pe_tup, pe_lst', pe_dct, pe_bin, pe_cmp, pe_ite, pe_ix', pe_key, pe_sl, pe_fld, pe_call', pe_callK, pe_bi, pe_comp, pe_lzip, pe_caught, pe_and', pe_or', pe_not', pe_isA, pe_chain', pw_t, pw_f, set_0, set_s, ow_0, ow_s, app_0, app_s, stx_0, stx_s, frz_v, frz_o, frz_s, Option.map_some, ite_t, ite_f, seq_nx, seq_rt, seqK_nx, seqK_rt, seq_ex, seq_bnd, seq_ite, bnd_ite, res_nx, res_rt, tst_bnd, tst_ret, tst_ite, and_b, or_b, not_b, tru_b, ifs_nil, ifs_and, ifs_or, ifs_not, ifs_cmp, ifs_call, ite_bool, ite_and, ite_or, ite_andT, ite_orT, oe_nil, bnd_ret, bnd_bnd, bnd_rse, bnd_stk, lft_some, le_i, lt_i, ge_i, gt_i, eq_i, ne_i, is_n, nis_n, add_i, sub_i, len_t, len_l, len_sc, zip_t, zip_l, el_t, el_l, Gn_tb, Bf.f, oe_nm, oe_bin, oe_call, oe_kI, int_i, neg_i, tuple_l, tuple_t, list_t, list_l, ft_draw, cell_ix (show k < xs.length by omega)]⟩
      simp only [Oi.exec, ex_nm, ex_kI, ex_kB, ex_kN, ex_kS, ex_neg, ex_tup, ex_lst, ex_dct, ex_bin, ex_cmp, ex_chain, ex_and, ex_or, ex_not, ex_ite, ex_ix, ex_key, ex_sl, ex_fld, ex_call, ex_callK, ex_bi, ex_isA, ex_lzip, evL, evLP, evI, nm_0, nm_s, pe_nm, pkn_v, pkn_o, pkn_n, pkn_s, pe_kI, pe_kB, pe_kN, pe_kS, pe_neg, pe_tup, pe_lst', pe_dct, pe_bin, pe_cmp, pe_ite, pe_ix', pe_key, pe_sl, pe_fld, pe_call', pe_callK, pe_bi, pe_comp, pe_lzip, pe_caught, pe_and', pe_or', pe_not', pe_isA, pe_chain', pw_t, pw_f, set_0, set_s, ow_0, ow_s, app_0, app_s, stx_0, stx_s, frz_v, frz_o, frz_s, Option.map_some, ite_t, ite_f, seq_nx, seq_rt, seqK_nx, seqK_rt, seq_ex, seq_bnd, seq_ite, bnd_ite, res_nx, res_rt, tst_bnd, tst_ret, tst_ite, and_b, or_b, not_b, tru_b, ifs_nil, ifs_and, ifs_or, ifs_not, ifs_cmp, ifs_call, ite_bool, ite_and, ite_or, ite_andT, ite_orT, oe_nil, bnd_ret, bnd_bnd, bnd_rse, bnd_stk, lft_some, le_i, lt_i, ge_i, gt_i, eq_i, ne_i, is_n, nis_n, add_i, sub_i, len_t, len_l, len_sc, zip_t, zip_l, el_t, el_l, Gn_tb, Bf.f, oe_nm, oe_bin, oe_call, oe_kI, int_i, neg_i, tuple_l, tuple_t, list_t, list_l, ft_draw, hc, all_map]
      show _ = ret ((if unreadAt rs ((k : Int).toNat) = true then _ else _), _)
      rw [Int.toNat_natCast, show unreadAt rs k = rs.all fun r => (cellAt r k).isNon from rfl]
      cases rs.all fun r => (cellAt r k).isNon <;> rfl)
  rw [Oi.exec, exec_for hi, hf]
  obtain ⟨s, rfl⟩ := hJ
  unfold firstUn
  generalize ((List.range m).map fun (k : Nat) => D.int k).find? _ = o
  cases o with
  | none => simp only [Oi.exec, ex_nm, ex_kI, ex_kB, ex_kN, ex_kS, ex_neg, ex_tup, ex_lst, ex_dct, ex_bin, ex_cmp, ex_chain, ex_and, ex_or, ex_not, ex_ite, ex_ix, ex_key, ex_sl, ex_fld, ex_call, ex_callK, ex_bi, ex_isA, ex_lzip, evL, evLP, evI, nm_0, nm_s, pe_nm, pkn_v, pkn_o, pkn_n, pkn_s, pe_kI, pe_kB, pe_kN, pe_kS, pe_neg, pe_tup, pe_lst', pe_dct, pe_bin, pe_cmp, pe_ite, pe_ix', pe_key, pe_sl, pe_fld, pe_call', pe_callK, pe_bi, pe_comp, pe_lzip, pe_caught, pe_and', pe_or', pe_not', pe_isA, pe_chain', pw_t, pw_f, set_0, set_s, ow_0, ow_s, app_0, app_s, stx_0, stx_s, frz_v, frz_o, frz_s, Option.map_some, ite_t, ite_f, seq_nx, seq_rt, seqK_nx, seqK_rt, seq_ex, seq_bnd, seq_ite, bnd_ite, res_nx, res_rt, tst_bnd, tst_ret, tst_ite, and_b, or_b, not_b, tru_b, ifs_nil, ifs_and, ifs_or, ifs_not, ifs_cmp, ifs_call, ite_bool, ite_and, ite_or, ite_andT, ite_orT, oe_nil, bnd_ret, bnd_bnd, bnd_rse, bnd_stk, lft_some, le_i, lt_i, ge_i, gt_i, eq_i, ne_i, is_n, nis_n, add_i, sub_i, len_t, len_l, len_sc, zip_t, zip_l, el_t, el_l, Gn_tb, Bf.f, oe_nm, oe_bin, oe_call, oe_kI, int_i, neg_i, tuple_l, tuple_t, list_t, list_l, ft_draw]
  | some d => simp only [Oi.exec, ex_nm, ex_kI, ex_kB, ex_kN, ex_kS, ex_neg, ex_tup, ex_lst, ex_dct, ex_bin, ex_cmp, ex_chain, ex_and, ex_or, ex_not, ex_ite, ex_ix, ex_key, ex_sl, ex_fld, ex_call, ex_callK, ex_bi, ex_isA, ex_lzip, evL, evLP, evI, nm_0, nm_s, pe_nm, pkn_v, pkn_o, pkn_n, pkn_s, pe_kI, pe_kB, pe_kN, pe_kS, pe_neg, pe_tup, pe_lst', pe_dct, pe_bin, pe_cmp, pe_ite, pe_ix', pe_key, pe_sl, pe_fld, pe_call', pe_callK, pe_bi, pe_comp, pe_lzip, pe_caught, pe_and', pe_or', pe_not', pe_isA, pe_chain', pw_t, pw_f, set_0, set_s, ow_0, ow_s, app_0, app_s, stx_0, stx_s, frz_v, frz_o, frz_s, Option.map_some, ite_t, ite_f, seq_nx, seq_rt, seqK_nx, seqK_rt, seq_ex, seq_bnd, seq_ite, bnd_ite, res_nx, res_rt, tst_bnd, tst_ret, tst_ite, and_b, or_b, not_b, tru_b, ifs_nil, ifs_and, ifs_or, ifs_not, ifs_cmp, ifs_call, ite_bool, ite_and, ite_or, ite_andT, ite_orT, oe_nil, bnd_ret, bnd_bnd, bnd_rse, bnd_stk, lft_some, le_i, lt_i, ge_i, gt_i, eq_i, ne_i, is_n, nis_n, add_i, sub_i, len_t, len_l, len_sc, zip_t, zip_l, el_t, el_l, Gn_tb, Bf.f, oe_nm, oe_bin, oe_call, oe_kI, int_i, neg_i, tuple_l, tuple_t, list_t, list_l, ft_draw, id]
theorem firstUn_non {m : Nat} {rs : List D} : (firstUn m rs).isNon = (List.range m).all fun j => !unreadAt rs j := by
  unfold firstUn
  rw [List.find?_map]
  have e : ((fun d : D => (match d with | .int i => unreadAt rs i.toNat | _ => false)) ∘ fun (k : Nat) => D.int k) = unreadAt rs := by
    funext k
    show unreadAt rs ((k : Int).toNat) = _
    rw [Int.toNat_natCast]
  rw [e]
  cases h : (List.range m).find? (unreadAt rs) with
  | none =>
    have := List.find?_eq_none.mp h
    show true = _
    exact (List.all_eq_true.mpr fun j hj => by simpa using this j hj).symm
  | some j =>
    show false = _
    have h1 := List.find?_some h
    have h2 := List.mem_of_find?_eq_some h
    cases q : (List.range m).all fun j => !unreadAt rs j with
    | false => rfl
    | true =>
      have := List.all_eq_true.mp q j h2
      rw [h1] at this
      cases this
end K00

/-! k00, plain: rows, tables; the law's own looks. -/
namespace K00
open PySem Oi
variable {W : Wd} {n : Nat}
def rowsB (ki : List Int) : D → Bool
  | .tup rs => decide (1 ≤ rs.length) && decide (rs.length ≤ 12) && rs.all (rowB ki) && (List.range ki.length).all fun j => !unreadAt rs j
  | _ => false
theorem rowsB_tup {ki : List Int} {rs : List D} : rowsB ki (.tup rs) = (decide (1 ≤ rs.length) && decide (rs.length ≤ 12) && rs.all (rowB ki) && (List.range ki.length).all fun j => !unreadAt rs j) := rfl
theorem rowB_tup {ki : List Int} {x : D} (h : rowB ki x = true) : ∃ xs, x = .tup xs ∧ xs.length = ki.length ∧ ∀ p ∈ ki.zip xs, cellB p.1 p.2 = true := by
  cases x with
  | tup xs =>
    rw [show rowB ki (.tup xs) = (decide (xs.length = ki.length) && (ki.zip xs).all fun p => cellB p.1 p.2) from rfl, Bool.and_eq_true, decide_eq_true_eq, List.all_eq_true] at h
    exact ⟨xs, rfl, h.1, h.2⟩
  | _ => cases h
theorem rect_of {ki : List Int} {rs : List D} (h : rs.all (rowB ki) = true) : Rect ki.length rs := fun r hr => by
  obtain ⟨xs, e, hl, _⟩ := rowB_tup (List.all_eq_true.mp h r hr)
  exact ⟨xs, e, hl⟩
theorem bool4 (a b c d : Bool) : iteM (!(a && b)) (ret (D.bl false)) (iteM (!c) (ret (.bl false)) (ret (.bl d))) = ret (.bl (a && b && c && d)) := by cases a <;> cases b <;> cases c <;> rfl
theorem are_rows {ki : List Int} {x : D} (hk : sz ki.length = true) (h : good x = true) : (Gn W (n + 4)).ft "are_rows" [kd ki, x] = ret (.bl (rowsB ki x)) := by
  rw [cf_are_rows]
  unfold bf_are_rows
  have ht := isa_tuple h
  cases x with
  | tup rs =>
    have hc : ev (Gn W (n + 3)) (.comp (.call "is_row_of" (.cons (.nm 0) (.cons (.nm 2) .nil))) [2] false (.itS (.nm 1)) .nil) [.val (kd ki), .val (.tup rs), .no] = ret (.lst (rs.map fun x => .bl (rowB ki x))) :=
      ev_comp_map (fun x => .bl (rowB ki x)) (by simp only [Oi.exec, ex_nm, ex_kI, ex_kB, ex_kN, ex_kS, ex_neg, ex_tup, ex_lst, ex_dct, ex_bin, ex_cmp, ex_chain, ex_and, ex_or, ex_not, ex_ite, ex_ix, ex_key, ex_sl, ex_fld, ex_call, ex_callK, ex_bi, ex_isA, ex_lzip, evL, evLP, evI, nm_0, nm_s, pe_nm, pkn_v, pkn_o, pkn_n, pkn_s, pe_kI, pe_kB, pe_kN, pe_kS, pe_neg, pe_tup, pe_lst', pe_dct, pe_bin, pe_cmp, pe_ite, pe_ix', pe_key, pe_sl, pe_fld, pe_call', pe_callK, pe_bi, pe_comp, pe_lzip, pe_caught, pe_and', pe_or', pe_not', pe_isA, pe_chain', pw_t, pw_f, set_0, set_s, ow_0, ow_s, app_0, app_s, stx_0, stx_s, frz_v, frz_o, frz_s, Option.map_some, ite_t, ite_f, seq_nx, seq_rt, seqK_nx, seqK_rt, seq_ex, seq_bnd, seq_ite, bnd_ite, res_nx, res_rt, tst_bnd, tst_ret, tst_ite, and_b, or_b, not_b, tru_b, ifs_nil, ifs_and, ifs_or, ifs_not, ifs_cmp, ifs_call, ite_bool, ite_and, ite_or, ite_andT, ite_orT, oe_nil, bnd_ret, bnd_bnd, bnd_rse, bnd_stk, lft_some, le_i, lt_i, ge_i, gt_i, eq_i, ne_i, is_n, nis_n, add_i, sub_i, len_t, len_l, len_sc, zip_t, zip_l, el_t, el_l, Gn_tb, Bf.f, oe_nm, oe_bin, oe_call, oe_kI, int_i, neg_i, tuple_l, tuple_t, list_t, list_l, ft_draw]) (good_tup h).1 fun z hz => ⟨[.val (kd ki), .val (.tup rs), .val z], rfl, rfl, by simp only [Oi.exec, ex_nm, ex_kI, ex_kB, ex_kN, ex_kS, ex_neg, ex_tup, ex_lst, ex_dct, ex_bin, ex_cmp, ex_chain, ex_and, ex_or, ex_not, ex_ite, ex_ix, ex_key, ex_sl, ex_fld, ex_call, ex_callK, ex_bi, ex_isA, ex_lzip, evL, evLP, evI, nm_0, nm_s, pe_nm, pkn_v, pkn_o, pkn_n, pkn_s, pe_kI, pe_kB, pe_kN, pe_kS, pe_neg, pe_tup, pe_lst', pe_dct, pe_bin, pe_cmp, pe_ite, pe_ix', pe_key, pe_sl, pe_fld, pe_call', pe_callK, pe_bi, pe_comp, pe_lzip, pe_caught, pe_and', pe_or', pe_not', pe_isA, pe_chain', pw_t, pw_f, set_0, set_s, ow_0, ow_s, app_0, app_s, stx_0, stx_s, frz_v, frz_o, frz_s, Option.map_some, ite_t, ite_f, seq_nx, seq_rt, seqK_nx, seqK_rt, seq_ex, seq_bnd, seq_ite, bnd_ite, res_nx, res_rt, tst_bnd, tst_ret, tst_ite, and_b, or_b, not_b, tru_b, ifs_nil, ifs_and, ifs_or, ifs_not, ifs_cmp, ifs_call, ite_bool, ite_and, ite_or, ite_andT, ite_orT, oe_nil, bnd_ret, bnd_bnd, bnd_rse, bnd_stk, lft_some, le_i, lt_i, ge_i, gt_i, eq_i, ne_i, is_n, nis_n, add_i, sub_i, len_t, len_l, len_sc, zip_t, zip_l, el_t, el_l, Gn_tb, Bf.f, oe_nm, oe_bin, oe_call, oe_kI, int_i, neg_i, tuple_l, tuple_t, list_t, list_l, ft_draw, is_row_of hk ((good_tup h).2 z hz)]⟩
    simp only [Oi.exec, ex_nm, ex_kI, ex_kB, ex_kN, ex_kS, ex_neg, ex_tup, ex_lst, ex_dct, ex_bin, ex_cmp, ex_chain, ex_and, ex_or, ex_not, ex_ite, ex_ix, ex_key, ex_sl, ex_fld, ex_call, ex_callK, ex_bi, ex_isA, ex_lzip, evL, evLP, evI, nm_0, nm_s, pe_nm, pkn_v, pkn_o, pkn_n, pkn_s, pe_kI, pe_kB, pe_kN, pe_kS, pe_neg, pe_tup, pe_lst', pe_dct, pe_bin, pe_cmp, pe_ite, pe_ix', pe_key, pe_sl, pe_fld, pe_call', pe_callK, pe_bi, pe_comp, pe_lzip, pe_caught, pe_and', pe_or', pe_not', pe_isA, pe_chain', pw_t, pw_f, set_0, set_s, ow_0, ow_s, app_0, app_s, stx_0, stx_s, frz_v, frz_o, frz_s, Option.map_some, ite_t, ite_f, seq_nx, seq_rt, seqK_nx, seqK_rt, seq_ex, seq_bnd, seq_ite, bnd_ite, res_nx, res_rt, tst_bnd, tst_ret, tst_ite, and_b, or_b, not_b, tru_b, ifs_nil, ifs_and, ifs_or, ifs_not, ifs_cmp, ifs_call, ite_bool, ite_and, ite_or, ite_andT, ite_orT, oe_nil, bnd_ret, bnd_bnd, bnd_rse, bnd_stk, lft_some, le_i, lt_i, ge_i, gt_i, eq_i, ne_i, is_n, nis_n, add_i, sub_i, len_t, len_l, len_sc, zip_t, zip_l, el_t, el_l, Gn_tb, Bf.f, oe_nm, oe_bin, oe_call, oe_kI, int_i, neg_i, tuple_l, tuple_t, list_t, list_l, ft_draw, ht, isTp, hc, Bool.not_true, cast1, cast12, all_map, len_kd]
    rw [rowsB_tup]
    cases hA : rs.all (rowB ki) with
    | false =>
      cases decide (1 ≤ rs.length) <;> cases decide (rs.length ≤ 12) <;> rfl
    | true =>
      rw [first_unread hk (good_tup h).1 (rect_of hA)]
      simp only [Oi.exec, ex_nm, ex_kI, ex_kB, ex_kN, ex_kS, ex_neg, ex_tup, ex_lst, ex_dct, ex_bin, ex_cmp, ex_chain, ex_and, ex_or, ex_not, ex_ite, ex_ix, ex_key, ex_sl, ex_fld, ex_call, ex_callK, ex_bi, ex_isA, ex_lzip, evL, evLP, evI, nm_0, nm_s, pe_nm, pkn_v, pkn_o, pkn_n, pkn_s, pe_kI, pe_kB, pe_kN, pe_kS, pe_neg, pe_tup, pe_lst', pe_dct, pe_bin, pe_cmp, pe_ite, pe_ix', pe_key, pe_sl, pe_fld, pe_call', pe_callK, pe_bi, pe_comp, pe_lzip, pe_caught, pe_and', pe_or', pe_not', pe_isA, pe_chain', pw_t, pw_f, set_0, set_s, ow_0, ow_s, app_0, app_s, stx_0, stx_s, frz_v, frz_o, frz_s, Option.map_some, ite_t, ite_f, seq_nx, seq_rt, seqK_nx, seqK_rt, seq_ex, seq_bnd, seq_ite, bnd_ite, res_nx, res_rt, tst_bnd, tst_ret, tst_ite, and_b, or_b, not_b, tru_b, ifs_nil, ifs_and, ifs_or, ifs_not, ifs_cmp, ifs_call, ite_bool, ite_and, ite_or, ite_andT, ite_orT, oe_nil, bnd_ret, bnd_bnd, bnd_rse, bnd_stk, lft_some, le_i, lt_i, ge_i, gt_i, eq_i, ne_i, is_n, nis_n, add_i, sub_i, len_t, len_l, len_sc, zip_t, zip_l, el_t, el_l, Gn_tb, Bf.f, oe_nm, oe_bin, oe_call, oe_kI, int_i, neg_i, tuple_l, tuple_t, list_t, list_l, ft_draw, firstUn_non]
      exact bool4 _ _ true _
  | _ => simp only [Oi.exec, ex_nm, ex_kI, ex_kB, ex_kN, ex_kS, ex_neg, ex_tup, ex_lst, ex_dct, ex_bin, ex_cmp, ex_chain, ex_and, ex_or, ex_not, ex_ite, ex_ix, ex_key, ex_sl, ex_fld, ex_call, ex_callK, ex_bi, ex_isA, ex_lzip, evL, evLP, evI, nm_0, nm_s, pe_nm, pkn_v, pkn_o, pkn_n, pkn_s, pe_kI, pe_kB, pe_kN, pe_kS, pe_neg, pe_tup, pe_lst', pe_dct, pe_bin, pe_cmp, pe_ite, pe_ix', pe_key, pe_sl, pe_fld, pe_call', pe_callK, pe_bi, pe_comp, pe_lzip, pe_caught, pe_and', pe_or', pe_not', pe_isA, pe_chain', pw_t, pw_f, set_0, set_s, ow_0, ow_s, app_0, app_s, stx_0, stx_s, frz_v, frz_o, frz_s, Option.map_some, ite_t, ite_f, seq_nx, seq_rt, seqK_nx, seqK_rt, seq_ex, seq_bnd, seq_ite, bnd_ite, res_nx, res_rt, tst_bnd, tst_ret, tst_ite, and_b, or_b, not_b, tru_b, ifs_nil, ifs_and, ifs_or, ifs_not, ifs_cmp, ifs_call, ite_bool, ite_and, ite_or, ite_andT, ite_orT, oe_nil, bnd_ret, bnd_bnd, bnd_rse, bnd_stk, lft_some, le_i, lt_i, ge_i, gt_i, eq_i, ne_i, is_n, nis_n, add_i, sub_i, len_t, len_l, len_sc, zip_t, zip_l, el_t, el_l, Gn_tb, Bf.f, oe_nm, oe_bin, oe_call, oe_kI, int_i, neg_i, tuple_l, tuple_t, list_t, list_l, ft_draw, ht, isTp, Bool.not_false] <;> rfl
def tbl (k r : D) : D := .obj "Table" [("kinds", k), ("rows", r)]
theorem fl1 {ρ : Rho} {d : D} : fldS tb (.slf "Table" [] :: ρ) 0 "kinds" d = some (.slf "Table" [("kinds", d)] :: ρ) := by
  rw [fls_0, if_pos (by decide)]
  rfl
theorem fl2 {ρ : Rho} {d e : D} : fldS tb (.slf "Table" [("kinds", e)] :: ρ) 0 "rows" d = some (.slf "Table" [("kinds", e), ("rows", d)] :: ρ) := by
  rw [fls_0]
  exact if_pos (show "rows" ∉ ["kinds"] ∧ 1 < 100 ∧ (tb.obs.contains "Table" && tb.fl.contains "rows") = true by decide)
theorem made_nx {c : String} {fs : List (String × D)} {ρ : Rho} : madeM (.nx, .slf c fs :: ρ) = ret (.obj c fs) := rfl
theorem ex_fldS {G : Gm} {ρ : Rho} {i : Nat} {f : String} {e : I} : Oi.exec G (.fldS i f e) ρ = bnd (ev G e ρ) fun d => bnd (lft (fldS G.toTb ρ i f d)) fun ρ => ret (.nx, ρ) := by rw [Oi.exec]
theorem nm_sl {c : String} {fs : List (String × D)} {ρ : Rho} {i : Nat} : nmD (.slf c fs :: ρ) (i + 1) = nmD ρ i := rfl
def rowsOf (k r : D) : Bool := match k with
  | .tup xs => rowsB (xs.filterMap intD) r
  | _ => false
theorem rowsOf_kd {ki : List Int} {r : D} : rowsOf (kd ki) r = rowsB ki r := by
  show rowsB ((ki.map D.int).filterMap intD) r = _
  rw [List.filterMap_map]
  have : (intD ∘ D.int) = some := rfl
  rw [this, List.filterMap_some]
theorem table {k r : D} (hk : good k = true) (hr : good r = true) : (Gn W (n + 5)).ft "Table" [k, r] = iteM (kindsB k) (iteM (rowsOf k r) (ret (tbl k r)) (rse "BadRows" [])) (rse "BadKinds" []) := by
  rw [cf_Table]
  unfold bf_Table
  cases hb : kindsB k with
  | false => simp only [Oi.exec, ex_nm, ex_kI, ex_kB, ex_kN, ex_kS, ex_neg, ex_tup, ex_lst, ex_dct, ex_bin, ex_cmp, ex_chain, ex_and, ex_or, ex_not, ex_ite, ex_ix, ex_key, ex_sl, ex_fld, ex_call, ex_callK, ex_bi, ex_isA, ex_lzip, evL, evLP, evI, nm_0, nm_s, pe_nm, pkn_v, pkn_o, pkn_n, pkn_s, pe_kI, pe_kB, pe_kN, pe_kS, pe_neg, pe_tup, pe_lst', pe_dct, pe_bin, pe_cmp, pe_ite, pe_ix', pe_key, pe_sl, pe_fld, pe_call', pe_callK, pe_bi, pe_comp, pe_lzip, pe_caught, pe_and', pe_or', pe_not', pe_isA, pe_chain', pw_t, pw_f, set_0, set_s, ow_0, ow_s, app_0, app_s, stx_0, stx_s, frz_v, frz_o, frz_s, Option.map_some, ite_t, ite_f, seq_nx, seq_rt, seqK_nx, seqK_rt, seq_ex, seq_bnd, seq_ite, bnd_ite, res_nx, res_rt, tst_bnd, tst_ret, tst_ite, and_b, or_b, not_b, tru_b, ifs_nil, ifs_and, ifs_or, ifs_not, ifs_cmp, ifs_call, ite_bool, ite_and, ite_or, ite_andT, ite_orT, oe_nil, bnd_ret, bnd_bnd, bnd_rse, bnd_stk, lft_some, le_i, lt_i, ge_i, gt_i, eq_i, ne_i, is_n, nis_n, add_i, sub_i, len_t, len_l, len_sc, zip_t, zip_l, el_t, el_l, Gn_tb, Bf.f, oe_nm, oe_bin, oe_call, oe_kI, int_i, neg_i, tuple_l, tuple_t, list_t, list_l, ft_draw, are_kinds hk, hb, Bool.not_false]
  | true =>
    obtain ⟨ki, rfl, h1, h2, h3⟩ := kinds_of hb
    rw [rowsOf_kd]
    have sk : sz ki.length = true := sz_of (by omega)
    simp only [Oi.exec, ex_nm, ex_kI, ex_kB, ex_kN, ex_kS, ex_neg, ex_tup, ex_lst, ex_dct, ex_bin, ex_cmp, ex_chain, ex_and, ex_or, ex_not, ex_ite, ex_ix, ex_key, ex_sl, ex_fld, ex_call, ex_callK, ex_bi, ex_isA, ex_lzip, evL, evLP, evI, nm_0, nm_s, pe_nm, pkn_v, pkn_o, pkn_n, pkn_s, pe_kI, pe_kB, pe_kN, pe_kS, pe_neg, pe_tup, pe_lst', pe_dct, pe_bin, pe_cmp, pe_ite, pe_ix', pe_key, pe_sl, pe_fld, pe_call', pe_callK, pe_bi, pe_comp, pe_lzip, pe_caught, pe_and', pe_or', pe_not', pe_isA, pe_chain', pw_t, pw_f, set_0, set_s, ow_0, ow_s, app_0, app_s, stx_0, stx_s, frz_v, frz_o, frz_s, Option.map_some, ite_t, ite_f, seq_nx, seq_rt, seqK_nx, seqK_rt, seq_ex, seq_bnd, seq_ite, bnd_ite, res_nx, res_rt, tst_bnd, tst_ret, tst_ite, and_b, or_b, not_b, tru_b, ifs_nil, ifs_and, ifs_or, ifs_not, ifs_cmp, ifs_call, ite_bool, ite_and, ite_or, ite_andT, ite_orT, oe_nil, bnd_ret, bnd_bnd, bnd_rse, bnd_stk, lft_some, le_i, lt_i, ge_i, gt_i, eq_i, ne_i, is_n, nis_n, add_i, sub_i, len_t, len_l, len_sc, zip_t, zip_l, el_t, el_l, Gn_tb, Bf.f, oe_nm, oe_bin, oe_call, oe_kI, int_i, neg_i, tuple_l, tuple_t, list_t, list_l, ft_draw, are_kinds hk, hb, Bool.not_true, are_rows sk hr, fl1, fl2, made_nx]
    cases rowsB ki r <;> simp only [Oi.exec, ex_nm, ex_kI, ex_kB, ex_kN, ex_kS, ex_neg, ex_tup, ex_lst, ex_dct, ex_bin, ex_cmp, ex_chain, ex_and, ex_or, ex_not, ex_ite, ex_ix, ex_key, ex_sl, ex_fld, ex_call, ex_callK, ex_bi, ex_isA, ex_lzip, evL, evLP, evI, nm_0, nm_s, pe_nm, pkn_v, pkn_o, pkn_n, pkn_s, pe_kI, pe_kB, pe_kN, pe_kS, pe_neg, pe_tup, pe_lst', pe_dct, pe_bin, pe_cmp, pe_ite, pe_ix', pe_key, pe_sl, pe_fld, pe_call', pe_callK, pe_bi, pe_comp, pe_lzip, pe_caught, pe_and', pe_or', pe_not', pe_isA, pe_chain', pw_t, pw_f, set_0, set_s, ow_0, ow_s, app_0, app_s, stx_0, stx_s, frz_v, frz_o, frz_s, Option.map_some, ite_t, ite_f, seq_nx, seq_rt, seqK_nx, seqK_rt, seq_ex, seq_bnd, seq_ite, bnd_ite, res_nx, res_rt, tst_bnd, tst_ret, tst_ite, and_b, or_b, not_b, tru_b, ifs_nil, ifs_and, ifs_or, ifs_not, ifs_cmp, ifs_call, ite_bool, ite_and, ite_or, ite_andT, ite_orT, oe_nil, bnd_ret, bnd_bnd, bnd_rse, bnd_stk, lft_some, le_i, lt_i, ge_i, gt_i, eq_i, ne_i, is_n, nis_n, add_i, sub_i, len_t, len_l, len_sc, zip_t, zip_l, el_t, el_l, Gn_tb, Bf.f, oe_nm, oe_bin, oe_call, oe_kI, int_i, neg_i, tuple_l, tuple_t, list_t, list_l, ft_draw, Bool.not_true, Bool.not_false, fl1, fl2, made_nx] <;> rfl
/-! ### the law's own looks -/
def whole : D → Bool
  | .int _ => true
  | _ => false
theorem law_whole {x : D} (h : good x = true) : (Gn W (n + 1)).ft "_law_is_whole" [x] = ret (.bl (whole x)) := by
  rw [cg_law_is_whole]
  unfold bg_law_is_whole
  simp only [Oi.exec, ex_nm, ex_kI, ex_kB, ex_kN, ex_kS, ex_neg, ex_tup, ex_lst, ex_dct, ex_bin, ex_cmp, ex_chain, ex_and, ex_or, ex_not, ex_ite, ex_ix, ex_key, ex_sl, ex_fld, ex_call, ex_callK, ex_bi, ex_isA, ex_lzip, evL, evLP, evI, nm_0, nm_s, pe_nm, pkn_v, pkn_o, pkn_n, pkn_s, pe_kI, pe_kB, pe_kN, pe_kS, pe_neg, pe_tup, pe_lst', pe_dct, pe_bin, pe_cmp, pe_ite, pe_ix', pe_key, pe_sl, pe_fld, pe_call', pe_callK, pe_bi, pe_comp, pe_lzip, pe_caught, pe_and', pe_or', pe_not', pe_isA, pe_chain', pw_t, pw_f, set_0, set_s, ow_0, ow_s, app_0, app_s, stx_0, stx_s, frz_v, frz_o, frz_s, Option.map_some, ite_t, ite_f, seq_nx, seq_rt, seqK_nx, seqK_rt, seq_ex, seq_bnd, seq_ite, bnd_ite, res_nx, res_rt, tst_bnd, tst_ret, tst_ite, and_b, or_b, not_b, tru_b, ifs_nil, ifs_and, ifs_or, ifs_not, ifs_cmp, ifs_call, ite_bool, ite_and, ite_or, ite_andT, ite_orT, oe_nil, bnd_ret, bnd_bnd, bnd_rse, bnd_stk, lft_some, le_i, lt_i, ge_i, gt_i, eq_i, ne_i, is_n, nis_n, add_i, sub_i, len_t, len_l, len_sc, zip_t, zip_l, el_t, el_l, Gn_tb, Bf.f, oe_nm, oe_bin, oe_call, oe_kI, int_i, neg_i, tuple_l, tuple_t, list_t, list_l, ft_draw, isa_int h, isa_bool h]
  cases x <;> rfl
theorem lt_sub (i k : Int) : decide (i < k) = decide (i ≤ k - 1) := by
  by_cases h : i < k
  · rw [decide_eq_true h, decide_eq_true (by omega)]
  · rw [decide_eq_false h, decide_eq_false (by omega)]
theorem law_below {x : D} {k : Int} (h : good x = true) : (Gn W (n + 2)).ft "_law_is_below" [x, .int k] = ret (.bl (btw 0 (k - 1) x)) := by
  rw [cg_law_is_below]
  unfold bg_law_is_below
  simp only [Oi.exec, ex_nm, ex_kI, ex_kB, ex_kN, ex_kS, ex_neg, ex_tup, ex_lst, ex_dct, ex_bin, ex_cmp, ex_chain, ex_and, ex_or, ex_not, ex_ite, ex_ix, ex_key, ex_sl, ex_fld, ex_call, ex_callK, ex_bi, ex_isA, ex_lzip, evL, evLP, evI, nm_0, nm_s, pe_nm, pkn_v, pkn_o, pkn_n, pkn_s, pe_kI, pe_kB, pe_kN, pe_kS, pe_neg, pe_tup, pe_lst', pe_dct, pe_bin, pe_cmp, pe_ite, pe_ix', pe_key, pe_sl, pe_fld, pe_call', pe_callK, pe_bi, pe_comp, pe_lzip, pe_caught, pe_and', pe_or', pe_not', pe_isA, pe_chain', pw_t, pw_f, set_0, set_s, ow_0, ow_s, app_0, app_s, stx_0, stx_s, frz_v, frz_o, frz_s, Option.map_some, ite_t, ite_f, seq_nx, seq_rt, seqK_nx, seqK_rt, seq_ex, seq_bnd, seq_ite, bnd_ite, res_nx, res_rt, tst_bnd, tst_ret, tst_ite, and_b, or_b, not_b, tru_b, ifs_nil, ifs_and, ifs_or, ifs_not, ifs_cmp, ifs_call, ite_bool, ite_and, ite_or, ite_andT, ite_orT, oe_nil, bnd_ret, bnd_bnd, bnd_rse, bnd_stk, lft_some, le_i, lt_i, ge_i, gt_i, eq_i, ne_i, is_n, nis_n, add_i, sub_i, len_t, len_l, len_sc, zip_t, zip_l, el_t, el_l, Gn_tb, Bf.f, oe_nm, oe_bin, oe_call, oe_kI, int_i, neg_i, tuple_l, tuple_t, list_t, list_l, ft_draw, law_whole h]
  cases x with
  | int i => simp only [Oi.exec, ex_nm, ex_kI, ex_kB, ex_kN, ex_kS, ex_neg, ex_tup, ex_lst, ex_dct, ex_bin, ex_cmp, ex_chain, ex_and, ex_or, ex_not, ex_ite, ex_ix, ex_key, ex_sl, ex_fld, ex_call, ex_callK, ex_bi, ex_isA, ex_lzip, evL, evLP, evI, nm_0, nm_s, pe_nm, pkn_v, pkn_o, pkn_n, pkn_s, pe_kI, pe_kB, pe_kN, pe_kS, pe_neg, pe_tup, pe_lst', pe_dct, pe_bin, pe_cmp, pe_ite, pe_ix', pe_key, pe_sl, pe_fld, pe_call', pe_callK, pe_bi, pe_comp, pe_lzip, pe_caught, pe_and', pe_or', pe_not', pe_isA, pe_chain', pw_t, pw_f, set_0, set_s, ow_0, ow_s, app_0, app_s, stx_0, stx_s, frz_v, frz_o, frz_s, Option.map_some, ite_t, ite_f, seq_nx, seq_rt, seqK_nx, seqK_rt, seq_ex, seq_bnd, seq_ite, bnd_ite, res_nx, res_rt, tst_bnd, tst_ret, tst_ite, and_b, or_b, not_b, tru_b, ifs_nil, ifs_and, ifs_or, ifs_not, ifs_cmp, ifs_call, ite_bool, ite_and, ite_or, ite_andT, ite_orT, oe_nil, bnd_ret, bnd_bnd, bnd_rse, bnd_stk, lft_some, le_i, lt_i, ge_i, gt_i, eq_i, ne_i, is_n, nis_n, add_i, sub_i, len_t, len_l, len_sc, zip_t, zip_l, el_t, el_l, Gn_tb, Bf.f, oe_nm, oe_bin, oe_call, oe_kI, int_i, neg_i, tuple_l, tuple_t, list_t, list_l, ft_draw, whole, lt_sub, btw]
  | _ => rfl
theorem lzip_kd {ki : List Int} {xs : List D} (h : sz ki.length = true) : lzipD (kd ki) (.tup xs) = some (.lst ((ki.zip xs).map fun p => D.tup [.int p.1, p.2])) := by
  show (if sz (ki.map D.int).length then some (D.lst ((ki.map D.int).zipWith (fun p q => .tup [p, q]) xs)) else none) = _
  rw [List.length_map, h, if_pos rfl, zw]
def pairB (f : Int → D → Bool) : D → Bool
  | .tup [.int k, x] => f k x
  | _ => false
theorem all_zip {α : Type} {f : α → D} {g : α → Bool} {xs : List α} {p : D → Bool} (h : ∀ a ∈ xs, p (f a) = !g a) : ((xs.map f).all fun x => !p x) = xs.all g := by
  rw [List.all_map]
  induction xs with
  | nil => rfl
  | cons x xs ih =>
    rw [List.all_cons, List.all_cons, ih fun a ha => h a (List.mem_cons_of_mem _ ha)]
    show (!p (f x) && _) = _
    rw [h x List.mem_cons_self, Bool.not_not]
theorem cmp_nil (ns : List Int) : cmpD .eq (.lst (ns.map D.int)) (.lst []) = some ns.isEmpty := eq_nil ns
theorem law_is_row {ki : List Int} {x : D} (hk : sz ki.length = true) (h : good x = true) : (Gn W (n + 3)).ft "_law_is_row" [kd ki, x] = ret (.bl (rowB ki x)) := by
  rw [cg_law_is_row]
  unfold bg_law_is_row
  have ht := isa_tuple h
  cases x with
  | tup xs =>
    have hc : ev (Gn W (n + 2)) (.comp (.kI 1) [3, 4] true (.itS (.nm 2)) (.and (.cmp .notN (.nm 4) .kN) (.not (.call "_law_is_below" (.cons (.nm 4) (.cons (.nm 3) .nil)))))) [.val (kd ki), .val (.tup xs), .val (.lst ((ki.zip xs).map fun p => D.tup [.int p.1, p.2])), .no, .no] =
        ret (.lst (((((ki.zip xs).map fun p => D.tup [.int p.1, p.2]).filter (pairB fun k y => !y.isNon && !btw 0 (k - 1) y)).map fun _ => (1 : Int)).map D.int)) := by
      refine ev_comp_ones _ (by simp only [Oi.exec, ex_nm, ex_kI, ex_kB, ex_kN, ex_kS, ex_neg, ex_tup, ex_lst, ex_dct, ex_bin, ex_cmp, ex_chain, ex_and, ex_or, ex_not, ex_ite, ex_ix, ex_key, ex_sl, ex_fld, ex_call, ex_callK, ex_bi, ex_isA, ex_lzip, evL, evLP, evI, nm_0, nm_s, pe_nm, pkn_v, pkn_o, pkn_n, pkn_s, pe_kI, pe_kB, pe_kN, pe_kS, pe_neg, pe_tup, pe_lst', pe_dct, pe_bin, pe_cmp, pe_ite, pe_ix', pe_key, pe_sl, pe_fld, pe_call', pe_callK, pe_bi, pe_comp, pe_lzip, pe_caught, pe_and', pe_or', pe_not', pe_isA, pe_chain', pw_t, pw_f, set_0, set_s, ow_0, ow_s, app_0, app_s, stx_0, stx_s, frz_v, frz_o, frz_s, Option.map_some, ite_t, ite_f, seq_nx, seq_rt, seqK_nx, seqK_rt, seq_ex, seq_bnd, seq_ite, bnd_ite, res_nx, res_rt, tst_bnd, tst_ret, tst_ite, and_b, or_b, not_b, tru_b, ifs_nil, ifs_and, ifs_or, ifs_not, ifs_cmp, ifs_call, ite_bool, ite_and, ite_or, ite_andT, ite_orT, oe_nil, bnd_ret, bnd_bnd, bnd_rse, bnd_stk, lft_some, le_i, lt_i, ge_i, gt_i, eq_i, ne_i, is_n, nis_n, add_i, sub_i, len_t, len_l, len_sc, zip_t, zip_l, el_t, el_l, Gn_tb, Bf.f, oe_nm, oe_bin, oe_call, oe_kI, int_i, neg_i, tuple_l, tuple_t, list_t, list_l, ft_draw]) (by rw [List.length_map]; exact sz_le' hk (zip_len _ _)) fun z hz => ?_
      obtain ⟨⟨k, y⟩, hp, rfl⟩ := List.mem_map.mp hz
      have hy : good y = true := (good_tup h).2 y (List.of_mem_zip hp).2
      refine ⟨[.val (kd ki), .val (.tup xs), .val (.lst ((ki.zip xs).map fun p => D.tup [.int p.1, p.2])), .val (.int k), .val y], rfl, ?_⟩
      simp only [Oi.exec, ex_nm, ex_kI, ex_kB, ex_kN, ex_kS, ex_neg, ex_tup, ex_lst, ex_dct, ex_bin, ex_cmp, ex_chain, ex_and, ex_or, ex_not, ex_ite, ex_ix, ex_key, ex_sl, ex_fld, ex_call, ex_callK, ex_bi, ex_isA, ex_lzip, evL, evLP, evI, nm_0, nm_s, pe_nm, pkn_v, pkn_o, pkn_n, pkn_s, pe_kI, pe_kB, pe_kN, pe_kS, pe_neg, pe_tup, pe_lst', pe_dct, pe_bin, pe_cmp, pe_ite, pe_ix', pe_key, pe_sl, pe_fld, pe_call', pe_callK, pe_bi, pe_comp, pe_lzip, pe_caught, pe_and', pe_or', pe_not', pe_isA, pe_chain', pw_t, pw_f, set_0, set_s, ow_0, ow_s, app_0, app_s, stx_0, stx_s, frz_v, frz_o, frz_s, Option.map_some, ite_t, ite_f, seq_nx, seq_rt, seqK_nx, seqK_rt, seq_ex, seq_bnd, seq_ite, bnd_ite, res_nx, res_rt, tst_bnd, tst_ret, tst_ite, and_b, or_b, not_b, tru_b, ifs_nil, ifs_and, ifs_or, ifs_not, ifs_cmp, ifs_call, ite_bool, ite_and, ite_or, ite_andT, ite_orT, oe_nil, bnd_ret, bnd_bnd, bnd_rse, bnd_stk, lft_some, le_i, lt_i, ge_i, gt_i, eq_i, ne_i, is_n, nis_n, add_i, sub_i, len_t, len_l, len_sc, zip_t, zip_l, el_t, el_l, Gn_tb, Bf.f, oe_nm, oe_bin, oe_call, oe_kI, int_i, neg_i, tuple_l, tuple_t, list_t, list_l, ft_draw, law_below hy, pairB]
    simp only [Oi.exec, ex_nm, ex_kI, ex_kB, ex_kN, ex_kS, ex_neg, ex_tup, ex_lst, ex_dct, ex_bin, ex_cmp, ex_chain, ex_and, ex_or, ex_not, ex_ite, ex_ix, ex_key, ex_sl, ex_fld, ex_call, ex_callK, ex_bi, ex_isA, ex_lzip, evL, evLP, evI, nm_0, nm_s, pe_nm, pkn_v, pkn_o, pkn_n, pkn_s, pe_kI, pe_kB, pe_kN, pe_kS, pe_neg, pe_tup, pe_lst', pe_dct, pe_bin, pe_cmp, pe_ite, pe_ix', pe_key, pe_sl, pe_fld, pe_call', pe_callK, pe_bi, pe_comp, pe_lzip, pe_caught, pe_and', pe_or', pe_not', pe_isA, pe_chain', pw_t, pw_f, set_0, set_s, ow_0, ow_s, app_0, app_s, stx_0, stx_s, frz_v, frz_o, frz_s, Option.map_some, ite_t, ite_f, seq_nx, seq_rt, seqK_nx, seqK_rt, seq_ex, seq_bnd, seq_ite, bnd_ite, res_nx, res_rt, tst_bnd, tst_ret, tst_ite, and_b, or_b, not_b, tru_b, ifs_nil, ifs_and, ifs_or, ifs_not, ifs_cmp, ifs_call, ite_bool, ite_and, ite_or, ite_andT, ite_orT, oe_nil, bnd_ret, bnd_bnd, bnd_rse, bnd_stk, lft_some, le_i, lt_i, ge_i, gt_i, eq_i, ne_i, is_n, nis_n, add_i, sub_i, len_t, len_l, len_sc, zip_t, zip_l, el_t, el_l, Gn_tb, Bf.f, oe_nm, oe_bin, oe_call, oe_kI, int_i, neg_i, tuple_l, tuple_t, list_t, list_l, ft_draw, ht, isTp, hc, Bool.not_true, len_kd, int_len, lzip_kd hk, cmp_nil, ones_empty]
    rw [all_zip (g := fun p => cellB p.1 p.2) (fun a _ => by
      show (!a.2.isNon && !btw 0 (a.1 - 1) a.2) = !(a.2.isNon || btw 0 (a.1 - 1) a.2)
      cases a.2.isNon <;> rfl)]
    rw [show rowB ki (.tup xs) = (decide (xs.length = ki.length) && (ki.zip xs).all fun p => cellB p.1 p.2) from rfl]
    cases decide (xs.length = ki.length) <;> rfl
  | _ => simp only [Oi.exec, ex_nm, ex_kI, ex_kB, ex_kN, ex_kS, ex_neg, ex_tup, ex_lst, ex_dct, ex_bin, ex_cmp, ex_chain, ex_and, ex_or, ex_not, ex_ite, ex_ix, ex_key, ex_sl, ex_fld, ex_call, ex_callK, ex_bi, ex_isA, ex_lzip, evL, evLP, evI, nm_0, nm_s, pe_nm, pkn_v, pkn_o, pkn_n, pkn_s, pe_kI, pe_kB, pe_kN, pe_kS, pe_neg, pe_tup, pe_lst', pe_dct, pe_bin, pe_cmp, pe_ite, pe_ix', pe_key, pe_sl, pe_fld, pe_call', pe_callK, pe_bi, pe_comp, pe_lzip, pe_caught, pe_and', pe_or', pe_not', pe_isA, pe_chain', pw_t, pw_f, set_0, set_s, ow_0, ow_s, app_0, app_s, stx_0, stx_s, frz_v, frz_o, frz_s, Option.map_some, ite_t, ite_f, seq_nx, seq_rt, seqK_nx, seqK_rt, seq_ex, seq_bnd, seq_ite, bnd_ite, res_nx, res_rt, tst_bnd, tst_ret, tst_ite, and_b, or_b, not_b, tru_b, ifs_nil, ifs_and, ifs_or, ifs_not, ifs_cmp, ifs_call, ite_bool, ite_and, ite_or, ite_andT, ite_orT, oe_nil, bnd_ret, bnd_bnd, bnd_rse, bnd_stk, lft_some, le_i, lt_i, ge_i, gt_i, eq_i, ne_i, is_n, nis_n, add_i, sub_i, len_t, len_l, len_sc, zip_t, zip_l, el_t, el_l, Gn_tb, Bf.f, oe_nm, oe_bin, oe_call, oe_kI, int_i, neg_i, tuple_l, tuple_t, list_t, list_l, ft_draw, ht, isTp, Bool.not_false] <;> rfl
theorem law_are_kinds {x : D} (h : good x = true) : (Gn W (n + 2)).ft "_law_are_kinds" [x] = ret (.bl (kindsB x)) := by
  rw [cg_law_are_kinds]
  unfold bg_law_are_kinds
  have ht := isa_tuple h
  cases x with
  | tup xs =>
    have hc : ev (Gn W (n + 1)) (.comp (.kI 1) [1] false (.itS (.nm 0)) (.or (.not (.call "_law_is_whole" (.cons (.nm 1) .nil))) (.not (.chain .le .le (.kI 1) (.nm 1) (.kI 6))))) [.val (.tup xs), .no] = ret (.lst (((xs.filter fun y => !btw 1 6 y).map fun _ => (1 : Int)).map D.int)) := by
      refine ev_comp_ones _ (by simp only [Oi.exec, ex_nm, ex_kI, ex_kB, ex_kN, ex_kS, ex_neg, ex_tup, ex_lst, ex_dct, ex_bin, ex_cmp, ex_chain, ex_and, ex_or, ex_not, ex_ite, ex_ix, ex_key, ex_sl, ex_fld, ex_call, ex_callK, ex_bi, ex_isA, ex_lzip, evL, evLP, evI, nm_0, nm_s, pe_nm, pkn_v, pkn_o, pkn_n, pkn_s, pe_kI, pe_kB, pe_kN, pe_kS, pe_neg, pe_tup, pe_lst', pe_dct, pe_bin, pe_cmp, pe_ite, pe_ix', pe_key, pe_sl, pe_fld, pe_call', pe_callK, pe_bi, pe_comp, pe_lzip, pe_caught, pe_and', pe_or', pe_not', pe_isA, pe_chain', pw_t, pw_f, set_0, set_s, ow_0, ow_s, app_0, app_s, stx_0, stx_s, frz_v, frz_o, frz_s, Option.map_some, ite_t, ite_f, seq_nx, seq_rt, seqK_nx, seqK_rt, seq_ex, seq_bnd, seq_ite, bnd_ite, res_nx, res_rt, tst_bnd, tst_ret, tst_ite, and_b, or_b, not_b, tru_b, ifs_nil, ifs_and, ifs_or, ifs_not, ifs_cmp, ifs_call, ite_bool, ite_and, ite_or, ite_andT, ite_orT, oe_nil, bnd_ret, bnd_bnd, bnd_rse, bnd_stk, lft_some, le_i, lt_i, ge_i, gt_i, eq_i, ne_i, is_n, nis_n, add_i, sub_i, len_t, len_l, len_sc, zip_t, zip_l, el_t, el_l, Gn_tb, Bf.f, oe_nm, oe_bin, oe_call, oe_kI, int_i, neg_i, tuple_l, tuple_t, list_t, list_l, ft_draw]) (good_tup h).1 fun z hz => ⟨[.val (.tup xs), .val z], rfl, ?_⟩
      simp only [Oi.exec, ex_nm, ex_kI, ex_kB, ex_kN, ex_kS, ex_neg, ex_tup, ex_lst, ex_dct, ex_bin, ex_cmp, ex_chain, ex_and, ex_or, ex_not, ex_ite, ex_ix, ex_key, ex_sl, ex_fld, ex_call, ex_callK, ex_bi, ex_isA, ex_lzip, evL, evLP, evI, nm_0, nm_s, pe_nm, pkn_v, pkn_o, pkn_n, pkn_s, pe_kI, pe_kB, pe_kN, pe_kS, pe_neg, pe_tup, pe_lst', pe_dct, pe_bin, pe_cmp, pe_ite, pe_ix', pe_key, pe_sl, pe_fld, pe_call', pe_callK, pe_bi, pe_comp, pe_lzip, pe_caught, pe_and', pe_or', pe_not', pe_isA, pe_chain', pw_t, pw_f, set_0, set_s, ow_0, ow_s, app_0, app_s, stx_0, stx_s, frz_v, frz_o, frz_s, Option.map_some, ite_t, ite_f, seq_nx, seq_rt, seqK_nx, seqK_rt, seq_ex, seq_bnd, seq_ite, bnd_ite, res_nx, res_rt, tst_bnd, tst_ret, tst_ite, and_b, or_b, not_b, tru_b, ifs_nil, ifs_and, ifs_or, ifs_not, ifs_cmp, ifs_call, ite_bool, ite_and, ite_or, ite_andT, ite_orT, oe_nil, bnd_ret, bnd_bnd, bnd_rse, bnd_stk, lft_some, le_i, lt_i, ge_i, gt_i, eq_i, ne_i, is_n, nis_n, add_i, sub_i, len_t, len_l, len_sc, zip_t, zip_l, el_t, el_l, Gn_tb, Bf.f, oe_nm, oe_bin, oe_call, oe_kI, int_i, neg_i, tuple_l, tuple_t, list_t, list_l, ft_draw, law_whole ((good_tup h).2 z hz)]
      cases z with
      | int i =>
        simp only [Oi.exec, ex_nm, ex_kI, ex_kB, ex_kN, ex_kS, ex_neg, ex_tup, ex_lst, ex_dct, ex_bin, ex_cmp, ex_chain, ex_and, ex_or, ex_not, ex_ite, ex_ix, ex_key, ex_sl, ex_fld, ex_call, ex_callK, ex_bi, ex_isA, ex_lzip, evL, evLP, evI, nm_0, nm_s, pe_nm, pkn_v, pkn_o, pkn_n, pkn_s, pe_kI, pe_kB, pe_kN, pe_kS, pe_neg, pe_tup, pe_lst', pe_dct, pe_bin, pe_cmp, pe_ite, pe_ix', pe_key, pe_sl, pe_fld, pe_call', pe_callK, pe_bi, pe_comp, pe_lzip, pe_caught, pe_and', pe_or', pe_not', pe_isA, pe_chain', pw_t, pw_f, set_0, set_s, ow_0, ow_s, app_0, app_s, stx_0, stx_s, frz_v, frz_o, frz_s, Option.map_some, ite_t, ite_f, seq_nx, seq_rt, seqK_nx, seqK_rt, seq_ex, seq_bnd, seq_ite, bnd_ite, res_nx, res_rt, tst_bnd, tst_ret, tst_ite, and_b, or_b, not_b, tru_b, ifs_nil, ifs_and, ifs_or, ifs_not, ifs_cmp, ifs_call, ite_bool, ite_and, ite_or, ite_andT, ite_orT, oe_nil, bnd_ret, bnd_bnd, bnd_rse, bnd_stk, lft_some, le_i, lt_i, ge_i, gt_i, eq_i, ne_i, is_n, nis_n, add_i, sub_i, len_t, len_l, len_sc, zip_t, zip_l, el_t, el_l, Gn_tb, Bf.f, oe_nm, oe_bin, oe_call, oe_kI, int_i, neg_i, tuple_l, tuple_t, list_t, list_l, ft_draw, whole, btw, Bool.not_true]
        cases decide (1 ≤ i) <;> rfl
      | _ => rfl
    simp only [Oi.exec, ex_nm, ex_kI, ex_kB, ex_kN, ex_kS, ex_neg, ex_tup, ex_lst, ex_dct, ex_bin, ex_cmp, ex_chain, ex_and, ex_or, ex_not, ex_ite, ex_ix, ex_key, ex_sl, ex_fld, ex_call, ex_callK, ex_bi, ex_isA, ex_lzip, evL, evLP, evI, nm_0, nm_s, pe_nm, pkn_v, pkn_o, pkn_n, pkn_s, pe_kI, pe_kB, pe_kN, pe_kS, pe_neg, pe_tup, pe_lst', pe_dct, pe_bin, pe_cmp, pe_ite, pe_ix', pe_key, pe_sl, pe_fld, pe_call', pe_callK, pe_bi, pe_comp, pe_lzip, pe_caught, pe_and', pe_or', pe_not', pe_isA, pe_chain', pw_t, pw_f, set_0, set_s, ow_0, ow_s, app_0, app_s, stx_0, stx_s, frz_v, frz_o, frz_s, Option.map_some, ite_t, ite_f, seq_nx, seq_rt, seqK_nx, seqK_rt, seq_ex, seq_bnd, seq_ite, bnd_ite, res_nx, res_rt, tst_bnd, tst_ret, tst_ite, and_b, or_b, not_b, tru_b, ifs_nil, ifs_and, ifs_or, ifs_not, ifs_cmp, ifs_call, ite_bool, ite_and, ite_or, ite_andT, ite_orT, oe_nil, bnd_ret, bnd_bnd, bnd_rse, bnd_stk, lft_some, le_i, lt_i, ge_i, gt_i, eq_i, ne_i, is_n, nis_n, add_i, sub_i, len_t, len_l, len_sc, zip_t, zip_l, el_t, el_l, Gn_tb, Bf.f, oe_nm, oe_bin, oe_call, oe_kI, int_i, neg_i, tuple_l, tuple_t, list_t, list_l, ft_draw, ht, isTp, hc, Bool.not_true, cast1, cast8, cmp_nil, ones_empty, Bool.not_not]
    rw [show kindsB (.tup xs) = (decide (1 ≤ xs.length) && decide (xs.length ≤ 8) && xs.all fun x => btw 1 6 x) from rfl]
    cases decide (1 ≤ xs.length) <;> cases decide (xs.length ≤ 8) <;> rfl
  | _ => simp only [Oi.exec, ex_nm, ex_kI, ex_kB, ex_kN, ex_kS, ex_neg, ex_tup, ex_lst, ex_dct, ex_bin, ex_cmp, ex_chain, ex_and, ex_or, ex_not, ex_ite, ex_ix, ex_key, ex_sl, ex_fld, ex_call, ex_callK, ex_bi, ex_isA, ex_lzip, evL, evLP, evI, nm_0, nm_s, pe_nm, pkn_v, pkn_o, pkn_n, pkn_s, pe_kI, pe_kB, pe_kN, pe_kS, pe_neg, pe_tup, pe_lst', pe_dct, pe_bin, pe_cmp, pe_ite, pe_ix', pe_key, pe_sl, pe_fld, pe_call', pe_callK, pe_bi, pe_comp, pe_lzip, pe_caught, pe_and', pe_or', pe_not', pe_isA, pe_chain', pw_t, pw_f, set_0, set_s, ow_0, ow_s, app_0, app_s, stx_0, stx_s, frz_v, frz_o, frz_s, Option.map_some, ite_t, ite_f, seq_nx, seq_rt, seqK_nx, seqK_rt, seq_ex, seq_bnd, seq_ite, bnd_ite, res_nx, res_rt, tst_bnd, tst_ret, tst_ite, and_b, or_b, not_b, tru_b, ifs_nil, ifs_and, ifs_or, ifs_not, ifs_cmp, ifs_call, ite_bool, ite_and, ite_or, ite_andT, ite_orT, oe_nil, bnd_ret, bnd_bnd, bnd_rse, bnd_stk, lft_some, le_i, lt_i, ge_i, gt_i, eq_i, ne_i, is_n, nis_n, add_i, sub_i, len_t, len_l, len_sc, zip_t, zip_l, el_t, el_l, Gn_tb, Bf.f, oe_nm, oe_bin, oe_call, oe_kI, int_i, neg_i, tuple_l, tuple_t, list_t, list_l, ft_draw, ht, isTp, Bool.not_false] <;> rfl
def intP (f : Nat → Bool) : D → Bool
  | .int i => f i.toNat
  | _ => false
theorem unread_not {rs : List D} {j : Nat} : (rs.all fun r => !(!(cellAt r j).isNon)) = unreadAt rs j := by
  unfold unreadAt
  simp only [Bool.not_not]
theorem unread_comp {rs : List D} {m j : Nat} {ρ : Rho} {G : Gm} (hz : sz rs.length = true) (hr : Rect m rs) (hj : j < m) (h0 : evI G true (.itS (.nm 1)) ρ = ret rs) (hb : ∀ xs, D.tup xs ∈ rs → ∃ ρ', bindT (wipeR ρ [3]) [3] false (.tup xs) = some ρ' ∧ nmD ρ' 3 = some (.tup xs) ∧ pk ρ' (.nm 3) = none ∧ nmD ρ' 2 = some (.int j)) :
    ev G (.comp (.kI 1) [3] false (.itS (.nm 1)) (.cmp .notN (.ix (.nm 3) (.nm 2)) .kN)) ρ = ret (.lst (((rs.filter fun r => !(cellAt r j).isNon).map fun _ => (1 : Int)).map D.int)) := by
  refine ev_comp_ones _ h0 hz fun r hr' => ?_
  obtain ⟨xs, rfl, hxs⟩ := hr r hr'
  obtain ⟨ρ', e1, e2, e3, e4⟩ := hb xs hr'
  refine ⟨ρ', e1, ?_⟩
  simp only [Oi.exec, ex_nm, ex_kI, ex_kB, ex_kN, ex_kS, ex_neg, ex_tup, ex_lst, ex_dct, ex_bin, ex_cmp, ex_chain, ex_and, ex_or, ex_not, ex_ite, ex_ix, ex_key, ex_sl, ex_fld, ex_call, ex_callK, ex_bi, ex_isA, ex_lzip, evL, evLP, evI, nm_0, nm_s, pe_nm, pkn_v, pkn_o, pkn_n, pkn_s, pe_kI, pe_kB, pe_kN, pe_kS, pe_neg, pe_tup, pe_lst', pe_dct, pe_bin, pe_cmp, pe_ite, pe_ix', pe_key, pe_sl, pe_fld, pe_call', pe_callK, pe_bi, pe_comp, pe_lzip, pe_caught, pe_and', pe_or', pe_not', pe_isA, pe_chain', pw_t, pw_f, set_0, set_s, ow_0, ow_s, app_0, app_s, stx_0, stx_s, frz_v, frz_o, frz_s, Option.map_some, ite_t, ite_f, seq_nx, seq_rt, seqK_nx, seqK_rt, seq_ex, seq_bnd, seq_ite, bnd_ite, res_nx, res_rt, tst_bnd, tst_ret, tst_ite, and_b, or_b, not_b, tru_b, ifs_nil, ifs_and, ifs_or, ifs_not, ifs_cmp, ifs_call, ite_bool, ite_and, ite_or, ite_andT, ite_orT, oe_nil, bnd_ret, bnd_bnd, bnd_rse, bnd_stk, lft_some, le_i, lt_i, ge_i, gt_i, eq_i, ne_i, is_n, nis_n, add_i, sub_i, len_t, len_l, len_sc, zip_t, zip_l, el_t, el_l, Gn_tb, Bf.f, oe_nm, oe_bin, oe_call, oe_kI, int_i, neg_i, tuple_l, tuple_t, list_t, list_l, ft_draw, e2, e3, e4, cell_ix (show j < xs.length by omega)]
theorem law_first_unread {m : Nat} {rs : List D} (hm : sz m = true) (hz : sz rs.length = true) (hr : Rect m rs) : (Gn W (n + 1)).ft "_law_first_unread" [.int m, .tup rs] = ret (.lst ((((List.range m).filter (unreadAt rs)).map fun (k : Nat) => (k : Int)).map D.int)) := by
  rw [cg_law_first_unread]
  unfold bg_law_first_unread
  have hc : ev (Gn W n) (.comp (.nm 2) [2] false (.itR (.cons (.nm 0) .nil)) (.cmp .eq (.comp (.kI 1) [3] false (.itS (.nm 1)) (.cmp .notN (.ix (.nm 3) (.nm 2)) .kN)) (.lst .nil))) [.val (.int m), .val (.tup rs), .no, .no] =
      ret (.lst ((((List.range m).map fun (k : Nat) => D.int k).filter (intP (unreadAt rs))).map id)) := by
    refine ev_comp_filter _ id (by simp only [Oi.exec, ex_nm, ex_kI, ex_kB, ex_kN, ex_kS, ex_neg, ex_tup, ex_lst, ex_dct, ex_bin, ex_cmp, ex_chain, ex_and, ex_or, ex_not, ex_ite, ex_ix, ex_key, ex_sl, ex_fld, ex_call, ex_callK, ex_bi, ex_isA, ex_lzip, evL, evLP, evI, nm_0, nm_s, pe_nm, pkn_v, pkn_o, pkn_n, pkn_s, pe_kI, pe_kB, pe_kN, pe_kS, pe_neg, pe_tup, pe_lst', pe_dct, pe_bin, pe_cmp, pe_ite, pe_ix', pe_key, pe_sl, pe_fld, pe_call', pe_callK, pe_bi, pe_comp, pe_lzip, pe_caught, pe_and', pe_or', pe_not', pe_isA, pe_chain', pw_t, pw_f, set_0, set_s, ow_0, ow_s, app_0, app_s, stx_0, stx_s, frz_v, frz_o, frz_s, Option.map_some, ite_t, ite_f, seq_nx, seq_rt, seqK_nx, seqK_rt, seq_ex, seq_bnd, seq_ite, bnd_ite, res_nx, res_rt, tst_bnd, tst_ret, tst_ite, and_b, or_b, not_b, tru_b, ifs_nil, ifs_and, ifs_or, ifs_not, ifs_cmp, ifs_call, ite_bool, ite_and, ite_or, ite_andT, ite_orT, oe_nil, bnd_ret, bnd_bnd, bnd_rse, bnd_stk, lft_some, le_i, lt_i, ge_i, gt_i, eq_i, ne_i, is_n, nis_n, add_i, sub_i, len_t, len_l, len_sc, zip_t, zip_l, el_t, el_l, Gn_tb, Bf.f, oe_nm, oe_bin, oe_call, oe_kI, int_i, neg_i, tuple_l, tuple_t, list_t, list_l, ft_draw, rng_n hm]) (by rw [List.length_map, List.length_range]; exact hm) fun x hx => ?_
    obtain ⟨k, hk, rfl⟩ := List.mem_map.mp hx
    have hk := List.mem_range.mp hk
    refine ⟨[.val (.int m), .val (.tup rs), .val (.int k), .no], rfl, ?_, by simp only [Oi.exec, ex_nm, ex_kI, ex_kB, ex_kN, ex_kS, ex_neg, ex_tup, ex_lst, ex_dct, ex_bin, ex_cmp, ex_chain, ex_and, ex_or, ex_not, ex_ite, ex_ix, ex_key, ex_sl, ex_fld, ex_call, ex_callK, ex_bi, ex_isA, ex_lzip, evL, evLP, evI, nm_0, nm_s, pe_nm, pkn_v, pkn_o, pkn_n, pkn_s, pe_kI, pe_kB, pe_kN, pe_kS, pe_neg, pe_tup, pe_lst', pe_dct, pe_bin, pe_cmp, pe_ite, pe_ix', pe_key, pe_sl, pe_fld, pe_call', pe_callK, pe_bi, pe_comp, pe_lzip, pe_caught, pe_and', pe_or', pe_not', pe_isA, pe_chain', pw_t, pw_f, set_0, set_s, ow_0, ow_s, app_0, app_s, stx_0, stx_s, frz_v, frz_o, frz_s, Option.map_some, ite_t, ite_f, seq_nx, seq_rt, seqK_nx, seqK_rt, seq_ex, seq_bnd, seq_ite, bnd_ite, res_nx, res_rt, tst_bnd, tst_ret, tst_ite, and_b, or_b, not_b, tru_b, ifs_nil, ifs_and, ifs_or, ifs_not, ifs_cmp, ifs_call, ite_bool, ite_and, ite_or, ite_andT, ite_orT, oe_nil, bnd_ret, bnd_bnd, bnd_rse, bnd_stk, lft_some, le_i, lt_i, ge_i, gt_i, eq_i, ne_i, is_n, nis_n, add_i, sub_i, len_t, len_l, len_sc, zip_t, zip_l, el_t, el_l, Gn_tb, Bf.f, oe_nm, oe_bin, oe_call, oe_kI, int_i, neg_i, tuple_l, tuple_t, list_t, list_l, ft_draw]; rfl⟩
    have hu := unread_comp (G := Gn W n) (ρ := [.val (.int m), .val (.tup rs), .val (.int k), .no]) hz hr hk (by simp only [Oi.exec, ex_nm, ex_kI, ex_kB, ex_kN, ex_kS, ex_neg, ex_tup, ex_lst, ex_dct, ex_bin, ex_cmp, ex_chain, ex_and, ex_or, ex_not, ex_ite, ex_ix, ex_key, ex_sl, ex_fld, ex_call, ex_callK, ex_bi, ex_isA, ex_lzip, evL, evLP, evI, nm_0, nm_s, pe_nm, pkn_v, pkn_o, pkn_n, pkn_s, pe_kI, pe_kB, pe_kN, pe_kS, pe_neg, pe_tup, pe_lst', pe_dct, pe_bin, pe_cmp, pe_ite, pe_ix', pe_key, pe_sl, pe_fld, pe_call', pe_callK, pe_bi, pe_comp, pe_lzip, pe_caught, pe_and', pe_or', pe_not', pe_isA, pe_chain', pw_t, pw_f, set_0, set_s, ow_0, ow_s, app_0, app_s, stx_0, stx_s, frz_v, frz_o, frz_s, Option.map_some, ite_t, ite_f, seq_nx, seq_rt, seqK_nx, seqK_rt, seq_ex, seq_bnd, seq_ite, bnd_ite, res_nx, res_rt, tst_bnd, tst_ret, tst_ite, and_b, or_b, not_b, tru_b, ifs_nil, ifs_and, ifs_or, ifs_not, ifs_cmp, ifs_call, ite_bool, ite_and, ite_or, ite_andT, ite_orT, oe_nil, bnd_ret, bnd_bnd, bnd_rse, bnd_stk, lft_some, le_i, lt_i, ge_i, gt_i, eq_i, ne_i, is_n, nis_n, add_i, sub_i, len_t, len_l, len_sc, zip_t, zip_l, el_t, el_l, Gn_tb, Bf.f, oe_nm, oe_bin, oe_call, oe_kI, int_i, neg_i, tuple_l, tuple_t, list_t, list_l, ft_draw]) fun xs hxs => ⟨[.val (.int m), .val (.tup rs), .val (.int k), .val (.tup xs)], rfl, rfl, rfl, rfl⟩
    simp only [Oi.exec, ex_nm, ex_kI, ex_kB, ex_kN, ex_kS, ex_neg, ex_tup, ex_lst, ex_dct, ex_bin, ex_cmp, ex_chain, ex_and, ex_or, ex_not, ex_ite, ex_ix, ex_key, ex_sl, ex_fld, ex_call, ex_callK, ex_bi, ex_isA, ex_lzip, evL, evLP, evI, nm_0, nm_s, pe_nm, pkn_v, pkn_o, pkn_n, pkn_s, pe_kI, pe_kB, pe_kN, pe_kS, pe_neg, pe_tup, pe_lst', pe_dct, pe_bin, pe_cmp, pe_ite, pe_ix', pe_key, pe_sl, pe_fld, pe_call', pe_callK, pe_bi, pe_comp, pe_lzip, pe_caught, pe_and', pe_or', pe_not', pe_isA, pe_chain', pw_t, pw_f, set_0, set_s, ow_0, ow_s, app_0, app_s, stx_0, stx_s, frz_v, frz_o, frz_s, Option.map_some, ite_t, ite_f, seq_nx, seq_rt, seqK_nx, seqK_rt, seq_ex, seq_bnd, seq_ite, bnd_ite, res_nx, res_rt, tst_bnd, tst_ret, tst_ite, and_b, or_b, not_b, tru_b, ifs_nil, ifs_and, ifs_or, ifs_not, ifs_cmp, ifs_call, ite_bool, ite_and, ite_or, ite_andT, ite_orT, oe_nil, bnd_ret, bnd_bnd, bnd_rse, bnd_stk, lft_some, le_i, lt_i, ge_i, gt_i, eq_i, ne_i, is_n, nis_n, add_i, sub_i, len_t, len_l, len_sc, zip_t, zip_l, el_t, el_l, Gn_tb, Bf.f, oe_nm, oe_bin, oe_call, oe_kI, int_i, neg_i, tuple_l, tuple_t, list_t, list_l, ft_draw, hu, cmp_nil, ones_empty, unread_not, intP, Int.toNat_natCast]
  simp only [Oi.exec, ex_nm, ex_kI, ex_kB, ex_kN, ex_kS, ex_neg, ex_tup, ex_lst, ex_dct, ex_bin, ex_cmp, ex_chain, ex_and, ex_or, ex_not, ex_ite, ex_ix, ex_key, ex_sl, ex_fld, ex_call, ex_callK, ex_bi, ex_isA, ex_lzip, evL, evLP, evI, nm_0, nm_s, pe_nm, pkn_v, pkn_o, pkn_n, pkn_s, pe_kI, pe_kB, pe_kN, pe_kS, pe_neg, pe_tup, pe_lst', pe_dct, pe_bin, pe_cmp, pe_ite, pe_ix', pe_key, pe_sl, pe_fld, pe_call', pe_callK, pe_bi, pe_comp, pe_lzip, pe_caught, pe_and', pe_or', pe_not', pe_isA, pe_chain', pw_t, pw_f, set_0, set_s, ow_0, ow_s, app_0, app_s, stx_0, stx_s, frz_v, frz_o, frz_s, Option.map_some, ite_t, ite_f, seq_nx, seq_rt, seqK_nx, seqK_rt, seq_ex, seq_bnd, seq_ite, bnd_ite, res_nx, res_rt, tst_bnd, tst_ret, tst_ite, and_b, or_b, not_b, tru_b, ifs_nil, ifs_and, ifs_or, ifs_not, ifs_cmp, ifs_call, ite_bool, ite_and, ite_or, ite_andT, ite_orT, oe_nil, bnd_ret, bnd_bnd, bnd_rse, bnd_stk, lft_some, le_i, lt_i, ge_i, gt_i, eq_i, ne_i, is_n, nis_n, add_i, sub_i, len_t, len_l, len_sc, zip_t, zip_l, el_t, el_l, Gn_tb, Bf.f, oe_nm, oe_bin, oe_call, oe_kI, int_i, neg_i, tuple_l, tuple_t, list_t, list_l, ft_draw, hc]
  rw [List.map_id, List.filter_map, List.map_map]
  have e : (intP (unreadAt rs)) ∘ (fun (k : Nat) => D.int k) = unreadAt rs := by
    funext k
    show unreadAt rs ((k : Int).toNat) = _
    rw [Int.toNat_natCast]
  rw [e]
  rfl
theorem filt_empty {m : Nat} {p : Nat → Bool} : (((List.range m).filter p).map fun (k : Nat) => (k : Int)).isEmpty = (List.range m).all fun j => !p j := by
  induction (List.range m) with
  | nil => rfl
  | cons x xs ih =>
    cases h : p x with
    | true => rw [List.filter_cons_of_pos h, List.all_cons, h]; rfl
    | false => rw [List.filter_cons_of_neg (by rw [h]; decide), List.all_cons, h, ih]; rfl
theorem cmp_nen (ns : List Int) : cmpD .ne (.lst (ns.map D.int)) (.lst []) = some (!ns.isEmpty) := ne_nil' ns
theorem law_are_rows {ki : List Int} {x : D} (hk : sz ki.length = true) (h : good x = true) : (Gn W (n + 4)).ft "_law_are_rows" [kd ki, x] = ret (.bl (rowsB ki x)) := by
  rw [cg_law_are_rows]
  unfold bg_law_are_rows
  have ht := isa_tuple h
  cases x with
  | tup rs =>
    have hc : ev (Gn W (n + 3)) (.comp (.kI 1) [2] false (.itS (.nm 1)) (.not (.call "_law_is_row" (.cons (.nm 0) (.cons (.nm 2) .nil))))) [.val (kd ki), .val (.tup rs), .no] = ret (.lst (((rs.filter fun r => !rowB ki r).map fun _ => (1 : Int)).map D.int)) := by
      refine ev_comp_ones _ (by simp only [Oi.exec, ex_nm, ex_kI, ex_kB, ex_kN, ex_kS, ex_neg, ex_tup, ex_lst, ex_dct, ex_bin, ex_cmp, ex_chain, ex_and, ex_or, ex_not, ex_ite, ex_ix, ex_key, ex_sl, ex_fld, ex_call, ex_callK, ex_bi, ex_isA, ex_lzip, evL, evLP, evI, nm_0, nm_s, pe_nm, pkn_v, pkn_o, pkn_n, pkn_s, pe_kI, pe_kB, pe_kN, pe_kS, pe_neg, pe_tup, pe_lst', pe_dct, pe_bin, pe_cmp, pe_ite, pe_ix', pe_key, pe_sl, pe_fld, pe_call', pe_callK, pe_bi, pe_comp, pe_lzip, pe_caught, pe_and', pe_or', pe_not', pe_isA, pe_chain', pw_t, pw_f, set_0, set_s, ow_0, ow_s, app_0, app_s, stx_0, stx_s, frz_v, frz_o, frz_s, Option.map_some, ite_t, ite_f, seq_nx, seq_rt, seqK_nx, seqK_rt, seq_ex, seq_bnd, seq_ite, bnd_ite, res_nx, res_rt, tst_bnd, tst_ret, tst_ite, and_b, or_b, not_b, tru_b, ifs_nil, ifs_and, ifs_or, ifs_not, ifs_cmp, ifs_call, ite_bool, ite_and, ite_or, ite_andT, ite_orT, oe_nil, bnd_ret, bnd_bnd, bnd_rse, bnd_stk, lft_some, le_i, lt_i, ge_i, gt_i, eq_i, ne_i, is_n, nis_n, add_i, sub_i, len_t, len_l, len_sc, zip_t, zip_l, el_t, el_l, Gn_tb, Bf.f, oe_nm, oe_bin, oe_call, oe_kI, int_i, neg_i, tuple_l, tuple_t, list_t, list_l, ft_draw]) (good_tup h).1 fun z hz => ⟨[.val (kd ki), .val (.tup rs), .val z], rfl, ?_⟩
      simp only [Oi.exec, ex_nm, ex_kI, ex_kB, ex_kN, ex_kS, ex_neg, ex_tup, ex_lst, ex_dct, ex_bin, ex_cmp, ex_chain, ex_and, ex_or, ex_not, ex_ite, ex_ix, ex_key, ex_sl, ex_fld, ex_call, ex_callK, ex_bi, ex_isA, ex_lzip, evL, evLP, evI, nm_0, nm_s, pe_nm, pkn_v, pkn_o, pkn_n, pkn_s, pe_kI, pe_kB, pe_kN, pe_kS, pe_neg, pe_tup, pe_lst', pe_dct, pe_bin, pe_cmp, pe_ite, pe_ix', pe_key, pe_sl, pe_fld, pe_call', pe_callK, pe_bi, pe_comp, pe_lzip, pe_caught, pe_and', pe_or', pe_not', pe_isA, pe_chain', pw_t, pw_f, set_0, set_s, ow_0, ow_s, app_0, app_s, stx_0, stx_s, frz_v, frz_o, frz_s, Option.map_some, ite_t, ite_f, seq_nx, seq_rt, seqK_nx, seqK_rt, seq_ex, seq_bnd, seq_ite, bnd_ite, res_nx, res_rt, tst_bnd, tst_ret, tst_ite, and_b, or_b, not_b, tru_b, ifs_nil, ifs_and, ifs_or, ifs_not, ifs_cmp, ifs_call, ite_bool, ite_and, ite_or, ite_andT, ite_orT, oe_nil, bnd_ret, bnd_bnd, bnd_rse, bnd_stk, lft_some, le_i, lt_i, ge_i, gt_i, eq_i, ne_i, is_n, nis_n, add_i, sub_i, len_t, len_l, len_sc, zip_t, zip_l, el_t, el_l, Gn_tb, Bf.f, oe_nm, oe_bin, oe_call, oe_kI, int_i, neg_i, tuple_l, tuple_t, list_t, list_l, ft_draw, law_is_row hk ((good_tup h).2 z hz)]
    simp only [Oi.exec, ex_nm, ex_kI, ex_kB, ex_kN, ex_kS, ex_neg, ex_tup, ex_lst, ex_dct, ex_bin, ex_cmp, ex_chain, ex_and, ex_or, ex_not, ex_ite, ex_ix, ex_key, ex_sl, ex_fld, ex_call, ex_callK, ex_bi, ex_isA, ex_lzip, evL, evLP, evI, nm_0, nm_s, pe_nm, pkn_v, pkn_o, pkn_n, pkn_s, pe_kI, pe_kB, pe_kN, pe_kS, pe_neg, pe_tup, pe_lst', pe_dct, pe_bin, pe_cmp, pe_ite, pe_ix', pe_key, pe_sl, pe_fld, pe_call', pe_callK, pe_bi, pe_comp, pe_lzip, pe_caught, pe_and', pe_or', pe_not', pe_isA, pe_chain', pw_t, pw_f, set_0, set_s, ow_0, ow_s, app_0, app_s, stx_0, stx_s, frz_v, frz_o, frz_s, Option.map_some, ite_t, ite_f, seq_nx, seq_rt, seqK_nx, seqK_rt, seq_ex, seq_bnd, seq_ite, bnd_ite, res_nx, res_rt, tst_bnd, tst_ret, tst_ite, and_b, or_b, not_b, tru_b, ifs_nil, ifs_and, ifs_or, ifs_not, ifs_cmp, ifs_call, ite_bool, ite_and, ite_or, ite_andT, ite_orT, oe_nil, bnd_ret, bnd_bnd, bnd_rse, bnd_stk, lft_some, le_i, lt_i, ge_i, gt_i, eq_i, ne_i, is_n, nis_n, add_i, sub_i, len_t, len_l, len_sc, zip_t, zip_l, el_t, el_l, Gn_tb, Bf.f, oe_nm, oe_bin, oe_call, oe_kI, int_i, neg_i, tuple_l, tuple_t, list_t, list_l, ft_draw, ht, isTp, hc, Bool.not_true, cast1, cast12, cmp_nen, ones_empty, Bool.not_not, len_kd]
    rw [rowsB_tup]
    cases hA : rs.all (rowB ki) with
    | false =>
      cases decide (1 ≤ rs.length) <;> cases decide (rs.length ≤ 12) <;> rfl
    | true =>
      rw [law_first_unread hk (good_tup h).1 (rect_of hA)]
      simp only [Oi.exec, ex_nm, ex_kI, ex_kB, ex_kN, ex_kS, ex_neg, ex_tup, ex_lst, ex_dct, ex_bin, ex_cmp, ex_chain, ex_and, ex_or, ex_not, ex_ite, ex_ix, ex_key, ex_sl, ex_fld, ex_call, ex_callK, ex_bi, ex_isA, ex_lzip, evL, evLP, evI, nm_0, nm_s, pe_nm, pkn_v, pkn_o, pkn_n, pkn_s, pe_kI, pe_kB, pe_kN, pe_kS, pe_neg, pe_tup, pe_lst', pe_dct, pe_bin, pe_cmp, pe_ite, pe_ix', pe_key, pe_sl, pe_fld, pe_call', pe_callK, pe_bi, pe_comp, pe_lzip, pe_caught, pe_and', pe_or', pe_not', pe_isA, pe_chain', pw_t, pw_f, set_0, set_s, ow_0, ow_s, app_0, app_s, stx_0, stx_s, frz_v, frz_o, frz_s, Option.map_some, ite_t, ite_f, seq_nx, seq_rt, seqK_nx, seqK_rt, seq_ex, seq_bnd, seq_ite, bnd_ite, res_nx, res_rt, tst_bnd, tst_ret, tst_ite, and_b, or_b, not_b, tru_b, ifs_nil, ifs_and, ifs_or, ifs_not, ifs_cmp, ifs_call, ite_bool, ite_and, ite_or, ite_andT, ite_orT, oe_nil, bnd_ret, bnd_bnd, bnd_rse, bnd_stk, lft_some, le_i, lt_i, ge_i, gt_i, eq_i, ne_i, is_n, nis_n, add_i, sub_i, len_t, len_l, len_sc, zip_t, zip_l, el_t, el_l, Gn_tb, Bf.f, oe_nm, oe_bin, oe_call, oe_kI, int_i, neg_i, tuple_l, tuple_t, list_t, list_l, ft_draw, cmp_nil, filt_empty]
      exact bool4 _ _ true _
  | _ => simp only [Oi.exec, ex_nm, ex_kI, ex_kB, ex_kN, ex_kS, ex_neg, ex_tup, ex_lst, ex_dct, ex_bin, ex_cmp, ex_chain, ex_and, ex_or, ex_not, ex_ite, ex_ix, ex_key, ex_sl, ex_fld, ex_call, ex_callK, ex_bi, ex_isA, ex_lzip, evL, evLP, evI, nm_0, nm_s, pe_nm, pkn_v, pkn_o, pkn_n, pkn_s, pe_kI, pe_kB, pe_kN, pe_kS, pe_neg, pe_tup, pe_lst', pe_dct, pe_bin, pe_cmp, pe_ite, pe_ix', pe_key, pe_sl, pe_fld, pe_call', pe_callK, pe_bi, pe_comp, pe_lzip, pe_caught, pe_and', pe_or', pe_not', pe_isA, pe_chain', pw_t, pw_f, set_0, set_s, ow_0, ow_s, app_0, app_s, stx_0, stx_s, frz_v, frz_o, frz_s, Option.map_some, ite_t, ite_f, seq_nx, seq_rt, seqK_nx, seqK_rt, seq_ex, seq_bnd, seq_ite, bnd_ite, res_nx, res_rt, tst_bnd, tst_ret, tst_ite, and_b, or_b, not_b, tru_b, ifs_nil, ifs_and, ifs_or, ifs_not, ifs_cmp, ifs_call, ite_bool, ite_and, ite_or, ite_andT, ite_orT, oe_nil, bnd_ret, bnd_bnd, bnd_rse, bnd_stk, lft_some, le_i, lt_i, ge_i, gt_i, eq_i, ne_i, is_n, nis_n, add_i, sub_i, len_t, len_l, len_sc, zip_t, zip_l, el_t, el_l, Gn_tb, Bf.f, oe_nm, oe_bin, oe_call, oe_kI, int_i, neg_i, tuple_l, tuple_t, list_t, list_l, ft_draw, ht, isTp, Bool.not_false] <;> rfl
/-! ### is_row, of a table or not -/
theorem ex_ex {G : Gm} {ρ : Rho} {e : I} : Oi.exec G (.ex e) ρ = bnd (ev G e ρ) fun _ => ret (.nx, ρ) := by rw [Oi.exec]
theorem need_table {x : D} (h : good x = true) : (Gn W (n + 1)).ft "need_table" [x] = iteM (isTb x) (ret .non) (rse "BadTable" []) := by
  rw [cf_need_table]
  unfold bf_need_table
  simp only [Oi.exec, ex_nm, ex_kI, ex_kB, ex_kN, ex_kS, ex_neg, ex_tup, ex_lst, ex_dct, ex_bin, ex_cmp, ex_chain, ex_and, ex_or, ex_not, ex_ite, ex_ix, ex_key, ex_sl, ex_fld, ex_call, ex_callK, ex_bi, ex_isA, ex_lzip, evL, evLP, evI, nm_0, nm_s, pe_nm, pkn_v, pkn_o, pkn_n, pkn_s, pe_kI, pe_kB, pe_kN, pe_kS, pe_neg, pe_tup, pe_lst', pe_dct, pe_bin, pe_cmp, pe_ite, pe_ix', pe_key, pe_sl, pe_fld, pe_call', pe_callK, pe_bi, pe_comp, pe_lzip, pe_caught, pe_and', pe_or', pe_not', pe_isA, pe_chain', pw_t, pw_f, set_0, set_s, ow_0, ow_s, app_0, app_s, stx_0, stx_s, frz_v, frz_o, frz_s, Option.map_some, ite_t, ite_f, seq_nx, seq_rt, seqK_nx, seqK_rt, seq_ex, seq_bnd, seq_ite, bnd_ite, res_nx, res_rt, tst_bnd, tst_ret, tst_ite, and_b, or_b, not_b, tru_b, ifs_nil, ifs_and, ifs_or, ifs_not, ifs_cmp, ifs_call, ite_bool, ite_and, ite_or, ite_andT, ite_orT, oe_nil, bnd_ret, bnd_bnd, bnd_rse, bnd_stk, lft_some, le_i, lt_i, ge_i, gt_i, eq_i, ne_i, is_n, nis_n, add_i, sub_i, len_t, len_l, len_sc, zip_t, zip_l, el_t, el_l, Gn_tb, Bf.f, oe_nm, oe_bin, oe_call, oe_kI, int_i, neg_i, tuple_l, tuple_t, list_t, list_l, ft_draw, isa_table h]
  cases isTb x <;> rfl
theorem fld_k {k r : D} : fldD tb (tbl k r) "kinds" = some k := rfl
theorem fld_r {k r : D} : fldD tb (tbl k r) "rows" = some r := rfl
theorem good_tbl {k r : D} : good (tbl k r) = true := by
  unfold tbl
  rw [good]
  rfl
theorem is_row {ki : List Int} {r x : D} (hk : sz ki.length = true) (h : good x = true) : (Gn W (n + 4)).ft "is_row" [tbl (kd ki) r, x] = ret (.bl (rowB ki x)) := by
  rw [cf_is_row]
  unfold bf_is_row
  simp only [Oi.exec, ex_nm, ex_kI, ex_kB, ex_kN, ex_kS, ex_neg, ex_tup, ex_lst, ex_dct, ex_bin, ex_cmp, ex_chain, ex_and, ex_or, ex_not, ex_ite, ex_ix, ex_key, ex_sl, ex_fld, ex_call, ex_callK, ex_bi, ex_isA, ex_lzip, evL, evLP, evI, nm_0, nm_s, pe_nm, pkn_v, pkn_o, pkn_n, pkn_s, pe_kI, pe_kB, pe_kN, pe_kS, pe_neg, pe_tup, pe_lst', pe_dct, pe_bin, pe_cmp, pe_ite, pe_ix', pe_key, pe_sl, pe_fld, pe_call', pe_callK, pe_bi, pe_comp, pe_lzip, pe_caught, pe_and', pe_or', pe_not', pe_isA, pe_chain', pw_t, pw_f, set_0, set_s, ow_0, ow_s, app_0, app_s, stx_0, stx_s, frz_v, frz_o, frz_s, Option.map_some, ite_t, ite_f, seq_nx, seq_rt, seqK_nx, seqK_rt, seq_ex, seq_bnd, seq_ite, bnd_ite, res_nx, res_rt, tst_bnd, tst_ret, tst_ite, and_b, or_b, not_b, tru_b, ifs_nil, ifs_and, ifs_or, ifs_not, ifs_cmp, ifs_call, ite_bool, ite_and, ite_or, ite_andT, ite_orT, oe_nil, bnd_ret, bnd_bnd, bnd_rse, bnd_stk, lft_some, le_i, lt_i, ge_i, gt_i, eq_i, ne_i, is_n, nis_n, add_i, sub_i, len_t, len_l, len_sc, zip_t, zip_l, el_t, el_l, Gn_tb, Bf.f, oe_nm, oe_bin, oe_call, oe_kI, int_i, neg_i, tuple_l, tuple_t, list_t, list_l, ft_draw, need_table good_tbl, fld_k, is_row_of hk h, show isTb (tbl (kd ki) r) = true from rfl]
theorem is_row_bad {t x : D} (h : good t = true) (ht : isTb t = false) : (Gn W (n + 4)).ft "is_row" [t, x] = rse "BadTable" [] := by
  rw [cf_is_row]
  unfold bf_is_row
  simp only [Oi.exec, ex_nm, ex_kI, ex_kB, ex_kN, ex_kS, ex_neg, ex_tup, ex_lst, ex_dct, ex_bin, ex_cmp, ex_chain, ex_and, ex_or, ex_not, ex_ite, ex_ix, ex_key, ex_sl, ex_fld, ex_call, ex_callK, ex_bi, ex_isA, ex_lzip, evL, evLP, evI, nm_0, nm_s, pe_nm, pkn_v, pkn_o, pkn_n, pkn_s, pe_kI, pe_kB, pe_kN, pe_kS, pe_neg, pe_tup, pe_lst', pe_dct, pe_bin, pe_cmp, pe_ite, pe_ix', pe_key, pe_sl, pe_fld, pe_call', pe_callK, pe_bi, pe_comp, pe_lzip, pe_caught, pe_and', pe_or', pe_not', pe_isA, pe_chain', pw_t, pw_f, set_0, set_s, ow_0, ow_s, app_0, app_s, stx_0, stx_s, frz_v, frz_o, frz_s, Option.map_some, ite_t, ite_f, seq_nx, seq_rt, seqK_nx, seqK_rt, seq_ex, seq_bnd, seq_ite, bnd_ite, res_nx, res_rt, tst_bnd, tst_ret, tst_ite, and_b, or_b, not_b, tru_b, ifs_nil, ifs_and, ifs_or, ifs_not, ifs_cmp, ifs_call, ite_bool, ite_and, ite_or, ite_andT, ite_orT, oe_nil, bnd_ret, bnd_bnd, bnd_rse, bnd_stk, lft_some, le_i, lt_i, ge_i, gt_i, eq_i, ne_i, is_n, nis_n, add_i, sub_i, len_t, len_l, len_sc, zip_t, zip_l, el_t, el_l, Gn_tb, Bf.f, oe_nm, oe_bin, oe_call, oe_kI, int_i, neg_i, tuple_l, tuple_t, list_t, list_l, ft_draw, need_table h, ht]
end K00

/-! k00, plain: texts of tables; what is built. -/
namespace K00
open PySem Oi
variable {W : Wd} {n : Nat}
def sc (k r : D) : D := .dct [(.str (Str.ofString "kinds"), k), (.str (Str.ofString "rows"), r)]
theorem key_k {k r : D} : keyD (sc k r) "kinds" = some k := by
  show (if Str.ofString "kinds" = Str.ofString "kinds" then some k else if Str.ofString "rows" = Str.ofString "kinds" then some r else none) = some k
  exact if_pos rfl
theorem key_r {k r : D} : keyD (sc k r) "rows" = some r := by
  show (if Str.ofString "kinds" = Str.ofString "rows" then some k else if Str.ofString "rows" = Str.ofString "rows" then some r else none) = some r
  rw [if_neg (show ¬ Str.ofString "kinds" = Str.ofString "rows" by decide +kernel)]
  exact if_pos rfl
theorem dct_sc {k r : D} : dctD [.s "kinds", .s "rows"] [k, r] = some (sc k r) := if_pos ⟨rfl, by decide, by decide⟩
theorem mem_zip {ki : List Int} {xs : List D} (hl : xs.length = ki.length) {x : D} (hx : x ∈ xs) : ∃ k ∈ ki, (k, x) ∈ ki.zip xs := by
  induction xs generalizing ki with
  | nil => cases hx
  | cons y ys ih =>
    cases ki with
    | nil => cases hl
    | cons k ki =>
      rcases List.mem_cons.mp hx with z | z
      · exact ⟨k, List.mem_cons_self, by rw [z, List.zip_cons_cons]; exact List.mem_cons_self⟩
      · obtain ⟨k', h1, h2⟩ := ih (ki := ki) (by simpa using hl) z
        exact ⟨k', List.mem_cons_of_mem _ h1, by rw [List.zip_cons_cons]; exact List.mem_cons_of_mem _ h2⟩
theorem cell_fit {k : Int} {x : D} (h : cellB k x = true) (hk : k ≤ 6) : ∃ p, Fit x p 4 1 := by
  cases x with
  | non => exact fit_non
  | int i =>
    have h : (false || (decide (0 ≤ i) && decide (i ≤ k - 1))) = true := h
    rw [Bool.false_or, Bool.and_eq_true, decide_eq_true_eq, decide_eq_true_eq] at h
    exact fit_int h.1 (by omega)
  | _ => cases h
theorem fit_up {d : D} {p : PyData} {B B' k k' : Nat} (f : Fit d p B k) (hB : B ≤ B') (hk : k ≤ k') : Fit d p B' k' := ⟨f.py, f.lay, Nat.le_trans f.dep hk, f.shw, f.ok, Nat.le_trans f.len hB⟩
theorem fit_row {ki : List Int} {x : D} (hl : ki.length ≤ 8) (h6 : ∀ k ∈ ki, 1 ≤ k ∧ k ≤ 6) (h : rowB ki x = true) : ∃ p, Fit x p 100 2 := by
  obtain ⟨xs, rfl, e, hc⟩ := rowB_tup h
  obtain ⟨p, hp⟩ := fit_tup (B := 4) (k := 1) (ds := xs) fun y hy => by
    obtain ⟨k, hk, hz⟩ := mem_zip e hy
    exact cell_fit (hc _ hz) (h6 k hk).2
  exact ⟨p, fit_up hp (by omega) (Nat.le_refl _)⟩
theorem repr_pair {ki : List Int} {r : D} (h1 : ki.length ≤ 8) (h6 : ∀ k ∈ ki, 1 ≤ k ∧ k ≤ 6) (hr : rowsB ki r = true) : ∃ s, reprD (.tup [kd ki, r]) = some s ∧ PyData.strOk s = true := by
  obtain ⟨p1, f1⟩ := fit_tup (B := 4) (k := 1) (ds := ki.map D.int) fun y hy => by
    obtain ⟨k, hk, rfl⟩ := List.mem_map.mp hy
    obtain ⟨a, b⟩ := h6 k hk
    exact fit_int (by omega) b
  rw [List.length_map] at f1
  cases r with
  | tup rs =>
    rw [rowsB_tup, Bool.and_eq_true, Bool.and_eq_true, Bool.and_eq_true, decide_eq_true_eq, decide_eq_true_eq, List.all_eq_true] at hr
    obtain ⟨⟨⟨_, h2⟩, h3⟩, _⟩ := hr
    obtain ⟨p2, f2⟩ := fit_tup (B := 100) (k := 2) (ds := rs) fun y hy => fit_row h1 h6 (h3 y hy)
    obtain ⟨p, f⟩ := fit_tup (B := 10000) (k := 3) (ds := [kd ki, .tup rs]) fun y hy => by
      rcases List.mem_cons.mp hy with z | z
      · rw [z]; exact ⟨p1, fit_up f1 (by omega) (by omega)⟩
      · rcases List.mem_cons.mp z with z | z
        · rw [z]; exact ⟨p2, fit_up f2 (by omega) (by omega)⟩
        · cases z
    exact ⟨_, repr_of f (show 2 * (10000 + 2) + 4 ≤ 10000000 by decide) (by decide), f.ok⟩
  | _ => cases hr
theorem rpr {x : D} {s : Str} (h : reprD x = some s) : reprLD [x] = some (.str s) := by
  show (reprD x).map D.str = _
  rw [h]
  rfl
theorem law_same {ki : List Int} {r : D} (h1 : ki.length ≤ 8) (h6 : ∀ k ∈ ki, 1 ≤ k ∧ k ≤ 6) (hr : rowsB ki r = true) : (Gn W (n + 1)).ft "_law_same" [tbl (kd ki) r, sc (kd ki) r] = ret (.bl true) := by
  obtain ⟨s, e1, e2⟩ := repr_pair h1 h6 hr
  rw [cg_law_same]
  unfold bg_law_same
  simp only [Oi.exec, ex_nm, ex_kI, ex_kB, ex_kN, ex_kS, ex_neg, ex_tup, ex_lst, ex_dct, ex_bin, ex_cmp, ex_chain, ex_and, ex_or, ex_not, ex_ite, ex_ix, ex_key, ex_sl, ex_fld, ex_call, ex_callK, ex_bi, ex_isA, ex_lzip, evL, evLP, evI, nm_0, nm_s, pe_nm, pkn_v, pkn_o, pkn_n, pkn_s, pe_kI, pe_kB, pe_kN, pe_kS, pe_neg, pe_tup, pe_lst', pe_dct, pe_bin, pe_cmp, pe_ite, pe_ix', pe_key, pe_sl, pe_fld, pe_call', pe_callK, pe_bi, pe_comp, pe_lzip, pe_caught, pe_and', pe_or', pe_not', pe_isA, pe_chain', pw_t, pw_f, set_0, set_s, ow_0, ow_s, app_0, app_s, stx_0, stx_s, frz_v, frz_o, frz_s, Option.map_some, ite_t, ite_f, seq_nx, seq_rt, seqK_nx, seqK_rt, seq_ex, seq_bnd, seq_ite, bnd_ite, res_nx, res_rt, tst_bnd, tst_ret, tst_ite, and_b, or_b, not_b, tru_b, ifs_nil, ifs_and, ifs_or, ifs_not, ifs_cmp, ifs_call, ite_bool, ite_and, ite_or, ite_andT, ite_orT, oe_nil, bnd_ret, bnd_bnd, bnd_rse, bnd_stk, lft_some, le_i, lt_i, ge_i, gt_i, eq_i, ne_i, is_n, nis_n, add_i, sub_i, len_t, len_l, len_sc, zip_t, zip_l, el_t, el_l, Gn_tb, Bf.f, oe_nm, oe_bin, oe_call, oe_kI, int_i, neg_i, tuple_l, tuple_t, list_t, list_l, ft_draw, isa_table good_tbl, fld_k, fld_r, key_k, key_r, rpr e1, eq_str e2]
  rfl
/-! ### what is caught -/
theorem cat_ret {G : Gm} {d : D} : cat G (ret d) = ret .non := rfl
theorem cat_rse {G : Gm} {c : String} (h : G.fe.contains c = true) : cat G (rse c []) = ret (.exc c []) := by
  funext S
  show (if (G.fe.contains c && [].isEmpty) = true then some (Rs.ok (D.exc c []), S) else none) = _
  rw [h]
  rfl
theorem Gn_fe : (Gn W n).fe = tb.fe := congrArg Tb.fe Gn_tb'
  where Gn_tb' : (Gn W n).toTb = tb := Gn_tb W n
theorem law_built {k r : D} (hk : good k = true) (hr : good r = true) : (Gn W (n + 6)).ft "_law_built" [k, r] = ret (.bl true) := by
  rw [cg_law_built]
  unfold bg_law_built
  have ht := table (W := W) (n := n) hk hr
  cases hb : kindsB k with
  | false =>
    rw [hb] at ht
    have hc : ev (Gn W (n + 5)) (.caught (.call "Table" (.cons (.nm 0) (.cons (.nm 1) .nil)))) [.val k, .val r, .no] = ret (.exc "BadKinds" []) := by
      rw [ex_caught]
      simp only [Oi.exec, ex_nm, ex_kI, ex_kB, ex_kN, ex_kS, ex_neg, ex_tup, ex_lst, ex_dct, ex_bin, ex_cmp, ex_chain, ex_and, ex_or, ex_not, ex_ite, ex_ix, ex_key, ex_sl, ex_fld, ex_call, ex_callK, ex_bi, ex_isA, ex_lzip, evL, evLP, evI, nm_0, nm_s, pe_nm, pkn_v, pkn_o, pkn_n, pkn_s, pe_kI, pe_kB, pe_kN, pe_kS, pe_neg, pe_tup, pe_lst', pe_dct, pe_bin, pe_cmp, pe_ite, pe_ix', pe_key, pe_sl, pe_fld, pe_call', pe_callK, pe_bi, pe_comp, pe_lzip, pe_caught, pe_and', pe_or', pe_not', pe_isA, pe_chain', pw_t, pw_f, set_0, set_s, ow_0, ow_s, app_0, app_s, stx_0, stx_s, frz_v, frz_o, frz_s, Option.map_some, ite_t, ite_f, seq_nx, seq_rt, seqK_nx, seqK_rt, seq_ex, seq_bnd, seq_ite, bnd_ite, res_nx, res_rt, tst_bnd, tst_ret, tst_ite, and_b, or_b, not_b, tru_b, ifs_nil, ifs_and, ifs_or, ifs_not, ifs_cmp, ifs_call, ite_bool, ite_and, ite_or, ite_andT, ite_orT, oe_nil, bnd_ret, bnd_bnd, bnd_rse, bnd_stk, lft_some, le_i, lt_i, ge_i, gt_i, eq_i, ne_i, is_n, nis_n, add_i, sub_i, len_t, len_l, len_sc, zip_t, zip_l, el_t, el_l, Gn_tb, Bf.f, oe_nm, oe_bin, oe_call, oe_kI, int_i, neg_i, tuple_l, tuple_t, list_t, list_l, ft_draw, ht]
      exact cat_rse (by rw [Gn_fe]; decide)
    simp only [Oi.exec, ex_nm, ex_kI, ex_kB, ex_kN, ex_kS, ex_neg, ex_tup, ex_lst, ex_dct, ex_bin, ex_cmp, ex_chain, ex_and, ex_or, ex_not, ex_ite, ex_ix, ex_key, ex_sl, ex_fld, ex_call, ex_callK, ex_bi, ex_isA, ex_lzip, evL, evLP, evI, nm_0, nm_s, pe_nm, pkn_v, pkn_o, pkn_n, pkn_s, pe_kI, pe_kB, pe_kN, pe_kS, pe_neg, pe_tup, pe_lst', pe_dct, pe_bin, pe_cmp, pe_ite, pe_ix', pe_key, pe_sl, pe_fld, pe_call', pe_callK, pe_bi, pe_comp, pe_lzip, pe_caught, pe_and', pe_or', pe_not', pe_isA, pe_chain', pw_t, pw_f, set_0, set_s, ow_0, ow_s, app_0, app_s, stx_0, stx_s, frz_v, frz_o, frz_s, Option.map_some, ite_t, ite_f, seq_nx, seq_rt, seqK_nx, seqK_rt, seq_ex, seq_bnd, seq_ite, bnd_ite, res_nx, res_rt, tst_bnd, tst_ret, tst_ite, and_b, or_b, not_b, tru_b, ifs_nil, ifs_and, ifs_or, ifs_not, ifs_cmp, ifs_call, ite_bool, ite_and, ite_or, ite_andT, ite_orT, oe_nil, bnd_ret, bnd_bnd, bnd_rse, bnd_stk, lft_some, le_i, lt_i, ge_i, gt_i, eq_i, ne_i, is_n, nis_n, add_i, sub_i, len_t, len_l, len_sc, zip_t, zip_l, el_t, el_l, Gn_tb, Bf.f, oe_nm, oe_bin, oe_call, oe_kI, int_i, neg_i, tuple_l, tuple_t, list_t, list_l, ft_draw, hc, law_are_kinds hk, hb, Bool.not_false, show isD tb (.exc "BadKinds" []) "BadKinds" = some true from rfl, show isD tb (.exc "BadKinds" []) "ValueError" = some true from rfl]
  | true =>
    obtain ⟨ki, rfl, h1, h2, h6⟩ := kinds_of hb
    have sk : sz ki.length = true := sz_of (by omega)
    rw [hb, rowsOf_kd] at ht
    cases hR : rowsB ki r with
    | false =>
      rw [hR] at ht
      have hc : ev (Gn W (n + 5)) (.caught (.call "Table" (.cons (.nm 0) (.cons (.nm 1) .nil)))) [.val (kd ki), .val r, .no] = ret (.exc "BadRows" []) := by
        rw [ex_caught]
        simp only [Oi.exec, ex_nm, ex_kI, ex_kB, ex_kN, ex_kS, ex_neg, ex_tup, ex_lst, ex_dct, ex_bin, ex_cmp, ex_chain, ex_and, ex_or, ex_not, ex_ite, ex_ix, ex_key, ex_sl, ex_fld, ex_call, ex_callK, ex_bi, ex_isA, ex_lzip, evL, evLP, evI, nm_0, nm_s, pe_nm, pkn_v, pkn_o, pkn_n, pkn_s, pe_kI, pe_kB, pe_kN, pe_kS, pe_neg, pe_tup, pe_lst', pe_dct, pe_bin, pe_cmp, pe_ite, pe_ix', pe_key, pe_sl, pe_fld, pe_call', pe_callK, pe_bi, pe_comp, pe_lzip, pe_caught, pe_and', pe_or', pe_not', pe_isA, pe_chain', pw_t, pw_f, set_0, set_s, ow_0, ow_s, app_0, app_s, stx_0, stx_s, frz_v, frz_o, frz_s, Option.map_some, ite_t, ite_f, seq_nx, seq_rt, seqK_nx, seqK_rt, seq_ex, seq_bnd, seq_ite, bnd_ite, res_nx, res_rt, tst_bnd, tst_ret, tst_ite, and_b, or_b, not_b, tru_b, ifs_nil, ifs_and, ifs_or, ifs_not, ifs_cmp, ifs_call, ite_bool, ite_and, ite_or, ite_andT, ite_orT, oe_nil, bnd_ret, bnd_bnd, bnd_rse, bnd_stk, lft_some, le_i, lt_i, ge_i, gt_i, eq_i, ne_i, is_n, nis_n, add_i, sub_i, len_t, len_l, len_sc, zip_t, zip_l, el_t, el_l, Gn_tb, Bf.f, oe_nm, oe_bin, oe_call, oe_kI, int_i, neg_i, tuple_l, tuple_t, list_t, list_l, ft_draw, ht]
        exact cat_rse (by rw [Gn_fe]; decide)
      simp only [Oi.exec, ex_nm, ex_kI, ex_kB, ex_kN, ex_kS, ex_neg, ex_tup, ex_lst, ex_dct, ex_bin, ex_cmp, ex_chain, ex_and, ex_or, ex_not, ex_ite, ex_ix, ex_key, ex_sl, ex_fld, ex_call, ex_callK, ex_bi, ex_isA, ex_lzip, evL, evLP, evI, nm_0, nm_s, pe_nm, pkn_v, pkn_o, pkn_n, pkn_s, pe_kI, pe_kB, pe_kN, pe_kS, pe_neg, pe_tup, pe_lst', pe_dct, pe_bin, pe_cmp, pe_ite, pe_ix', pe_key, pe_sl, pe_fld, pe_call', pe_callK, pe_bi, pe_comp, pe_lzip, pe_caught, pe_and', pe_or', pe_not', pe_isA, pe_chain', pw_t, pw_f, set_0, set_s, ow_0, ow_s, app_0, app_s, stx_0, stx_s, frz_v, frz_o, frz_s, Option.map_some, ite_t, ite_f, seq_nx, seq_rt, seqK_nx, seqK_rt, seq_ex, seq_bnd, seq_ite, bnd_ite, res_nx, res_rt, tst_bnd, tst_ret, tst_ite, and_b, or_b, not_b, tru_b, ifs_nil, ifs_and, ifs_or, ifs_not, ifs_cmp, ifs_call, ite_bool, ite_and, ite_or, ite_andT, ite_orT, oe_nil, bnd_ret, bnd_bnd, bnd_rse, bnd_stk, lft_some, le_i, lt_i, ge_i, gt_i, eq_i, ne_i, is_n, nis_n, add_i, sub_i, len_t, len_l, len_sc, zip_t, zip_l, el_t, el_l, Gn_tb, Bf.f, oe_nm, oe_bin, oe_call, oe_kI, int_i, neg_i, tuple_l, tuple_t, list_t, list_l, ft_draw, hc, law_are_kinds hk, hb, law_are_rows sk hr, hR, Bool.not_false, Bool.not_true, show isD tb (.exc "BadRows" []) "BadRows" = some true from rfl, show isD tb (.exc "BadRows" []) "ValueError" = some true from rfl]
    | true =>
      rw [hR] at ht
      have hc : ev (Gn W (n + 5)) (.caught (.call "Table" (.cons (.nm 0) (.cons (.nm 1) .nil)))) [.val (kd ki), .val r, .no] = ret .non := by
        rw [ex_caught]
        simp only [Oi.exec, ex_nm, ex_kI, ex_kB, ex_kN, ex_kS, ex_neg, ex_tup, ex_lst, ex_dct, ex_bin, ex_cmp, ex_chain, ex_and, ex_or, ex_not, ex_ite, ex_ix, ex_key, ex_sl, ex_fld, ex_call, ex_callK, ex_bi, ex_isA, ex_lzip, evL, evLP, evI, nm_0, nm_s, pe_nm, pkn_v, pkn_o, pkn_n, pkn_s, pe_kI, pe_kB, pe_kN, pe_kS, pe_neg, pe_tup, pe_lst', pe_dct, pe_bin, pe_cmp, pe_ite, pe_ix', pe_key, pe_sl, pe_fld, pe_call', pe_callK, pe_bi, pe_comp, pe_lzip, pe_caught, pe_and', pe_or', pe_not', pe_isA, pe_chain', pw_t, pw_f, set_0, set_s, ow_0, ow_s, app_0, app_s, stx_0, stx_s, frz_v, frz_o, frz_s, Option.map_some, ite_t, ite_f, seq_nx, seq_rt, seqK_nx, seqK_rt, seq_ex, seq_bnd, seq_ite, bnd_ite, res_nx, res_rt, tst_bnd, tst_ret, tst_ite, and_b, or_b, not_b, tru_b, ifs_nil, ifs_and, ifs_or, ifs_not, ifs_cmp, ifs_call, ite_bool, ite_and, ite_or, ite_andT, ite_orT, oe_nil, bnd_ret, bnd_bnd, bnd_rse, bnd_stk, lft_some, le_i, lt_i, ge_i, gt_i, eq_i, ne_i, is_n, nis_n, add_i, sub_i, len_t, len_l, len_sc, zip_t, zip_l, el_t, el_l, Gn_tb, Bf.f, oe_nm, oe_bin, oe_call, oe_kI, int_i, neg_i, tuple_l, tuple_t, list_t, list_l, ft_draw, ht]
        exact cat_ret
      simp only [Oi.exec, ex_nm, ex_kI, ex_kB, ex_kN, ex_kS, ex_neg, ex_tup, ex_lst, ex_dct, ex_bin, ex_cmp, ex_chain, ex_and, ex_or, ex_not, ex_ite, ex_ix, ex_key, ex_sl, ex_fld, ex_call, ex_callK, ex_bi, ex_isA, ex_lzip, evL, evLP, evI, nm_0, nm_s, pe_nm, pkn_v, pkn_o, pkn_n, pkn_s, pe_kI, pe_kB, pe_kN, pe_kS, pe_neg, pe_tup, pe_lst', pe_dct, pe_bin, pe_cmp, pe_ite, pe_ix', pe_key, pe_sl, pe_fld, pe_call', pe_callK, pe_bi, pe_comp, pe_lzip, pe_caught, pe_and', pe_or', pe_not', pe_isA, pe_chain', pw_t, pw_f, set_0, set_s, ow_0, ow_s, app_0, app_s, stx_0, stx_s, frz_v, frz_o, frz_s, Option.map_some, ite_t, ite_f, seq_nx, seq_rt, seqK_nx, seqK_rt, seq_ex, seq_bnd, seq_ite, bnd_ite, res_nx, res_rt, tst_bnd, tst_ret, tst_ite, and_b, or_b, not_b, tru_b, ifs_nil, ifs_and, ifs_or, ifs_not, ifs_cmp, ifs_call, ite_bool, ite_and, ite_or, ite_andT, ite_orT, oe_nil, bnd_ret, bnd_bnd, bnd_rse, bnd_stk, lft_some, le_i, lt_i, ge_i, gt_i, eq_i, ne_i, is_n, nis_n, add_i, sub_i, len_t, len_l, len_sc, zip_t, zip_l, el_t, el_l, Gn_tb, Bf.f, oe_nm, oe_bin, oe_call, oe_kI, int_i, neg_i, tuple_l, tuple_t, list_t, list_l, ft_draw, hc, law_are_kinds hk, hb, law_are_rows sk hr, hR, Bool.not_true, D.isNon, List.nil_append, perm, List.getElem?_cons_zero, List.getElem?_cons_succ, ht, dct_sc, law_same h2 h6 hR]
end K00

/-! k00, plain: what is drawn. -/
namespace K00
open PySem Oi
variable {W : Wd} {n : Nat}
theorem mem_get {xs : List D} {v : Int} (h : v.toNat < xs.length) : xs[v.toNat] ∈ xs := List.getElem_mem h
theorem law_pick {xs : List D} (h0 : 0 < xs.length) (h1 : xs.length ≤ 1000) : Ok 1 ((Gn W (n + 2)).ft "_law_pick" [.st, .lst xs]) (fun d => d ∈ xs) := by
  rw [cg_law_pick]
  unfold bg_law_pick
  simp only [Oi.exec, ex_nm, ex_kI, ex_kB, ex_kN, ex_kS, ex_neg, ex_tup, ex_lst, ex_dct, ex_bin, ex_cmp, ex_chain, ex_and, ex_or, ex_not, ex_ite, ex_ix, ex_key, ex_sl, ex_fld, ex_call, ex_callK, ex_bi, ex_isA, ex_lzip, evL, evLP, evI, nm_0, nm_s, pe_nm, pkn_v, pkn_o, pkn_n, pkn_s, pe_kI, pe_kB, pe_kN, pe_kS, pe_neg, pe_tup, pe_lst', pe_dct, pe_bin, pe_cmp, pe_ite, pe_ix', pe_key, pe_sl, pe_fld, pe_call', pe_callK, pe_bi, pe_comp, pe_lzip, pe_caught, pe_and', pe_or', pe_not', pe_isA, pe_chain', pw_t, pw_f, set_0, set_s, ow_0, ow_s, app_0, app_s, stx_0, stx_s, frz_v, frz_o, frz_s, Option.map_some, ite_t, ite_f, seq_nx, seq_rt, seqK_nx, seqK_rt, seq_ex, seq_bnd, seq_ite, bnd_ite, res_nx, res_rt, tst_bnd, tst_ret, tst_ite, and_b, or_b, not_b, tru_b, ifs_nil, ifs_and, ifs_or, ifs_not, ifs_cmp, ifs_call, ite_bool, ite_and, ite_or, ite_andT, ite_orT, oe_nil, bnd_ret, bnd_bnd, bnd_rse, bnd_stk, lft_some, le_i, lt_i, ge_i, gt_i, eq_i, ne_i, is_n, nis_n, add_i, sub_i, len_t, len_l, len_sc, zip_t, zip_l, el_t, el_l, Gn_tb, Bf.f, oe_nm, oe_bin, oe_call, oe_kI, int_i, neg_i, tuple_l, tuple_t, list_t, list_l, ft_draw]
  refine Ok.drawB (by omega) (by omega) fun v a b => ?_
  have hv : v.toNat < xs.length := by omega
  simp only [Oi.exec, ex_nm, ex_kI, ex_kB, ex_kN, ex_kS, ex_neg, ex_tup, ex_lst, ex_dct, ex_bin, ex_cmp, ex_chain, ex_and, ex_or, ex_not, ex_ite, ex_ix, ex_key, ex_sl, ex_fld, ex_call, ex_callK, ex_bi, ex_isA, ex_lzip, evL, evLP, evI, nm_0, nm_s, pe_nm, pkn_v, pkn_o, pkn_n, pkn_s, pe_kI, pe_kB, pe_kN, pe_kS, pe_neg, pe_tup, pe_lst', pe_dct, pe_bin, pe_cmp, pe_ite, pe_ix', pe_key, pe_sl, pe_fld, pe_call', pe_callK, pe_bi, pe_comp, pe_lzip, pe_caught, pe_and', pe_or', pe_not', pe_isA, pe_chain', pw_t, pw_f, set_0, set_s, ow_0, ow_s, app_0, app_s, stx_0, stx_s, frz_v, frz_o, frz_s, Option.map_some, ite_t, ite_f, seq_nx, seq_rt, seqK_nx, seqK_rt, seq_ex, seq_bnd, seq_ite, bnd_ite, res_nx, res_rt, tst_bnd, tst_ret, tst_ite, and_b, or_b, not_b, tru_b, ifs_nil, ifs_and, ifs_or, ifs_not, ifs_cmp, ifs_call, ite_bool, ite_and, ite_or, ite_andT, ite_orT, oe_nil, bnd_ret, bnd_bnd, bnd_rse, bnd_stk, lft_some, le_i, lt_i, ge_i, gt_i, eq_i, ne_i, is_n, nis_n, add_i, sub_i, len_t, len_l, len_sc, zip_t, zip_l, el_t, el_l, Gn_tb, Bf.f, oe_nm, oe_bin, oe_call, oe_kI, int_i, neg_i, tuple_l, tuple_t, list_t, list_l, ft_draw, ix_li a hv]
  exact Ok.ret (mem_get hv)
theorem law_pickC {x : D} {xs : List D} (h1 : xs.length ≤ 999) : Ok 1 ((Gn W (n + 2)).ft "_law_pick" [.st, .lst (x :: xs)]) (fun d => d ∈ x :: xs) := law_pick (Nat.zero_lt_succ _) (Nat.succ_le_succ h1)
theorem law_pickT {xs : List D} (h0 : 0 < xs.length) (h1 : xs.length ≤ 1000) : Ok 1 ((Gn W (n + 2)).ft "_law_pick" [.st, .tup xs]) (fun d => d ∈ xs) := by
  rw [cg_law_pick]
  unfold bg_law_pick
  simp only [Oi.exec, ex_nm, ex_kI, ex_kB, ex_kN, ex_kS, ex_neg, ex_tup, ex_lst, ex_dct, ex_bin, ex_cmp, ex_chain, ex_and, ex_or, ex_not, ex_ite, ex_ix, ex_key, ex_sl, ex_fld, ex_call, ex_callK, ex_bi, ex_isA, ex_lzip, evL, evLP, evI, nm_0, nm_s, pe_nm, pkn_v, pkn_o, pkn_n, pkn_s, pe_kI, pe_kB, pe_kN, pe_kS, pe_neg, pe_tup, pe_lst', pe_dct, pe_bin, pe_cmp, pe_ite, pe_ix', pe_key, pe_sl, pe_fld, pe_call', pe_callK, pe_bi, pe_comp, pe_lzip, pe_caught, pe_and', pe_or', pe_not', pe_isA, pe_chain', pw_t, pw_f, set_0, set_s, ow_0, ow_s, app_0, app_s, stx_0, stx_s, frz_v, frz_o, frz_s, Option.map_some, ite_t, ite_f, seq_nx, seq_rt, seqK_nx, seqK_rt, seq_ex, seq_bnd, seq_ite, bnd_ite, res_nx, res_rt, tst_bnd, tst_ret, tst_ite, and_b, or_b, not_b, tru_b, ifs_nil, ifs_and, ifs_or, ifs_not, ifs_cmp, ifs_call, ite_bool, ite_and, ite_or, ite_andT, ite_orT, oe_nil, bnd_ret, bnd_bnd, bnd_rse, bnd_stk, lft_some, le_i, lt_i, ge_i, gt_i, eq_i, ne_i, is_n, nis_n, add_i, sub_i, len_t, len_l, len_sc, zip_t, zip_l, el_t, el_l, Gn_tb, Bf.f, oe_nm, oe_bin, oe_call, oe_kI, int_i, neg_i, tuple_l, tuple_t, list_t, list_l, ft_draw]
  refine Ok.drawB (by omega) (by omega) fun v a b => ?_
  have hv : v.toNat < xs.length := by omega
  simp only [Oi.exec, ex_nm, ex_kI, ex_kB, ex_kN, ex_kS, ex_neg, ex_tup, ex_lst, ex_dct, ex_bin, ex_cmp, ex_chain, ex_and, ex_or, ex_not, ex_ite, ex_ix, ex_key, ex_sl, ex_fld, ex_call, ex_callK, ex_bi, ex_isA, ex_lzip, evL, evLP, evI, nm_0, nm_s, pe_nm, pkn_v, pkn_o, pkn_n, pkn_s, pe_kI, pe_kB, pe_kN, pe_kS, pe_neg, pe_tup, pe_lst', pe_dct, pe_bin, pe_cmp, pe_ite, pe_ix', pe_key, pe_sl, pe_fld, pe_call', pe_callK, pe_bi, pe_comp, pe_lzip, pe_caught, pe_and', pe_or', pe_not', pe_isA, pe_chain', pw_t, pw_f, set_0, set_s, ow_0, ow_s, app_0, app_s, stx_0, stx_s, frz_v, frz_o, frz_s, Option.map_some, ite_t, ite_f, seq_nx, seq_rt, seqK_nx, seqK_rt, seq_ex, seq_bnd, seq_ite, bnd_ite, res_nx, res_rt, tst_bnd, tst_ret, tst_ite, and_b, or_b, not_b, tru_b, ifs_nil, ifs_and, ifs_or, ifs_not, ifs_cmp, ifs_call, ite_bool, ite_and, ite_or, ite_andT, ite_orT, oe_nil, bnd_ret, bnd_bnd, bnd_rse, bnd_stk, lft_some, le_i, lt_i, ge_i, gt_i, eq_i, ne_i, is_n, nis_n, add_i, sub_i, len_t, len_l, len_sc, zip_t, zip_l, el_t, el_l, Gn_tb, Bf.f, oe_nm, oe_bin, oe_call, oe_kI, int_i, neg_i, tuple_l, tuple_t, list_t, list_l, ft_draw, ix_ti a hv]
  exact Ok.ret (mem_get hv)
theorem law_put {xs : List D} {v : Int} {d : D} (hl : xs.length ≤ 1000) (h0 : 0 ≤ v) (h1 : v.toNat < xs.length) : (Gn W (n + 1)).ft "_law_put" [.tup xs, .int v, d] = ret (.tup (xs.set v.toNat d)) := by
  rw [cg_law_put]
  unfold bg_law_put
  have e1 : (v + 1).toNat = v.toNat + 1 := by omega
  have a1 : binD .add (.tup (xs.take v.toNat)) (.tup [d]) = some (.tup (xs.take v.toNat ++ [d])) := add_t (by rw [List.length_take, List.length_singleton]; omega)
  have a2 : binD .add (.tup (xs.take v.toNat ++ [d])) (.tup (xs.drop (v.toNat + 1))) = some (.tup ((xs.take v.toNat ++ [d]) ++ xs.drop (v.toNat + 1))) := add_t (by rw [List.length_append, List.length_take, List.length_singleton, List.length_drop]; omega)
  simp only [Oi.exec, ex_nm, ex_kI, ex_kB, ex_kN, ex_kS, ex_neg, ex_tup, ex_lst, ex_dct, ex_bin, ex_cmp, ex_chain, ex_and, ex_or, ex_not, ex_ite, ex_ix, ex_key, ex_sl, ex_fld, ex_call, ex_callK, ex_bi, ex_isA, ex_lzip, evL, evLP, evI, nm_0, nm_s, pe_nm, pkn_v, pkn_o, pkn_n, pkn_s, pe_kI, pe_kB, pe_kN, pe_kS, pe_neg, pe_tup, pe_lst', pe_dct, pe_bin, pe_cmp, pe_ite, pe_ix', pe_key, pe_sl, pe_fld, pe_call', pe_callK, pe_bi, pe_comp, pe_lzip, pe_caught, pe_and', pe_or', pe_not', pe_isA, pe_chain', pw_t, pw_f, set_0, set_s, ow_0, ow_s, app_0, app_s, stx_0, stx_s, frz_v, frz_o, frz_s, Option.map_some, ite_t, ite_f, seq_nx, seq_rt, seqK_nx, seqK_rt, seq_ex, seq_bnd, seq_ite, bnd_ite, res_nx, res_rt, tst_bnd, tst_ret, tst_ite, and_b, or_b, not_b, tru_b, ifs_nil, ifs_and, ifs_or, ifs_not, ifs_cmp, ifs_call, ite_bool, ite_and, ite_or, ite_andT, ite_orT, oe_nil, bnd_ret, bnd_bnd, bnd_rse, bnd_stk, lft_some, le_i, lt_i, ge_i, gt_i, eq_i, ne_i, is_n, nis_n, add_i, sub_i, len_t, len_l, len_sc, zip_t, zip_l, el_t, el_l, Gn_tb, Bf.f, oe_nm, oe_bin, oe_call, oe_kI, int_i, neg_i, tuple_l, tuple_t, list_t, list_l, ft_draw, sl_to h0 (Nat.le_of_lt h1), sl_from (show 0 ≤ v + 1 by omega) (show (v + 1).toNat ≤ xs.length by omega), e1, a1, a2]
  rw [List.append_assoc, List.singleton_append, List.set_eq_take_append_cons_drop, if_pos h1]
theorem law_less {xs : List D} {v : Int} (hl : xs.length ≤ 1000) (h0 : 0 ≤ v) (h1 : v.toNat < xs.length) : (Gn W (n + 1)).ft "_law_less" [.tup xs, .int v] = ret (.tup (xs.take v.toNat ++ xs.drop (v.toNat + 1))) := by
  rw [cg_law_less]
  unfold bg_law_less
  have e1 : (v + 1).toNat = v.toNat + 1 := by omega
  have a2 : binD .add (.tup (xs.take v.toNat)) (.tup (xs.drop (v.toNat + 1))) = some (.tup (xs.take v.toNat ++ xs.drop (v.toNat + 1))) := add_t (by rw [List.length_take, List.length_drop]; omega)
  simp only [Oi.exec, ex_nm, ex_kI, ex_kB, ex_kN, ex_kS, ex_neg, ex_tup, ex_lst, ex_dct, ex_bin, ex_cmp, ex_chain, ex_and, ex_or, ex_not, ex_ite, ex_ix, ex_key, ex_sl, ex_fld, ex_call, ex_callK, ex_bi, ex_isA, ex_lzip, evL, evLP, evI, nm_0, nm_s, pe_nm, pkn_v, pkn_o, pkn_n, pkn_s, pe_kI, pe_kB, pe_kN, pe_kS, pe_neg, pe_tup, pe_lst', pe_dct, pe_bin, pe_cmp, pe_ite, pe_ix', pe_key, pe_sl, pe_fld, pe_call', pe_callK, pe_bi, pe_comp, pe_lzip, pe_caught, pe_and', pe_or', pe_not', pe_isA, pe_chain', pw_t, pw_f, set_0, set_s, ow_0, ow_s, app_0, app_s, stx_0, stx_s, frz_v, frz_o, frz_s, Option.map_some, ite_t, ite_f, seq_nx, seq_rt, seqK_nx, seqK_rt, seq_ex, seq_bnd, seq_ite, bnd_ite, res_nx, res_rt, tst_bnd, tst_ret, tst_ite, and_b, or_b, not_b, tru_b, ifs_nil, ifs_and, ifs_or, ifs_not, ifs_cmp, ifs_call, ite_bool, ite_and, ite_or, ite_andT, ite_orT, oe_nil, bnd_ret, bnd_bnd, bnd_rse, bnd_stk, lft_some, le_i, lt_i, ge_i, gt_i, eq_i, ne_i, is_n, nis_n, add_i, sub_i, len_t, len_l, len_sc, zip_t, zip_l, el_t, el_l, Gn_tb, Bf.f, oe_nm, oe_bin, oe_call, oe_kI, int_i, neg_i, tuple_l, tuple_t, list_t, list_l, ft_draw, sl_to h0 (Nat.le_of_lt h1), sl_from (show 0 ≤ v + 1 by omega) (show (v + 1).toNat ≤ xs.length by omega), e1, a2]
/-! ### good ones -/
structure Tp (x : D) (xs : List D) : Prop where
  e : x = .tup xs
  len : xs.length ≤ 1000
  all : ∀ y ∈ xs, good y = true
theorem tp_good {xs : List D} (hl : xs.length ≤ 1000) (h : ∀ y ∈ xs, good y = true) : good (.tup xs) = true := tup_good (sz_of (by omega)) h
theorem lt_good {xs : List D} (hl : xs.length ≤ 1000) (h : ∀ y ∈ xs, good y = true) : good (.lst xs) = true := lst_good (sz_of (by omega)) h
theorem set_mem {xs : List D} {j : Nat} {d y : D} (h : y ∈ xs.set j d) : y ∈ xs ∨ y = d := List.mem_or_eq_of_mem_set h
theorem good_set {xs : List D} {j : Nat} {d : D} (hl : xs.length ≤ 1000) (h : ∀ y ∈ xs, good y = true) (hd : good d = true) : good (.tup (xs.set j d)) = true :=
  tp_good (by rw [List.length_set]; exact hl) fun y hy => (set_mem hy).elim (h y) fun z => by rw [z]; exact hd
theorem good_less {xs : List D} {j k : Nat} (hl : xs.length ≤ 1000) (h : ∀ y ∈ xs, good y = true) : good (.tup (xs.take j ++ xs.drop k)) = true :=
  tup_good (sz_of (by rw [List.length_append, List.length_take, List.length_drop]; omega)) fun y hy => (List.mem_append.mp hy).elim (fun z => h y (List.mem_of_mem_take z)) fun z => h y (List.mem_of_mem_drop z)
theorem dct_0 : dctD [] [] = some (.dct []) := rfl
theorem dct_1 {x : D} : dctD [.i 0] [x] = some (.dct [(.int 0, x)]) := if_pos ⟨rfl, by decide, by decide⟩
theorem law_odd : Ok 1 ((Gn W (n + 3)).ft "_law_odd" [.st]) (fun d => good d = true) := by
  rw [cg_law_odd]
  unfold bg_law_odd
  simp only [Oi.exec, ex_nm, ex_kI, ex_kB, ex_kN, ex_kS, ex_neg, ex_tup, ex_lst, ex_dct, ex_bin, ex_cmp, ex_chain, ex_and, ex_or, ex_not, ex_ite, ex_ix, ex_key, ex_sl, ex_fld, ex_call, ex_callK, ex_bi, ex_isA, ex_lzip, evL, evLP, evI, nm_0, nm_s, pe_nm, pkn_v, pkn_o, pkn_n, pkn_s, pe_kI, pe_kB, pe_kN, pe_kS, pe_neg, pe_tup, pe_lst', pe_dct, pe_bin, pe_cmp, pe_ite, pe_ix', pe_key, pe_sl, pe_fld, pe_call', pe_callK, pe_bi, pe_comp, pe_lzip, pe_caught, pe_and', pe_or', pe_not', pe_isA, pe_chain', pw_t, pw_f, set_0, set_s, ow_0, ow_s, app_0, app_s, stx_0, stx_s, frz_v, frz_o, frz_s, Option.map_some, ite_t, ite_f, seq_nx, seq_rt, seqK_nx, seqK_rt, seq_ex, seq_bnd, seq_ite, bnd_ite, res_nx, res_rt, tst_bnd, tst_ret, tst_ite, and_b, or_b, not_b, tru_b, ifs_nil, ifs_and, ifs_or, ifs_not, ifs_cmp, ifs_call, ite_bool, ite_and, ite_or, ite_andT, ite_orT, oe_nil, bnd_ret, bnd_bnd, bnd_rse, bnd_stk, lft_some, le_i, lt_i, ge_i, gt_i, eq_i, ne_i, is_n, nis_n, add_i, sub_i, len_t, len_l, len_sc, zip_t, zip_l, el_t, el_l, Gn_tb, Bf.f, oe_nm, oe_bin, oe_call, oe_kI, int_i, neg_i, tuple_l, tuple_t, list_t, list_l, ft_draw, dct_0, dct_1]
  rw [ret_bnd]
  refine (law_pick (by decide) (by decide)).mono (fun d hd => goods_mem ?_ hd) (Nat.le_refl _)
  decide +kernel
theorem law_bad_table : Ok 1 ((Gn W (n + 3)).ft "_law_bad_table" [.st]) (fun d => good d = true ∧ isTb d = false) := by
  rw [cg_law_bad_table]
  unfold bg_law_bad_table
  simp only [Oi.exec, ex_nm, ex_kI, ex_kB, ex_kN, ex_kS, ex_neg, ex_tup, ex_lst, ex_dct, ex_bin, ex_cmp, ex_chain, ex_and, ex_or, ex_not, ex_ite, ex_ix, ex_key, ex_sl, ex_fld, ex_call, ex_callK, ex_bi, ex_isA, ex_lzip, evL, evLP, evI, nm_0, nm_s, pe_nm, pkn_v, pkn_o, pkn_n, pkn_s, pe_kI, pe_kB, pe_kN, pe_kS, pe_neg, pe_tup, pe_lst', pe_dct, pe_bin, pe_cmp, pe_ite, pe_ix', pe_key, pe_sl, pe_fld, pe_call', pe_callK, pe_bi, pe_comp, pe_lzip, pe_caught, pe_and', pe_or', pe_not', pe_isA, pe_chain', pw_t, pw_f, set_0, set_s, ow_0, ow_s, app_0, app_s, stx_0, stx_s, frz_v, frz_o, frz_s, Option.map_some, ite_t, ite_f, seq_nx, seq_rt, seqK_nx, seqK_rt, seq_ex, seq_bnd, seq_ite, bnd_ite, res_nx, res_rt, tst_bnd, tst_ret, tst_ite, and_b, or_b, not_b, tru_b, ifs_nil, ifs_and, ifs_or, ifs_not, ifs_cmp, ifs_call, ite_bool, ite_and, ite_or, ite_andT, ite_orT, oe_nil, bnd_ret, bnd_bnd, bnd_rse, bnd_stk, lft_some, le_i, lt_i, ge_i, gt_i, eq_i, ne_i, is_n, nis_n, add_i, sub_i, len_t, len_l, len_sc, zip_t, zip_l, el_t, el_l, Gn_tb, Bf.f, oe_nm, oe_bin, oe_call, oe_kI, int_i, neg_i, tuple_l, tuple_t, list_t, list_l, ft_draw, dct_0]
  rw [ret_bnd]
  refine (law_pick (by decide) (by decide)).mono (fun d hd => ?_) (Nat.le_refl _)
  have h : ∀ d ∈ ([.non, .int 5, .tup [], .dct [], .str (Str.ofString "table"), .tup [.tup [.int 2], .tup [.tup [.int 0]]]] : List D), good d = true ∧ isTb d = false := by
    intro d hd
    have h1 : goods [.non, .int 5, .tup [], .dct [], .str (Str.ofString "table"), .tup [.tup [.int 2], .tup [.tup [.int 0]]]] = true := by decide +kernel
    refine ⟨goods_mem h1 hd, ?_⟩
    simp only [List.mem_cons, List.not_mem_nil, or_false] at hd
    rcases hd with h | h | h | h | h | h <;> rw [h] <;> rfl
  exact h d hd
theorem law_cell {k : Int} (h1 : 1 ≤ k) (h6 : k ≤ 6) : Ok 2 ((Gn W (n + 2)).ft "_law_cell" [.st, .int k]) (fun d => cellB k d = true) := by
  rw [cg_law_cell]
  unfold bg_law_cell
  simp only [Oi.exec, ex_nm, ex_kI, ex_kB, ex_kN, ex_kS, ex_neg, ex_tup, ex_lst, ex_dct, ex_bin, ex_cmp, ex_chain, ex_and, ex_or, ex_not, ex_ite, ex_ix, ex_key, ex_sl, ex_fld, ex_call, ex_callK, ex_bi, ex_isA, ex_lzip, evL, evLP, evI, nm_0, nm_s, pe_nm, pkn_v, pkn_o, pkn_n, pkn_s, pe_kI, pe_kB, pe_kN, pe_kS, pe_neg, pe_tup, pe_lst', pe_dct, pe_bin, pe_cmp, pe_ite, pe_ix', pe_key, pe_sl, pe_fld, pe_call', pe_callK, pe_bi, pe_comp, pe_lzip, pe_caught, pe_and', pe_or', pe_not', pe_isA, pe_chain', pw_t, pw_f, set_0, set_s, ow_0, ow_s, app_0, app_s, stx_0, stx_s, frz_v, frz_o, frz_s, Option.map_some, ite_t, ite_f, seq_nx, seq_rt, seqK_nx, seqK_rt, seq_ex, seq_bnd, seq_ite, bnd_ite, res_nx, res_rt, tst_bnd, tst_ret, tst_ite, and_b, or_b, not_b, tru_b, ifs_nil, ifs_and, ifs_or, ifs_not, ifs_cmp, ifs_call, ite_bool, ite_and, ite_or, ite_andT, ite_orT, oe_nil, bnd_ret, bnd_bnd, bnd_rse, bnd_stk, lft_some, le_i, lt_i, ge_i, gt_i, eq_i, ne_i, is_n, nis_n, add_i, sub_i, len_t, len_l, len_sc, zip_t, zip_l, el_t, el_l, Gn_tb, Bf.f, oe_nm, oe_bin, oe_call, oe_kI, int_i, neg_i, tuple_l, tuple_t, list_t, list_l, ft_draw]
  refine Ok.drawB (by decide) (by decide) fun v a b => ?_
  simp only [Oi.exec, ex_nm, ex_kI, ex_kB, ex_kN, ex_kS, ex_neg, ex_tup, ex_lst, ex_dct, ex_bin, ex_cmp, ex_chain, ex_and, ex_or, ex_not, ex_ite, ex_ix, ex_key, ex_sl, ex_fld, ex_call, ex_callK, ex_bi, ex_isA, ex_lzip, evL, evLP, evI, nm_0, nm_s, pe_nm, pkn_v, pkn_o, pkn_n, pkn_s, pe_kI, pe_kB, pe_kN, pe_kS, pe_neg, pe_tup, pe_lst', pe_dct, pe_bin, pe_cmp, pe_ite, pe_ix', pe_key, pe_sl, pe_fld, pe_call', pe_callK, pe_bi, pe_comp, pe_lzip, pe_caught, pe_and', pe_or', pe_not', pe_isA, pe_chain', pw_t, pw_f, set_0, set_s, ow_0, ow_s, app_0, app_s, stx_0, stx_s, frz_v, frz_o, frz_s, Option.map_some, ite_t, ite_f, seq_nx, seq_rt, seqK_nx, seqK_rt, seq_ex, seq_bnd, seq_ite, bnd_ite, res_nx, res_rt, tst_bnd, tst_ret, tst_ite, and_b, or_b, not_b, tru_b, ifs_nil, ifs_and, ifs_or, ifs_not, ifs_cmp, ifs_call, ite_bool, ite_and, ite_or, ite_andT, ite_orT, oe_nil, bnd_ret, bnd_bnd, bnd_rse, bnd_stk, lft_some, le_i, lt_i, ge_i, gt_i, eq_i, ne_i, is_n, nis_n, add_i, sub_i, len_t, len_l, len_sc, zip_t, zip_l, el_t, el_l, Gn_tb, Bf.f, oe_nm, oe_bin, oe_call, oe_kI, int_i, neg_i, tuple_l, tuple_t, list_t, list_l, ft_draw]
  refine Ok.ite (fun _ => Ok.ret rfl) fun _ => ?_
  refine Ok.drawB (k := 0) (by omega) (by omega) fun u c d => Ok.ret ?_
  show (false || (decide (0 ≤ u) && decide (u ≤ k - 1))) = true
  rw [decide_eq_true c, decide_eq_true (by omega)]
  rfl
theorem good_int {i : Int} : good (.int i) = true := by rw [good]
theorem kd_all {ki : List Int} : ∀ y ∈ ki.map D.int, good y = true := fun y hy => by
  obtain ⟨k, _, rfl⟩ := List.mem_map.mp hy
  exact good_int
theorem par_ex {G : Gm} {ρ : Rho} {i j : Nat} {a b : I} : Oi.exec G (.par i j a b) ρ = bnd (ev G a ρ) fun x => bnd (ev G b ρ) fun y => bnd (lft (setR ρ i (.val x))) fun ρ => bnd (lft (setR ρ j (.val y))) fun ρ => ret (.nx, ρ) := by rw [Oi.exec]
theorem goods_all {xs : List D} (h : ∀ y ∈ xs, good y = true) {d : D} (hd : d ∈ xs) : good d = true := h d hd
theorem good_take {xs : List D} {j : Nat} (hl : xs.length ≤ 100000) (h : ∀ y ∈ xs, good y = true) : good (.tup (xs.take j)) = true := tup_good (sz_of (by rw [List.length_take]; omega)) fun y hy => h y (List.mem_of_mem_take hy)
theorem all_app {xs ys : List D} (h1 : ∀ y ∈ xs, good y = true) (h2 : ∀ y ∈ ys, good y = true) : ∀ y ∈ xs ++ ys, good y = true := fun y hy => (List.mem_append.mp hy).elim (h1 y) (h2 y)
theorem all_rep {k : Nat} {d : D} (h : good d = true) : ∀ y ∈ (List.replicate k [d]).flatten, good y = true := fun y hy => by
  obtain ⟨l, h1, h2⟩ := List.mem_flatten.mp hy
  rw [(List.mem_replicate.mp h1).2] at h2
  rw [List.mem_singleton.mp h2]
  exact h
theorem len_rep {k : Nat} {d : D} : (List.replicate k [d]).flatten.length = k := by
  induction k with
  | zero => rfl
  | succ k ih => rw [List.replicate_succ, List.flatten_cons, List.length_append, ih, List.length_singleton]; omega
theorem law_spoilt_kinds {ki : List Int} (h1 : 1 ≤ ki.length) (h8 : ki.length ≤ 8) : Ok 3 ((Gn W (n + 3)).ft "_law_spoilt_kinds" [.st, kd ki]) (fun d => good d = true) := by
  rw [cg_law_spoilt_kinds]
  unfold bg_law_spoilt_kinds
  simp only [Oi.exec, ex_nm, ex_kI, ex_kB, ex_kN, ex_kS, ex_neg, ex_tup, ex_lst, ex_dct, ex_bin, ex_cmp, ex_chain, ex_and, ex_or, ex_not, ex_ite, ex_ix, ex_key, ex_sl, ex_fld, ex_call, ex_callK, ex_bi, ex_isA, ex_lzip, evL, evLP, evI, nm_0, nm_s, pe_nm, pkn_v, pkn_o, pkn_n, pkn_s, pe_kI, pe_kB, pe_kN, pe_kS, pe_neg, pe_tup, pe_lst', pe_dct, pe_bin, pe_cmp, pe_ite, pe_ix', pe_key, pe_sl, pe_fld, pe_call', pe_callK, pe_bi, pe_comp, pe_lzip, pe_caught, pe_and', pe_or', pe_not', pe_isA, pe_chain', pw_t, pw_f, set_0, set_s, ow_0, ow_s, app_0, app_s, stx_0, stx_s, frz_v, frz_o, frz_s, Option.map_some, ite_t, ite_f, seq_nx, seq_rt, seqK_nx, seqK_rt, seq_ex, seq_bnd, seq_ite, bnd_ite, res_nx, res_rt, tst_bnd, tst_ret, tst_ite, and_b, or_b, not_b, tru_b, ifs_nil, ifs_and, ifs_or, ifs_not, ifs_cmp, ifs_call, ite_bool, ite_and, ite_or, ite_andT, ite_orT, oe_nil, bnd_ret, bnd_bnd, bnd_rse, bnd_stk, lft_some, le_i, lt_i, ge_i, gt_i, eq_i, ne_i, is_n, nis_n, add_i, sub_i, len_t, len_l, len_sc, zip_t, zip_l, el_t, el_l, Gn_tb, Bf.f, oe_nm, oe_bin, oe_call, oe_kI, int_i, neg_i, tuple_l, tuple_t, list_t, list_l, ft_draw, par_ex, len_kd]
  refine Ok.drawB (by omega) (by omega) fun v a b => ?_
  refine Ok.drawB (by omega) (by omega) fun w c e => ?_
  have hv : v.toNat < (ki.map D.int).length := by rw [List.length_map]; omega
  have hl : (ki.map D.int).length ≤ 1000 := by rw [List.length_map]; omega
  simp only [Oi.exec, ex_nm, ex_kI, ex_kB, ex_kN, ex_kS, ex_neg, ex_tup, ex_lst, ex_dct, ex_bin, ex_cmp, ex_chain, ex_and, ex_or, ex_not, ex_ite, ex_ix, ex_key, ex_sl, ex_fld, ex_call, ex_callK, ex_bi, ex_isA, ex_lzip, evL, evLP, evI, nm_0, nm_s, pe_nm, pkn_v, pkn_o, pkn_n, pkn_s, pe_kI, pe_kB, pe_kN, pe_kS, pe_neg, pe_tup, pe_lst', pe_dct, pe_bin, pe_cmp, pe_ite, pe_ix', pe_key, pe_sl, pe_fld, pe_call', pe_callK, pe_bi, pe_comp, pe_lzip, pe_caught, pe_and', pe_or', pe_not', pe_isA, pe_chain', pw_t, pw_f, set_0, set_s, ow_0, ow_s, app_0, app_s, stx_0, stx_s, frz_v, frz_o, frz_s, Option.map_some, ite_t, ite_f, seq_nx, seq_rt, seqK_nx, seqK_rt, seq_ex, seq_bnd, seq_ite, bnd_ite, res_nx, res_rt, tst_bnd, tst_ret, tst_ite, and_b, or_b, not_b, tru_b, ifs_nil, ifs_and, ifs_or, ifs_not, ifs_cmp, ifs_call, ite_bool, ite_and, ite_or, ite_andT, ite_orT, oe_nil, bnd_ret, bnd_bnd, bnd_rse, bnd_stk, lft_some, le_i, lt_i, ge_i, gt_i, eq_i, ne_i, is_n, nis_n, add_i, sub_i, len_t, len_l, len_sc, zip_t, zip_l, el_t, el_l, Gn_tb, Bf.f, oe_nm, oe_bin, oe_call, oe_kI, int_i, neg_i, tuple_l, tuple_t, list_t, list_l, ft_draw]
  refine Ok.ite (fun _ => ?_) fun _ => Ok.ite (fun _ => ?_) fun _ => Ok.ite (fun _ => ?_) fun _ => ?_
  · have e1 : listD [kd ki] = some (.lst (ki.map D.int)) := rfl
    simp only [Oi.exec, ex_nm, ex_kI, ex_kB, ex_kN, ex_kS, ex_neg, ex_tup, ex_lst, ex_dct, ex_bin, ex_cmp, ex_chain, ex_and, ex_or, ex_not, ex_ite, ex_ix, ex_key, ex_sl, ex_fld, ex_call, ex_callK, ex_bi, ex_isA, ex_lzip, evL, evLP, evI, nm_0, nm_s, pe_nm, pkn_v, pkn_o, pkn_n, pkn_s, pe_kI, pe_kB, pe_kN, pe_kS, pe_neg, pe_tup, pe_lst', pe_dct, pe_bin, pe_cmp, pe_ite, pe_ix', pe_key, pe_sl, pe_fld, pe_call', pe_callK, pe_bi, pe_comp, pe_lzip, pe_caught, pe_and', pe_or', pe_not', pe_isA, pe_chain', pw_t, pw_f, set_0, set_s, ow_0, ow_s, app_0, app_s, stx_0, stx_s, frz_v, frz_o, frz_s, Option.map_some, ite_t, ite_f, seq_nx, seq_rt, seqK_nx, seqK_rt, seq_ex, seq_bnd, seq_ite, bnd_ite, res_nx, res_rt, tst_bnd, tst_ret, tst_ite, and_b, or_b, not_b, tru_b, ifs_nil, ifs_and, ifs_or, ifs_not, ifs_cmp, ifs_call, ite_bool, ite_and, ite_or, ite_andT, ite_orT, oe_nil, bnd_ret, bnd_bnd, bnd_rse, bnd_stk, lft_some, le_i, lt_i, ge_i, gt_i, eq_i, ne_i, is_n, nis_n, add_i, sub_i, len_t, len_l, len_sc, zip_t, zip_l, el_t, el_l, Gn_tb, Bf.f, oe_nm, oe_bin, oe_call, oe_kI, int_i, neg_i, tuple_l, tuple_t, list_t, list_l, ft_draw, e1, dct_0]
    rw [ret_bnd]
    refine (law_pickC (by show 6 ≤ 999; decide)).mono (fun d hd => ?_) (Nat.le_refl _)
    simp only [List.mem_cons, List.not_mem_nil, or_false] at hd
    rcases hd with h | h | h | h | h | h | h <;> rw [h]
    · exact lt_good hl kd_all
    · decide +kernel
    · decide +kernel
    · decide +kernel
    · decide +kernel
    · decide +kernel
    · exact tp_good (show 1 ≤ 1000 by decide) fun y hy => by rw [List.mem_singleton.mp hy]; exact tp_good hl kd_all
  · unfold kd
    rw [law_less hl a hv]
    exact Ok.ret (good_less hl kd_all)
  · have a2 : binD .add (kd ki) (.tup (List.replicate 8 [D.int 1]).flatten) = some (.tup (ki.map D.int ++ (List.replicate 8 [D.int 1]).flatten)) := add_t (by rw [len_rep]; omega)
    simp only [Oi.exec, ex_nm, ex_kI, ex_kB, ex_kN, ex_kS, ex_neg, ex_tup, ex_lst, ex_dct, ex_bin, ex_cmp, ex_chain, ex_and, ex_or, ex_not, ex_ite, ex_ix, ex_key, ex_sl, ex_fld, ex_call, ex_callK, ex_bi, ex_isA, ex_lzip, evL, evLP, evI, nm_0, nm_s, pe_nm, pkn_v, pkn_o, pkn_n, pkn_s, pe_kI, pe_kB, pe_kN, pe_kS, pe_neg, pe_tup, pe_lst', pe_dct, pe_bin, pe_cmp, pe_ite, pe_ix', pe_key, pe_sl, pe_fld, pe_call', pe_callK, pe_bi, pe_comp, pe_lzip, pe_caught, pe_and', pe_or', pe_not', pe_isA, pe_chain', pw_t, pw_f, set_0, set_s, ow_0, ow_s, app_0, app_s, stx_0, stx_s, frz_v, frz_o, frz_s, Option.map_some, ite_t, ite_f, seq_nx, seq_rt, seqK_nx, seqK_rt, seq_ex, seq_bnd, seq_ite, bnd_ite, res_nx, res_rt, tst_bnd, tst_ret, tst_ite, and_b, or_b, not_b, tru_b, ifs_nil, ifs_and, ifs_or, ifs_not, ifs_cmp, ifs_call, ite_bool, ite_and, ite_or, ite_andT, ite_orT, oe_nil, bnd_ret, bnd_bnd, bnd_rse, bnd_stk, lft_some, le_i, lt_i, ge_i, gt_i, eq_i, ne_i, is_n, nis_n, add_i, sub_i, len_t, len_l, len_sc, zip_t, zip_l, el_t, el_l, Gn_tb, Bf.f, oe_nm, oe_bin, oe_call, oe_kI, int_i, neg_i, tuple_l, tuple_t, list_t, list_l, ft_draw, mul_one (show (2 : Int) ≤ 8 ∧ (8 : Int) ≤ 1000 by decide), show (8 : Int).toNat = 8 from rfl, a2]
    refine Ok.callB (k := 0) (law_pick (xs := [.int 8, .int 9]) (by decide) (by decide)) fun d hd => ?_
    simp only [List.mem_cons, List.not_mem_nil, or_false] at hd
    rcases hd with h | h <;> rw [h] <;> simp only [Oi.exec, ex_nm, ex_kI, ex_kB, ex_kN, ex_kS, ex_neg, ex_tup, ex_lst, ex_dct, ex_bin, ex_cmp, ex_chain, ex_and, ex_or, ex_not, ex_ite, ex_ix, ex_key, ex_sl, ex_fld, ex_call, ex_callK, ex_bi, ex_isA, ex_lzip, evL, evLP, evI, nm_0, nm_s, pe_nm, pkn_v, pkn_o, pkn_n, pkn_s, pe_kI, pe_kB, pe_kN, pe_kS, pe_neg, pe_tup, pe_lst', pe_dct, pe_bin, pe_cmp, pe_ite, pe_ix', pe_key, pe_sl, pe_fld, pe_call', pe_callK, pe_bi, pe_comp, pe_lzip, pe_caught, pe_and', pe_or', pe_not', pe_isA, pe_chain', pw_t, pw_f, set_0, set_s, ow_0, ow_s, app_0, app_s, stx_0, stx_s, frz_v, frz_o, frz_s, Option.map_some, ite_t, ite_f, seq_nx, seq_rt, seqK_nx, seqK_rt, seq_ex, seq_bnd, seq_ite, bnd_ite, res_nx, res_rt, tst_bnd, tst_ret, tst_ite, and_b, or_b, not_b, tru_b, ifs_nil, ifs_and, ifs_or, ifs_not, ifs_cmp, ifs_call, ite_bool, ite_and, ite_or, ite_andT, ite_orT, oe_nil, bnd_ret, bnd_bnd, bnd_rse, bnd_stk, lft_some, le_i, lt_i, ge_i, gt_i, eq_i, ne_i, is_n, nis_n, add_i, sub_i, len_t, len_l, len_sc, zip_t, zip_l, el_t, el_l, Gn_tb, Bf.f, oe_nm, oe_bin, oe_call, oe_kI, int_i, neg_i, tuple_l, tuple_t, list_t, list_l, ft_draw, sl_cut (show (0 : Int) ≤ 8 by decide), sl_cut (show (0 : Int) ≤ 9 by decide)] <;>
      exact Ok.ret (good_take (by rw [List.length_append, len_rep]; omega) (all_app kd_all (all_rep good_int)))
  · refine Ok.callB (k := 0) (law_pickC (by show 8 ≤ 999; decide)) fun d hd => ?_
    have hd : good d = true := goods_mem (xs := [.int 0, .int 7, .int (-1), .bl true, .str (Str.ofString "2"), .non, .tup [.int 2], .int 6, .int 1]) (by decide +kernel) hd
    unfold kd
    rw [law_put hl a hv]
    exact Ok.ret (good_set hl kd_all hd)
theorem law_spoilt_row {ki : List Int} {xs : List D} (h1 : 1 ≤ ki.length) (h8 : ki.length ≤ 8) (hl : xs.length = ki.length) (hg : ∀ y ∈ xs, good y = true) : Ok 3 ((Gn W (n + 3)).ft "_law_spoilt_row" [.st, kd ki, .tup xs]) (fun d => good d = true) := by
  rw [cg_law_spoilt_row]
  unfold bg_law_spoilt_row
  simp only [Oi.exec, ex_nm, ex_kI, ex_kB, ex_kN, ex_kS, ex_neg, ex_tup, ex_lst, ex_dct, ex_bin, ex_cmp, ex_chain, ex_and, ex_or, ex_not, ex_ite, ex_ix, ex_key, ex_sl, ex_fld, ex_call, ex_callK, ex_bi, ex_isA, ex_lzip, evL, evLP, evI, nm_0, nm_s, pe_nm, pkn_v, pkn_o, pkn_n, pkn_s, pe_kI, pe_kB, pe_kN, pe_kS, pe_neg, pe_tup, pe_lst', pe_dct, pe_bin, pe_cmp, pe_ite, pe_ix', pe_key, pe_sl, pe_fld, pe_call', pe_callK, pe_bi, pe_comp, pe_lzip, pe_caught, pe_and', pe_or', pe_not', pe_isA, pe_chain', pw_t, pw_f, set_0, set_s, ow_0, ow_s, app_0, app_s, stx_0, stx_s, frz_v, frz_o, frz_s, Option.map_some, ite_t, ite_f, seq_nx, seq_rt, seqK_nx, seqK_rt, seq_ex, seq_bnd, seq_ite, bnd_ite, res_nx, res_rt, tst_bnd, tst_ret, tst_ite, and_b, or_b, not_b, tru_b, ifs_nil, ifs_and, ifs_or, ifs_not, ifs_cmp, ifs_call, ite_bool, ite_and, ite_or, ite_andT, ite_orT, oe_nil, bnd_ret, bnd_bnd, bnd_rse, bnd_stk, lft_some, le_i, lt_i, ge_i, gt_i, eq_i, ne_i, is_n, nis_n, add_i, sub_i, len_t, len_l, len_sc, zip_t, zip_l, el_t, el_l, Gn_tb, Bf.f, oe_nm, oe_bin, oe_call, oe_kI, int_i, neg_i, tuple_l, tuple_t, list_t, list_l, ft_draw, par_ex]
  refine Ok.drawB (by omega) (by omega) fun v a b => ?_
  refine Ok.drawB (by omega) (by omega) fun w c e => ?_
  have hv : v.toNat < xs.length := by omega
  have hv2 : v.toNat < (ki.map D.int).length := by rw [List.length_map]; omega
  have hx : xs.length ≤ 1000 := by omega
  have gv : good xs[v.toNat] = true := hg _ (mem_get hv)
  have ek : ixD (kd ki) (.int v) = some (ki.map D.int)[v.toNat] := ix_ti a hv2
  simp only [Oi.exec, ex_nm, ex_kI, ex_kB, ex_kN, ex_kS, ex_neg, ex_tup, ex_lst, ex_dct, ex_bin, ex_cmp, ex_chain, ex_and, ex_or, ex_not, ex_ite, ex_ix, ex_key, ex_sl, ex_fld, ex_call, ex_callK, ex_bi, ex_isA, ex_lzip, evL, evLP, evI, nm_0, nm_s, pe_nm, pkn_v, pkn_o, pkn_n, pkn_s, pe_kI, pe_kB, pe_kN, pe_kS, pe_neg, pe_tup, pe_lst', pe_dct, pe_bin, pe_cmp, pe_ite, pe_ix', pe_key, pe_sl, pe_fld, pe_call', pe_callK, pe_bi, pe_comp, pe_lzip, pe_caught, pe_and', pe_or', pe_not', pe_isA, pe_chain', pw_t, pw_f, set_0, set_s, ow_0, ow_s, app_0, app_s, stx_0, stx_s, frz_v, frz_o, frz_s, Option.map_some, ite_t, ite_f, seq_nx, seq_rt, seqK_nx, seqK_rt, seq_ex, seq_bnd, seq_ite, bnd_ite, res_nx, res_rt, tst_bnd, tst_ret, tst_ite, and_b, or_b, not_b, tru_b, ifs_nil, ifs_and, ifs_or, ifs_not, ifs_cmp, ifs_call, ite_bool, ite_and, ite_or, ite_andT, ite_orT, oe_nil, bnd_ret, bnd_bnd, bnd_rse, bnd_stk, lft_some, le_i, lt_i, ge_i, gt_i, eq_i, ne_i, is_n, nis_n, add_i, sub_i, len_t, len_l, len_sc, zip_t, zip_l, el_t, el_l, Gn_tb, Bf.f, oe_nm, oe_bin, oe_call, oe_kI, int_i, neg_i, tuple_l, tuple_t, list_t, list_l, ft_draw, ix_ti a hv]
  refine Ok.ite (fun _ => ?_) fun _ => Ok.ite (fun _ => ?_) fun _ => Ok.ite (fun _ => ?_) fun _ => ?_
  · simp only [Oi.exec, ex_nm, ex_kI, ex_kB, ex_kN, ex_kS, ex_neg, ex_tup, ex_lst, ex_dct, ex_bin, ex_cmp, ex_chain, ex_and, ex_or, ex_not, ex_ite, ex_ix, ex_key, ex_sl, ex_fld, ex_call, ex_callK, ex_bi, ex_isA, ex_lzip, evL, evLP, evI, nm_0, nm_s, pe_nm, pkn_v, pkn_o, pkn_n, pkn_s, pe_kI, pe_kB, pe_kN, pe_kS, pe_neg, pe_tup, pe_lst', pe_dct, pe_bin, pe_cmp, pe_ite, pe_ix', pe_key, pe_sl, pe_fld, pe_call', pe_callK, pe_bi, pe_comp, pe_lzip, pe_caught, pe_and', pe_or', pe_not', pe_isA, pe_chain', pw_t, pw_f, set_0, set_s, ow_0, ow_s, app_0, app_s, stx_0, stx_s, frz_v, frz_o, frz_s, Option.map_some, ite_t, ite_f, seq_nx, seq_rt, seqK_nx, seqK_rt, seq_ex, seq_bnd, seq_ite, bnd_ite, res_nx, res_rt, tst_bnd, tst_ret, tst_ite, and_b, or_b, not_b, tru_b, ifs_nil, ifs_and, ifs_or, ifs_not, ifs_cmp, ifs_call, ite_bool, ite_and, ite_or, ite_andT, ite_orT, oe_nil, bnd_ret, bnd_bnd, bnd_rse, bnd_stk, lft_some, le_i, lt_i, ge_i, gt_i, eq_i, ne_i, is_n, nis_n, add_i, sub_i, len_t, len_l, len_sc, zip_t, zip_l, el_t, el_l, Gn_tb, Bf.f, oe_nm, oe_bin, oe_call, oe_kI, int_i, neg_i, tuple_l, tuple_t, list_t, list_l, ft_draw, dct_0, ix_ti a hv]
    rw [ret_bnd]
    refine (law_pickC (by show 6 ≤ 999; decide)).mono (fun d hd => ?_) (Nat.le_refl _)
    simp only [List.mem_cons, List.not_mem_nil, or_false] at hd
    rcases hd with h | h | h | h | h | h | h <;> rw [h]
    · exact lt_good hx hg
    · decide +kernel
    · decide +kernel
    · decide +kernel
    · decide +kernel
    · decide +kernel
    · exact gv
  · rw [law_less hx a hv]
    exact Ok.ret (good_less hx hg)
  · have a1 : binD .add (.tup (xs.take v.toNat)) (.tup [xs[v.toNat]]) = some (.tup (xs.take v.toNat ++ [xs[v.toNat]])) := add_t (by rw [List.length_take, List.length_singleton]; omega)
    have a2 : binD .add (.tup (xs.take v.toNat ++ [xs[v.toNat]])) (.tup (xs.drop v.toNat)) = some (.tup ((xs.take v.toNat ++ [xs[v.toNat]]) ++ xs.drop v.toNat)) := add_t (by rw [List.length_append, List.length_take, List.length_singleton, List.length_drop]; omega)
    simp only [Oi.exec, ex_nm, ex_kI, ex_kB, ex_kN, ex_kS, ex_neg, ex_tup, ex_lst, ex_dct, ex_bin, ex_cmp, ex_chain, ex_and, ex_or, ex_not, ex_ite, ex_ix, ex_key, ex_sl, ex_fld, ex_call, ex_callK, ex_bi, ex_isA, ex_lzip, evL, evLP, evI, nm_0, nm_s, pe_nm, pkn_v, pkn_o, pkn_n, pkn_s, pe_kI, pe_kB, pe_kN, pe_kS, pe_neg, pe_tup, pe_lst', pe_dct, pe_bin, pe_cmp, pe_ite, pe_ix', pe_key, pe_sl, pe_fld, pe_call', pe_callK, pe_bi, pe_comp, pe_lzip, pe_caught, pe_and', pe_or', pe_not', pe_isA, pe_chain', pw_t, pw_f, set_0, set_s, ow_0, ow_s, app_0, app_s, stx_0, stx_s, frz_v, frz_o, frz_s, Option.map_some, ite_t, ite_f, seq_nx, seq_rt, seqK_nx, seqK_rt, seq_ex, seq_bnd, seq_ite, bnd_ite, res_nx, res_rt, tst_bnd, tst_ret, tst_ite, and_b, or_b, not_b, tru_b, ifs_nil, ifs_and, ifs_or, ifs_not, ifs_cmp, ifs_call, ite_bool, ite_and, ite_or, ite_andT, ite_orT, oe_nil, bnd_ret, bnd_bnd, bnd_rse, bnd_stk, lft_some, le_i, lt_i, ge_i, gt_i, eq_i, ne_i, is_n, nis_n, add_i, sub_i, len_t, len_l, len_sc, zip_t, zip_l, el_t, el_l, Gn_tb, Bf.f, oe_nm, oe_bin, oe_call, oe_kI, int_i, neg_i, tuple_l, tuple_t, list_t, list_l, ft_draw, ix_ti a hv, sl_to a (Nat.le_of_lt hv), sl_from a (Nat.le_of_lt hv), a1, a2]
    refine Ok.ret (tp_good (by simp only [List.length_append, List.length_take, List.length_singleton, List.length_drop, List.length_cons, List.length_nil]; omega) (all_app (all_app (fun y hy => hg y (List.mem_of_mem_take hy)) fun y hy => by rw [List.mem_singleton.mp hy]; exact gv) fun y hy => hg y (List.mem_of_mem_drop hy)))
  · simp only [Oi.exec, ex_nm, ex_kI, ex_kB, ex_kN, ex_kS, ex_neg, ex_tup, ex_lst, ex_dct, ex_bin, ex_cmp, ex_chain, ex_and, ex_or, ex_not, ex_ite, ex_ix, ex_key, ex_sl, ex_fld, ex_call, ex_callK, ex_bi, ex_isA, ex_lzip, evL, evLP, evI, nm_0, nm_s, pe_nm, pkn_v, pkn_o, pkn_n, pkn_s, pe_kI, pe_kB, pe_kN, pe_kS, pe_neg, pe_tup, pe_lst', pe_dct, pe_bin, pe_cmp, pe_ite, pe_ix', pe_key, pe_sl, pe_fld, pe_call', pe_callK, pe_bi, pe_comp, pe_lzip, pe_caught, pe_and', pe_or', pe_not', pe_isA, pe_chain', pw_t, pw_f, set_0, set_s, ow_0, ow_s, app_0, app_s, stx_0, stx_s, frz_v, frz_o, frz_s, Option.map_some, ite_t, ite_f, seq_nx, seq_rt, seqK_nx, seqK_rt, seq_ex, seq_bnd, seq_ite, bnd_ite, res_nx, res_rt, tst_bnd, tst_ret, tst_ite, and_b, or_b, not_b, tru_b, ifs_nil, ifs_and, ifs_or, ifs_not, ifs_cmp, ifs_call, ite_bool, ite_and, ite_or, ite_andT, ite_orT, oe_nil, bnd_ret, bnd_bnd, bnd_rse, bnd_stk, lft_some, le_i, lt_i, ge_i, gt_i, eq_i, ne_i, is_n, nis_n, add_i, sub_i, len_t, len_l, len_sc, zip_t, zip_l, el_t, el_l, Gn_tb, Bf.f, oe_nm, oe_bin, oe_call, oe_kI, int_i, neg_i, tuple_l, tuple_t, list_t, list_l, ft_draw, ek]
    have e3 : (ki.map D.int)[v.toNat] = .int (ki[v.toNat]'(by omega)) := by rw [List.getElem_map]
    simp only [Oi.exec, ex_nm, ex_kI, ex_kB, ex_kN, ex_kS, ex_neg, ex_tup, ex_lst, ex_dct, ex_bin, ex_cmp, ex_chain, ex_and, ex_or, ex_not, ex_ite, ex_ix, ex_key, ex_sl, ex_fld, ex_call, ex_callK, ex_bi, ex_isA, ex_lzip, evL, evLP, evI, nm_0, nm_s, pe_nm, pkn_v, pkn_o, pkn_n, pkn_s, pe_kI, pe_kB, pe_kN, pe_kS, pe_neg, pe_tup, pe_lst', pe_dct, pe_bin, pe_cmp, pe_ite, pe_ix', pe_key, pe_sl, pe_fld, pe_call', pe_callK, pe_bi, pe_comp, pe_lzip, pe_caught, pe_and', pe_or', pe_not', pe_isA, pe_chain', pw_t, pw_f, set_0, set_s, ow_0, ow_s, app_0, app_s, stx_0, stx_s, frz_v, frz_o, frz_s, Option.map_some, ite_t, ite_f, seq_nx, seq_rt, seqK_nx, seqK_rt, seq_ex, seq_bnd, seq_ite, bnd_ite, res_nx, res_rt, tst_bnd, tst_ret, tst_ite, and_b, or_b, not_b, tru_b, ifs_nil, ifs_and, ifs_or, ifs_not, ifs_cmp, ifs_call, ite_bool, ite_and, ite_or, ite_andT, ite_orT, oe_nil, bnd_ret, bnd_bnd, bnd_rse, bnd_stk, lft_some, le_i, lt_i, ge_i, gt_i, eq_i, ne_i, is_n, nis_n, add_i, sub_i, len_t, len_l, len_sc, zip_t, zip_l, el_t, el_l, Gn_tb, Bf.f, oe_nm, oe_bin, oe_call, oe_kI, int_i, neg_i, tuple_l, tuple_t, list_t, list_l, ft_draw, e3]
    refine Ok.callB (k := 0) (law_pickC (by show 9 ≤ 999; decide)) fun d hd => ?_
    have hd : good d = true := by
      simp only [List.mem_cons, List.not_mem_nil, or_false] at hd
      rcases hd with h | h | h | h | h | h | h | h | h | h <;> rw [h] <;> first | exact good_int | decide +kernel
    rw [law_put hx a hv]
    exact Ok.ret (good_set hx hg hd)
end K00

/-! k00, plain: the table that is drawn. -/
namespace K00
open PySem Oi
variable {W : Wd} {n : Nat}
theorem rowB_iff {ki : List Int} {xs : List D} : rowB ki (.tup xs) = true ↔ xs.length = ki.length ∧ ∀ (j : Nat) (k : Int) (x : D), ki[j]? = some k → xs[j]? = some x → cellB k x = true := by
  rw [show rowB ki (.tup xs) = (decide (xs.length = ki.length) && (ki.zip xs).all fun p => cellB p.1 p.2) from rfl, Bool.and_eq_true, decide_eq_true_eq, List.all_eq_true]
  refine ⟨fun ⟨h1, h2⟩ => ⟨h1, fun j k x hk hx => h2 (k, x) (List.mem_iff_getElem?.mpr ⟨j, List.getElem?_zip_eq_some.mpr ⟨hk, hx⟩⟩)⟩, fun ⟨h1, h2⟩ => ⟨h1, fun p hp => ?_⟩⟩
  obtain ⟨j, hj⟩ := List.mem_iff_getElem?.mp hp
  obtain ⟨a, b⟩ := List.getElem?_zip_eq_some.mp hj
  exact h2 j p.1 p.2 a b
theorem cell_good {k : Int} {x : D} (h : cellB k x = true) : good x = true := by
  cases x with
  | non => rw [good]
  | int i => rw [good]
  | _ => cases h
theorem row_good {ki : List Int} {xs : List D} (h : rowB ki (.tup xs) = true) : ∀ y ∈ xs, good y = true := fun y hy => by
  obtain ⟨h1, h2⟩ := rowB_iff.mp h
  obtain ⟨j, hj⟩ := List.mem_iff_getElem?.mp hy
  have hl : j < ki.length := by rw [← h1]; exact (List.getElem?_eq_some_iff.mp hj).1
  exact cell_good (h2 j ki[j] y (List.getElem?_eq_getElem hl) hj)
theorem rowB_set {ki : List Int} {xs : List D} {s : Nat} {d : D} (h : rowB ki (.tup xs) = true) (hd : ∀ k, ki[s]? = some k → cellB k d = true) : rowB ki (.tup (xs.set s d)) = true := by
  obtain ⟨h1, h2⟩ := rowB_iff.mp h
  refine rowB_iff.mpr ⟨by rw [List.length_set]; exact h1, fun j k x hk hx => ?_⟩
  by_cases e : s = j
  · subst e
    rw [List.getElem?_set_self (by rw [h1]; exact (List.getElem?_eq_some_iff.mp hk).1)] at hx
    cases hx
    exact hd k hk
  · rw [List.getElem?_set_ne e] at hx
    exact h2 j k x hk hx
theorem unread_set1 {rs : List D} {a s : Nat} {xs : List D} {d : D} (ha : a < rs.length) (hs : s < xs.length) (hd : d.isNon = false) : unreadAt (rs.set a (.tup (xs.set s d))) s = false := by
  unfold unreadAt
  rw [List.all_eq_false]
  refine ⟨_, List.mem_set ha _, ?_⟩
  have : cellAt (.tup (xs.set s d)) s = d := by
    show (xs.set s d).getD s .non = d
    rw [List.getD_eq_getElem?_getD, List.getElem?_set_self hs]
    rfl
  rw [this, hd]
  decide
theorem unread_set2 {rs : List D} {a s j : Nat} {xs : List D} {d : D} (ha : rs[a]? = some (.tup xs)) (hj : s ≠ j) : unreadAt (rs.set a (.tup (xs.set s d))) j = unreadAt rs j := by
  unfold unreadAt
  have e : ∀ ls : List D, (ls.all fun r => (cellAt r j).isNon) = (ls.map fun r => cellAt r j).all D.isNon := fun ls => by rw [List.all_map]; rfl
  rw [e, e, List.map_set]
  have e2 : cellAt (.tup (xs.set s d)) j = cellAt (.tup xs) j := by
    show (xs.set s d).getD j .non = xs.getD j .non
    rw [List.getD_eq_getElem?_getD, List.getD_eq_getElem?_getD, List.getElem?_set_ne hj]
  have e3 : (rs.map fun r => cellAt r j).set a (cellAt (.tup xs) j) = rs.map fun r => cellAt r j := by
    refine List.ext_getElem? fun i => ?_
    by_cases h : a = i
    · subst h
      rw [List.getElem?_set_self (by rw [List.length_map]; exact (List.getElem?_eq_some_iff.mp ha).1), List.getElem?_map, ha]
      rfl
    · rw [List.getElem?_set_ne h]
  rw [e2, e3]
theorem rng_i {i : Int} (h0 : 0 ≤ i) (h : i < 10000000) : rngD [.int i] = some ((List.range i.toNat).map fun (k : Nat) => .int k) := by
  have := rng_n (m := i.toNat) (sz_of (by omega))
  rw [Int.toNat_of_nonneg h0] at this
  exact this
theorem ixN_ok {k : Nat} {v : Int} (h0 : 0 ≤ v) (h : v.toNat < k) : L2.ixN k v = some v.toNat := by
  unfold L2.ixN
  rw [if_pos h0, if_pos (by omega)]
theorem ex_comp {G : Gm} {ρ : Rho} {elt iter ifs : I} {tg : List Nat} {tup : Bool} : ev G (.comp elt tg tup iter ifs) ρ = bnd (evI G true iter ρ) fun xs => iteM (sz xs.length) (bnd (compM (bindT (wipeR ρ tg) tg tup) (fun ρ => ifsM ifs (ev G ifs ρ)) (fun ρ => ev G elt ρ) xs) fun ys => ret (.lst ys)) stk := by rw [ev]
theorem ex_set {G : Gm} {ρ : Rho} {i : Nat} {e : I} : Oi.exec G (.set i e) ρ = bnd (ev G e ρ) fun d => bnd (lft (setR ρ i (.val d))) fun ρ => ret (.nx, ρ) := by rw [Oi.exec]
theorem two_ints {P : Int → Prop} : ∀ {xs ys : List D}, Two (fun _ y => ∃ u, y = .int u ∧ P u) xs ys → ∃ ki : List Int, ys = ki.map D.int ∧ ki.length = xs.length ∧ ∀ k ∈ ki, P k
  | _, _, .nil => ⟨[], rfl, rfl, fun _ h => by cases h⟩
  | _, _, .cons ⟨u, e, hu⟩ t => by
    obtain ⟨ki, e2, hl, hk⟩ := two_ints t
    refine ⟨u :: ki, by rw [e, e2]; rfl, by rw [List.length_cons, List.length_cons, hl], fun k h => ?_⟩
    rcases List.mem_cons.mp h with z | z
    · rw [z]; exact hu
    · exact hk k z
theorem two_row : ∀ {ki : List Int} {ys : List D}, Two (fun a y => ∃ k, a = D.int k ∧ cellB k y = true) (ki.map D.int) ys → rowB ki (.tup ys) = true
  | [], _, .nil => rfl
  | k :: ki, _, .cons (b := y) (bs := ys) ⟨k', e, hc⟩ t => by
    cases e
    obtain ⟨h1, h2⟩ := rowB_iff.mp (two_row (ki := ki) t)
    refine rowB_iff.mpr ⟨by rw [List.length_cons, List.length_cons, h1], fun j k2 x hk hx => ?_⟩
    cases j with
    | zero => cases hk; cases hx; exact hc
    | succ j => exact h2 j k2 x hk hx
structure Vd (ki : List Int) (rs : List D) (m : Nat) : Prop where
  l1 : 1 ≤ ki.length
  l8 : ki.length ≤ 8
  h6 : ∀ k ∈ ki, 1 ≤ k ∧ k ≤ 6
  m1 : 1 ≤ m
  m12 : m ≤ 12
  rl : rs.length = m
  row : ∀ r ∈ rs, rowB ki r = true
theorem Vd.rect {ki : List Int} {rs : List D} {m : Nat} (v : Vd ki rs m) : Rect ki.length rs := rect_of (List.all_eq_true.mpr v.row)
theorem Vd.at_ {ki : List Int} {rs : List D} {m a : Nat} (v : Vd ki rs m) (h : a < rs.length) : ∃ xs, rs[a] = .tup xs ∧ xs.length = ki.length ∧ rowB ki (.tup xs) = true := by
  have hr := v.row _ (List.getElem_mem h)
  obtain ⟨xs, e, hl, _⟩ := rowB_tup hr
  exact ⟨xs, e, hl, by rw [← e]; exact hr⟩
theorem Vd.set {ki : List Int} {rs : List D} {m a : Nat} {r : D} (v : Vd ki rs m) (h : rowB ki r = true) : Vd ki (rs.set a r) m :=
  ⟨v.l1, v.l8, v.h6, v.m1, v.m12, by rw [List.length_set]; exact v.rl, fun x hx => (List.mem_or_eq_of_mem_set hx).elim (v.row x) fun z => by rw [z]; exact h⟩
/-- one turn of the loop that fills -/
def slots (ki : List Int) (rs : List D) (m : Nat) (s4 s6 : Sl) : Rho := [.val .st, .val (kd ki), .val (.int m), .own rs, s4, .no, s6, .no, .no]
def fillS : Sm := .seq (.ifs (.cmp .eq (.comp (.kI 1) [8] false (.itS (.nm 3)) (.cmp .notN (.ix (.nm 8) (.nm 4)) .kN)) (.lst .nil)) (.seq (.set 6 (.call "_law_draw" (.cons (.nm 0) (.cons (.nm 2) .nil)))) (.seq (.stx 3 (.nm 6) (.call "_law_put" (.cons (.ix (.nm 3) (.nm 6)) (.cons (.nm 4) (.cons (.call "_law_draw" (.cons (.nm 0) (.cons (.ix (.nm 1) (.nm 4)) .nil))) .nil))))) .nil)) .nil) .nil
theorem fill_turn {ki : List Int} {rs : List D} {m i : Nat} {s6 : Sl} (v : Vd ki rs m) (hi : i < ki.length) (hu : ∀ j, j < i → unreadAt rs j = false) :
    Ok 2 (Oi.exec (Gn W (n + 1)) fillS (slots ki rs m (.val (.int i)) s6)) (fun r => r.1 = .nx ∧ ∃ rs' s4 s6, r.2 = slots ki rs' m s4 s6 ∧ Vd ki rs' m ∧ ∀ j, j < i + 1 → unreadAt rs' j = false) := by
  unfold fillS slots
  have hz : sz rs.length = true := sz_of (by have := v.m12; have := v.rl; omega)
  have hc : ev (Gn W (n + 1)) (.comp (.kI 1) [8] false (.itS (.nm 3)) (.cmp .notN (.ix (.nm 8) (.nm 4)) .kN)) [.val .st, .val (kd ki), .val (.int m), .own rs, .val (.int i), .no, s6, .no, .no] = ret (.lst (((rs.filter fun r => !(cellAt r i).isNon).map fun _ => (1 : Int)).map D.int)) := by
    refine ev_comp_ones _ (by simp only [Oi.exec, ex_nm, ex_kI, ex_kB, ex_kN, ex_kS, ex_neg, ex_tup, ex_lst, ex_dct, ex_bin, ex_cmp, ex_chain, ex_and, ex_or, ex_not, ex_ite, ex_ix, ex_key, ex_sl, ex_fld, ex_call, ex_callK, ex_bi, ex_isA, ex_lzip, evL, evLP, evI, nm_0, nm_s, pe_nm, pkn_v, pkn_o, pkn_n, pkn_s, pe_kI, pe_kB, pe_kN, pe_kS, pe_neg, pe_tup, pe_lst', pe_dct, pe_bin, pe_cmp, pe_ite, pe_ix', pe_key, pe_sl, pe_fld, pe_call', pe_callK, pe_bi, pe_comp, pe_lzip, pe_caught, pe_and', pe_or', pe_not', pe_isA, pe_chain', pw_t, pw_f, set_0, set_s, ow_0, ow_s, app_0, app_s, stx_0, stx_s, frz_v, frz_o, frz_s, Option.map_some, ite_t, ite_f, seq_nx, seq_rt, seqK_nx, seqK_rt, seq_ex, seq_bnd, seq_ite, bnd_ite, res_nx, res_rt, tst_bnd, tst_ret, tst_ite, and_b, or_b, not_b, tru_b, ifs_nil, ifs_and, ifs_or, ifs_not, ifs_cmp, ifs_call, ite_bool, ite_and, ite_or, ite_andT, ite_orT, oe_nil, bnd_ret, bnd_bnd, bnd_rse, bnd_stk, lft_some, le_i, lt_i, ge_i, gt_i, eq_i, ne_i, is_n, nis_n, add_i, sub_i, len_t, len_l, len_sc, zip_t, zip_l, el_t, el_l, Gn_tb, Bf.f, oe_nm, oe_bin, oe_call, oe_kI, int_i, neg_i, tuple_l, tuple_t, list_t, list_l, ft_draw]) hz fun r hr => ?_
    obtain ⟨xs, rfl, hxs⟩ := v.rect r hr
    refine ⟨[.val .st, .val (kd ki), .val (.int m), .own rs, .val (.int i), .no, s6, .no, .val (.tup xs)], rfl, ?_⟩
    have e1 : nmD (.own rs :: .val (.int i) :: .no :: s6 :: .no :: [.val (.tup xs)]) 5 = some (.tup xs) := rfl
    simp only [Oi.exec, ex_nm, ex_kI, ex_kB, ex_kN, ex_kS, ex_neg, ex_tup, ex_lst, ex_dct, ex_bin, ex_cmp, ex_chain, ex_and, ex_or, ex_not, ex_ite, ex_ix, ex_key, ex_sl, ex_fld, ex_call, ex_callK, ex_bi, ex_isA, ex_lzip, evL, evLP, evI, nm_0, nm_s, pe_nm, pkn_v, pkn_o, pkn_n, pkn_s, pe_kI, pe_kB, pe_kN, pe_kS, pe_neg, pe_tup, pe_lst', pe_dct, pe_bin, pe_cmp, pe_ite, pe_ix', pe_key, pe_sl, pe_fld, pe_call', pe_callK, pe_bi, pe_comp, pe_lzip, pe_caught, pe_and', pe_or', pe_not', pe_isA, pe_chain', pw_t, pw_f, set_0, set_s, ow_0, ow_s, app_0, app_s, stx_0, stx_s, frz_v, frz_o, frz_s, Option.map_some, ite_t, ite_f, seq_nx, seq_rt, seqK_nx, seqK_rt, seq_ex, seq_bnd, seq_ite, bnd_ite, res_nx, res_rt, tst_bnd, tst_ret, tst_ite, and_b, or_b, not_b, tru_b, ifs_nil, ifs_and, ifs_or, ifs_not, ifs_cmp, ifs_call, ite_bool, ite_and, ite_or, ite_andT, ite_orT, oe_nil, bnd_ret, bnd_bnd, bnd_rse, bnd_stk, lft_some, le_i, lt_i, ge_i, gt_i, eq_i, ne_i, is_n, nis_n, add_i, sub_i, len_t, len_l, len_sc, zip_t, zip_l, el_t, el_l, Gn_tb, Bf.f, oe_nm, oe_bin, oe_call, oe_kI, int_i, neg_i, tuple_l, tuple_t, list_t, list_l, ft_draw, cell_ix (show i < xs.length by omega)]
  simp only [Oi.exec, ex_nm, ex_kI, ex_kB, ex_kN, ex_kS, ex_neg, ex_tup, ex_lst, ex_dct, ex_bin, ex_cmp, ex_chain, ex_and, ex_or, ex_not, ex_ite, ex_ix, ex_key, ex_sl, ex_fld, ex_call, ex_callK, ex_bi, ex_isA, ex_lzip, evL, evLP, evI, nm_0, nm_s, pe_nm, pkn_v, pkn_o, pkn_n, pkn_s, pe_kI, pe_kB, pe_kN, pe_kS, pe_neg, pe_tup, pe_lst', pe_dct, pe_bin, pe_cmp, pe_ite, pe_ix', pe_key, pe_sl, pe_fld, pe_call', pe_callK, pe_bi, pe_comp, pe_lzip, pe_caught, pe_and', pe_or', pe_not', pe_isA, pe_chain', pw_t, pw_f, set_0, set_s, ow_0, ow_s, app_0, app_s, stx_0, stx_s, frz_v, frz_o, frz_s, Option.map_some, ite_t, ite_f, seq_nx, seq_rt, seqK_nx, seqK_rt, seq_ex, seq_bnd, seq_ite, bnd_ite, res_nx, res_rt, tst_bnd, tst_ret, tst_ite, and_b, or_b, not_b, tru_b, ifs_nil, ifs_and, ifs_or, ifs_not, ifs_cmp, ifs_call, ite_bool, ite_and, ite_or, ite_andT, ite_orT, oe_nil, bnd_ret, bnd_bnd, bnd_rse, bnd_stk, lft_some, le_i, lt_i, ge_i, gt_i, eq_i, ne_i, is_n, nis_n, add_i, sub_i, len_t, len_l, len_sc, zip_t, zip_l, el_t, el_l, Gn_tb, Bf.f, oe_nm, oe_bin, oe_call, oe_kI, int_i, neg_i, tuple_l, tuple_t, list_t, list_l, ft_draw, hc, cmp_nil, ones_empty, unread_not]
  cases hU : unreadAt rs i with
  | false =>
    simp only [Oi.exec, ex_nm, ex_kI, ex_kB, ex_kN, ex_kS, ex_neg, ex_tup, ex_lst, ex_dct, ex_bin, ex_cmp, ex_chain, ex_and, ex_or, ex_not, ex_ite, ex_ix, ex_key, ex_sl, ex_fld, ex_call, ex_callK, ex_bi, ex_isA, ex_lzip, evL, evLP, evI, nm_0, nm_s, pe_nm, pkn_v, pkn_o, pkn_n, pkn_s, pe_kI, pe_kB, pe_kN, pe_kS, pe_neg, pe_tup, pe_lst', pe_dct, pe_bin, pe_cmp, pe_ite, pe_ix', pe_key, pe_sl, pe_fld, pe_call', pe_callK, pe_bi, pe_comp, pe_lzip, pe_caught, pe_and', pe_or', pe_not', pe_isA, pe_chain', pw_t, pw_f, set_0, set_s, ow_0, ow_s, app_0, app_s, stx_0, stx_s, frz_v, frz_o, frz_s, Option.map_some, ite_t, ite_f, seq_nx, seq_rt, seqK_nx, seqK_rt, seq_ex, seq_bnd, seq_ite, bnd_ite, res_nx, res_rt, tst_bnd, tst_ret, tst_ite, and_b, or_b, not_b, tru_b, ifs_nil, ifs_and, ifs_or, ifs_not, ifs_cmp, ifs_call, ite_bool, ite_and, ite_or, ite_andT, ite_orT, oe_nil, bnd_ret, bnd_bnd, bnd_rse, bnd_stk, lft_some, le_i, lt_i, ge_i, gt_i, eq_i, ne_i, is_n, nis_n, add_i, sub_i, len_t, len_l, len_sc, zip_t, zip_l, el_t, el_l, Gn_tb, Bf.f, oe_nm, oe_bin, oe_call, oe_kI, int_i, neg_i, tuple_l, tuple_t, list_t, list_l, ft_draw]
    refine Ok.ret ⟨rfl, rs, _, _, rfl, v, fun j hj => ?_⟩
    by_cases e : j = i
    · rw [e]; exact hU
    · exact hu j (by omega)
  | true =>
    have m1 := v.m1
    have m12 := v.m12
    simp only [Oi.exec, ex_nm, ex_kI, ex_kB, ex_kN, ex_kS, ex_neg, ex_tup, ex_lst, ex_dct, ex_bin, ex_cmp, ex_chain, ex_and, ex_or, ex_not, ex_ite, ex_ix, ex_key, ex_sl, ex_fld, ex_call, ex_callK, ex_bi, ex_isA, ex_lzip, evL, evLP, evI, nm_0, nm_s, pe_nm, pkn_v, pkn_o, pkn_n, pkn_s, pe_kI, pe_kB, pe_kN, pe_kS, pe_neg, pe_tup, pe_lst', pe_dct, pe_bin, pe_cmp, pe_ite, pe_ix', pe_key, pe_sl, pe_fld, pe_call', pe_callK, pe_bi, pe_comp, pe_lzip, pe_caught, pe_and', pe_or', pe_not', pe_isA, pe_chain', pw_t, pw_f, set_0, set_s, ow_0, ow_s, app_0, app_s, stx_0, stx_s, frz_v, frz_o, frz_s, Option.map_some, ite_t, ite_f, seq_nx, seq_rt, seqK_nx, seqK_rt, seq_ex, seq_bnd, seq_ite, bnd_ite, res_nx, res_rt, tst_bnd, tst_ret, tst_ite, and_b, or_b, not_b, tru_b, ifs_nil, ifs_and, ifs_or, ifs_not, ifs_cmp, ifs_call, ite_bool, ite_and, ite_or, ite_andT, ite_orT, oe_nil, bnd_ret, bnd_bnd, bnd_rse, bnd_stk, lft_some, le_i, lt_i, ge_i, gt_i, eq_i, ne_i, is_n, nis_n, add_i, sub_i, len_t, len_l, len_sc, zip_t, zip_l, el_t, el_l, Gn_tb, Bf.f, oe_nm, oe_bin, oe_call, oe_kI, int_i, neg_i, tuple_l, tuple_t, list_t, list_l, ft_draw]
    refine Ok.drawB (by omega) (by omega) fun a a0 a1 => ?_
    have ha : a.toNat < rs.length := by have := v.rl; omega
    obtain ⟨xs, e1, e2, e3⟩ := v.at_ ha
    have hk : (ki.map D.int)[i]'(by rw [List.length_map]; exact hi) = .int ki[i] := by rw [List.getElem_map]
    have hik : ixD (kd ki) (.int i) = some (.int ki[i]) := by
      rw [← hk]
      exact ix_t (by rw [List.length_map]; exact hi)
    obtain ⟨k1, k6⟩ := v.h6 ki[i] (List.getElem_mem hi)
    simp only [Oi.exec, ex_nm, ex_kI, ex_kB, ex_kN, ex_kS, ex_neg, ex_tup, ex_lst, ex_dct, ex_bin, ex_cmp, ex_chain, ex_and, ex_or, ex_not, ex_ite, ex_ix, ex_key, ex_sl, ex_fld, ex_call, ex_callK, ex_bi, ex_isA, ex_lzip, evL, evLP, evI, nm_0, nm_s, pe_nm, pkn_v, pkn_o, pkn_n, pkn_s, pe_kI, pe_kB, pe_kN, pe_kS, pe_neg, pe_tup, pe_lst', pe_dct, pe_bin, pe_cmp, pe_ite, pe_ix', pe_key, pe_sl, pe_fld, pe_call', pe_callK, pe_bi, pe_comp, pe_lzip, pe_caught, pe_and', pe_or', pe_not', pe_isA, pe_chain', pw_t, pw_f, set_0, set_s, ow_0, ow_s, app_0, app_s, stx_0, stx_s, frz_v, frz_o, frz_s, Option.map_some, ite_t, ite_f, seq_nx, seq_rt, seqK_nx, seqK_rt, seq_ex, seq_bnd, seq_ite, bnd_ite, res_nx, res_rt, tst_bnd, tst_ret, tst_ite, and_b, or_b, not_b, tru_b, ifs_nil, ifs_and, ifs_or, ifs_not, ifs_cmp, ifs_call, ite_bool, ite_and, ite_or, ite_andT, ite_orT, oe_nil, bnd_ret, bnd_bnd, bnd_rse, bnd_stk, lft_some, le_i, lt_i, ge_i, gt_i, eq_i, ne_i, is_n, nis_n, add_i, sub_i, len_t, len_l, len_sc, zip_t, zip_l, el_t, el_l, Gn_tb, Bf.f, oe_nm, oe_bin, oe_call, oe_kI, int_i, neg_i, tuple_l, tuple_t, list_t, list_l, ft_draw, ix_li a0 ha, e1, hik]
    refine Ok.drawB (k := 0) (by omega) (by omega) fun u u0 u1 => ?_
    have hx : xs.length ≤ 1000 := by have := v.l8; omega
    rw [law_put hx (by omega) (by rw [Int.toNat_natCast, e2]; exact hi), Int.toNat_natCast]
    simp only [Oi.exec, ex_nm, ex_kI, ex_kB, ex_kN, ex_kS, ex_neg, ex_tup, ex_lst, ex_dct, ex_bin, ex_cmp, ex_chain, ex_and, ex_or, ex_not, ex_ite, ex_ix, ex_key, ex_sl, ex_fld, ex_call, ex_callK, ex_bi, ex_isA, ex_lzip, evL, evLP, evI, nm_0, nm_s, pe_nm, pkn_v, pkn_o, pkn_n, pkn_s, pe_kI, pe_kB, pe_kN, pe_kS, pe_neg, pe_tup, pe_lst', pe_dct, pe_bin, pe_cmp, pe_ite, pe_ix', pe_key, pe_sl, pe_fld, pe_call', pe_callK, pe_bi, pe_comp, pe_lzip, pe_caught, pe_and', pe_or', pe_not', pe_isA, pe_chain', pw_t, pw_f, set_0, set_s, ow_0, ow_s, app_0, app_s, stx_0, stx_s, frz_v, frz_o, frz_s, Option.map_some, ite_t, ite_f, seq_nx, seq_rt, seqK_nx, seqK_rt, seq_ex, seq_bnd, seq_ite, bnd_ite, res_nx, res_rt, tst_bnd, tst_ret, tst_ite, and_b, or_b, not_b, tru_b, ifs_nil, ifs_and, ifs_or, ifs_not, ifs_cmp, ifs_call, ite_bool, ite_and, ite_or, ite_andT, ite_orT, oe_nil, bnd_ret, bnd_bnd, bnd_rse, bnd_stk, lft_some, le_i, lt_i, ge_i, gt_i, eq_i, ne_i, is_n, nis_n, add_i, sub_i, len_t, len_l, len_sc, zip_t, zip_l, el_t, el_l, Gn_tb, Bf.f, oe_nm, oe_bin, oe_call, oe_kI, int_i, neg_i, tuple_l, tuple_t, list_t, list_l, ft_draw, ixN_ok a0 ha]
    have hd : cellB ki[i] (.int u) = true := by
      show (false || (decide (0 ≤ u) && decide (u ≤ ki[i] - 1))) = true
      rw [decide_eq_true u0, decide_eq_true (by omega)]
      rfl
    have hr : rowB ki (.tup (xs.set i (.int u))) = true := rowB_set e3 fun k hk' => by
      rw [List.getElem?_eq_getElem hi] at hk'
      cases hk'
      exact hd
    refine Ok.ret ⟨rfl, rs.set a.toNat (.tup (xs.set i (.int u))), _, _, rfl, v.set hr, fun j hj => ?_⟩
    by_cases e : j = i
    · rw [e]
      exact unread_set1 ha (by rw [e2]; exact hi) rfl
    · rw [unread_set2 (by rw [List.getElem?_eq_getElem ha, e1]) (fun z => e z.symm)]
      exact hu j (by omega)
/-! ### all of it -/
def comp1 : I := .comp (.bin .add (.kI 1) (.call "_law_draw" (.cons (.nm 0) (.cons (.kI 6) .nil)))) [5] false (.itR (.cons (.bin .add (.kI 1) (.call "_law_draw" (.cons (.nm 0) (.cons (.kI 8) .nil)))) .nil)) .nil
def comp2 : I := .comp (.call "_law_cell" (.cons (.nm 0) (.cons (.nm 7) .nil))) [7] false (.itS (.nm 1)) .nil
def comp3 : I := .comp (.bi .tuple (.cons comp2 .nil)) [5] false (.itR (.cons (.nm 2) .nil)) .nil
def forS : Sm := .for_ [4] false (.itR (.cons (.bi .len (.cons (.nm 1) .nil)) .nil)) fillS
theorem wide_eq : bg_law_wide = .seq (.set 1 (.bi .tuple (.cons comp1 .nil))) (.seq (.set 2 (.bin .add (.kI 1) (.call "_law_draw" (.cons (.nm 0) (.cons (.kI 12) .nil))))) (.seq (.setO 3 comp3) (.seq (.stx 3 (.call "_law_draw" (.cons (.nm 0) (.cons (.nm 2) .nil))) (.ix (.nm 3) (.call "_law_draw" (.cons (.nm 0) (.cons (.nm 2) .nil)))))
  (.seq forS (.seq (.rt (.dct [.s "kinds", .s "rows"] (.cons (.nm 1) (.cons (.bi .tuple (.cons (.nm 3) .nil)) .nil)))) .nil))))) := rfl
theorem pe_c1 {ρ : Rho} {m : M D} : pe ρ comp1 m = m := rfl
theorem pe_c2 {ρ : Rho} {m : M D} : pe ρ comp2 m = m := rfl
theorem ok_comp1 : Ok 9 (ev (Gn W (n + 1)) comp1 [.val .st, .no, .no, .no, .no, .no, .no, .no, .no]) (fun d => ∃ ki : List Int, d = .lst (ki.map D.int) ∧ 1 ≤ ki.length ∧ ki.length ≤ 8 ∧ ∀ k ∈ ki, 1 ≤ k ∧ k ≤ 6) := by
  unfold comp1
  rw [ex_comp]
  simp only [Oi.exec, ex_nm, ex_kI, ex_kB, ex_kN, ex_kS, ex_neg, ex_tup, ex_lst, ex_dct, ex_bin, ex_cmp, ex_chain, ex_and, ex_or, ex_not, ex_ite, ex_ix, ex_key, ex_sl, ex_fld, ex_call, ex_callK, ex_bi, ex_isA, ex_lzip, evL, evLP, evI, nm_0, nm_s, pe_nm, pkn_v, pkn_o, pkn_n, pkn_s, pe_kI, pe_kB, pe_kN, pe_kS, pe_neg, pe_tup, pe_lst', pe_dct, pe_bin, pe_cmp, pe_ite, pe_ix', pe_key, pe_sl, pe_fld, pe_call', pe_callK, pe_bi, pe_comp, pe_lzip, pe_caught, pe_and', pe_or', pe_not', pe_isA, pe_chain', pw_t, pw_f, set_0, set_s, ow_0, ow_s, app_0, app_s, stx_0, stx_s, frz_v, frz_o, frz_s, Option.map_some, ite_t, ite_f, seq_nx, seq_rt, seqK_nx, seqK_rt, seq_ex, seq_bnd, seq_ite, bnd_ite, res_nx, res_rt, tst_bnd, tst_ret, tst_ite, and_b, or_b, not_b, tru_b, ifs_nil, ifs_and, ifs_or, ifs_not, ifs_cmp, ifs_call, ite_bool, ite_and, ite_or, ite_andT, ite_orT, oe_nil, bnd_ret, bnd_bnd, bnd_rse, bnd_stk, lft_some, le_i, lt_i, ge_i, gt_i, eq_i, ne_i, is_n, nis_n, add_i, sub_i, len_t, len_l, len_sc, zip_t, zip_l, el_t, el_l, Gn_tb, Bf.f, oe_nm, oe_bin, oe_call, oe_kI, int_i, neg_i, tuple_l, tuple_t, list_t, list_l, ft_draw]
  refine Ok.drawB (by decide) (by decide) fun v a b => ?_
  have hl : ((List.range (1 + v).toNat).map fun (k : Nat) => D.int k).length = (1 + v).toNat := by rw [List.length_map, List.length_range]
  simp only [Oi.exec, ex_nm, ex_kI, ex_kB, ex_kN, ex_kS, ex_neg, ex_tup, ex_lst, ex_dct, ex_bin, ex_cmp, ex_chain, ex_and, ex_or, ex_not, ex_ite, ex_ix, ex_key, ex_sl, ex_fld, ex_call, ex_callK, ex_bi, ex_isA, ex_lzip, evL, evLP, evI, nm_0, nm_s, pe_nm, pkn_v, pkn_o, pkn_n, pkn_s, pe_kI, pe_kB, pe_kN, pe_kS, pe_neg, pe_tup, pe_lst', pe_dct, pe_bin, pe_cmp, pe_ite, pe_ix', pe_key, pe_sl, pe_fld, pe_call', pe_callK, pe_bi, pe_comp, pe_lzip, pe_caught, pe_and', pe_or', pe_not', pe_isA, pe_chain', pw_t, pw_f, set_0, set_s, ow_0, ow_s, app_0, app_s, stx_0, stx_s, frz_v, frz_o, frz_s, Option.map_some, ite_t, ite_f, seq_nx, seq_rt, seqK_nx, seqK_rt, seq_ex, seq_bnd, seq_ite, bnd_ite, res_nx, res_rt, tst_bnd, tst_ret, tst_ite, and_b, or_b, not_b, tru_b, ifs_nil, ifs_and, ifs_or, ifs_not, ifs_cmp, ifs_call, ite_bool, ite_and, ite_or, ite_andT, ite_orT, oe_nil, bnd_ret, bnd_bnd, bnd_rse, bnd_stk, lft_some, le_i, lt_i, ge_i, gt_i, eq_i, ne_i, is_n, nis_n, add_i, sub_i, len_t, len_l, len_sc, zip_t, zip_l, el_t, el_l, Gn_tb, Bf.f, oe_nm, oe_bin, oe_call, oe_kI, int_i, neg_i, tuple_l, tuple_t, list_t, list_l, ft_draw, rng_i (show 0 ≤ 1 + v by omega) (show 1 + v < 10000000 by omega), hl, sz_of (show (1 + v).toNat < 10000000 by omega)]
  refine Ok.callB (k := 0) (j := 8) (P := fun ys => ∃ ki : List Int, ys = ki.map D.int ∧ ki.length = (1 + v).toNat ∧ ∀ k ∈ ki, 1 ≤ k ∧ k ≤ 6) ?_ fun ys ⟨ki, e, h1, h2⟩ => Ok.ret ⟨ki, by rw [e], by omega, by omega, h2⟩
  refine (Ok.comp (k := 1) (R := fun _ y => ∃ u, y = .int u ∧ (1 ≤ u ∧ u ≤ 6)) fun x hx => ⟨[.val .st, .no, .no, .no, .no, .val x, .no, .no, .no], rfl, rfl, ?_⟩).mono (fun ys hys => ?_) (by rw [hl]; omega)
  · simp only [Oi.exec, ex_nm, ex_kI, ex_kB, ex_kN, ex_kS, ex_neg, ex_tup, ex_lst, ex_dct, ex_bin, ex_cmp, ex_chain, ex_and, ex_or, ex_not, ex_ite, ex_ix, ex_key, ex_sl, ex_fld, ex_call, ex_callK, ex_bi, ex_isA, ex_lzip, evL, evLP, evI, nm_0, nm_s, pe_nm, pkn_v, pkn_o, pkn_n, pkn_s, pe_kI, pe_kB, pe_kN, pe_kS, pe_neg, pe_tup, pe_lst', pe_dct, pe_bin, pe_cmp, pe_ite, pe_ix', pe_key, pe_sl, pe_fld, pe_call', pe_callK, pe_bi, pe_comp, pe_lzip, pe_caught, pe_and', pe_or', pe_not', pe_isA, pe_chain', pw_t, pw_f, set_0, set_s, ow_0, ow_s, app_0, app_s, stx_0, stx_s, frz_v, frz_o, frz_s, Option.map_some, ite_t, ite_f, seq_nx, seq_rt, seqK_nx, seqK_rt, seq_ex, seq_bnd, seq_ite, bnd_ite, res_nx, res_rt, tst_bnd, tst_ret, tst_ite, and_b, or_b, not_b, tru_b, ifs_nil, ifs_and, ifs_or, ifs_not, ifs_cmp, ifs_call, ite_bool, ite_and, ite_or, ite_andT, ite_orT, oe_nil, bnd_ret, bnd_bnd, bnd_rse, bnd_stk, lft_some, le_i, lt_i, ge_i, gt_i, eq_i, ne_i, is_n, nis_n, add_i, sub_i, len_t, len_l, len_sc, zip_t, zip_l, el_t, el_l, Gn_tb, Bf.f, oe_nm, oe_bin, oe_call, oe_kI, int_i, neg_i, tuple_l, tuple_t, list_t, list_l, ft_draw]
    refine Ok.drawB (k := 0) (by decide) (by decide) fun u c d => ?_
    simp only [Oi.exec, ex_nm, ex_kI, ex_kB, ex_kN, ex_kS, ex_neg, ex_tup, ex_lst, ex_dct, ex_bin, ex_cmp, ex_chain, ex_and, ex_or, ex_not, ex_ite, ex_ix, ex_key, ex_sl, ex_fld, ex_call, ex_callK, ex_bi, ex_isA, ex_lzip, evL, evLP, evI, nm_0, nm_s, pe_nm, pkn_v, pkn_o, pkn_n, pkn_s, pe_kI, pe_kB, pe_kN, pe_kS, pe_neg, pe_tup, pe_lst', pe_dct, pe_bin, pe_cmp, pe_ite, pe_ix', pe_key, pe_sl, pe_fld, pe_call', pe_callK, pe_bi, pe_comp, pe_lzip, pe_caught, pe_and', pe_or', pe_not', pe_isA, pe_chain', pw_t, pw_f, set_0, set_s, ow_0, ow_s, app_0, app_s, stx_0, stx_s, frz_v, frz_o, frz_s, Option.map_some, ite_t, ite_f, seq_nx, seq_rt, seqK_nx, seqK_rt, seq_ex, seq_bnd, seq_ite, bnd_ite, res_nx, res_rt, tst_bnd, tst_ret, tst_ite, and_b, or_b, not_b, tru_b, ifs_nil, ifs_and, ifs_or, ifs_not, ifs_cmp, ifs_call, ite_bool, ite_and, ite_or, ite_andT, ite_orT, oe_nil, bnd_ret, bnd_bnd, bnd_rse, bnd_stk, lft_some, le_i, lt_i, ge_i, gt_i, eq_i, ne_i, is_n, nis_n, add_i, sub_i, len_t, len_l, len_sc, zip_t, zip_l, el_t, el_l, Gn_tb, Bf.f, oe_nm, oe_bin, oe_call, oe_kI, int_i, neg_i, tuple_l, tuple_t, list_t, list_l, ft_draw]
    exact Ok.ret ⟨1 + u, rfl, by omega, by omega⟩
  · obtain ⟨ki, e, h1, h2⟩ := two_ints hys
    exact ⟨ki, e, by rw [h1, hl], h2⟩
theorem ok_comp2 {ki : List Int} {s2 s3 s4 s5 s6 s7 s8 : Sl} (h8 : ki.length ≤ 8) (h6 : ∀ k ∈ ki, 1 ≤ k ∧ k ≤ 6) : Ok 16 (ev (Gn W (n + 2)) comp2 [.val .st, .val (kd ki), s2, s3, s4, s5, s6, s7, s8]) (fun d => ∃ ys, d = .lst ys ∧ rowB ki (.tup ys) = true) := by
  unfold comp2
  rw [ex_comp]
  have hl : (ki.map D.int).length = ki.length := List.length_map _
  have he : elems (kd ki) = some (ki.map D.int) := rfl
  simp only [Oi.exec, ex_nm, ex_kI, ex_kB, ex_kN, ex_kS, ex_neg, ex_tup, ex_lst, ex_dct, ex_bin, ex_cmp, ex_chain, ex_and, ex_or, ex_not, ex_ite, ex_ix, ex_key, ex_sl, ex_fld, ex_call, ex_callK, ex_bi, ex_isA, ex_lzip, evL, evLP, evI, nm_0, nm_s, pe_nm, pkn_v, pkn_o, pkn_n, pkn_s, pe_kI, pe_kB, pe_kN, pe_kS, pe_neg, pe_tup, pe_lst', pe_dct, pe_bin, pe_cmp, pe_ite, pe_ix', pe_key, pe_sl, pe_fld, pe_call', pe_callK, pe_bi, pe_comp, pe_lzip, pe_caught, pe_and', pe_or', pe_not', pe_isA, pe_chain', pw_t, pw_f, set_0, set_s, ow_0, ow_s, app_0, app_s, stx_0, stx_s, frz_v, frz_o, frz_s, Option.map_some, ite_t, ite_f, seq_nx, seq_rt, seqK_nx, seqK_rt, seq_ex, seq_bnd, seq_ite, bnd_ite, res_nx, res_rt, tst_bnd, tst_ret, tst_ite, and_b, or_b, not_b, tru_b, ifs_nil, ifs_and, ifs_or, ifs_not, ifs_cmp, ifs_call, ite_bool, ite_and, ite_or, ite_andT, ite_orT, oe_nil, bnd_ret, bnd_bnd, bnd_rse, bnd_stk, lft_some, le_i, lt_i, ge_i, gt_i, eq_i, ne_i, is_n, nis_n, add_i, sub_i, len_t, len_l, len_sc, zip_t, zip_l, el_t, el_l, Gn_tb, Bf.f, oe_nm, oe_bin, oe_call, oe_kI, int_i, neg_i, tuple_l, tuple_t, list_t, list_l, ft_draw, he, hl, sz_of (show ki.length < 10000000 by omega)]
  refine Ok.callB (k := 0) (j := 16) (P := fun ys => rowB ki (.tup ys) = true) ?_ fun ys h => Ok.ret ⟨ys, rfl, h⟩
  refine (Ok.comp (k := 2) (R := fun a y => ∃ k, a = D.int k ∧ cellB k y = true) fun x hx => ?_).mono (fun ys hys => two_row hys) (by rw [hl]; omega)
  obtain ⟨k, hk, rfl⟩ := List.mem_map.mp hx
  refine ⟨[.val .st, .val (kd ki), s2, s3, s4, s5, s6, .val (.int k), s8], rfl, rfl, ?_⟩
  simp only [Oi.exec, ex_nm, ex_kI, ex_kB, ex_kN, ex_kS, ex_neg, ex_tup, ex_lst, ex_dct, ex_bin, ex_cmp, ex_chain, ex_and, ex_or, ex_not, ex_ite, ex_ix, ex_key, ex_sl, ex_fld, ex_call, ex_callK, ex_bi, ex_isA, ex_lzip, evL, evLP, evI, nm_0, nm_s, pe_nm, pkn_v, pkn_o, pkn_n, pkn_s, pe_kI, pe_kB, pe_kN, pe_kS, pe_neg, pe_tup, pe_lst', pe_dct, pe_bin, pe_cmp, pe_ite, pe_ix', pe_key, pe_sl, pe_fld, pe_call', pe_callK, pe_bi, pe_comp, pe_lzip, pe_caught, pe_and', pe_or', pe_not', pe_isA, pe_chain', pw_t, pw_f, set_0, set_s, ow_0, ow_s, app_0, app_s, stx_0, stx_s, frz_v, frz_o, frz_s, Option.map_some, ite_t, ite_f, seq_nx, seq_rt, seqK_nx, seqK_rt, seq_ex, seq_bnd, seq_ite, bnd_ite, res_nx, res_rt, tst_bnd, tst_ret, tst_ite, and_b, or_b, not_b, tru_b, ifs_nil, ifs_and, ifs_or, ifs_not, ifs_cmp, ifs_call, ite_bool, ite_and, ite_or, ite_andT, ite_orT, oe_nil, bnd_ret, bnd_bnd, bnd_rse, bnd_stk, lft_some, le_i, lt_i, ge_i, gt_i, eq_i, ne_i, is_n, nis_n, add_i, sub_i, len_t, len_l, len_sc, zip_t, zip_l, el_t, el_l, Gn_tb, Bf.f, oe_nm, oe_bin, oe_call, oe_kI, int_i, neg_i, tuple_l, tuple_t, list_t, list_l, ft_draw]
  exact (law_cell (h6 k hk).1 (h6 k hk).2).mono (fun d hd => ⟨k, rfl, hd⟩) (Nat.le_refl _)
theorem two_all {R : D → D → Prop} {T : D → Prop} (hT : ∀ a b, R a b → T b) {as bs : List D} (h : Two R as bs) : ∀ b ∈ bs, T b := h.all hT
theorem ok_comp3 {ki : List Int} {m : Int} (h8 : ki.length ≤ 8) (h6 : ∀ k ∈ ki, 1 ≤ k ∧ k ≤ 6) (m1 : 1 ≤ m) (m12 : m ≤ 12) : Ok 192 (ev (Gn W (n + 2)) comp3 [.val .st, .val (kd ki), .val (.int m), .no, .no, .no, .no, .no, .no]) (fun d => ∃ rs, d = .lst rs ∧ rs.length = m.toNat ∧ ∀ r ∈ rs, rowB ki r = true) := by
  unfold comp3
  rw [ex_comp]
  have hl : ((List.range m.toNat).map fun (k : Nat) => D.int k).length = m.toNat := by rw [List.length_map, List.length_range]
  simp only [Oi.exec, ex_nm, ex_kI, ex_kB, ex_kN, ex_kS, ex_neg, ex_tup, ex_lst, ex_dct, ex_bin, ex_cmp, ex_chain, ex_and, ex_or, ex_not, ex_ite, ex_ix, ex_key, ex_sl, ex_fld, ex_call, ex_callK, ex_bi, ex_isA, ex_lzip, evL, evLP, evI, nm_0, nm_s, pe_nm, pkn_v, pkn_o, pkn_n, pkn_s, pe_kI, pe_kB, pe_kN, pe_kS, pe_neg, pe_tup, pe_lst', pe_dct, pe_bin, pe_cmp, pe_ite, pe_ix', pe_key, pe_sl, pe_fld, pe_call', pe_callK, pe_bi, pe_comp, pe_lzip, pe_caught, pe_and', pe_or', pe_not', pe_isA, pe_chain', pw_t, pw_f, set_0, set_s, ow_0, ow_s, app_0, app_s, stx_0, stx_s, frz_v, frz_o, frz_s, Option.map_some, ite_t, ite_f, seq_nx, seq_rt, seqK_nx, seqK_rt, seq_ex, seq_bnd, seq_ite, bnd_ite, res_nx, res_rt, tst_bnd, tst_ret, tst_ite, and_b, or_b, not_b, tru_b, ifs_nil, ifs_and, ifs_or, ifs_not, ifs_cmp, ifs_call, ite_bool, ite_and, ite_or, ite_andT, ite_orT, oe_nil, bnd_ret, bnd_bnd, bnd_rse, bnd_stk, lft_some, le_i, lt_i, ge_i, gt_i, eq_i, ne_i, is_n, nis_n, add_i, sub_i, len_t, len_l, len_sc, zip_t, zip_l, el_t, el_l, Gn_tb, Bf.f, oe_nm, oe_bin, oe_call, oe_kI, int_i, neg_i, tuple_l, tuple_t, list_t, list_l, ft_draw, rng_i (show 0 ≤ m by omega) (show m < 10000000 by omega), hl, sz_of (show m.toNat < 10000000 by omega)]
  refine Ok.callB (k := 0) (j := 192) (P := fun ys => ys.length = m.toNat ∧ ∀ r ∈ ys, rowB ki r = true) ?_ fun ys h => Ok.ret ⟨ys, rfl, h⟩
  refine (Ok.comp (k := 16) (R := fun _ y => rowB ki y = true) fun x hx => ⟨[.val .st, .val (kd ki), .val (.int m), .no, .no, .val x, .no, .no, .no], rfl, rfl, ?_⟩).mono (fun ys hys => ⟨by rw [hys.len, hl], two_all (T := fun y => rowB ki y = true) (fun _ _ h => h) hys⟩) (by rw [hl]; omega)
  simp only [Oi.exec, ex_nm, ex_kI, ex_kB, ex_kN, ex_kS, ex_neg, ex_tup, ex_lst, ex_dct, ex_bin, ex_cmp, ex_chain, ex_and, ex_or, ex_not, ex_ite, ex_ix, ex_key, ex_sl, ex_fld, ex_call, ex_callK, ex_bi, ex_isA, ex_lzip, evL, evLP, evI, nm_0, nm_s, pe_nm, pkn_v, pkn_o, pkn_n, pkn_s, pe_kI, pe_kB, pe_kN, pe_kS, pe_neg, pe_tup, pe_lst', pe_dct, pe_bin, pe_cmp, pe_ite, pe_ix', pe_key, pe_sl, pe_fld, pe_call', pe_callK, pe_bi, pe_comp, pe_lzip, pe_caught, pe_and', pe_or', pe_not', pe_isA, pe_chain', pw_t, pw_f, set_0, set_s, ow_0, ow_s, app_0, app_s, stx_0, stx_s, frz_v, frz_o, frz_s, Option.map_some, ite_t, ite_f, seq_nx, seq_rt, seqK_nx, seqK_rt, seq_ex, seq_bnd, seq_ite, bnd_ite, res_nx, res_rt, tst_bnd, tst_ret, tst_ite, and_b, or_b, not_b, tru_b, ifs_nil, ifs_and, ifs_or, ifs_not, ifs_cmp, ifs_call, ite_bool, ite_and, ite_or, ite_andT, ite_orT, oe_nil, bnd_ret, bnd_bnd, bnd_rse, bnd_stk, lft_some, le_i, lt_i, ge_i, gt_i, eq_i, ne_i, is_n, nis_n, add_i, sub_i, len_t, len_l, len_sc, zip_t, zip_l, el_t, el_l, Gn_tb, Bf.f, oe_nm, oe_bin, oe_call, oe_kI, int_i, neg_i, tuple_l, tuple_t, list_t, list_l, ft_draw, pe_c2]
  refine Ok.callB (k := 0) (ok_comp2 h8 h6) fun d ⟨ys, e, h⟩ => ?_
  rw [e]
  simp only [Oi.exec, ex_nm, ex_kI, ex_kB, ex_kN, ex_kS, ex_neg, ex_tup, ex_lst, ex_dct, ex_bin, ex_cmp, ex_chain, ex_and, ex_or, ex_not, ex_ite, ex_ix, ex_key, ex_sl, ex_fld, ex_call, ex_callK, ex_bi, ex_isA, ex_lzip, evL, evLP, evI, nm_0, nm_s, pe_nm, pkn_v, pkn_o, pkn_n, pkn_s, pe_kI, pe_kB, pe_kN, pe_kS, pe_neg, pe_tup, pe_lst', pe_dct, pe_bin, pe_cmp, pe_ite, pe_ix', pe_key, pe_sl, pe_fld, pe_call', pe_callK, pe_bi, pe_comp, pe_lzip, pe_caught, pe_and', pe_or', pe_not', pe_isA, pe_chain', pw_t, pw_f, set_0, set_s, ow_0, ow_s, app_0, app_s, stx_0, stx_s, frz_v, frz_o, frz_s, Option.map_some, ite_t, ite_f, seq_nx, seq_rt, seqK_nx, seqK_rt, seq_ex, seq_bnd, seq_ite, bnd_ite, res_nx, res_rt, tst_bnd, tst_ret, tst_ite, and_b, or_b, not_b, tru_b, ifs_nil, ifs_and, ifs_or, ifs_not, ifs_cmp, ifs_call, ite_bool, ite_and, ite_or, ite_andT, ite_orT, oe_nil, bnd_ret, bnd_bnd, bnd_rse, bnd_stk, lft_some, le_i, lt_i, ge_i, gt_i, eq_i, ne_i, is_n, nis_n, add_i, sub_i, len_t, len_l, len_sc, zip_t, zip_l, el_t, el_l, Gn_tb, Bf.f, oe_nm, oe_bin, oe_call, oe_kI, int_i, neg_i, tuple_l, tuple_t, list_t, list_l, ft_draw]
  exact Ok.ret h
theorem rngm {m : Nat} (h : m ≤ 8) : rngD [.int m] = some ((List.range m).map fun (k : Nat) => .int k) := rng_n (sz_of (by omega))
theorem ok_for {ki : List Int} {rs : List D} {m : Nat} (v : Vd ki rs m) : Ok 16 (Oi.exec (Gn W (n + 1)) forS (slots ki rs m .no .no)) (fun r => r.1 = .nx ∧ ∃ rs' s4 s6, r.2 = slots ki rs' m s4 s6 ∧ Vd ki rs' m ∧ ∀ j, j < ki.length → unreadAt rs' j = false) := by
  unfold forS
  have hi : evI (Gn W (n + 1)) false (.itR (.cons (.bi .len (.cons (.nm 1) .nil)) .nil)) (slots ki rs m .no .no) = ret ((List.range ki.length).map fun (k : Nat) => .int k) := by
    unfold slots
    simp only [Oi.exec, ex_nm, ex_kI, ex_kB, ex_kN, ex_kS, ex_neg, ex_tup, ex_lst, ex_dct, ex_bin, ex_cmp, ex_chain, ex_and, ex_or, ex_not, ex_ite, ex_ix, ex_key, ex_sl, ex_fld, ex_call, ex_callK, ex_bi, ex_isA, ex_lzip, evL, evLP, evI, nm_0, nm_s, pe_nm, pkn_v, pkn_o, pkn_n, pkn_s, pe_kI, pe_kB, pe_kN, pe_kS, pe_neg, pe_tup, pe_lst', pe_dct, pe_bin, pe_cmp, pe_ite, pe_ix', pe_key, pe_sl, pe_fld, pe_call', pe_callK, pe_bi, pe_comp, pe_lzip, pe_caught, pe_and', pe_or', pe_not', pe_isA, pe_chain', pw_t, pw_f, set_0, set_s, ow_0, ow_s, app_0, app_s, stx_0, stx_s, frz_v, frz_o, frz_s, Option.map_some, ite_t, ite_f, seq_nx, seq_rt, seqK_nx, seqK_rt, seq_ex, seq_bnd, seq_ite, bnd_ite, res_nx, res_rt, tst_bnd, tst_ret, tst_ite, and_b, or_b, not_b, tru_b, ifs_nil, ifs_and, ifs_or, ifs_not, ifs_cmp, ifs_call, ite_bool, ite_and, ite_or, ite_andT, ite_orT, oe_nil, bnd_ret, bnd_bnd, bnd_rse, bnd_stk, lft_some, le_i, lt_i, ge_i, gt_i, eq_i, ne_i, is_n, nis_n, add_i, sub_i, len_t, len_l, len_sc, zip_t, zip_l, el_t, el_l, Gn_tb, Bf.f, oe_nm, oe_bin, oe_call, oe_kI, int_i, neg_i, tuple_l, tuple_t, list_t, list_l, ft_draw, len_kd, rngm v.l8]
  rw [exec_for hi]
  have hl : ((List.range ki.length).map fun (k : Nat) => D.int k).length = ki.length := by rw [List.length_map, List.length_range]
  refine (Ok.for_ (k := 2) (i := 0) (fun i ρ => ∃ rs' s4 s6, ρ = slots ki rs' m s4 s6 ∧ Vd ki rs' m ∧ ∀ j, j < i → unreadAt rs' j = false) ⟨rs, _, _, rfl, v, fun j hj => by omega⟩ fun j x ρ hx hJ => ?_).mono (fun r hr => ⟨hr.1, ?_⟩) (by rw [hl]; have := v.l8; omega)
  · obtain ⟨rs', s4, s6, rfl, v', hu⟩ := hJ
    rw [List.getElem?_map] at hx
    cases hj : (List.range ki.length)[j]? with
    | none => rw [hj] at hx; cases hx
    | some q =>
      rw [hj] at hx
      cases hx
      obtain ⟨hjl, hq⟩ := List.getElem?_eq_some_iff.mp hj
      rw [List.getElem_range] at hq
      rw [List.length_range] at hjl
      subst hq
      rw [Nat.zero_add] at hu ⊢
      refine ⟨slots ki rs' m (.val (.int j)) s6, rfl, ?_⟩
      exact (fill_turn v' hjl hu).mono (fun r hr => ⟨.inl hr.1, hr.2⟩) (Nat.le_refl _)
  · have h2 := hr.2
    rw [hl, Nat.zero_add] at h2
    exact h2
theorem ex_setO {G : Gm} {ρ : Rho} {i : Nat} {e : I} : Oi.exec G (.setO i e) ρ = bnd (ev G e ρ) fun d => bnd (lft (lstD d)) fun ds => bnd (lft (setR ρ i (.own ds))) fun ρ => ret (.nx, ρ) := by rw [Oi.exec]
theorem lst_l {ys : List D} : lstD (.lst ys) = some ys := rfl
theorem law_wide : Ok 250 ((Gn W (n + 3)).ft "_law_wide" [.st]) (fun d => ∃ ki rs m, d = sc (kd ki) (.tup rs) ∧ Vd ki rs m ∧ rowsB ki (.tup rs) = true) := by
  rw [cg_law_wide, wide_eq]
  simp only [Oi.exec, ex_nm, ex_kI, ex_kB, ex_kN, ex_kS, ex_neg, ex_tup, ex_lst, ex_dct, ex_bin, ex_cmp, ex_chain, ex_and, ex_or, ex_not, ex_ite, ex_ix, ex_key, ex_sl, ex_fld, ex_call, ex_callK, ex_bi, ex_isA, ex_lzip, evL, evLP, evI, nm_0, nm_s, pe_nm, pkn_v, pkn_o, pkn_n, pkn_s, pe_kI, pe_kB, pe_kN, pe_kS, pe_neg, pe_tup, pe_lst', pe_dct, pe_bin, pe_cmp, pe_ite, pe_ix', pe_key, pe_sl, pe_fld, pe_call', pe_callK, pe_bi, pe_comp, pe_lzip, pe_caught, pe_and', pe_or', pe_not', pe_isA, pe_chain', pw_t, pw_f, set_0, set_s, ow_0, ow_s, app_0, app_s, stx_0, stx_s, frz_v, frz_o, frz_s, Option.map_some, ite_t, ite_f, seq_nx, seq_rt, seqK_nx, seqK_rt, seq_ex, seq_bnd, seq_ite, bnd_ite, res_nx, res_rt, tst_bnd, tst_ret, tst_ite, and_b, or_b, not_b, tru_b, ifs_nil, ifs_and, ifs_or, ifs_not, ifs_cmp, ifs_call, ite_bool, ite_and, ite_or, ite_andT, ite_orT, oe_nil, bnd_ret, bnd_bnd, bnd_rse, bnd_stk, lft_some, le_i, lt_i, ge_i, gt_i, eq_i, ne_i, is_n, nis_n, add_i, sub_i, len_t, len_l, len_sc, zip_t, zip_l, el_t, el_l, Gn_tb, Bf.f, oe_nm, oe_bin, oe_call, oe_kI, int_i, neg_i, tuple_l, tuple_t, list_t, list_l, ft_draw, pe_c1, lst_l]
  refine Ok.callB (k := 241) ok_comp1 fun d ⟨ki, e, h1, h8, h6⟩ => ?_
  rw [e]
  simp only [Oi.exec, ex_nm, ex_kI, ex_kB, ex_kN, ex_kS, ex_neg, ex_tup, ex_lst, ex_dct, ex_bin, ex_cmp, ex_chain, ex_and, ex_or, ex_not, ex_ite, ex_ix, ex_key, ex_sl, ex_fld, ex_call, ex_callK, ex_bi, ex_isA, ex_lzip, evL, evLP, evI, nm_0, nm_s, pe_nm, pkn_v, pkn_o, pkn_n, pkn_s, pe_kI, pe_kB, pe_kN, pe_kS, pe_neg, pe_tup, pe_lst', pe_dct, pe_bin, pe_cmp, pe_ite, pe_ix', pe_key, pe_sl, pe_fld, pe_call', pe_callK, pe_bi, pe_comp, pe_lzip, pe_caught, pe_and', pe_or', pe_not', pe_isA, pe_chain', pw_t, pw_f, set_0, set_s, ow_0, ow_s, app_0, app_s, stx_0, stx_s, frz_v, frz_o, frz_s, Option.map_some, ite_t, ite_f, seq_nx, seq_rt, seqK_nx, seqK_rt, seq_ex, seq_bnd, seq_ite, bnd_ite, res_nx, res_rt, tst_bnd, tst_ret, tst_ite, and_b, or_b, not_b, tru_b, ifs_nil, ifs_and, ifs_or, ifs_not, ifs_cmp, ifs_call, ite_bool, ite_and, ite_or, ite_andT, ite_orT, oe_nil, bnd_ret, bnd_bnd, bnd_rse, bnd_stk, lft_some, le_i, lt_i, ge_i, gt_i, eq_i, ne_i, is_n, nis_n, add_i, sub_i, len_t, len_l, len_sc, zip_t, zip_l, el_t, el_l, Gn_tb, Bf.f, oe_nm, oe_bin, oe_call, oe_kI, int_i, neg_i, tuple_l, tuple_t, list_t, list_l, ft_draw]
  refine Ok.drawB (k := 240) (by decide) (by decide) fun v a b => ?_
  simp only [Oi.exec, ex_nm, ex_kI, ex_kB, ex_kN, ex_kS, ex_neg, ex_tup, ex_lst, ex_dct, ex_bin, ex_cmp, ex_chain, ex_and, ex_or, ex_not, ex_ite, ex_ix, ex_key, ex_sl, ex_fld, ex_call, ex_callK, ex_bi, ex_isA, ex_lzip, evL, evLP, evI, nm_0, nm_s, pe_nm, pkn_v, pkn_o, pkn_n, pkn_s, pe_kI, pe_kB, pe_kN, pe_kS, pe_neg, pe_tup, pe_lst', pe_dct, pe_bin, pe_cmp, pe_ite, pe_ix', pe_key, pe_sl, pe_fld, pe_call', pe_callK, pe_bi, pe_comp, pe_lzip, pe_caught, pe_and', pe_or', pe_not', pe_isA, pe_chain', pw_t, pw_f, set_0, set_s, ow_0, ow_s, app_0, app_s, stx_0, stx_s, frz_v, frz_o, frz_s, Option.map_some, ite_t, ite_f, seq_nx, seq_rt, seqK_nx, seqK_rt, seq_ex, seq_bnd, seq_ite, bnd_ite, res_nx, res_rt, tst_bnd, tst_ret, tst_ite, and_b, or_b, not_b, tru_b, ifs_nil, ifs_and, ifs_or, ifs_not, ifs_cmp, ifs_call, ite_bool, ite_and, ite_or, ite_andT, ite_orT, oe_nil, bnd_ret, bnd_bnd, bnd_rse, bnd_stk, lft_some, le_i, lt_i, ge_i, gt_i, eq_i, ne_i, is_n, nis_n, add_i, sub_i, len_t, len_l, len_sc, zip_t, zip_l, el_t, el_l, Gn_tb, Bf.f, oe_nm, oe_bin, oe_call, oe_kI, int_i, neg_i, tuple_l, tuple_t, list_t, list_l, ft_draw]
  obtain ⟨m, hm⟩ : ∃ m : Nat, 1 + v = (m : Int) := ⟨(1 + v).toNat, by omega⟩
  refine Ok.callB (k := 48) (ok_comp3 (m := 1 + v) h8 h6 (by omega) (by omega)) fun d ⟨rs, e, hr1, hr2⟩ => ?_
  rw [e]
  have hrl : rs.length = m := by rw [hr1]; omega
  simp only [Oi.exec, ex_nm, ex_kI, ex_kB, ex_kN, ex_kS, ex_neg, ex_tup, ex_lst, ex_dct, ex_bin, ex_cmp, ex_chain, ex_and, ex_or, ex_not, ex_ite, ex_ix, ex_key, ex_sl, ex_fld, ex_call, ex_callK, ex_bi, ex_isA, ex_lzip, evL, evLP, evI, nm_0, nm_s, pe_nm, pkn_v, pkn_o, pkn_n, pkn_s, pe_kI, pe_kB, pe_kN, pe_kS, pe_neg, pe_tup, pe_lst', pe_dct, pe_bin, pe_cmp, pe_ite, pe_ix', pe_key, pe_sl, pe_fld, pe_call', pe_callK, pe_bi, pe_comp, pe_lzip, pe_caught, pe_and', pe_or', pe_not', pe_isA, pe_chain', pw_t, pw_f, set_0, set_s, ow_0, ow_s, app_0, app_s, stx_0, stx_s, frz_v, frz_o, frz_s, Option.map_some, ite_t, ite_f, seq_nx, seq_rt, seqK_nx, seqK_rt, seq_ex, seq_bnd, seq_ite, bnd_ite, res_nx, res_rt, tst_bnd, tst_ret, tst_ite, and_b, or_b, not_b, tru_b, ifs_nil, ifs_and, ifs_or, ifs_not, ifs_cmp, ifs_call, ite_bool, ite_and, ite_or, ite_andT, ite_orT, oe_nil, bnd_ret, bnd_bnd, bnd_rse, bnd_stk, lft_some, le_i, lt_i, ge_i, gt_i, eq_i, ne_i, is_n, nis_n, add_i, sub_i, len_t, len_l, len_sc, zip_t, zip_l, el_t, el_l, Gn_tb, Bf.f, oe_nm, oe_bin, oe_call, oe_kI, int_i, neg_i, tuple_l, tuple_t, list_t, list_l, ft_draw, lst_l]
  refine Ok.drawB (k := 47) (by omega) (by omega) fun x x0 x1 => ?_
  have hx : x.toNat < rs.length := by omega
  simp only [Oi.exec, ex_nm, ex_kI, ex_kB, ex_kN, ex_kS, ex_neg, ex_tup, ex_lst, ex_dct, ex_bin, ex_cmp, ex_chain, ex_and, ex_or, ex_not, ex_ite, ex_ix, ex_key, ex_sl, ex_fld, ex_call, ex_callK, ex_bi, ex_isA, ex_lzip, evL, evLP, evI, nm_0, nm_s, pe_nm, pkn_v, pkn_o, pkn_n, pkn_s, pe_kI, pe_kB, pe_kN, pe_kS, pe_neg, pe_tup, pe_lst', pe_dct, pe_bin, pe_cmp, pe_ite, pe_ix', pe_key, pe_sl, pe_fld, pe_call', pe_callK, pe_bi, pe_comp, pe_lzip, pe_caught, pe_and', pe_or', pe_not', pe_isA, pe_chain', pw_t, pw_f, set_0, set_s, ow_0, ow_s, app_0, app_s, stx_0, stx_s, frz_v, frz_o, frz_s, Option.map_some, ite_t, ite_f, seq_nx, seq_rt, seqK_nx, seqK_rt, seq_ex, seq_bnd, seq_ite, bnd_ite, res_nx, res_rt, tst_bnd, tst_ret, tst_ite, and_b, or_b, not_b, tru_b, ifs_nil, ifs_and, ifs_or, ifs_not, ifs_cmp, ifs_call, ite_bool, ite_and, ite_or, ite_andT, ite_orT, oe_nil, bnd_ret, bnd_bnd, bnd_rse, bnd_stk, lft_some, le_i, lt_i, ge_i, gt_i, eq_i, ne_i, is_n, nis_n, add_i, sub_i, len_t, len_l, len_sc, zip_t, zip_l, el_t, el_l, Gn_tb, Bf.f, oe_nm, oe_bin, oe_call, oe_kI, int_i, neg_i, tuple_l, tuple_t, list_t, list_l, ft_draw, ix_li x0 hx]
  refine Ok.drawB (k := 46) (by omega) (by omega) fun y y0 y1 => ?_
  have hy : y.toNat < rs.length := by omega
  simp only [Oi.exec, ex_nm, ex_kI, ex_kB, ex_kN, ex_kS, ex_neg, ex_tup, ex_lst, ex_dct, ex_bin, ex_cmp, ex_chain, ex_and, ex_or, ex_not, ex_ite, ex_ix, ex_key, ex_sl, ex_fld, ex_call, ex_callK, ex_bi, ex_isA, ex_lzip, evL, evLP, evI, nm_0, nm_s, pe_nm, pkn_v, pkn_o, pkn_n, pkn_s, pe_kI, pe_kB, pe_kN, pe_kS, pe_neg, pe_tup, pe_lst', pe_dct, pe_bin, pe_cmp, pe_ite, pe_ix', pe_key, pe_sl, pe_fld, pe_call', pe_callK, pe_bi, pe_comp, pe_lzip, pe_caught, pe_and', pe_or', pe_not', pe_isA, pe_chain', pw_t, pw_f, set_0, set_s, ow_0, ow_s, app_0, app_s, stx_0, stx_s, frz_v, frz_o, frz_s, Option.map_some, ite_t, ite_f, seq_nx, seq_rt, seqK_nx, seqK_rt, seq_ex, seq_bnd, seq_ite, bnd_ite, res_nx, res_rt, tst_bnd, tst_ret, tst_ite, and_b, or_b, not_b, tru_b, ifs_nil, ifs_and, ifs_or, ifs_not, ifs_cmp, ifs_call, ite_bool, ite_and, ite_or, ite_andT, ite_orT, oe_nil, bnd_ret, bnd_bnd, bnd_rse, bnd_stk, lft_some, le_i, lt_i, ge_i, gt_i, eq_i, ne_i, is_n, nis_n, add_i, sub_i, len_t, len_l, len_sc, zip_t, zip_l, el_t, el_l, Gn_tb, Bf.f, oe_nm, oe_bin, oe_call, oe_kI, int_i, neg_i, tuple_l, tuple_t, list_t, list_l, ft_draw, ixN_ok y0 hy]
  have vd : Vd ki (rs.set y.toNat rs[x.toNat]) m := (Vd.mk h1 h8 h6 (by omega) (by omega) hrl hr2).set (hr2 _ (List.getElem_mem hx))
  rw [hm, seq_def, bnd_bnd]
  refine Ok.callB (k := 30) (ok_for vd) fun r ⟨hn, rs', s4, s6, e2, v', hu⟩ => ?_
  obtain ⟨f, ρ⟩ := r
  have hn : f = .nx := hn
  have e2 : ρ = slots ki rs' m s4 s6 := e2
  subst hn e2
  unfold slots
  simp only [Oi.exec, ex_nm, ex_kI, ex_kB, ex_kN, ex_kS, ex_neg, ex_tup, ex_lst, ex_dct, ex_bin, ex_cmp, ex_chain, ex_and, ex_or, ex_not, ex_ite, ex_ix, ex_key, ex_sl, ex_fld, ex_call, ex_callK, ex_bi, ex_isA, ex_lzip, evL, evLP, evI, nm_0, nm_s, pe_nm, pkn_v, pkn_o, pkn_n, pkn_s, pe_kI, pe_kB, pe_kN, pe_kS, pe_neg, pe_tup, pe_lst', pe_dct, pe_bin, pe_cmp, pe_ite, pe_ix', pe_key, pe_sl, pe_fld, pe_call', pe_callK, pe_bi, pe_comp, pe_lzip, pe_caught, pe_and', pe_or', pe_not', pe_isA, pe_chain', pw_t, pw_f, set_0, set_s, ow_0, ow_s, app_0, app_s, stx_0, stx_s, frz_v, frz_o, frz_s, Option.map_some, ite_t, ite_f, seq_nx, seq_rt, seqK_nx, seqK_rt, seq_ex, seq_bnd, seq_ite, bnd_ite, res_nx, res_rt, tst_bnd, tst_ret, tst_ite, and_b, or_b, not_b, tru_b, ifs_nil, ifs_and, ifs_or, ifs_not, ifs_cmp, ifs_call, ite_bool, ite_and, ite_or, ite_andT, ite_orT, oe_nil, bnd_ret, bnd_bnd, bnd_rse, bnd_stk, lft_some, le_i, lt_i, ge_i, gt_i, eq_i, ne_i, is_n, nis_n, add_i, sub_i, len_t, len_l, len_sc, zip_t, zip_l, el_t, el_l, Gn_tb, Bf.f, oe_nm, oe_bin, oe_call, oe_kI, int_i, neg_i, tuple_l, tuple_t, list_t, list_l, ft_draw, dct_sc]
  refine Ok.ret ⟨ki, rs', m, rfl, v', ?_⟩
  rw [rowsB_tup, decide_eq_true (by rw [v'.rl]; exact v'.m1), decide_eq_true (by rw [v'.rl]; exact v'.m12), List.all_eq_true.mpr v'.row, Bool.and_self, Bool.true_and, Bool.true_and, List.all_eq_true]
  intro j hj
  rw [hu j (List.mem_range.mp hj)]
  rfl
end K00

/-! k00, plain: the law. -/
namespace K00
open PySem Oi
variable {W : Wd} {n : Nat}
theorem Vd.good {ki : List Int} {rs : List D} {m : Nat} (v : Vd ki rs m) : ∀ y ∈ rs, good y = true := fun y hy => by
  have hr := v.row y hy
  obtain ⟨xs, e, hl, _⟩ := rowB_tup hr
  subst e
  exact tp_good (by have := v.l8; omega) (row_good hr)
theorem ix_t0 {x : D} {xs : List D} : ixD (.tup (x :: xs)) (.int 0) = some x := ix_t (xs := x :: xs) (j := 0) (Nat.zero_lt_succ _)
theorem law_spoilt_rows {ki : List Int} {rs : List D} {m : Nat} (v : Vd ki rs m) : Ok 7 ((Gn W (n + 4)).ft "_law_spoilt_rows" [.st, sc (kd ki) (.tup rs)]) (fun d => good d = true) := by
  rw [cg_law_spoilt_rows]
  unfold bg_law_spoilt_rows
  have m1 := v.m1
  have m12 := v.m12
  have hrl := v.rl
  have l1 := v.l1
  have l8 := v.l8
  have hx : rs.length ≤ 1000 := by omega
  simp only [Oi.exec, ex_nm, ex_kI, ex_kB, ex_kN, ex_kS, ex_neg, ex_tup, ex_lst, ex_dct, ex_bin, ex_cmp, ex_chain, ex_and, ex_or, ex_not, ex_ite, ex_ix, ex_key, ex_sl, ex_fld, ex_call, ex_callK, ex_bi, ex_isA, ex_lzip, evL, evLP, evI, nm_0, nm_s, pe_nm, pkn_v, pkn_o, pkn_n, pkn_s, pe_kI, pe_kB, pe_kN, pe_kS, pe_neg, pe_tup, pe_lst', pe_dct, pe_bin, pe_cmp, pe_ite, pe_ix', pe_key, pe_sl, pe_fld, pe_call', pe_callK, pe_bi, pe_comp, pe_lzip, pe_caught, pe_and', pe_or', pe_not', pe_isA, pe_chain', pw_t, pw_f, set_0, set_s, ow_0, ow_s, app_0, app_s, stx_0, stx_s, frz_v, frz_o, frz_s, Option.map_some, ite_t, ite_f, seq_nx, seq_rt, seqK_nx, seqK_rt, seq_ex, seq_bnd, seq_ite, bnd_ite, res_nx, res_rt, tst_bnd, tst_ret, tst_ite, and_b, or_b, not_b, tru_b, ifs_nil, ifs_and, ifs_or, ifs_not, ifs_cmp, ifs_call, ite_bool, ite_and, ite_or, ite_andT, ite_orT, oe_nil, bnd_ret, bnd_bnd, bnd_rse, bnd_stk, lft_some, le_i, lt_i, ge_i, gt_i, eq_i, ne_i, is_n, nis_n, add_i, sub_i, len_t, len_l, len_sc, zip_t, zip_l, el_t, el_l, Gn_tb, Bf.f, oe_nm, oe_bin, oe_call, oe_kI, int_i, neg_i, tuple_l, tuple_t, list_t, list_l, ft_draw, par_ex, key_k, key_r]
  refine Ok.drawB (by omega) (by omega) fun w c e => ?_
  simp only [Oi.exec, ex_nm, ex_kI, ex_kB, ex_kN, ex_kS, ex_neg, ex_tup, ex_lst, ex_dct, ex_bin, ex_cmp, ex_chain, ex_and, ex_or, ex_not, ex_ite, ex_ix, ex_key, ex_sl, ex_fld, ex_call, ex_callK, ex_bi, ex_isA, ex_lzip, evL, evLP, evI, nm_0, nm_s, pe_nm, pkn_v, pkn_o, pkn_n, pkn_s, pe_kI, pe_kB, pe_kN, pe_kS, pe_neg, pe_tup, pe_lst', pe_dct, pe_bin, pe_cmp, pe_ite, pe_ix', pe_key, pe_sl, pe_fld, pe_call', pe_callK, pe_bi, pe_comp, pe_lzip, pe_caught, pe_and', pe_or', pe_not', pe_isA, pe_chain', pw_t, pw_f, set_0, set_s, ow_0, ow_s, app_0, app_s, stx_0, stx_s, frz_v, frz_o, frz_s, Option.map_some, ite_t, ite_f, seq_nx, seq_rt, seqK_nx, seqK_rt, seq_ex, seq_bnd, seq_ite, bnd_ite, res_nx, res_rt, tst_bnd, tst_ret, tst_ite, and_b, or_b, not_b, tru_b, ifs_nil, ifs_and, ifs_or, ifs_not, ifs_cmp, ifs_call, ite_bool, ite_and, ite_or, ite_andT, ite_orT, oe_nil, bnd_ret, bnd_bnd, bnd_rse, bnd_stk, lft_some, le_i, lt_i, ge_i, gt_i, eq_i, ne_i, is_n, nis_n, add_i, sub_i, len_t, len_l, len_sc, zip_t, zip_l, el_t, el_l, Gn_tb, Bf.f, oe_nm, oe_bin, oe_call, oe_kI, int_i, neg_i, tuple_l, tuple_t, list_t, list_l, ft_draw]
  refine Ok.drawB (by omega) (by omega) fun a a0 a1 => ?_
  have ha : a.toNat < rs.length := by omega
  have ga : good rs[a.toNat] = true := v.good _ (mem_get ha)
  refine Ok.ite (fun _ => ?_) fun _ => Ok.ite (fun _ => ?_) fun _ => Ok.ite (fun _ => ?_) fun _ => Ok.ite (fun _ => ?_) fun _ => ?_
  · cases rs with
    | nil => cases ha
    | cons r0 rs =>
      simp only [Oi.exec, ex_nm, ex_kI, ex_kB, ex_kN, ex_kS, ex_neg, ex_tup, ex_lst, ex_dct, ex_bin, ex_cmp, ex_chain, ex_and, ex_or, ex_not, ex_ite, ex_ix, ex_key, ex_sl, ex_fld, ex_call, ex_callK, ex_bi, ex_isA, ex_lzip, evL, evLP, evI, nm_0, nm_s, pe_nm, pkn_v, pkn_o, pkn_n, pkn_s, pe_kI, pe_kB, pe_kN, pe_kS, pe_neg, pe_tup, pe_lst', pe_dct, pe_bin, pe_cmp, pe_ite, pe_ix', pe_key, pe_sl, pe_fld, pe_call', pe_callK, pe_bi, pe_comp, pe_lzip, pe_caught, pe_and', pe_or', pe_not', pe_isA, pe_chain', pw_t, pw_f, set_0, set_s, ow_0, ow_s, app_0, app_s, stx_0, stx_s, frz_v, frz_o, frz_s, Option.map_some, ite_t, ite_f, seq_nx, seq_rt, seqK_nx, seqK_rt, seq_ex, seq_bnd, seq_ite, bnd_ite, res_nx, res_rt, tst_bnd, tst_ret, tst_ite, and_b, or_b, not_b, tru_b, ifs_nil, ifs_and, ifs_or, ifs_not, ifs_cmp, ifs_call, ite_bool, ite_and, ite_or, ite_andT, ite_orT, oe_nil, bnd_ret, bnd_bnd, bnd_rse, bnd_stk, lft_some, le_i, lt_i, ge_i, gt_i, eq_i, ne_i, is_n, nis_n, add_i, sub_i, len_t, len_l, len_sc, zip_t, zip_l, el_t, el_l, Gn_tb, Bf.f, oe_nm, oe_bin, oe_call, oe_kI, int_i, neg_i, tuple_l, tuple_t, list_t, list_l, ft_draw, dct_0, ix_t0]
      rw [ret_bnd]
      refine (law_pickC (by show 6 ≤ 999; decide)).mono (fun d hd => ?_) (by decide)
      simp only [List.mem_cons, List.not_mem_nil, or_false] at hd
      rcases hd with h | h | h | h | h | h | h <;> rw [h]
      · exact lt_good hx v.good
      · decide +kernel
      · decide +kernel
      · decide +kernel
      · decide +kernel
      · exact v.good _ List.mem_cons_self
      · decide +kernel
  · rw [law_less hx a0 ha]
    exact Ok.ret (good_less hx v.good)
  · have a2 : binD .add (.tup rs) (.tup (List.replicate 12 [rs[a.toNat]]).flatten) = some (.tup (rs ++ (List.replicate 12 [rs[a.toNat]]).flatten)) := add_t (by rw [len_rep]; omega)
    simp only [Oi.exec, ex_nm, ex_kI, ex_kB, ex_kN, ex_kS, ex_neg, ex_tup, ex_lst, ex_dct, ex_bin, ex_cmp, ex_chain, ex_and, ex_or, ex_not, ex_ite, ex_ix, ex_key, ex_sl, ex_fld, ex_call, ex_callK, ex_bi, ex_isA, ex_lzip, evL, evLP, evI, nm_0, nm_s, pe_nm, pkn_v, pkn_o, pkn_n, pkn_s, pe_kI, pe_kB, pe_kN, pe_kS, pe_neg, pe_tup, pe_lst', pe_dct, pe_bin, pe_cmp, pe_ite, pe_ix', pe_key, pe_sl, pe_fld, pe_call', pe_callK, pe_bi, pe_comp, pe_lzip, pe_caught, pe_and', pe_or', pe_not', pe_isA, pe_chain', pw_t, pw_f, set_0, set_s, ow_0, ow_s, app_0, app_s, stx_0, stx_s, frz_v, frz_o, frz_s, Option.map_some, ite_t, ite_f, seq_nx, seq_rt, seqK_nx, seqK_rt, seq_ex, seq_bnd, seq_ite, bnd_ite, res_nx, res_rt, tst_bnd, tst_ret, tst_ite, and_b, or_b, not_b, tru_b, ifs_nil, ifs_and, ifs_or, ifs_not, ifs_cmp, ifs_call, ite_bool, ite_and, ite_or, ite_andT, ite_orT, oe_nil, bnd_ret, bnd_bnd, bnd_rse, bnd_stk, lft_some, le_i, lt_i, ge_i, gt_i, eq_i, ne_i, is_n, nis_n, add_i, sub_i, len_t, len_l, len_sc, zip_t, zip_l, el_t, el_l, Gn_tb, Bf.f, oe_nm, oe_bin, oe_call, oe_kI, int_i, neg_i, tuple_l, tuple_t, list_t, list_l, ft_draw, ix_ti a0 ha, mul_one (show (2 : Int) ≤ 12 ∧ (12 : Int) ≤ 1000 by decide), show (12 : Int).toNat = 12 from rfl, a2]
    refine Ok.callB (k := 4) (law_pick (xs := [.int 12, .int 13]) (by decide) (by decide)) fun d hd => ?_
    simp only [List.mem_cons, List.not_mem_nil, or_false] at hd
    rcases hd with h | h <;> rw [h] <;> simp only [Oi.exec, ex_nm, ex_kI, ex_kB, ex_kN, ex_kS, ex_neg, ex_tup, ex_lst, ex_dct, ex_bin, ex_cmp, ex_chain, ex_and, ex_or, ex_not, ex_ite, ex_ix, ex_key, ex_sl, ex_fld, ex_call, ex_callK, ex_bi, ex_isA, ex_lzip, evL, evLP, evI, nm_0, nm_s, pe_nm, pkn_v, pkn_o, pkn_n, pkn_s, pe_kI, pe_kB, pe_kN, pe_kS, pe_neg, pe_tup, pe_lst', pe_dct, pe_bin, pe_cmp, pe_ite, pe_ix', pe_key, pe_sl, pe_fld, pe_call', pe_callK, pe_bi, pe_comp, pe_lzip, pe_caught, pe_and', pe_or', pe_not', pe_isA, pe_chain', pw_t, pw_f, set_0, set_s, ow_0, ow_s, app_0, app_s, stx_0, stx_s, frz_v, frz_o, frz_s, Option.map_some, ite_t, ite_f, seq_nx, seq_rt, seqK_nx, seqK_rt, seq_ex, seq_bnd, seq_ite, bnd_ite, res_nx, res_rt, tst_bnd, tst_ret, tst_ite, and_b, or_b, not_b, tru_b, ifs_nil, ifs_and, ifs_or, ifs_not, ifs_cmp, ifs_call, ite_bool, ite_and, ite_or, ite_andT, ite_orT, oe_nil, bnd_ret, bnd_bnd, bnd_rse, bnd_stk, lft_some, le_i, lt_i, ge_i, gt_i, eq_i, ne_i, is_n, nis_n, add_i, sub_i, len_t, len_l, len_sc, zip_t, zip_l, el_t, el_l, Gn_tb, Bf.f, oe_nm, oe_bin, oe_call, oe_kI, int_i, neg_i, tuple_l, tuple_t, list_t, list_l, ft_draw, sl_cut (show (0 : Int) ≤ 12 by decide), sl_cut (show (0 : Int) ≤ 13 by decide)] <;>
      exact Ok.ret (good_take (by rw [List.length_append, len_rep]; omega) (all_app v.good (all_rep ga)))
  · simp only [Oi.exec, ex_nm, ex_kI, ex_kB, ex_kN, ex_kS, ex_neg, ex_tup, ex_lst, ex_dct, ex_bin, ex_cmp, ex_chain, ex_and, ex_or, ex_not, ex_ite, ex_ix, ex_key, ex_sl, ex_fld, ex_call, ex_callK, ex_bi, ex_isA, ex_lzip, evL, evLP, evI, nm_0, nm_s, pe_nm, pkn_v, pkn_o, pkn_n, pkn_s, pe_kI, pe_kB, pe_kN, pe_kS, pe_neg, pe_tup, pe_lst', pe_dct, pe_bin, pe_cmp, pe_ite, pe_ix', pe_key, pe_sl, pe_fld, pe_call', pe_callK, pe_bi, pe_comp, pe_lzip, pe_caught, pe_and', pe_or', pe_not', pe_isA, pe_chain', pw_t, pw_f, set_0, set_s, ow_0, ow_s, app_0, app_s, stx_0, stx_s, frz_v, frz_o, frz_s, Option.map_some, ite_t, ite_f, seq_nx, seq_rt, seqK_nx, seqK_rt, seq_ex, seq_bnd, seq_ite, bnd_ite, res_nx, res_rt, tst_bnd, tst_ret, tst_ite, and_b, or_b, not_b, tru_b, ifs_nil, ifs_and, ifs_or, ifs_not, ifs_cmp, ifs_call, ite_bool, ite_and, ite_or, ite_andT, ite_orT, oe_nil, bnd_ret, bnd_bnd, bnd_rse, bnd_stk, lft_some, le_i, lt_i, ge_i, gt_i, eq_i, ne_i, is_n, nis_n, add_i, sub_i, len_t, len_l, len_sc, zip_t, zip_l, el_t, el_l, Gn_tb, Bf.f, oe_nm, oe_bin, oe_call, oe_kI, int_i, neg_i, tuple_l, tuple_t, list_t, list_l, ft_draw, key_k, len_kd]
    refine Ok.drawB (k := 4) (by omega) (by omega) fun u u0 u1 => ?_
    have hc : ev (Gn W (n + 3)) (.comp (.call "_law_put" (.cons (.nm 6) (.cons (.nm 5) (.cons .kN .nil)))) [6] false (.itS (.nm 3)) .nil) [.val .st, .val (sc (kd ki) (.tup rs)), .val (.int a), .val (.tup rs), .val (.int w), .val (.int u), .no] = ret (.lst (rs.map fun r => (match r with | .tup xs => .tup (xs.set u.toNat .non) | r => r))) := by
      refine ev_comp_map _ (by simp only [Oi.exec, ex_nm, ex_kI, ex_kB, ex_kN, ex_kS, ex_neg, ex_tup, ex_lst, ex_dct, ex_bin, ex_cmp, ex_chain, ex_and, ex_or, ex_not, ex_ite, ex_ix, ex_key, ex_sl, ex_fld, ex_call, ex_callK, ex_bi, ex_isA, ex_lzip, evL, evLP, evI, nm_0, nm_s, pe_nm, pkn_v, pkn_o, pkn_n, pkn_s, pe_kI, pe_kB, pe_kN, pe_kS, pe_neg, pe_tup, pe_lst', pe_dct, pe_bin, pe_cmp, pe_ite, pe_ix', pe_key, pe_sl, pe_fld, pe_call', pe_callK, pe_bi, pe_comp, pe_lzip, pe_caught, pe_and', pe_or', pe_not', pe_isA, pe_chain', pw_t, pw_f, set_0, set_s, ow_0, ow_s, app_0, app_s, stx_0, stx_s, frz_v, frz_o, frz_s, Option.map_some, ite_t, ite_f, seq_nx, seq_rt, seqK_nx, seqK_rt, seq_ex, seq_bnd, seq_ite, bnd_ite, res_nx, res_rt, tst_bnd, tst_ret, tst_ite, and_b, or_b, not_b, tru_b, ifs_nil, ifs_and, ifs_or, ifs_not, ifs_cmp, ifs_call, ite_bool, ite_and, ite_or, ite_andT, ite_orT, oe_nil, bnd_ret, bnd_bnd, bnd_rse, bnd_stk, lft_some, le_i, lt_i, ge_i, gt_i, eq_i, ne_i, is_n, nis_n, add_i, sub_i, len_t, len_l, len_sc, zip_t, zip_l, el_t, el_l, Gn_tb, Bf.f, oe_nm, oe_bin, oe_call, oe_kI, int_i, neg_i, tuple_l, tuple_t, list_t, list_l, ft_draw]) (sz_of (by omega)) fun r hr => ?_
      obtain ⟨xs, rfl, hxs⟩ := v.rect r hr
      refine ⟨[.val .st, .val (sc (kd ki) (.tup rs)), .val (.int a), .val (.tup rs), .val (.int w), .val (.int u), .val (.tup xs)], rfl, rfl, ?_⟩
      simp only [Oi.exec, ex_nm, ex_kI, ex_kB, ex_kN, ex_kS, ex_neg, ex_tup, ex_lst, ex_dct, ex_bin, ex_cmp, ex_chain, ex_and, ex_or, ex_not, ex_ite, ex_ix, ex_key, ex_sl, ex_fld, ex_call, ex_callK, ex_bi, ex_isA, ex_lzip, evL, evLP, evI, nm_0, nm_s, pe_nm, pkn_v, pkn_o, pkn_n, pkn_s, pe_kI, pe_kB, pe_kN, pe_kS, pe_neg, pe_tup, pe_lst', pe_dct, pe_bin, pe_cmp, pe_ite, pe_ix', pe_key, pe_sl, pe_fld, pe_call', pe_callK, pe_bi, pe_comp, pe_lzip, pe_caught, pe_and', pe_or', pe_not', pe_isA, pe_chain', pw_t, pw_f, set_0, set_s, ow_0, ow_s, app_0, app_s, stx_0, stx_s, frz_v, frz_o, frz_s, Option.map_some, ite_t, ite_f, seq_nx, seq_rt, seqK_nx, seqK_rt, seq_ex, seq_bnd, seq_ite, bnd_ite, res_nx, res_rt, tst_bnd, tst_ret, tst_ite, and_b, or_b, not_b, tru_b, ifs_nil, ifs_and, ifs_or, ifs_not, ifs_cmp, ifs_call, ite_bool, ite_and, ite_or, ite_andT, ite_orT, oe_nil, bnd_ret, bnd_bnd, bnd_rse, bnd_stk, lft_some, le_i, lt_i, ge_i, gt_i, eq_i, ne_i, is_n, nis_n, add_i, sub_i, len_t, len_l, len_sc, zip_t, zip_l, el_t, el_l, Gn_tb, Bf.f, oe_nm, oe_bin, oe_call, oe_kI, int_i, neg_i, tuple_l, tuple_t, list_t, list_l, ft_draw]
      exact law_put (by omega) u0 (by omega)
    simp only [Oi.exec, ex_nm, ex_kI, ex_kB, ex_kN, ex_kS, ex_neg, ex_tup, ex_lst, ex_dct, ex_bin, ex_cmp, ex_chain, ex_and, ex_or, ex_not, ex_ite, ex_ix, ex_key, ex_sl, ex_fld, ex_call, ex_callK, ex_bi, ex_isA, ex_lzip, evL, evLP, evI, nm_0, nm_s, pe_nm, pkn_v, pkn_o, pkn_n, pkn_s, pe_kI, pe_kB, pe_kN, pe_kS, pe_neg, pe_tup, pe_lst', pe_dct, pe_bin, pe_cmp, pe_ite, pe_ix', pe_key, pe_sl, pe_fld, pe_call', pe_callK, pe_bi, pe_comp, pe_lzip, pe_caught, pe_and', pe_or', pe_not', pe_isA, pe_chain', pw_t, pw_f, set_0, set_s, ow_0, ow_s, app_0, app_s, stx_0, stx_s, frz_v, frz_o, frz_s, Option.map_some, ite_t, ite_f, seq_nx, seq_rt, seqK_nx, seqK_rt, seq_ex, seq_bnd, seq_ite, bnd_ite, res_nx, res_rt, tst_bnd, tst_ret, tst_ite, and_b, or_b, not_b, tru_b, ifs_nil, ifs_and, ifs_or, ifs_not, ifs_cmp, ifs_call, ite_bool, ite_and, ite_or, ite_andT, ite_orT, oe_nil, bnd_ret, bnd_bnd, bnd_rse, bnd_stk, lft_some, le_i, lt_i, ge_i, gt_i, eq_i, ne_i, is_n, nis_n, add_i, sub_i, len_t, len_l, len_sc, zip_t, zip_l, el_t, el_l, Gn_tb, Bf.f, oe_nm, oe_bin, oe_call, oe_kI, int_i, neg_i, tuple_l, tuple_t, list_t, list_l, ft_draw, hc]
    refine Ok.ret (tp_good (by rw [List.length_map]; omega) fun y hy => ?_)
    obtain ⟨r, hr, rfl⟩ := List.mem_map.mp hy
    obtain ⟨xs, e, hxs⟩ := v.rect r hr
    subst e
    exact good_set (by omega) (row_good (v.row _ hr)) (by rw [K00.good])
  · obtain ⟨xs, e1, e2, e3⟩ := v.at_ ha
    simp only [Oi.exec, ex_nm, ex_kI, ex_kB, ex_kN, ex_kS, ex_neg, ex_tup, ex_lst, ex_dct, ex_bin, ex_cmp, ex_chain, ex_and, ex_or, ex_not, ex_ite, ex_ix, ex_key, ex_sl, ex_fld, ex_call, ex_callK, ex_bi, ex_isA, ex_lzip, evL, evLP, evI, nm_0, nm_s, pe_nm, pkn_v, pkn_o, pkn_n, pkn_s, pe_kI, pe_kB, pe_kN, pe_kS, pe_neg, pe_tup, pe_lst', pe_dct, pe_bin, pe_cmp, pe_ite, pe_ix', pe_key, pe_sl, pe_fld, pe_call', pe_callK, pe_bi, pe_comp, pe_lzip, pe_caught, pe_and', pe_or', pe_not', pe_isA, pe_chain', pw_t, pw_f, set_0, set_s, ow_0, ow_s, app_0, app_s, stx_0, stx_s, frz_v, frz_o, frz_s, Option.map_some, ite_t, ite_f, seq_nx, seq_rt, seqK_nx, seqK_rt, seq_ex, seq_bnd, seq_ite, bnd_ite, res_nx, res_rt, tst_bnd, tst_ret, tst_ite, and_b, or_b, not_b, tru_b, ifs_nil, ifs_and, ifs_or, ifs_not, ifs_cmp, ifs_call, ite_bool, ite_and, ite_or, ite_andT, ite_orT, oe_nil, bnd_ret, bnd_bnd, bnd_rse, bnd_stk, lft_some, le_i, lt_i, ge_i, gt_i, eq_i, ne_i, is_n, nis_n, add_i, sub_i, len_t, len_l, len_sc, zip_t, zip_l, el_t, el_l, Gn_tb, Bf.f, oe_nm, oe_bin, oe_call, oe_kI, int_i, neg_i, tuple_l, tuple_t, list_t, list_l, ft_draw, key_k, ix_ti a0 ha, e1]
    refine Ok.callB (k := 2) (law_spoilt_row l1 l8 e2 (row_good e3)) fun d hd => ?_
    rw [law_put hx a0 ha]
    exact Ok.ret (good_set hx v.good hd)
theorem law_made {ki : List Int} {r : D} (hk : kindsB (kd ki) = true) (gk : good (kd ki) = true) (gr : good r = true) (hr : rowsB ki r = true) : (Gn W (n + 6)).ft "_law_made" [sc (kd ki) r] = ret (tbl (kd ki) r) := by
  rw [cg_law_made]
  unfold bg_law_made
  have ht := table (W := W) (n := n) gk gr
  rw [hk, rowsOf_kd, hr] at ht
  simp only [Oi.exec, ex_nm, ex_kI, ex_kB, ex_kN, ex_kS, ex_neg, ex_tup, ex_lst, ex_dct, ex_bin, ex_cmp, ex_chain, ex_and, ex_or, ex_not, ex_ite, ex_ix, ex_key, ex_sl, ex_fld, ex_call, ex_callK, ex_bi, ex_isA, ex_lzip, evL, evLP, evI, nm_0, nm_s, pe_nm, pkn_v, pkn_o, pkn_n, pkn_s, pe_kI, pe_kB, pe_kN, pe_kS, pe_neg, pe_tup, pe_lst', pe_dct, pe_bin, pe_cmp, pe_ite, pe_ix', pe_key, pe_sl, pe_fld, pe_call', pe_callK, pe_bi, pe_comp, pe_lzip, pe_caught, pe_and', pe_or', pe_not', pe_isA, pe_chain', pw_t, pw_f, set_0, set_s, ow_0, ow_s, app_0, app_s, stx_0, stx_s, frz_v, frz_o, frz_s, Option.map_some, ite_t, ite_f, seq_nx, seq_rt, seqK_nx, seqK_rt, seq_ex, seq_bnd, seq_ite, bnd_ite, res_nx, res_rt, tst_bnd, tst_ret, tst_ite, and_b, or_b, not_b, tru_b, ifs_nil, ifs_and, ifs_or, ifs_not, ifs_cmp, ifs_call, ite_bool, ite_and, ite_or, ite_andT, ite_orT, oe_nil, bnd_ret, bnd_bnd, bnd_rse, bnd_stk, lft_some, le_i, lt_i, ge_i, gt_i, eq_i, ne_i, is_n, nis_n, add_i, sub_i, len_t, len_l, len_sc, zip_t, zip_l, el_t, el_l, Gn_tb, Bf.f, oe_nm, oe_bin, oe_call, oe_kI, int_i, neg_i, tuple_l, tuple_t, list_t, list_l, ft_draw, key_k, key_r, ht]
theorem law_no_table : (Gn W (n + 1)).ft "_law_no_table" [.exc "BadTable" []] = ret (.bl true) := by
  rw [cg_law_no_table]
  unfold bg_law_no_table
  simp only [Oi.exec, ex_nm, ex_kI, ex_kB, ex_kN, ex_kS, ex_neg, ex_tup, ex_lst, ex_dct, ex_bin, ex_cmp, ex_chain, ex_and, ex_or, ex_not, ex_ite, ex_ix, ex_key, ex_sl, ex_fld, ex_call, ex_callK, ex_bi, ex_isA, ex_lzip, evL, evLP, evI, nm_0, nm_s, pe_nm, pkn_v, pkn_o, pkn_n, pkn_s, pe_kI, pe_kB, pe_kN, pe_kS, pe_neg, pe_tup, pe_lst', pe_dct, pe_bin, pe_cmp, pe_ite, pe_ix', pe_key, pe_sl, pe_fld, pe_call', pe_callK, pe_bi, pe_comp, pe_lzip, pe_caught, pe_and', pe_or', pe_not', pe_isA, pe_chain', pw_t, pw_f, set_0, set_s, ow_0, ow_s, app_0, app_s, stx_0, stx_s, frz_v, frz_o, frz_s, Option.map_some, ite_t, ite_f, seq_nx, seq_rt, seqK_nx, seqK_rt, seq_ex, seq_bnd, seq_ite, bnd_ite, res_nx, res_rt, tst_bnd, tst_ret, tst_ite, and_b, or_b, not_b, tru_b, ifs_nil, ifs_and, ifs_or, ifs_not, ifs_cmp, ifs_call, ite_bool, ite_and, ite_or, ite_andT, ite_orT, oe_nil, bnd_ret, bnd_bnd, bnd_rse, bnd_stk, lft_some, le_i, lt_i, ge_i, gt_i, eq_i, ne_i, is_n, nis_n, add_i, sub_i, len_t, len_l, len_sc, zip_t, zip_l, el_t, el_l, Gn_tb, Bf.f, oe_nm, oe_bin, oe_call, oe_kI, int_i, neg_i, tuple_l, tuple_t, list_t, list_l, ft_draw, show isD tb (.exc "BadTable" []) "BadTable" = some true from rfl]
theorem in_some {w : Int} {ns : List Int} : ∃ b, cmpD .isIn (.int w) (.tup (ns.map D.int)) = some b := by
  have e : okPy (.tup (ns.map D.int)) = some (.tuple (ns.map PyData.int)) := by
    unfold okPy D.toPy
    rw [toPys_ints]
    simp only [Option.map_some]
    have h := depth_ints ns
    have h2 : SeqAt.shaped (.tuple (ns.map PyData.int)) = true := by
      unfold SeqAt.shaped
      rw [Bool.and_eq_true, decide_eq_true_eq]
      refine ⟨?_, ?_⟩
      · unfold PyData.canLay0
        exact lay_ints ns
      · simp only [PyData.depth]
        omega
    rw [if_pos h2]
  show ∃ b, inD (.int w) (.tup (ns.map D.int)) = some b
  unfold inD
  rw [e, okPy_int]
  exact ⟨_, rfl⟩
theorem rpb {b : Bool} : reprBD [.bl b] = some (.str (if b then "True" else "False")) := rfl
theorem ne_str {s : Str} (h : PyData.strOk s = true) : cmpD .ne (.str s) (.str s) = some false := by
  have h2 : eqD (.str s) (.str s) = some true := eq_str h
  show (eqD (.str s) (.str s)).map not = _
  rw [h2]
  rfl
theorem ne_bool {b : Bool} : cmpD .ne (.str (if b = true then Str.ofString "True" else Str.ofString "False")) (.str (if b = true then Str.ofString "True" else Str.ofString "False")) = some false := by
  cases b
  · exact ne_str (by decide +kernel)
  · exact ne_str (by decide +kernel)
theorem min_i {i j : Int} : minD [.int i, .int j] = some (.int (if j < i then j else i)) := rfl
theorem seq_ex1 {G : Gm} {a r : Sm} {ρ : Rho} : Oi.exec G (.seq a r) ρ = bnd (Oi.exec G a ρ) (seqK fun ρ => Oi.exec G r ρ) := by rw [Oi.exec, seq_def]
theorem nil_ex {G : Gm} {ρ : Rho} : Oi.exec G .nil ρ = ret (.nx, ρ) := by rw [Oi.exec]
/-- a statement that goes on -/
def Goes (T : Rho → Prop) (q : Fl × Rho) : Prop := ∃ ρ', q = (.nx, ρ') ∧ T ρ'
theorem Ok.stm {G : Gm} {a r : Sm} {ρ : Rho} {j k : Nat} {T : Rho → Prop} {P : Fl × Rho → Prop} (h : Ok j (Oi.exec G a ρ) (Goes T)) (hr : ∀ ρ', T ρ' → Ok k (Oi.exec G r ρ') P) : Ok (k + j) (Oi.exec G (.seq a r) ρ) P := by
  rw [seq_ex1]
  refine Ok.callB h fun q ⟨ρ', h1, h2⟩ => ?_
  subst h1
  exact hr ρ' h2
/-! ### one turn -/
def tA : Sm := .set 11 (.call "_law_pick" (.cons (.nm 1) (.cons (.key (.nm 9) "rows") .nil)))
def tB : Sm := .set 12 (.call "_law_pick" (.cons (.nm 1) (.cons (.lst (.cons (.nm 11) (.cons (.call "_law_spoilt_row" (.cons (.nm 1) (.cons (.key (.nm 9) "kinds") (.cons (.nm 11) .nil)))) (.cons (.call "_law_odd" (.cons (.nm 1) .nil)) (.cons (.nm 5) .nil))))) .nil)))
def tC : Sm := .ifs (.cmp .ne (.bi .reprB (.cons (.call "is_row" (.cons (.nm 5) (.cons (.nm 12) .nil))) .nil)) (.bi .reprB (.cons (.call "_law_is_row" (.cons (.key (.nm 9) "kinds") (.cons (.nm 12) .nil))) .nil))) (.seq (.rt (.kB false)) .nil) .nil
def turnS : Sm := .seq tA (.seq tB (.seq tC .nil))
theorem turn_ok {ki : List Int} {rs : List D} {m : Nat} (v : Vd ki rs m) {s0 s2 s3 s4 s6 s7 s8 s10 s11 s12 : Sl} :
    Ok 6 (Oi.exec (Gn W (n + 4)) turnS [s0, .val .st, s2, s3, s4, .val (tbl (kd ki) (.tup rs)), s6, s7, s8, .val (sc (kd ki) (.tup rs)), s10, s11, s12]) (Goes fun ρ => ∃ s11 s12, ρ = [s0, .val .st, s2, s3, s4, .val (tbl (kd ki) (.tup rs)), s6, s7, s8, .val (sc (kd ki) (.tup rs)), s10, s11, s12]) := by
  unfold turnS
  have m1 := v.m1
  have m12 := v.m12
  have hrl := v.rl
  have l8 := v.l8
  have sk : sz ki.length = true := sz_of (by omega)
  have hA : Ok 1 (Oi.exec (Gn W (n + 4)) tA [s0, .val .st, s2, s3, s4, .val (tbl (kd ki) (.tup rs)), s6, s7, s8, .val (sc (kd ki) (.tup rs)), s10, s11, s12]) (Goes fun ρ => ∃ r, r ∈ rs ∧ ρ = [s0, .val .st, s2, s3, s4, .val (tbl (kd ki) (.tup rs)), s6, s7, s8, .val (sc (kd ki) (.tup rs)), s10, .val r, s12]) := by
    unfold tA
    simp only [Oi.exec, ex_nm, ex_kI, ex_kB, ex_kN, ex_kS, ex_neg, ex_tup, ex_lst, ex_dct, ex_bin, ex_cmp, ex_chain, ex_and, ex_or, ex_not, ex_ite, ex_ix, ex_key, ex_sl, ex_fld, ex_call, ex_callK, ex_bi, ex_isA, ex_lzip, evL, evLP, evI, nm_0, nm_s, pe_nm, pkn_v, pkn_o, pkn_n, pkn_s, pe_kI, pe_kB, pe_kN, pe_kS, pe_neg, pe_tup, pe_lst', pe_dct, pe_bin, pe_cmp, pe_ite, pe_ix', pe_key, pe_sl, pe_fld, pe_call', pe_callK, pe_bi, pe_comp, pe_lzip, pe_caught, pe_and', pe_or', pe_not', pe_isA, pe_chain', pw_t, pw_f, set_0, set_s, ow_0, ow_s, app_0, app_s, stx_0, stx_s, frz_v, frz_o, frz_s, Option.map_some, ite_t, ite_f, seq_nx, seq_rt, seqK_nx, seqK_rt, seq_ex, seq_bnd, seq_ite, bnd_ite, res_nx, res_rt, tst_bnd, tst_ret, tst_ite, and_b, or_b, not_b, tru_b, ifs_nil, ifs_and, ifs_or, ifs_not, ifs_cmp, ifs_call, ite_bool, ite_and, ite_or, ite_andT, ite_orT, oe_nil, bnd_ret, bnd_bnd, bnd_rse, bnd_stk, lft_some, le_i, lt_i, ge_i, gt_i, eq_i, ne_i, is_n, nis_n, add_i, sub_i, len_t, len_l, len_sc, zip_t, zip_l, el_t, el_l, Gn_tb, Bf.f, oe_nm, oe_bin, oe_call, oe_kI, int_i, neg_i, tuple_l, tuple_t, list_t, list_l, ft_draw, key_r]
    exact Ok.callB (k := 0) (law_pickT (by omega) (by omega)) fun r hr => Ok.ret ⟨_, rfl, r, hr, rfl⟩
  refine Ok.stm (k := 5) hA fun ρ ⟨r, hr, e⟩ => ?_
  subst e
  obtain ⟨xs, e2, hl⟩ := v.rect r hr
  subst e2
  have gr := v.good _ hr
  have hB : Ok 5 (Oi.exec (Gn W (n + 4)) tB [s0, .val .st, s2, s3, s4, .val (tbl (kd ki) (.tup rs)), s6, s7, s8, .val (sc (kd ki) (.tup rs)), s10, .val (.tup xs), s12]) (Goes fun ρ => ∃ d, good d = true ∧ ρ = [s0, .val .st, s2, s3, s4, .val (tbl (kd ki) (.tup rs)), s6, s7, s8, .val (sc (kd ki) (.tup rs)), s10, .val (.tup xs), .val d]) := by
    unfold tB
    simp only [Oi.exec, ex_nm, ex_kI, ex_kB, ex_kN, ex_kS, ex_neg, ex_tup, ex_lst, ex_dct, ex_bin, ex_cmp, ex_chain, ex_and, ex_or, ex_not, ex_ite, ex_ix, ex_key, ex_sl, ex_fld, ex_call, ex_callK, ex_bi, ex_isA, ex_lzip, evL, evLP, evI, nm_0, nm_s, pe_nm, pkn_v, pkn_o, pkn_n, pkn_s, pe_kI, pe_kB, pe_kN, pe_kS, pe_neg, pe_tup, pe_lst', pe_dct, pe_bin, pe_cmp, pe_ite, pe_ix', pe_key, pe_sl, pe_fld, pe_call', pe_callK, pe_bi, pe_comp, pe_lzip, pe_caught, pe_and', pe_or', pe_not', pe_isA, pe_chain', pw_t, pw_f, set_0, set_s, ow_0, ow_s, app_0, app_s, stx_0, stx_s, frz_v, frz_o, frz_s, Option.map_some, ite_t, ite_f, seq_nx, seq_rt, seqK_nx, seqK_rt, seq_ex, seq_bnd, seq_ite, bnd_ite, res_nx, res_rt, tst_bnd, tst_ret, tst_ite, and_b, or_b, not_b, tru_b, ifs_nil, ifs_and, ifs_or, ifs_not, ifs_cmp, ifs_call, ite_bool, ite_and, ite_or, ite_andT, ite_orT, oe_nil, bnd_ret, bnd_bnd, bnd_rse, bnd_stk, lft_some, le_i, lt_i, ge_i, gt_i, eq_i, ne_i, is_n, nis_n, add_i, sub_i, len_t, len_l, len_sc, zip_t, zip_l, el_t, el_l, Gn_tb, Bf.f, oe_nm, oe_bin, oe_call, oe_kI, int_i, neg_i, tuple_l, tuple_t, list_t, list_l, ft_draw, key_k]
    refine Ok.callB (k := 2) (law_spoilt_row v.l1 l8 hl (row_good (v.row _ hr))) fun x hx => ?_
    refine Ok.callB (k := 1) law_odd fun y hy => ?_
    refine Ok.callB (k := 0) (law_pickC (Nat.le_of_ble_eq_true rfl)) fun d hd => ?_
    have gd : good d = true := by
      simp only [List.mem_cons, List.not_mem_nil, or_false] at hd
      rcases hd with h | h | h | h <;> rw [h]
      · exact gr
      · exact hx
      · exact hy
      · exact good_tbl
    exact Ok.ret ⟨_, rfl, d, gd, rfl⟩
  refine Ok.stm (k := 0) hB fun ρ ⟨d, gd, e⟩ => ?_
  subst e
  have hC : Oi.exec (Gn W (n + 4)) tC [s0, .val .st, s2, s3, s4, .val (tbl (kd ki) (.tup rs)), s6, s7, s8, .val (sc (kd ki) (.tup rs)), s10, .val (.tup xs), .val d] = ret (.nx, [s0, .val .st, s2, s3, s4, .val (tbl (kd ki) (.tup rs)), s6, s7, s8, .val (sc (kd ki) (.tup rs)), s10, .val (.tup xs), .val d]) := by
    unfold tC
    simp only [Oi.exec, ex_nm, ex_kI, ex_kB, ex_kN, ex_kS, ex_neg, ex_tup, ex_lst, ex_dct, ex_bin, ex_cmp, ex_chain, ex_and, ex_or, ex_not, ex_ite, ex_ix, ex_key, ex_sl, ex_fld, ex_call, ex_callK, ex_bi, ex_isA, ex_lzip, evL, evLP, evI, nm_0, nm_s, pe_nm, pkn_v, pkn_o, pkn_n, pkn_s, pe_kI, pe_kB, pe_kN, pe_kS, pe_neg, pe_tup, pe_lst', pe_dct, pe_bin, pe_cmp, pe_ite, pe_ix', pe_key, pe_sl, pe_fld, pe_call', pe_callK, pe_bi, pe_comp, pe_lzip, pe_caught, pe_and', pe_or', pe_not', pe_isA, pe_chain', pw_t, pw_f, set_0, set_s, ow_0, ow_s, app_0, app_s, stx_0, stx_s, frz_v, frz_o, frz_s, Option.map_some, ite_t, ite_f, seq_nx, seq_rt, seqK_nx, seqK_rt, seq_ex, seq_bnd, seq_ite, bnd_ite, res_nx, res_rt, tst_bnd, tst_ret, tst_ite, and_b, or_b, not_b, tru_b, ifs_nil, ifs_and, ifs_or, ifs_not, ifs_cmp, ifs_call, ite_bool, ite_and, ite_or, ite_andT, ite_orT, oe_nil, bnd_ret, bnd_bnd, bnd_rse, bnd_stk, lft_some, le_i, lt_i, ge_i, gt_i, eq_i, ne_i, is_n, nis_n, add_i, sub_i, len_t, len_l, len_sc, zip_t, zip_l, el_t, el_l, Gn_tb, Bf.f, oe_nm, oe_bin, oe_call, oe_kI, int_i, neg_i, tuple_l, tuple_t, list_t, list_l, ft_draw, is_row sk gd, law_is_row sk gd, key_k, rpb, ne_bool]
  rw [seq_ex1, hC, bnd_ret, seqK_nx, nil_ex]
  exact Ok.ret ⟨_, rfl, _, _, rfl⟩
/-! ### one lap -/
def forT : Sm := .for_ [6] false (.itR (.cons (.kI 4) .nil)) turnS
def sA : Sm := .unp [9, 10] (.tup (.cons (.call "_law_wide" (.cons (.nm 1) .nil)) (.cons (.call "_law_draw" (.cons (.nm 1) (.cons (.kI 4) .nil))) .nil)))
def sB : Sm := .set 3 (.ite (.cmp .isIn (.nm 10) (.tup (.cons (.kI 1) (.cons (.kI 3) .nil)))) (.call "_law_spoilt_kinds" (.cons (.nm 1) (.cons (.key (.nm 9) "kinds") .nil))) (.key (.nm 9) "kinds"))
def sC : Sm := .set 4 (.ite (.cmp .isIn (.nm 10) (.tup (.cons (.kI 2) (.cons (.kI 3) .nil)))) (.call "_law_spoilt_rows" (.cons (.nm 1) (.cons (.nm 9) .nil))) (.key (.nm 9) "rows"))
def sD : Sm := .ifs (.or (.not (.call "_law_built" (.cons (.nm 3) (.cons (.nm 4) .nil)))) (.not (.call "_law_built" (.cons (.key (.nm 9) "kinds") (.cons (.key (.nm 9) "rows") .nil))))) (.seq (.rt (.kB false)) .nil) .nil
def sE : Sm := .set 5 (.call "_law_made" (.cons (.nm 9) .nil))
def sF : Sm := .set 7 (.call "_law_bad_table" (.cons (.nm 1) .nil))
def cG : I := .caught (.call "is_row" (.cons (.nm 7) (.cons (.ix (.key (.nm 9) "rows") (.kI 0)) .nil)))
def sG : Sm := .set 8 cG
def sH : Sm := .ifs (.or (.not (.call "_law_no_table" (.cons (.nm 8) .nil))) (.not (.isA (.nm 8) "ValueError"))) (.seq (.rt (.kB false)) .nil) .nil
def sI : Sm := .ifs (.not (.call "_law_same" (.cons (.nm 5) (.cons (.nm 9) .nil)))) (.seq (.rt (.kB false)) .nil) .nil
def lapS : Sm := .seq sA (.seq sB (.seq sC (.seq sD (.seq sE (.seq forT (.seq sF (.seq sG (.seq sH (.seq sI .nil)))))))))
theorem law_eq : bf_law = .seq (.for_ [2] false (.itR (.cons (.bin .add (.kI 2) (.bi .min (.cons (.bi .len (.cons (.nm 0) .nil)) (.cons (.kI 6) .nil)))) .nil)) lapS) (.seq (.rt (.kB true)) .nil) := rfl
theorem forT_ok {ki : List Int} {rs : List D} {m : Nat} (v : Vd ki rs m) {s0 s2 s3 s4 s6 s7 s8 s10 s11 s12 : Sl} :
    Ok 24 (Oi.exec (Gn W (n + 4)) forT [s0, .val .st, s2, s3, s4, .val (tbl (kd ki) (.tup rs)), s6, s7, s8, .val (sc (kd ki) (.tup rs)), s10, s11, s12]) (Goes fun ρ => ∃ s6 s11 s12, ρ = [s0, .val .st, s2, s3, s4, .val (tbl (kd ki) (.tup rs)), s6, s7, s8, .val (sc (kd ki) (.tup rs)), s10, s11, s12]) := by
  unfold forT
  have hi : evI (Gn W (n + 4)) false (.itR (.cons (.kI 4) .nil)) [s0, .val .st, s2, s3, s4, .val (tbl (kd ki) (.tup rs)), s6, s7, s8, .val (sc (kd ki) (.tup rs)), s10, s11, s12] = ret ((List.range 4).map fun (k : Nat) => .int k) := by
    simp only [Oi.exec, ex_nm, ex_kI, ex_kB, ex_kN, ex_kS, ex_neg, ex_tup, ex_lst, ex_dct, ex_bin, ex_cmp, ex_chain, ex_and, ex_or, ex_not, ex_ite, ex_ix, ex_key, ex_sl, ex_fld, ex_call, ex_callK, ex_bi, ex_isA, ex_lzip, evL, evLP, evI, nm_0, nm_s, pe_nm, pkn_v, pkn_o, pkn_n, pkn_s, pe_kI, pe_kB, pe_kN, pe_kS, pe_neg, pe_tup, pe_lst', pe_dct, pe_bin, pe_cmp, pe_ite, pe_ix', pe_key, pe_sl, pe_fld, pe_call', pe_callK, pe_bi, pe_comp, pe_lzip, pe_caught, pe_and', pe_or', pe_not', pe_isA, pe_chain', pw_t, pw_f, set_0, set_s, ow_0, ow_s, app_0, app_s, stx_0, stx_s, frz_v, frz_o, frz_s, Option.map_some, ite_t, ite_f, seq_nx, seq_rt, seqK_nx, seqK_rt, seq_ex, seq_bnd, seq_ite, bnd_ite, res_nx, res_rt, tst_bnd, tst_ret, tst_ite, and_b, or_b, not_b, tru_b, ifs_nil, ifs_and, ifs_or, ifs_not, ifs_cmp, ifs_call, ite_bool, ite_and, ite_or, ite_andT, ite_orT, oe_nil, bnd_ret, bnd_bnd, bnd_rse, bnd_stk, lft_some, le_i, lt_i, ge_i, gt_i, eq_i, ne_i, is_n, nis_n, add_i, sub_i, len_t, len_l, len_sc, zip_t, zip_l, el_t, el_l, Gn_tb, Bf.f, oe_nm, oe_bin, oe_call, oe_kI, int_i, neg_i, tuple_l, tuple_t, list_t, list_l, ft_draw, rng_i (show (0 : Int) ≤ 4 by decide) (show (4 : Int) < 10000000 by decide)]
    rfl
  rw [exec_for hi]
  refine (Ok.for_ (k := 6) (i := 0) (fun _ ρ => ∃ s6 s11 s12, ρ = [s0, .val .st, s2, s3, s4, .val (tbl (kd ki) (.tup rs)), s6, s7, s8, .val (sc (kd ki) (.tup rs)), s10, s11, s12]) ⟨_, _, _, rfl⟩ fun j x ρ hx ⟨t6, t11, t12, e⟩ => ?_).mono (fun r ⟨h1, h2⟩ => by obtain ⟨f, ρ⟩ := r; have h1 : f = .nx := h1; subst h1; exact ⟨ρ, rfl, h2⟩) (by decide)
  subst e
  refine ⟨[s0, .val .st, s2, s3, s4, .val (tbl (kd ki) (.tup rs)), .val x, s7, s8, .val (sc (kd ki) (.tup rs)), s10, t11, t12], rfl, ?_⟩
  exact (turn_ok v).mono (fun r ⟨ρ', h1, u11, u12, h2⟩ => by subst h1; exact ⟨.inl rfl, _, u11, u12, h2⟩) (Nat.le_refl _)
theorem ex_unp {G : Gm} {ρ : Rho} {is : List Nat} {e : I} : Oi.exec G (.unp is e) ρ = bnd (ev G e ρ) fun d => bnd (lft (bindT ρ is true d)) fun ρ => ret (.nx, ρ) := by rw [Oi.exec]
theorem lap_ok {s0 s2 s3 s4 s5 s6 s7 s8 s9 s10 s11 s12 : Sl} :
    Ok 290 (Oi.exec (Gn W (n + 6)) lapS [s0, .val .st, s2, s3, s4, s5, s6, s7, s8, s9, s10, s11, s12]) (Goes fun ρ => ∃ s3 s4 s5 s6 s7 s8 s9 s10 s11 s12, ρ = [s0, .val .st, s2, s3, s4, s5, s6, s7, s8, s9, s10, s11, s12]) := by
  unfold lapS
  have hA : Ok 251 (Oi.exec (Gn W (n + 6)) sA [s0, .val .st, s2, s3, s4, s5, s6, s7, s8, s9, s10, s11, s12]) (Goes fun ρ => ∃ ki rs m w, Vd ki rs m ∧ rowsB ki (.tup rs) = true ∧ ρ = [s0, .val .st, s2, s3, s4, s5, s6, s7, s8, .val (sc (kd ki) (.tup rs)), .val (.int w), s11, s12]) := by
    unfold sA
    rw [ex_unp]
    simp only [Oi.exec, ex_nm, ex_kI, ex_kB, ex_kN, ex_kS, ex_neg, ex_tup, ex_lst, ex_dct, ex_bin, ex_cmp, ex_chain, ex_and, ex_or, ex_not, ex_ite, ex_ix, ex_key, ex_sl, ex_fld, ex_call, ex_callK, ex_bi, ex_isA, ex_lzip, evL, evLP, evI, nm_0, nm_s, pe_nm, pkn_v, pkn_o, pkn_n, pkn_s, pe_kI, pe_kB, pe_kN, pe_kS, pe_neg, pe_tup, pe_lst', pe_dct, pe_bin, pe_cmp, pe_ite, pe_ix', pe_key, pe_sl, pe_fld, pe_call', pe_callK, pe_bi, pe_comp, pe_lzip, pe_caught, pe_and', pe_or', pe_not', pe_isA, pe_chain', pw_t, pw_f, set_0, set_s, ow_0, ow_s, app_0, app_s, stx_0, stx_s, frz_v, frz_o, frz_s, Option.map_some, ite_t, ite_f, seq_nx, seq_rt, seqK_nx, seqK_rt, seq_ex, seq_bnd, seq_ite, bnd_ite, res_nx, res_rt, tst_bnd, tst_ret, tst_ite, and_b, or_b, not_b, tru_b, ifs_nil, ifs_and, ifs_or, ifs_not, ifs_cmp, ifs_call, ite_bool, ite_and, ite_or, ite_andT, ite_orT, oe_nil, bnd_ret, bnd_bnd, bnd_rse, bnd_stk, lft_some, le_i, lt_i, ge_i, gt_i, eq_i, ne_i, is_n, nis_n, add_i, sub_i, len_t, len_l, len_sc, zip_t, zip_l, el_t, el_l, Gn_tb, Bf.f, oe_nm, oe_bin, oe_call, oe_kI, int_i, neg_i, tuple_l, tuple_t, list_t, list_l, ft_draw]
    refine Ok.callB (k := 1) law_wide fun d ⟨ki, rs, m, e, v, hR⟩ => ?_
    subst e
    refine Ok.drawB (k := 0) (by decide) (by decide) fun w w0 w1 => ?_
    exact Ok.ret ⟨_, rfl, ki, rs, m, w, v, hR, rfl⟩
  refine Ok.stm (k := 39) hA fun ρ ⟨ki, rs, m, w, v, hR, e⟩ => ?_
  subst e
  have hk : kindsB (kd ki) = true := kindsB_kd v.l1 v.l8 v.h6
  have gk : good (kd ki) = true := tp_good (by rw [List.length_map]; have := v.l8; omega) kd_all
  have gr : good (.tup rs) = true := tp_good (by have := v.rl; have := v.m12; omega) v.good
  have l1 := v.l1
  have l8 := v.l8
  obtain ⟨b1, hb1⟩ := in_some (w := w) (ns := [1, 3])
  obtain ⟨b2, hb2⟩ := in_some (w := w) (ns := [2, 3])
  have hb1 : cmpD .isIn (.int w) (.tup [.int 1, .int 3]) = some b1 := hb1
  have hb2 : cmpD .isIn (.int w) (.tup [.int 2, .int 3]) = some b2 := hb2
  have hB : Ok 3 (Oi.exec (Gn W (n + 6)) sB [s0, .val .st, s2, s3, s4, s5, s6, s7, s8, .val (sc (kd ki) (.tup rs)), .val (.int w), s11, s12]) (Goes fun ρ => ∃ d, good d = true ∧ ρ = [s0, .val .st, s2, .val d, s4, s5, s6, s7, s8, .val (sc (kd ki) (.tup rs)), .val (.int w), s11, s12]) := by
    unfold sB
    simp only [Oi.exec, ex_nm, ex_kI, ex_kB, ex_kN, ex_kS, ex_neg, ex_tup, ex_lst, ex_dct, ex_bin, ex_cmp, ex_chain, ex_and, ex_or, ex_not, ex_ite, ex_ix, ex_key, ex_sl, ex_fld, ex_call, ex_callK, ex_bi, ex_isA, ex_lzip, evL, evLP, evI, nm_0, nm_s, pe_nm, pkn_v, pkn_o, pkn_n, pkn_s, pe_kI, pe_kB, pe_kN, pe_kS, pe_neg, pe_tup, pe_lst', pe_dct, pe_bin, pe_cmp, pe_ite, pe_ix', pe_key, pe_sl, pe_fld, pe_call', pe_callK, pe_bi, pe_comp, pe_lzip, pe_caught, pe_and', pe_or', pe_not', pe_isA, pe_chain', pw_t, pw_f, set_0, set_s, ow_0, ow_s, app_0, app_s, stx_0, stx_s, frz_v, frz_o, frz_s, Option.map_some, ite_t, ite_f, seq_nx, seq_rt, seqK_nx, seqK_rt, seq_ex, seq_bnd, seq_ite, bnd_ite, res_nx, res_rt, tst_bnd, tst_ret, tst_ite, and_b, or_b, not_b, tru_b, ifs_nil, ifs_and, ifs_or, ifs_not, ifs_cmp, ifs_call, ite_bool, ite_and, ite_or, ite_andT, ite_orT, oe_nil, bnd_ret, bnd_bnd, bnd_rse, bnd_stk, lft_some, le_i, lt_i, ge_i, gt_i, eq_i, ne_i, is_n, nis_n, add_i, sub_i, len_t, len_l, len_sc, zip_t, zip_l, el_t, el_l, Gn_tb, Bf.f, oe_nm, oe_bin, oe_call, oe_kI, int_i, neg_i, tuple_l, tuple_t, list_t, list_l, ft_draw, hb1, key_k]
    refine Ok.ite (fun _ => ?_) fun _ => ?_
    · exact Ok.callB (k := 0) (law_spoilt_kinds l1 l8) fun d hd => Ok.ret ⟨_, rfl, d, hd, rfl⟩
    · exact Ok.ret ⟨_, rfl, _, gk, rfl⟩
  refine Ok.stm (k := 36) hB fun ρ ⟨dk, gdk, e⟩ => ?_
  subst e
  have hC : Ok 7 (Oi.exec (Gn W (n + 6)) sC [s0, .val .st, s2, .val dk, s4, s5, s6, s7, s8, .val (sc (kd ki) (.tup rs)), .val (.int w), s11, s12]) (Goes fun ρ => ∃ d, good d = true ∧ ρ = [s0, .val .st, s2, .val dk, .val d, s5, s6, s7, s8, .val (sc (kd ki) (.tup rs)), .val (.int w), s11, s12]) := by
    unfold sC
    simp only [Oi.exec, ex_nm, ex_kI, ex_kB, ex_kN, ex_kS, ex_neg, ex_tup, ex_lst, ex_dct, ex_bin, ex_cmp, ex_chain, ex_and, ex_or, ex_not, ex_ite, ex_ix, ex_key, ex_sl, ex_fld, ex_call, ex_callK, ex_bi, ex_isA, ex_lzip, evL, evLP, evI, nm_0, nm_s, pe_nm, pkn_v, pkn_o, pkn_n, pkn_s, pe_kI, pe_kB, pe_kN, pe_kS, pe_neg, pe_tup, pe_lst', pe_dct, pe_bin, pe_cmp, pe_ite, pe_ix', pe_key, pe_sl, pe_fld, pe_call', pe_callK, pe_bi, pe_comp, pe_lzip, pe_caught, pe_and', pe_or', pe_not', pe_isA, pe_chain', pw_t, pw_f, set_0, set_s, ow_0, ow_s, app_0, app_s, stx_0, stx_s, frz_v, frz_o, frz_s, Option.map_some, ite_t, ite_f, seq_nx, seq_rt, seqK_nx, seqK_rt, seq_ex, seq_bnd, seq_ite, bnd_ite, res_nx, res_rt, tst_bnd, tst_ret, tst_ite, and_b, or_b, not_b, tru_b, ifs_nil, ifs_and, ifs_or, ifs_not, ifs_cmp, ifs_call, ite_bool, ite_and, ite_or, ite_andT, ite_orT, oe_nil, bnd_ret, bnd_bnd, bnd_rse, bnd_stk, lft_some, le_i, lt_i, ge_i, gt_i, eq_i, ne_i, is_n, nis_n, add_i, sub_i, len_t, len_l, len_sc, zip_t, zip_l, el_t, el_l, Gn_tb, Bf.f, oe_nm, oe_bin, oe_call, oe_kI, int_i, neg_i, tuple_l, tuple_t, list_t, list_l, ft_draw, hb2, key_r]
    refine Ok.ite (fun _ => ?_) fun _ => ?_
    · exact Ok.callB (k := 0) (law_spoilt_rows v) fun d hd => Ok.ret ⟨_, rfl, d, hd, rfl⟩
    · exact Ok.ret ⟨_, rfl, _, gr, rfl⟩
  refine Ok.stm (k := 29) hC fun ρ ⟨dr, gdr, e⟩ => ?_
  subst e
  have hD : Oi.exec (Gn W (n + 6)) sD [s0, .val .st, s2, .val dk, .val dr, s5, s6, s7, s8, .val (sc (kd ki) (.tup rs)), .val (.int w), s11, s12] = ret (.nx, [s0, .val .st, s2, .val dk, .val dr, s5, s6, s7, s8, .val (sc (kd ki) (.tup rs)), .val (.int w), s11, s12]) := by
    unfold sD
    simp only [Oi.exec, ex_nm, ex_kI, ex_kB, ex_kN, ex_kS, ex_neg, ex_tup, ex_lst, ex_dct, ex_bin, ex_cmp, ex_chain, ex_and, ex_or, ex_not, ex_ite, ex_ix, ex_key, ex_sl, ex_fld, ex_call, ex_callK, ex_bi, ex_isA, ex_lzip, evL, evLP, evI, nm_0, nm_s, pe_nm, pkn_v, pkn_o, pkn_n, pkn_s, pe_kI, pe_kB, pe_kN, pe_kS, pe_neg, pe_tup, pe_lst', pe_dct, pe_bin, pe_cmp, pe_ite, pe_ix', pe_key, pe_sl, pe_fld, pe_call', pe_callK, pe_bi, pe_comp, pe_lzip, pe_caught, pe_and', pe_or', pe_not', pe_isA, pe_chain', pw_t, pw_f, set_0, set_s, ow_0, ow_s, app_0, app_s, stx_0, stx_s, frz_v, frz_o, frz_s, Option.map_some, ite_t, ite_f, seq_nx, seq_rt, seqK_nx, seqK_rt, seq_ex, seq_bnd, seq_ite, bnd_ite, res_nx, res_rt, tst_bnd, tst_ret, tst_ite, and_b, or_b, not_b, tru_b, ifs_nil, ifs_and, ifs_or, ifs_not, ifs_cmp, ifs_call, ite_bool, ite_and, ite_or, ite_andT, ite_orT, oe_nil, bnd_ret, bnd_bnd, bnd_rse, bnd_stk, lft_some, le_i, lt_i, ge_i, gt_i, eq_i, ne_i, is_n, nis_n, add_i, sub_i, len_t, len_l, len_sc, zip_t, zip_l, el_t, el_l, Gn_tb, Bf.f, oe_nm, oe_bin, oe_call, oe_kI, int_i, neg_i, tuple_l, tuple_t, list_t, list_l, ft_draw, law_built gdk gdr, law_built gk gr, key_k, key_r, Bool.not_true]
  rw [seq_ex1, hD, bnd_ret, seqK_nx]
  have hE : Oi.exec (Gn W (n + 6)) sE [s0, .val .st, s2, .val dk, .val dr, s5, s6, s7, s8, .val (sc (kd ki) (.tup rs)), .val (.int w), s11, s12] = ret (.nx, [s0, .val .st, s2, .val dk, .val dr, .val (tbl (kd ki) (.tup rs)), s6, s7, s8, .val (sc (kd ki) (.tup rs)), .val (.int w), s11, s12]) := by
    unfold sE
    simp only [Oi.exec, ex_nm, ex_kI, ex_kB, ex_kN, ex_kS, ex_neg, ex_tup, ex_lst, ex_dct, ex_bin, ex_cmp, ex_chain, ex_and, ex_or, ex_not, ex_ite, ex_ix, ex_key, ex_sl, ex_fld, ex_call, ex_callK, ex_bi, ex_isA, ex_lzip, evL, evLP, evI, nm_0, nm_s, pe_nm, pkn_v, pkn_o, pkn_n, pkn_s, pe_kI, pe_kB, pe_kN, pe_kS, pe_neg, pe_tup, pe_lst', pe_dct, pe_bin, pe_cmp, pe_ite, pe_ix', pe_key, pe_sl, pe_fld, pe_call', pe_callK, pe_bi, pe_comp, pe_lzip, pe_caught, pe_and', pe_or', pe_not', pe_isA, pe_chain', pw_t, pw_f, set_0, set_s, ow_0, ow_s, app_0, app_s, stx_0, stx_s, frz_v, frz_o, frz_s, Option.map_some, ite_t, ite_f, seq_nx, seq_rt, seqK_nx, seqK_rt, seq_ex, seq_bnd, seq_ite, bnd_ite, res_nx, res_rt, tst_bnd, tst_ret, tst_ite, and_b, or_b, not_b, tru_b, ifs_nil, ifs_and, ifs_or, ifs_not, ifs_cmp, ifs_call, ite_bool, ite_and, ite_or, ite_andT, ite_orT, oe_nil, bnd_ret, bnd_bnd, bnd_rse, bnd_stk, lft_some, le_i, lt_i, ge_i, gt_i, eq_i, ne_i, is_n, nis_n, add_i, sub_i, len_t, len_l, len_sc, zip_t, zip_l, el_t, el_l, Gn_tb, Bf.f, oe_nm, oe_bin, oe_call, oe_kI, int_i, neg_i, tuple_l, tuple_t, list_t, list_l, ft_draw, law_made hk gk gr hR]
  rw [seq_ex1, hE, bnd_ret, seqK_nx]
  refine Ok.stm (k := 5) (forT_ok (n := n + 2) v) fun ρ ⟨u6, u11, u12, e⟩ => ?_
  subst e
  have hF : Ok 1 (Oi.exec (Gn W (n + 6)) sF [s0, .val .st, s2, .val dk, .val dr, .val (tbl (kd ki) (.tup rs)), u6, s7, s8, .val (sc (kd ki) (.tup rs)), .val (.int w), u11, u12]) (Goes fun ρ => ∃ d, (good d = true ∧ isTb d = false) ∧ ρ = [s0, .val .st, s2, .val dk, .val dr, .val (tbl (kd ki) (.tup rs)), u6, .val d, s8, .val (sc (kd ki) (.tup rs)), .val (.int w), u11, u12]) := by
    unfold sF
    simp only [Oi.exec, ex_nm, ex_kI, ex_kB, ex_kN, ex_kS, ex_neg, ex_tup, ex_lst, ex_dct, ex_bin, ex_cmp, ex_chain, ex_and, ex_or, ex_not, ex_ite, ex_ix, ex_key, ex_sl, ex_fld, ex_call, ex_callK, ex_bi, ex_isA, ex_lzip, evL, evLP, evI, nm_0, nm_s, pe_nm, pkn_v, pkn_o, pkn_n, pkn_s, pe_kI, pe_kB, pe_kN, pe_kS, pe_neg, pe_tup, pe_lst', pe_dct, pe_bin, pe_cmp, pe_ite, pe_ix', pe_key, pe_sl, pe_fld, pe_call', pe_callK, pe_bi, pe_comp, pe_lzip, pe_caught, pe_and', pe_or', pe_not', pe_isA, pe_chain', pw_t, pw_f, set_0, set_s, ow_0, ow_s, app_0, app_s, stx_0, stx_s, frz_v, frz_o, frz_s, Option.map_some, ite_t, ite_f, seq_nx, seq_rt, seqK_nx, seqK_rt, seq_ex, seq_bnd, seq_ite, bnd_ite, res_nx, res_rt, tst_bnd, tst_ret, tst_ite, and_b, or_b, not_b, tru_b, ifs_nil, ifs_and, ifs_or, ifs_not, ifs_cmp, ifs_call, ite_bool, ite_and, ite_or, ite_andT, ite_orT, oe_nil, bnd_ret, bnd_bnd, bnd_rse, bnd_stk, lft_some, le_i, lt_i, ge_i, gt_i, eq_i, ne_i, is_n, nis_n, add_i, sub_i, len_t, len_l, len_sc, zip_t, zip_l, el_t, el_l, Gn_tb, Bf.f, oe_nm, oe_bin, oe_call, oe_kI, int_i, neg_i, tuple_l, tuple_t, list_t, list_l, ft_draw]
    exact Ok.callB (k := 0) law_bad_table fun d hd => Ok.ret ⟨_, rfl, d, hd, rfl⟩
  refine Ok.stm (k := 4) hF fun ρ ⟨bd, ⟨gb, tb0⟩, e⟩ => ?_
  subst e
  have hr0 : ∃ r0, good r0 = true ∧ ixD (.tup rs) (.int 0) = some r0 := by
    cases rs with
    | nil => exact absurd v.rl (by have := v.m1; show ¬ 0 = m; omega)
    | cons r0 rs => exact ⟨r0, v.good _ List.mem_cons_self, ix_t0⟩
  obtain ⟨r0, g0, e0⟩ := hr0
  have hcG : ev (Gn W (n + 6)) cG [s0, .val .st, s2, .val dk, .val dr, .val (tbl (kd ki) (.tup rs)), u6, .val bd, s8, .val (sc (kd ki) (.tup rs)), .val (.int w), u11, u12] = ret (.exc "BadTable" []) := by
    unfold cG
    rw [ex_caught]
    simp only [Oi.exec, ex_nm, ex_kI, ex_kB, ex_kN, ex_kS, ex_neg, ex_tup, ex_lst, ex_dct, ex_bin, ex_cmp, ex_chain, ex_and, ex_or, ex_not, ex_ite, ex_ix, ex_key, ex_sl, ex_fld, ex_call, ex_callK, ex_bi, ex_isA, ex_lzip, evL, evLP, evI, nm_0, nm_s, pe_nm, pkn_v, pkn_o, pkn_n, pkn_s, pe_kI, pe_kB, pe_kN, pe_kS, pe_neg, pe_tup, pe_lst', pe_dct, pe_bin, pe_cmp, pe_ite, pe_ix', pe_key, pe_sl, pe_fld, pe_call', pe_callK, pe_bi, pe_comp, pe_lzip, pe_caught, pe_and', pe_or', pe_not', pe_isA, pe_chain', pw_t, pw_f, set_0, set_s, ow_0, ow_s, app_0, app_s, stx_0, stx_s, frz_v, frz_o, frz_s, Option.map_some, ite_t, ite_f, seq_nx, seq_rt, seqK_nx, seqK_rt, seq_ex, seq_bnd, seq_ite, bnd_ite, res_nx, res_rt, tst_bnd, tst_ret, tst_ite, and_b, or_b, not_b, tru_b, ifs_nil, ifs_and, ifs_or, ifs_not, ifs_cmp, ifs_call, ite_bool, ite_and, ite_or, ite_andT, ite_orT, oe_nil, bnd_ret, bnd_bnd, bnd_rse, bnd_stk, lft_some, le_i, lt_i, ge_i, gt_i, eq_i, ne_i, is_n, nis_n, add_i, sub_i, len_t, len_l, len_sc, zip_t, zip_l, el_t, el_l, Gn_tb, Bf.f, oe_nm, oe_bin, oe_call, oe_kI, int_i, neg_i, tuple_l, tuple_t, list_t, list_l, ft_draw, key_r, e0, is_row_bad gb tb0]
    exact cat_rse (by rw [Gn_fe]; decide)
  have hG : Oi.exec (Gn W (n + 6)) sG [s0, .val .st, s2, .val dk, .val dr, .val (tbl (kd ki) (.tup rs)), u6, .val bd, s8, .val (sc (kd ki) (.tup rs)), .val (.int w), u11, u12] = ret (.nx, [s0, .val .st, s2, .val dk, .val dr, .val (tbl (kd ki) (.tup rs)), u6, .val bd, .val (.exc "BadTable" []), .val (sc (kd ki) (.tup rs)), .val (.int w), u11, u12]) := by
    unfold sG
    rw [ex_set, hcG]
    simp only [Oi.exec, ex_nm, ex_kI, ex_kB, ex_kN, ex_kS, ex_neg, ex_tup, ex_lst, ex_dct, ex_bin, ex_cmp, ex_chain, ex_and, ex_or, ex_not, ex_ite, ex_ix, ex_key, ex_sl, ex_fld, ex_call, ex_callK, ex_bi, ex_isA, ex_lzip, evL, evLP, evI, nm_0, nm_s, pe_nm, pkn_v, pkn_o, pkn_n, pkn_s, pe_kI, pe_kB, pe_kN, pe_kS, pe_neg, pe_tup, pe_lst', pe_dct, pe_bin, pe_cmp, pe_ite, pe_ix', pe_key, pe_sl, pe_fld, pe_call', pe_callK, pe_bi, pe_comp, pe_lzip, pe_caught, pe_and', pe_or', pe_not', pe_isA, pe_chain', pw_t, pw_f, set_0, set_s, ow_0, ow_s, app_0, app_s, stx_0, stx_s, frz_v, frz_o, frz_s, Option.map_some, ite_t, ite_f, seq_nx, seq_rt, seqK_nx, seqK_rt, seq_ex, seq_bnd, seq_ite, bnd_ite, res_nx, res_rt, tst_bnd, tst_ret, tst_ite, and_b, or_b, not_b, tru_b, ifs_nil, ifs_and, ifs_or, ifs_not, ifs_cmp, ifs_call, ite_bool, ite_and, ite_or, ite_andT, ite_orT, oe_nil, bnd_ret, bnd_bnd, bnd_rse, bnd_stk, lft_some, le_i, lt_i, ge_i, gt_i, eq_i, ne_i, is_n, nis_n, add_i, sub_i, len_t, len_l, len_sc, zip_t, zip_l, el_t, el_l, Gn_tb, Bf.f, oe_nm, oe_bin, oe_call, oe_kI, int_i, neg_i, tuple_l, tuple_t, list_t, list_l, ft_draw]
  rw [seq_ex1, hG, bnd_ret, seqK_nx]
  have hH : Oi.exec (Gn W (n + 6)) sH [s0, .val .st, s2, .val dk, .val dr, .val (tbl (kd ki) (.tup rs)), u6, .val bd, .val (.exc "BadTable" []), .val (sc (kd ki) (.tup rs)), .val (.int w), u11, u12] = ret (.nx, [s0, .val .st, s2, .val dk, .val dr, .val (tbl (kd ki) (.tup rs)), u6, .val bd, .val (.exc "BadTable" []), .val (sc (kd ki) (.tup rs)), .val (.int w), u11, u12]) := by
    unfold sH
    simp only [Oi.exec, ex_nm, ex_kI, ex_kB, ex_kN, ex_kS, ex_neg, ex_tup, ex_lst, ex_dct, ex_bin, ex_cmp, ex_chain, ex_and, ex_or, ex_not, ex_ite, ex_ix, ex_key, ex_sl, ex_fld, ex_call, ex_callK, ex_bi, ex_isA, ex_lzip, evL, evLP, evI, nm_0, nm_s, pe_nm, pkn_v, pkn_o, pkn_n, pkn_s, pe_kI, pe_kB, pe_kN, pe_kS, pe_neg, pe_tup, pe_lst', pe_dct, pe_bin, pe_cmp, pe_ite, pe_ix', pe_key, pe_sl, pe_fld, pe_call', pe_callK, pe_bi, pe_comp, pe_lzip, pe_caught, pe_and', pe_or', pe_not', pe_isA, pe_chain', pw_t, pw_f, set_0, set_s, ow_0, ow_s, app_0, app_s, stx_0, stx_s, frz_v, frz_o, frz_s, Option.map_some, ite_t, ite_f, seq_nx, seq_rt, seqK_nx, seqK_rt, seq_ex, seq_bnd, seq_ite, bnd_ite, res_nx, res_rt, tst_bnd, tst_ret, tst_ite, and_b, or_b, not_b, tru_b, ifs_nil, ifs_and, ifs_or, ifs_not, ifs_cmp, ifs_call, ite_bool, ite_and, ite_or, ite_andT, ite_orT, oe_nil, bnd_ret, bnd_bnd, bnd_rse, bnd_stk, lft_some, le_i, lt_i, ge_i, gt_i, eq_i, ne_i, is_n, nis_n, add_i, sub_i, len_t, len_l, len_sc, zip_t, zip_l, el_t, el_l, Gn_tb, Bf.f, oe_nm, oe_bin, oe_call, oe_kI, int_i, neg_i, tuple_l, tuple_t, list_t, list_l, ft_draw, law_no_table, show isD tb (.exc "BadTable" []) "ValueError" = some true from rfl, Bool.not_true]
  rw [seq_ex1, hH, bnd_ret, seqK_nx]
  have hI : Oi.exec (Gn W (n + 6)) sI [s0, .val .st, s2, .val dk, .val dr, .val (tbl (kd ki) (.tup rs)), u6, .val bd, .val (.exc "BadTable" []), .val (sc (kd ki) (.tup rs)), .val (.int w), u11, u12] = ret (.nx, [s0, .val .st, s2, .val dk, .val dr, .val (tbl (kd ki) (.tup rs)), u6, .val bd, .val (.exc "BadTable" []), .val (sc (kd ki) (.tup rs)), .val (.int w), u11, u12]) := by
    unfold sI
    simp only [Oi.exec, ex_nm, ex_kI, ex_kB, ex_kN, ex_kS, ex_neg, ex_tup, ex_lst, ex_dct, ex_bin, ex_cmp, ex_chain, ex_and, ex_or, ex_not, ex_ite, ex_ix, ex_key, ex_sl, ex_fld, ex_call, ex_callK, ex_bi, ex_isA, ex_lzip, evL, evLP, evI, nm_0, nm_s, pe_nm, pkn_v, pkn_o, pkn_n, pkn_s, pe_kI, pe_kB, pe_kN, pe_kS, pe_neg, pe_tup, pe_lst', pe_dct, pe_bin, pe_cmp, pe_ite, pe_ix', pe_key, pe_sl, pe_fld, pe_call', pe_callK, pe_bi, pe_comp, pe_lzip, pe_caught, pe_and', pe_or', pe_not', pe_isA, pe_chain', pw_t, pw_f, set_0, set_s, ow_0, ow_s, app_0, app_s, stx_0, stx_s, frz_v, frz_o, frz_s, Option.map_some, ite_t, ite_f, seq_nx, seq_rt, seqK_nx, seqK_rt, seq_ex, seq_bnd, seq_ite, bnd_ite, res_nx, res_rt, tst_bnd, tst_ret, tst_ite, and_b, or_b, not_b, tru_b, ifs_nil, ifs_and, ifs_or, ifs_not, ifs_cmp, ifs_call, ite_bool, ite_and, ite_or, ite_andT, ite_orT, oe_nil, bnd_ret, bnd_bnd, bnd_rse, bnd_stk, lft_some, le_i, lt_i, ge_i, gt_i, eq_i, ne_i, is_n, nis_n, add_i, sub_i, len_t, len_l, len_sc, zip_t, zip_l, el_t, el_l, Gn_tb, Bf.f, oe_nm, oe_bin, oe_call, oe_kI, int_i, neg_i, tuple_l, tuple_t, list_t, list_l, ft_draw, law_same l8 v.h6 hR, Bool.not_true]
  rw [seq_ex1, hI, bnd_ret, seqK_nx, nil_ex]
  exact Ok.ret ⟨_, rfl, _, _, _, _, _, _, _, _, _, _, rfl⟩
/-! ### the law -/
theorem law_true (ns : List Int) (W : Wd) (hc : W.cells = ns.map absI) (hl : ns.length ≤ 63) : ∃ S', lawM (gmN data.tb (Dt.hd W) data.fs data.cs lev) data.lw ns ⟨lgI (ns.map absI), 0, 0⟩ = some (.ok (.bl true), S') := by
  have hi : evI (Gn W 6) false (.itR (.cons (.bin .add (.kI 2) (.bi .min (.cons (.bi .len (.cons (.nm 0) .nil)) (.cons (.kI 6) .nil)))) .nil)) (lawR f_law ns) = ret ((List.range (2 + (if (6 : Int) < (ns.length : Nat) then 6 else (ns.length : Int))).toNat).map fun (k : Nat) => .int k) := by
    show evI (Gn W 6) false _ [.val (.scr ns), .val .st, .no, .no, .no, .no, .no, .no, .no, .no, .no, .no, .no] = _
    simp only [Oi.exec, ex_nm, ex_kI, ex_kB, ex_kN, ex_kS, ex_neg, ex_tup, ex_lst, ex_dct, ex_bin, ex_cmp, ex_chain, ex_and, ex_or, ex_not, ex_ite, ex_ix, ex_key, ex_sl, ex_fld, ex_call, ex_callK, ex_bi, ex_isA, ex_lzip, evL, evLP, evI, nm_0, nm_s, pe_nm, pkn_v, pkn_o, pkn_n, pkn_s, pe_kI, pe_kB, pe_kN, pe_kS, pe_neg, pe_tup, pe_lst', pe_dct, pe_bin, pe_cmp, pe_ite, pe_ix', pe_key, pe_sl, pe_fld, pe_call', pe_callK, pe_bi, pe_comp, pe_lzip, pe_caught, pe_and', pe_or', pe_not', pe_isA, pe_chain', pw_t, pw_f, set_0, set_s, ow_0, ow_s, app_0, app_s, stx_0, stx_s, frz_v, frz_o, frz_s, Option.map_some, ite_t, ite_f, seq_nx, seq_rt, seqK_nx, seqK_rt, seq_ex, seq_bnd, seq_ite, bnd_ite, res_nx, res_rt, tst_bnd, tst_ret, tst_ite, and_b, or_b, not_b, tru_b, ifs_nil, ifs_and, ifs_or, ifs_not, ifs_cmp, ifs_call, ite_bool, ite_and, ite_or, ite_andT, ite_orT, oe_nil, bnd_ret, bnd_bnd, bnd_rse, bnd_stk, lft_some, le_i, lt_i, ge_i, gt_i, eq_i, ne_i, is_n, nis_n, add_i, sub_i, len_t, len_l, len_sc, zip_t, zip_l, el_t, el_l, Gn_tb, Bf.f, oe_nm, oe_bin, oe_call, oe_kI, int_i, neg_i, tuple_l, tuple_t, list_t, list_l, ft_draw, min_i]
    rw [rng_i (by split <;> omega) (by split <;> omega)]
    rfl
  have hlen : ((List.range (2 + (if (6 : Int) < (ns.length : Nat) then 6 else (ns.length : Int))).toNat).map fun (k : Nat) => D.int k).length ≤ 8 := by
    rw [List.length_map, List.length_range]
    split <;> omega
  have ok : Ok 2320 (lawM (Gn W 6) f_law ns) (fun d => d = .bl true) := by
    unfold lawM
    rw [show f_law.df.body = bf_law from rfl, law_eq, seq_ex1, exec_for hi, bnd_bnd]
    refine Ok.callB (k := 0) (j := 2320) (P := fun r => r.1 = .nx ∧ ∃ s2 s3 s4 s5 s6 s7 s8 s9 s10 s11 s12, r.2 = [.val (.scr ns), .val .st, s2, s3, s4, s5, s6, s7, s8, s9, s10, s11, s12]) ?_ fun r ⟨h1, s2, s3, s4, s5, s6, s7, s8, s9, s10, s11, s12, h2⟩ => ?_
    · refine (Ok.for_ (k := 290) (i := 0) (fun _ ρ => ∃ s2 s3 s4 s5 s6 s7 s8 s9 s10 s11 s12, ρ = [.val (.scr ns), .val .st, s2, s3, s4, s5, s6, s7, s8, s9, s10, s11, s12]) ⟨_, _, _, _, _, _, _, _, _, _, _, rfl⟩ fun j x ρ hx ⟨s2, s3, s4, s5, s6, s7, s8, s9, s10, s11, s12, e⟩ => ?_).mono (fun r hr => hr) (by omega)
      subst e
      refine ⟨[.val (.scr ns), .val .st, .val x, s3, s4, s5, s6, s7, s8, s9, s10, s11, s12], rfl, ?_⟩
      exact (lap_ok (n := 0)).mono (fun r ⟨ρ', h1, t3, t4, t5, t6, t7, t8, t9, t10, t11, t12, h2⟩ => by subst h1; exact ⟨.inl rfl, _, t3, t4, t5, t6, t7, t8, t9, t10, t11, t12, h2⟩) (Nat.le_refl _)
    · obtain ⟨f, ρ⟩ := r
      have h1 : f = .nx := h1
      have h2 : ρ = [.val (.scr ns), .val .st, s2, s3, s4, s5, s6, s7, s8, s9, s10, s11, s12] := h2
      subst h1 h2
      simp only [Oi.exec, ex_nm, ex_kI, ex_kB, ex_kN, ex_kS, ex_neg, ex_tup, ex_lst, ex_dct, ex_bin, ex_cmp, ex_chain, ex_and, ex_or, ex_not, ex_ite, ex_ix, ex_key, ex_sl, ex_fld, ex_call, ex_callK, ex_bi, ex_isA, ex_lzip, evL, evLP, evI, nm_0, nm_s, pe_nm, pkn_v, pkn_o, pkn_n, pkn_s, pe_kI, pe_kB, pe_kN, pe_kS, pe_neg, pe_tup, pe_lst', pe_dct, pe_bin, pe_cmp, pe_ite, pe_ix', pe_key, pe_sl, pe_fld, pe_call', pe_callK, pe_bi, pe_comp, pe_lzip, pe_caught, pe_and', pe_or', pe_not', pe_isA, pe_chain', pw_t, pw_f, set_0, set_s, ow_0, ow_s, app_0, app_s, stx_0, stx_s, frz_v, frz_o, frz_s, Option.map_some, ite_t, ite_f, seq_nx, seq_rt, seqK_nx, seqK_rt, seq_ex, seq_bnd, seq_ite, bnd_ite, res_nx, res_rt, tst_bnd, tst_ret, tst_ite, and_b, or_b, not_b, tru_b, ifs_nil, ifs_and, ifs_or, ifs_not, ifs_cmp, ifs_call, ite_bool, ite_and, ite_or, ite_andT, ite_orT, oe_nil, bnd_ret, bnd_bnd, bnd_rse, bnd_stk, lft_some, le_i, lt_i, ge_i, gt_i, eq_i, ne_i, is_n, nis_n, add_i, sub_i, len_t, len_l, len_sc, zip_t, zip_l, el_t, el_l, Gn_tb, Bf.f, oe_nm, oe_bin, oe_call, oe_kI, int_i, neg_i, tuple_l, tuple_t, list_t, list_l, ft_draw]
      exact Ok.ret rfl
  obtain ⟨a, S', e, h, _⟩ := ok ⟨lgI (ns.map absI), 0, 0⟩ (show 0 + 2320 < 1099511627776 by decide)
  subst h
  exact ⟨S', e⟩
end K00

namespace K00
open PySem PySem.Spec PyProof.Rows L2 Oi
abbrev R : PySem.W.OpenRow := PySem.W.OpenLaw.row PySem.Challenge.rw_oncefound_k00_tables_and_what_is_none
def loose0 : List PySem.Str := ["FoundError", "BadKinds", "BadRows", "BadTable", "is_between", "is_cell", "is_row_of", "are_kinds", "are_rows", "first_unread", "Table", "need_table", "is_row", "_law_begun", "_law_draw", "_law_pick", "_law_caught", "_law_is_whole", "_law_is_below", "_law_odd", "_law_less", "_law_put", "_law_made", "_law_bad_table", "_law_cell", "_law_wide", "_law_same", "_law_is_row", "_law_first_unread", "_law_spoilt_row"]
def loose1 : List PySem.Str := ["_law_no_table", "_law_are_kinds", "_law_are_rows", "_law_spoilt_kinds", "_law_spoilt_rows", "_law_built"]
abbrev loose : List PySem.Str := loose0 ++ loose1
abbrev hk : PySem.W.Hook := He.hookX 5 data.fa data.fn [] data.tf data.ex
def ob (s : PySem.W.SharedT) : He.AlX := He.obsX 5 data.fa data.fn [] data.tf data.ex (HandSHeadRun.getT s)
theorem ob_eq (s : PySem.W.SharedT) : ob s = hk.obs s.abs := He.obsX_eq (HandSHeadRun.getT_eq s)
theorem run (w : World) : HandSHeadRun.RunEq R (PySem.W.view R.prog [39]) hk ob 4000 loose w := by
  intro os
  kernel_rfl
end K00
open PySem PySem.W PySem.Calls PyProof.Rows
theorem PySem.Challenge.cw_oncefound_k00_tables_and_what_is_none_holds : PySem.Challenge.rw_oncefound_k00_tables_and_what_is_none.Holds := by
  w_on; o_law
  refine HandSHeadRun.head_any (r := K00.R) (q := view K00.R.prog [39]) (H := K00.hk) (ob := K00.ob) (M := 4000) (loose := K00.loose) (d := HandSHeadRun.topDef K00.R.prog 39) (kwd := []) K00.ob_eq
    (by kernel_rfl) (fun s => by kernel_rfl) K00.run (by kernel_rfl) (by kernel_rfl) (by kernel_rfl) (by rfl) (by first | assumption | decide +kernel) (by decide +kernel) ⟨rfl, rfl, rfl, rfl, rfl, by decide +kernel⟩ ?hw ?hc
  case hw => w_witness2
  case hc => exact Oi.walk_oi (d := K00.data) (n := K00.lev) (x := "_law_script") K00.ok rfl (by kernel_rfl) ⟨rfl, by decide, by decide⟩ (by decide) (by decide +kernel) (by kernel_rfl) (by decide +kernel) K00.law_true

