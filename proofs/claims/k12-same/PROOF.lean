import PyProof.Rows.All
import HandS.CallRecv
import HandS.CallSlots
import HandS.ClsMeth
import HandS.Conv
import HandS.Deep
import HandS.Defaults
import HandS.DictComp
import HandS.Ends
import HandS.Flow
import HandS.ForExc
import HandS.ForMost
import HandS.Head0
import HandS.Head1
import HandS.Head2
import HandS.HeadEnd
import HandS.HeadHook2
import HandS.HeadWalk
import HandS.IsInst
import HandS.More
import HandS.NoneIn
import HandS.Property
import HandS.RaiseMore
import HandS.Strs
import HandS.Style
import HandS.Text
import HandS.TupAny
import HandS.Walk
import HandS.Wide
import HandS.WordsDict
import KE.GoesMore
import OpenK.AllK
import PySem.Challenge.RW_flipwords_k12_equal_effects
import Wide.All
import Wide.FinOn
set_option Elab.async false
set_option linter.all false
set_option maxRecDepth 100000
/-! T1: tree values, the small language, its interpreter. -/
namespace Fw
open PySem L2

/-- tree values -/
inductive D where
  | non
  | bl (b : Bool)
  | int (i : Int)
  | str (x : Str)
  | tup (xs : List D)
  | lst (xs : List D)
  | dK (kvs : List (Key × D))
  | dT (kvs : List (List Key × D))
  | ins (c : Nat) (fs : List (Nat × D))
  deriving Inhabited

/-- what a slot holds: a frozen tree, a cell, a caught exception, the script -/
inductive Val where
  | d (x : D)
  | c (n : Nat)
  | x (c : Nat) (p : D)
  | s (ns : List Int)
  deriving Inhabited

/-- a cell's content: a tree whose top may change, an instance (a field frozen, or a tree of its own whose top may change), a frozen tree -/
inductive FV where
  | d (x : D)
  | w (x : D)
  deriving Inhabited
def FV.get : FV → D
  | .d x => x
  | .w x => x
inductive CV where
  | fl (d : D)
  | iv (c : Nat) (fs : List (Nat × FV))
  | fz (d : D)
  deriving Inhabited

abbrev Mem := List CV
/-- an expression's value: frozen, a cell, new -/
inductive RV where
  | d (x : D)
  | c (n : Nat)
  | o (x : D)
  | f (n f : Nat)
  | x (c : Nat) (p : D)
  | s (ns : List Int)
  deriving Inhabited
structure Ex where
  c : Nat
  p : D
inductive Rs (α : Type) where
  | ok (a : α) (m : Mem)
  | rz (x : Ex) (m : Mem)
  | no

def Mo (α : Type) := Mem → Rs α
def pur {α : Type} (a : α) : Mo α := fun m => .ok a m
def bnd {α β : Type} (x : Mo α) (f : α → Mo β) : Mo β := fun m => match x m with
  | .ok a m' => f a m'
  | .rz e m' => .rz e m'
  | .no => .no
def no {α : Type} : Mo α := fun _ => .no
def rz {α : Type} (e : Ex) : Mo α := fun m => .rz e m
def ofO {α : Type} : Option α → Mo α
  | some a => pur a
  | none => no
theorem bnd_pur {α β : Type} (a : α) (f : α → Mo β) : bnd (pur a) f = f a := rfl
theorem bnd_no {α β : Type} (f : α → Mo β) : bnd (no : Mo α) f = no := rfl
theorem bnd_rz {α β : Type} (e : Ex) (f : α → Mo β) : bnd (rz e : Mo α) f = rz e := rfl
theorem bnd_bnd {α β γ : Type} (x : Mo α) (f : α → Mo β) (g : β → Mo γ) : bnd (bnd x f) g = bnd x fun a => bnd (f a) g := by
  funext m
  show (match (match x m with | .ok a m' => f a m' | .rz e m' => .rz e m' | .no => .no : Rs β) with | .ok a m' => g a m' | .rz e m' => .rz e m' | .no => .no : Rs γ) = (match x m with | .ok a m' => (match f a m' with | .ok a m' => g a m' | .rz e m' => .rz e m' | .no => .no : Rs γ) | .rz e m' => .rz e m' | .no => .no : Rs γ)
  cases x m <;> rfl
theorem bnd_ok {α β : Type} {x : Mo α} {f : α → Mo β} {m m' : Mem} {a : α} (h : x m = .ok a m') : bnd x f m = f a m' := by
  show (match x m with | .ok a m' => f a m' | .rz e m' => .rz e m' | .no => .no : Rs β) = _
  rw [h]
theorem bnd_rzo {α β : Type} {x : Mo α} {f : α → Mo β} {m m' : Mem} {e : Ex} (h : x m = .rz e m') : bnd x f m = .rz e m' := by
  show (match x m with | .ok a m' => f a m' | .rz e m' => .rz e m' | .no => .no : Rs β) = _
  rw [h]
theorem bnd_noo {α β : Type} {x : Mo α} {f : α → Mo β} {m : Mem} (h : x m = .no) : bnd x f m = .no := by
  show (match x m with | .ok a m' => f a m' | .rz e m' => .rz e m' | .no => .no : Rs β) = _
  rw [h]
theorem ofO_some {α : Type} (a : α) : ofO (some a) = pur a := rfl
theorem ofO_none {α : Type} : (ofO none : Mo α) = no := rfl
def grd {α : Type} (b : Bool) (x : Mo α) : Mo α := bif b then x else no
theorem grd_t {α : Type} (x : Mo α) : grd true x = x := rfl
theorem grd_f {α : Type} (x : Mo α) : grd false x = no := rfl

/-! ### cells -/
def fieldsD (fs : List (Nat × FV)) : List (Nat × D) := fs.map fun p => (p.1, p.2.get)
def CV.view : CV → D
  | .fl d => d
  | .fz d => d
  | .iv c fs => .ins c (fieldsD fs)
def fldW (w : CV) (f : Nat) : Option D := match w with
  | .iv _ fs => (match fs.lookup f with
    | some (.w d) => some d
    | _ => none)
  | _ => none
def viewM : RV → Mo D
  | .d x => pur x
  | .o x => pur x
  | .c n => fun m => match m[n]? with
    | some w => .ok w.view m
    | none => .no
  | .f n f => fun m => match (m[n]?).bind (fldW · f) with
    | some d => .ok d m
    | none => .no
  | .x _ _ => no
  | .s _ => no
/-- frozen from now on -/
def frzM : RV → Mo D
  | .d x => pur x
  | .o x => pur x
  | .c n => fun m => match m[n]? with
    | some (.fl d) => .ok d (m.set n (.fz d))
    | some (.fz d) => .ok d m
    | _ => .no
  | .f _ _ => no
  | .x _ _ => no
  | .s _ => no
def newM (d : D) : Mo Nat := fun m => .ok m.length (m ++ [.fl d])

/-! ### the language -/
inductive BOp where
  | add | sub | mul | fdiv | mod | pow | shl
  deriving DecidableEq
inductive COp where
  | eq | ne | lt | le | gt | ge | in_ | nin | is_ | isn
  deriving DecidableEq
/-- built-in functions by values -/
inductive BI where
  | len | max2 | abs_ | int_ | str_ | tuple_ | list_ | dict_ | repr_ | sum_ | all_ | any_ | sorted_
  deriving DecidableEq
/-- methods of built-in types that only read -/
inductive BM where
  | get1 | get2 | split | join | partition | starts | ends
  deriving DecidableEq
/-- methods that change a cell -/
inductive MM where
  | append | extend | clear | reverse | update
  deriving DecidableEq
/-- types for isinstance -/
inductive Ty where
  | tstr | tint | tbool | tlist | ttuple | tdict | tcls (c : Nat) | tblt (n : String)
  deriving DecidableEq
/-- what is walked -/
inductive IK where
  | seq | keys | vals | items | rng | enum_ | zip_ | zips_
  deriving DecidableEq
inductive Tg where
  | nm (i : Nat)
  | tp (is : List Nat)
inductive Ep where
  | v (i : Nat)
  | k (d : D)
  | gc (g : Nat) (d : D)
  | bin (o : BOp) (a b : Ep)
  | neg (a : Ep)
  | not_ (a : Ep)
  | cmp (o : COp) (a b : Ep)
  | chain (o1 o2 : COp) (a b c : Ep)
  | and_ (a b : Ep)
  | or_ (a b : Ep)
  | ife (c a b : Ep)
  | call (f : Nat) (as : List Ep)
  | mk (c f : Nat) (as : List Ep)
  | meth (m : Nat) (o : Ep) (as : List Ep)
  | attr (f : Nat) (o : Ep)
  | prop (f : Nat) (o : Ep)
  | ccon (c f : Nat) (d : D)
  | bi (b : BI) (as : List Ep)
  | lenset (a : Ep)
  | isi (x : Ep) (ts : List Ty)
  | bm (b : BM) (o : Ep) (as : List Ep)
  | sub (a i : Ep)
  | sl (a lo hi : Ep)
  | rev (a : Ep)
  | lst (es : List Ep)
  | tup (es : List Ep)
  | dct (t : Bool) (ks vs : List Ep)
  | lc (own : List Nat) (t : Tg) (ik : IK) (as ifs : List Ep) (e : Ep)
  | dc (own : List Nat) (t : Tg) (ik : IK) (as ifs : List Ep) (k v : Ep)
  | fz (a : Ep)
  | mkM (c f : Nat) (as : List Ep)
  | scut (i n : Nat)
  | semp (i : Nat)
  | lit (ik : IK) (as : List Ep)
  | fst (ps : List Ep)
inductive Sm where
  | asg (i : Nat) (e : Ep)
  | asgM (i : Nat) (e : Ep)
  | asgT (is : List Nat) (e : Ep)
  | par (i j : Nat) (mi mj : Bool) (a b : Ep)
  | setI (o k v : Ep)
  | setF (f : Nat) (o v : Ep)
  | setW (f : Nat) (o v : Ep)
  | mm (m : MM) (o : Ep) (as : List Ep)
  | ex (e : Ep)
  | ret (e : Ep)
  | retN
  | if_ (c : Ep) (a b : List Sm)
  | for_ (t : Tg) (ik : IK) (as : List Ep) (b : List Sm)
  | while_ (c : Ep) (b : List Sm)
  | raise_ (c : Nat) (e : Ep)
  | raiseF (c : Nat) (e : Ep)
  | try_ (b : List Sm) (hs : List (Nat × Option Nat × List Sm))
  | aug (i : Nat) (o : BOp) (e : Ep)
  | binit
  | pass_ | brk | cnt | nv
end Fw

/-! T2: the interpreter. -/
namespace Fw
open PySem L2

/-! ### trees as data -/
def kD : Key → D
  | .inl i => .int i
  | .inr s => .str s
def ksD (ks : List Key) : D := .tup (ks.map kD)
def asK : D → Option Key
  | .int i => some (.inl i)
  | .str s => some (.inr s)
  | _ => none
def asKs : List D → Option (List Key)
  | [] => some []
  | x :: r => match asK x, asKs r with
    | some k, some ks => some (k :: ks)
    | _, _ => none
def pyK : Key → PyData
  | .inl i => .int i
  | .inr s => .str s
mutual
def py : D → PyData
  | .non => .none
  | .bl b => .bool b
  | .int i => .int i
  | .str x => .str x
  | .tup xs => .tuple (pys xs)
  | .lst xs => .list (pys xs)
  | .dK kvs => .dict (pyKs kvs)
  | .dT kvs => .dict (pyTs kvs)
  | .ins _ _ => .none
def pys : List D → List PyData
  | [] => []
  | x :: r => py x :: pys r
def pyKs : List (Key × D) → List (PyData × PyData)
  | [] => []
  | (k, v) :: r => (pyK k, py v) :: pyKs r
def pyTs : List (List Key × D) → List (PyData × PyData)
  | [] => []
  | (k, v) :: r => (.tuple (k.map pyK), py v) :: pyTs r
end
mutual
/-- no instance within -/
def pln : D → Bool
  | .tup xs => plns xs
  | .lst xs => plns xs
  | .dK kvs => plnKs kvs
  | .dT kvs => plnTs kvs
  | .ins _ _ => false
  | _ => true
def plns : List D → Bool
  | [] => true
  | x :: r => pln x && plns r
def plnKs : List (Key × D) → Bool
  | [] => true
  | (_, v) :: r => pln v && plnKs r
def plnTs : List (List Key × D) → Bool
  | [] => true
  | (_, v) :: r => pln v && plnTs r
end
/-! ### tables -/
section
variable {κ β : Type} [DecidableEq κ]
def lookA (kvs : List (κ × β)) (k : κ) : Option β := (kvs.find? fun kv => decide (kv.1 = k)).map (·.2)
def putA (kvs : List (κ × β)) (k : κ) (v : β) : List (κ × β) :=
  if (kvs.any fun kv => decide (kv.1 = k)) = true then kvs.map (fun kv => if kv.1 = k then (kv.1, v) else kv) else kvs ++ [(k, v)]
def dropA (kvs : List (κ × β)) (k : κ) : List (κ × β) := kvs.filter fun kv => decide (kv.1 ≠ k)
def mergeA (kvs : List (κ × β)) : List (κ × β) → List (κ × β)
  | [] => kvs
  | (k, v) :: r => mergeA (putA kvs k v) r
end
/-! ### operations -/
def mulOk (i j : Int) : Bool := decide (-(2 ^ 64) < i ∧ i < 2 ^ 64) || (decide (-(2 ^ 64) < j ∧ j < 2 ^ 64) || decide (i.natAbs.log2 + j.natAbs.log2 < 1000000))
def binD : BOp → D → D → Option RV
  | .add, .int i, .int j => some (.d (.int (i + j)))
  | .add, .str x, .str y => if x.length + y.length ≤ 16777216 then some (.d (.str (x ++ y))) else none
  | .add, .lst x, .lst y => if x.length + y.length ≤ 16777216 then some (.o (.lst (x ++ y))) else none
  | .sub, .int i, .int j => some (.d (.int (i - j)))
  | .mul, .int i, .int j => if mulOk i j = true then some (.d (.int (i * j))) else none
  | .mul, .lst x, .int k => if -(2 ^ 63) ≤ k ∧ k < 2 ^ 63 ∧ x.length * k.toNat ≤ 16777216 then some (.o (.lst (List.replicate k.toNat x).flatten)) else none
  | .fdiv, .int i, .int j => if j ≠ 0 ∧ j.natAbs < 1073741824 then some (.d (.int (i.fdiv j))) else none
  | .mod, .int i, .int j => if j ≠ 0 then some (.d (.int (i.fmod j))) else none
  | .pow, .int i, .int j => if 0 ≤ j ∧ j ≤ 1000000 ∧ i.natAbs < 2 ^ 64 then some (.d (.int (i ^ j.toNat))) else none
  | .shl, .int i, .int j => if 0 ≤ j ∧ j ≤ 1000000 ∧ i.natAbs < 2 ^ 64 then some (.d (.int (i * 2 ^ j.toNat))) else none
  | _, _, _ => none
def augD (o : BOp) (x y : D) : Option D := match x, y, binD o x y with
  | .int _, .int _, some (.d z) => some z
  | _, _, _ => none
def shp (d : D) : Bool := pln d && SeqAt.shaped (py d)
def flatB : D → Bool
  | .non => true
  | .bl _ => true
  | .int _ => true
  | .str _ => true
  | _ => false
/-- == of two dicts -/
def dictEq (ks ls : List (Key × D)) : Bool := decide (ks.length = ls.length) && ks.all fun p => match lookA ls p.1 with
  | some v => PyData.eqv (py p.2) (py v)
  | none => false
def eqD (a b : D) : Option Bool := match a, b with
  | .dK ks, .dK ls => if (ks.all fun p => shp p.2) = true ∧ (ls.all fun p => shp p.2) = true then some (dictEq ks ls) else none
  | a, b => if shp a = true ∧ shp b = true then some (PyData.eqv (py a) (py b)) else none
def inD (a b : D) : Option Bool := match b with
  | .lst ys => if shp a = true ∧ shp (.lst ys) = true then some (ys.any fun z => PyData.eqv (py z) (py a)) else none
  | .tup ys => if flatB a = true ∧ ys.all flatB = true then some (ys.any fun z => PyData.eqv (py z) (py a)) else none
  | .dK kvs => (asK a).map fun k => (lookA kvs k).isSome
  | .dT kvs => match a with
    | .tup xs => (asKs xs).map fun k => (lookA kvs k).isSome
    | _ => none
  | .str y => match a with
    | .str x => some (!(Builtin.Str.occurrences y x 0 y.length 1).isEmpty)
    | _ => none
  | _ => none
def isNon : D → Bool
  | .non => true
  | _ => false
def cmpD (o : COp) (a b : D) : Option Bool := match o with
  | .eq => eqD a b
  | .ne => (eqD a b).map (!·)
  | .in_ => inD a b
  | .nin => (inD a b).map (!·)
  | .is_ => if isNon b = true then some (isNon a) else none
  | .isn => if isNon b = true then some (!isNon a) else none
  | .lt => match a, b with
    | .int i, .int j => some (decide (i < j))
    | .str x, .str y => some (decide (x.cps.toList < y.cps.toList))
    | _, _ => none
  | .le => match a, b with
    | .int i, .int j => some (decide (i ≤ j))
    | _, _ => none
  | .gt => match a, b with
    | .int i, .int j => some (decide (j < i))
    | _, _ => none
  | .ge => match a, b with
    | .int i, .int j => some (decide (j ≤ i))
    | _, _ => none
/-- a value's truth -/
def truD : D → Option Bool
  | .non => some false
  | .bl b => some b
  | .int i => some (i != 0)
  | .lst xs => some (!xs.isEmpty)
  | .tup xs => some (!xs.isEmpty)
  | _ => none
def cutL {α : Type} (xs : List α) (lo hi : Option Int) : List α := (xs.drop (HT.sIx xs.length 0 lo)).take (HT.sIx xs.length xs.length hi - HT.sIx xs.length 0 lo)
def cutD (a : D) (lo hi : Option Int) : Option RV := match a with
  | .lst xs => some (.o (.lst (cutL xs lo hi)))
  | .tup xs => some (.d (.tup (cutL xs lo hi)))
  | .str z => if z.length ≤ 16777216 then some (.d (.str (cutS z lo hi))) else none
  | _ => none
def revD : D → Option RV
  | .lst xs => some (.o (.lst xs.reverse))
  | _ => none
def subD (a i : D) : Option D := match a with
  | .lst xs => (match i with | .int k => atI xs k | _ => none)
  | .tup xs => (match i with | .int k => atI xs k | _ => none)
  | .str z => (match i with | .int k => if z.length ≤ 16777216 then (atI z.cps.toList k).map fun c => .str ⟨#[c]⟩ else none | _ => none)
  | .dK kvs => (asK i).bind (lookA kvs)
  | .dT kvs => (match i with | .tup xs => (asKs xs).bind (lookA kvs) | _ => none)
  | _ => none
def lenD : D → Option Nat
  | .str x => if x.length ≤ 16777216 then some x.length else none
  | .lst xs => some xs.length
  | .tup xs => some xs.length
  | .dK kvs => some kvs.length
  | _ => none
def intsO : List D → Option (List Int)
  | [] => some []
  | .int i :: r => (intsO r).map (i :: ·)
  | _ => none
def boolsO : List D → Option (List Bool)
  | [] => some []
  | .bl b :: r => (boolsO r).map (b :: ·)
  | _ => none
def strsO : List D → Option (List Str)
  | [] => some []
  | .str x :: r => (strsO r).map (x :: ·)
  | _ => none
/-- pairs of a key and a value -/
def pairsK : List D → Option (List (Key × D))
  | [] => some []
  | .tup [k, v] :: r => match asK k, pairsK r with
    | some k, some l => some ((k, v) :: l)
    | _, _ => none
  | _ => none
def strLe (x y : Str) : Bool := !decide (y.cps.toList < x.cps.toList)
def biD (b : BI) (as : List D) : Option RV := match b, as with
  | .len, [x] => (lenD x).map fun n => .d (.int (n : Int))
  | .max2, [.int i, .int j] => some (.d (.int (if j > i then j else i)))
  | .abs_, [.int i] => some (.d (.int (if i < 0 then -i else i)))
  | .int_, [.int i] => some (.d (.int i))
  | .int_, [.bl k] => some (.d (.int (if k then 1 else 0)))
  | .int_, [.str x] => if x.length ≤ 640 then (PySem.intText? x).map fun n => .d (.int n) else none
  | .str_, [.int i] => if i.natAbs.log2 < 1920 then some (.d (.str (toString i))) else none
  | .tuple_, [.lst xs] => some (.d (.tup xs))
  | .tuple_, [.tup xs] => some (.d (.tup xs))
  | .list_, [.lst xs] => some (.o (.lst xs))
  | .list_, [.tup xs] => some (.o (.lst xs))
  | .dict_, [.dK kvs] => some (.o (.dK kvs))
  | .dict_, [.lst xs] => if xs.length ≤ 1000000 then (pairsK xs).map fun l => .o (.dK (mergeA [] l)) else none
  | .repr_, [x] => if pln x = true ∧ (py x).showable = true ∧ (py x).depth ≤ 60 ∧ (py x).shown.length ≤ 16777216 ∧ (py x).canLay0 = true ∧ (py x).hasDict = false then some (.d (.str (py x).shown)) else none
  | .sum_, [.lst xs] => (intsO xs).map fun l => .d (.int l.sum)
  | .all_, [.lst xs] => (boolsO xs).map fun l => .d (.bl (l.all id))
  | .any_, [.lst xs] => (boolsO xs).map fun l => .d (.bl (l.any id))
  | .sorted_, [.lst xs] => if xs.length < 64 then (strsO xs).map fun l => .o (.lst ((l.mergeSort strLe).map .str)) else none
  | _, _ => none
/-- what a dict holds there, if anything -/
def gotD (d k : D) : Option (Option D) := match d with
  | .dK kvs => (asK k).map (lookA kvs)
  | .dT kvs => match k with
    | .tup ks => (asKs ks).map (lookA kvs)
    | _ => none
  | _ => none
def bmD (b : BM) (o : D) (as : List D) : Option RV := match b, o, as with
  | .get1, d, [k] => (gotD d k).map fun o => .d (o.getD .non)
  | .get2, d, [k, x] => if flatB x = true then (gotD d k).map fun o => .d (o.getD x) else none
  | .split, .str a, [.str b] => if (b.length == 0) = false ∧ a.length + 2 ≤ 16777216 then some (.o (.lst ((Txt.split a b).map .str))) else none
  | .join, .str a, [.lst xs] => (strsO xs).bind fun ys => if (ys.map (·.length)).sum + ys.length * a.length ≤ 16777216 then some (.d (.str (Txt.join a ys))) else none
  | .join, .str a, [.tup xs] => (strsO xs).bind fun ys => if (ys.map (·.length)).sum + ys.length * a.length ≤ 16777216 then some (.d (.str (Txt.join a ys))) else none
  | .partition, .str a, [.str b] => if (b.length == 0) = false ∧ a.length ≤ 16777216 then some (.d (.tup [.str (Txt.partition a b).1, .str (Txt.partition a b).2.1, .str (Txt.partition a b).2.2])) else none
  | .starts, .str a, [.str b] => some (.d (.bl (Txt.startswith a b)))
  | .ends, .str a, [.str b] => some (.d (.bl (Txt.endswith a b)))
  | _, _, _ => none
/-- the parts of an f-string put together -/
def fstD : List D → Option Str
  | [] => some Str.empty
  | .str x :: r => (fstD r).map (x ++ ·)
  | .int i :: r => if i.natAbs.log2 < 1920 then (fstD r).map (toString i ++ ·) else none
  | _ => none
/-- how many different texts -/
def setLen : D → Option Nat
  | .lst xs => if xs.length ≤ 1000 then (strsO xs).map fun ys => ys.eraseDups.length else none
  | .tup xs => if xs.length ≤ 1000 then (strsO xs).map fun ys => ys.eraseDups.length else none
  | _ => none
/-- the receiver's kind -/
def bmK : BM → D → Bool
  | .get1, .dK _ => true
  | .get1, .dT _ => true
  | .get2, .dK _ => true
  | .get2, .dT _ => true
  | .split, .str _ => true
  | .join, .str _ => true
  | .partition, .str _ => true
  | .starts, .str _ => true
  | .ends, .str _ => true
  | _, _ => false
/-- a cell's content behind a changing method -/
def mmD (m : MM) (o : D) (as : List D) : Option D := match m, o, as with
  | .append, .lst xs, [x] => if xs.length < 16777216 then some (.lst (xs ++ [x])) else none
  | .extend, .lst xs, [.lst ys] => if xs.length + ys.length ≤ 16777216 then some (.lst (xs ++ ys)) else none
  | .clear, .lst _, [] => some (.lst [])
  | .clear, .dK _, [] => some (.dK [])
  | .reverse, .lst xs, [] => some (.lst xs.reverse)
  | _, _, _ => none
/-- a receiver of a changing method -/
def mmK : MM → D → Bool
  | .append, .lst _ => true
  | .extend, .lst _ => true
  | .reverse, .lst _ => true
  | .clear, .lst _ => true
  | .clear, .dK _ => true
  | _, _ => false
def setD (o k v : D) : Option D := match o with
  | .dK kvs => (asK k).bind fun k => if kvs.length < 16777216 then some (.dK (putA kvs k v)) else none
  | .dT kvs => (match k with | .tup ks => (asKs ks).bind fun k => if kvs.length < 16777216 then some (.dT (putA kvs k v)) else none | _ => none)
  | .lst xs => (match k with | .int i => (ixN xs.length i).map fun j => .lst (xs.set j v) | _ => none)
  | _ => none
/-- the items that are walked -/
def enumF (i : Int) : List D → List D
  | [] => []
  | x :: r => .tup [.int i, x] :: enumF (i + 1) r
def rngD (a b : Int) : List D := (List.range (b - a).toNat).map fun i => .int (a + (i : Nat))
def seqO : D → Option (List D)
  | .lst xs => some xs
  | .tup xs => some xs
  | _ => none
def itD (ik : IK) (as : List D) : Option (List D) := match ik, as with
  | .seq, [.lst xs] => some xs
  | .seq, [.tup xs] => some xs
  | .seq, [.str z] => if z.cps.size ≤ 16777216 then some (z.cps.toList.map fun c => .str ⟨#[c]⟩) else none
  | .keys, [.dK kvs] => some (kvs.map fun p => kD p.1)
  | .keys, [.dT kvs] => some (kvs.map fun p => ksD p.1)
  | .vals, [.dK kvs] => some (kvs.map (·.2))
  | .rng, [.int n] => if -(2 ^ 62) ≤ n ∧ n ≤ 16777216 then some (rngD 0 n) else none
  | .rng, [.int a, .int b] => if (0 ≤ a ∧ a ≤ 16777216) ∧ (-(2 ^ 62) ≤ b ∧ b ≤ 16777216) then some (rngD a b) else none
  | .enum_, [.lst xs] => some (enumF 0 xs)
  | .enum_, [.tup xs] => some (enumF 0 xs)
  | .items, [.dK kvs] => some (kvs.map fun p => .tup [kD p.1, p.2])
  | .zip_, [xs, ys] => (seqO xs).bind fun xs => (seqO ys).map fun ys => List.zipWith (fun x y => .tup [x, y]) xs ys
  | .zips_, [xs, ys] => (seqO xs).bind fun xs => (seqO ys).bind fun ys => if xs.length = ys.length then some (List.zipWith (fun x y => .tup [x, y]) xs ys) else none
  | _, _ => none
/-! ### classes, functions -/
structure Fd where
  ps : Nat
  n : Nat
  body : List Sm
/-- a module: its functions; a class's methods (a class, a name: the function); own classes above a class -/
structure Md where
  fns : List Fd
  ms : List ((Nat × Nat) × Nat)
  sup : List (Nat × List Nat)
  ef : List (Nat × Nat)
  bsup : List (Nat × List String)
  at_ : List (Nat × Nat)
  pr : List ((Nat × Nat) × Nat)
  ncl : Nat
def Md.isA (md : Md) (c e : Nat) : Bool := c == e || (match md.sup.lookup c with
  | some l => l.contains e
  | none => false)
def tyB (md : Md) : D → Ty → Bool
  | .str _, .tstr => true
  | .int _, .tint => true
  | .bl _, .tint => true
  | .bl _, .tbool => true
  | .lst _, .tlist => true
  | .tup _, .ttuple => true
  | .dK _, .tdict => true
  | .dT _, .tdict => true
  | .ins c _, .tcls e => md.isA c e
  | _, _ => false
def noT (n : Nat) : D → Bool
  | .dT _ => false
  | .ins c _ => decide (c < n)
  | _ => true
def exB (md : Md) (c : Nat) : Ty → Bool
  | .tcls e => md.isA c e
  | .tblt n => (match md.bsup.lookup c with
    | some l => l.contains n
    | none => false)
  | _ => false
/-- the class of an instance that has no field of that name -/
def clsOf (mn : Nat) : RV → Mem → Option Nat
  | .d (.ins c fs), _ => if (fs.lookup mn).isSome = true then none else some c
  | .o (.ins c fs), _ => if (fs.lookup mn).isSome = true then none else some c
  | .c n, m => match m[n]? with
    | some w => (match w.view with
      | .ins c fs => if (fs.lookup mn).isSome = true then none else some c
      | _ => none)
    | _ => none
  | _, _ => none
def clsM (mn : Nat) (x : RV) : Mo Nat := fun m => match clsOf mn x m with
  | some c => .ok c m
  | none => .no
/-- as an argument -/
def argM : RV → Mo Val
  | .d x => pur (.d x)
  | .o x => pur (.d x)
  | .c n => pur (.c n)
  | .f _ _ => no
  | .x _ _ => no
  | .s _ => no
def argsM : List RV → Mo (List Val)
  | [] => pur []
  | x :: r => bnd (argM x) fun v => bnd (argsM r) fun vs => pur (v :: vs)
def viewsM : List RV → Mo (List D)
  | [] => pur []
  | x :: r => bnd (viewM x) fun v => bnd (viewsM r) fun vs => pur (v :: vs)
def frzsM : List RV → Mo (List D)
  | [] => pur []
  | x :: r => bnd (frzM x) fun v => bnd (frzsM r) fun vs => pur (v :: vs)
def valR : Val → Mo RV
  | .d x => pur (.d x)
  | .c n => pur (.c n)
  | .x c p => pur (.x c p)
  | .s ns => pur (.s ns)
abbrev Sl := List (Option Val)
def slotM (s : Sl) (i : Nat) : Mo RV := match s[i]? with
  | some (some v) => valR v
  | _ => no
/-- a field -/
def attrM (md : Md) (f : Nat) : RV → Mo RV
  | .d (.ins c fs) => if (c, f) ∈ md.at_ then (match fs.lookup f with | some x => pur (.d x) | none => no) else no
  | .o (.ins c fs) => if (c, f) ∈ md.at_ then (match fs.lookup f with | some x => pur (.d x) | none => no) else no
  | .x c p => if md.ef.lookup c = some f then pur (.d p) else no
  | .c n => fun m => (match m[n]? with
    | some (.iv c fs) => if (c, f) ∈ md.at_ then (match fs.lookup f with
      | some (.d x) => .ok (.d x) m
      | some (.w _) => .ok (.f n f) m
      | _ => .no) else .no
    | some (.fl (.ins c fs)) => if (c, f) ∈ md.at_ then (match fs.lookup f with | some x => .ok (.d x) m | none => .no) else .no
    | some (.fz (.ins c fs)) => if (c, f) ∈ md.at_ then (match fs.lookup f with | some x => .ok (.d x) m | none => .no) else .no
    | _ => .no)
  | _ => no
/-- one or two keys, whatever kind the empty table is told to have -/
def rD (x : Option D) : Mo RV := match x with
  | some d => pur (.d d)
  | none => no
def wipeS (s : Sl) : List Nat → Sl
  | [] => s
  | v :: vs => (wipeS s vs).set v none
def setT (s : Sl) : Tg → D → Option Sl
  | .nm i, x => some (s.set i (some (.d x)))
  | .tp is, .tup xs => if is.length = xs.length then some ((is.zip xs).foldl (fun s p => s.set p.1 (some (.d p.2))) s) else none
  | .tp is, .lst xs => if is.length = xs.length then some ((is.zip xs).foldl (fun s p => s.set p.1 (some (.d p.2))) s) else none
  | .tp _, _ => none
def mapM' {α β : Type} (f : α → Mo β) : List α → Mo (List β)
  | [] => pur []
  | x :: r => bnd (f x) fun y => bnd (mapM' f r) fun ys => pur (y :: ys)
/-- a comprehension's turns: none where a test fails -/
def lcM (f : D → Mo (Option D)) : List D → Mo (List D)
  | [] => pur []
  | x :: r => bnd (f x) fun y => bnd (lcM f r) fun ys => pur (match y with
    | some y => y :: ys
    | none => ys)
def dcM (f : D → Mo (Option (Key × D))) : List D → List (Key × D) → Mo (List (Key × D))
  | [], acc => pur acc
  | x :: r, acc => bnd (f x) fun y => dcM f r (match y with
    | some (k, v) => putA acc k v
    | none => acc)
/-- nothing may be raised within -/
def nrz {α : Type} (x : Mo α) : Mo α := fun m => match x m with
  | .ok a m' => .ok a m'
  | _ => .no
theorem nrz_pur {α : Type} (a : α) : nrz (pur a) = pur a := rfl
def boolM (x : Option Bool) : Mo Bool := ofO x
def isiM (md : Md) (ts : List Ty) (x : RV) : Mo RV := match x with
  | .x c _ => pur (.d (.bl (ts.any (exB md c))))
  | x => bnd (viewM x) fun d => grd (noT md.ncl d) (pur (.d (.bl (ts.any (tyB md d)))))
/-- a class's instance: its init run on a new cell; then frozen, or kept as a cell -/
def mkM (mu : Bool) (c : Nat) (cf : List Val → Mo RV) (vs : List Val) : Mo RV := fun m => (match cf (.c m.length :: vs) (m ++ [.iv c []]) with
      | .ok r m' => (match r with
        | .d .non => (match mu with
          | true => .ok (.c m.length) m'
          | false => match m'[m.length]? with
            | some w => .ok (.d w.view) (m'.take m.length)
            | _ => .no)
        | _ => .no)
      | .rz e m' => .rz e (m'.take m.length)
      | .no => .no)
def isNonE : Ep → Bool
  | .k .non => true
  | _ => false
/-- an int, as a slice's part -/
def intM (x : Mo RV) : Mo (Option Int) := bnd x fun v => bnd (viewM v) fun d => (match d with
  | .int i => pur (some i)
  | _ => no)
section
variable (md : Md) (cf : Nat → List Val → Mo RV)
mutual
def ev : Ep → Sl → Mo RV
  | .v i, s => slotM s i
  | .k d, _ => pur (.d d)
  | .gc _ d, _ => pur (.d d)
  | .bin o a b, s => bnd (ev a s) fun x => bnd (ev b s) fun y => bnd (viewM x) fun x => bnd (viewM y) fun y => ofO (binD o x y)
  | .neg a, s => bnd (ev a s) fun x => bnd (viewM x) fun x => (match x with | .int i => pur (.d (.int (-i))) | _ => no)
  | .not_ a, s => bnd (ev a s) fun x => bnd (viewM x) fun d => bnd (ofO (truD d)) fun b => pur (.d (.bl (!b)))
  | .cmp o a b, s => bnd (ev a s) fun x => bnd (ev b s) fun y => bnd (viewM x) fun x => bnd (viewM y) fun y => bnd (ofO (cmpD o x y)) fun b => pur (.d (.bl b))
  | .chain o1 o2 a b c, s => bnd (ev a s) fun x => bnd (ev b s) fun y => bnd (viewM x) fun x => bnd (viewM y) fun y' => bnd (ofO (cmpD o1 x y')) fun t =>
      (match t with
      | true => bnd (ev c s) fun z => bnd (viewM y) fun y => bnd (viewM z) fun z => bnd (ofO (cmpD o2 y z)) fun b => pur (.d (.bl b))
      | false => pur (.d (.bl false)))
  | .and_ a b, s => bnd (ev a s) fun x => bnd (viewM x) fun d => bnd (ofO (truD d)) fun t => (match t with | true => ev b s | false => pur x)
  | .or_ a b, s => bnd (ev a s) fun x => bnd (viewM x) fun d => bnd (ofO (truD d)) fun t => (match t with | true => pur x | false => ev b s)
  | .ife c a b, s => bnd (ev c s) fun x => bnd (viewM x) fun d => bnd (ofO (truD d)) fun t => (match t with | true => ev a s | false => ev b s)
  | .call f as, s => bnd (evs as s) fun xs => bnd (argsM xs) fun vs => cf f vs
  | .mk c f as, s => bnd (evs as s) fun xs => bnd (argsM xs) fun vs => mkM false c (cf f) vs
  | .meth mn o as, s => bnd (ev o s) fun x => bnd (clsM mn x) fun c => bnd (ofO (md.ms.lookup (c, mn))) fun f => bnd (evs as s) fun xs => bnd (argsM xs) fun vs => bnd (argM x) fun v => cf f (v :: vs)
  | .attr f o, s => bnd (ev o s) (attrM md f)
  | .prop p o, s => bnd (ev o s) fun x => bnd (clsM p x) fun c => bnd (ofO (md.pr.lookup (c, p))) fun f => bnd (argM x) fun v => nrz (cf f [v])
  | .ccon _ _ d, _ => pur (.d d)
  | .bi b as, s => bnd (evs as s) fun xs => bnd (viewsM xs) fun ds => ofO (biD b ds)
  | .lenset a, s => bnd (ev a s) fun x => bnd (viewM x) fun d => bnd (ofO (setLen d)) fun n => pur (.d (.int (n : Nat)))
  | .isi a ts, s => bnd (ev a s) fun x => isiM md ts x
  | .bm b o as, s => bnd (ev o s) fun x => bnd (viewM x) fun d => grd (bmK b d) (bnd (evs as s) fun xs => bnd (viewM x) fun d => bnd (viewsM xs) fun ds => ofO (bmD b d ds))
  | .sub a i, s => bnd (ev a s) fun x => bnd (ev i s) fun y => bnd (viewM x) fun x => bnd (viewM y) fun y => rD (subD x y)
  | .sl a lo hi, s => bnd (ev a s) fun x => bnd (match isNonE lo with
      | true => pur none
      | false => intM (ev lo s)) fun l => bnd (match isNonE hi with
      | true => pur none
      | false => intM (ev hi s)) fun h => bnd (viewM x) fun x => ofO (cutD x l h)
  | .rev a, s => bnd (ev a s) fun x => bnd (viewM x) fun x => ofO (revD x)
  | .lst es, s => bnd (evs es s) fun xs => bnd (frzsM xs) fun ds => pur (.o (.lst ds))
  | .tup es, s => bnd (evs es s) fun xs => bnd (frzsM xs) fun ds => pur (.d (.tup ds))
  | .dct t ks vs, s => (match ks, vs with | [], [] => pur (.o (if t then .dT [] else .dK [])) | _, _ => no)
  | .lc own t ik as ifs e, s => bnd (evs as s) fun xs => bnd (frzsM xs) fun ds => bnd (ofO (itD ik ds)) fun items =>
      bnd (lcM (fun x => nrz (bnd (ofO (setT (wipeS s own) t x)) fun s' => bnd (evTs ifs s') fun b => (match b with
        | true => bnd (ev e s') fun y => bnd (frzM y) fun y => pur (some y)
        | false => pur none))) items) fun ys => pur (.o (.lst ys))
  | .dc own t ik as ifs k v, s => bnd (evs as s) fun xs => bnd (frzsM xs) fun ds => bnd (ofO (itD ik ds)) fun items =>
      bnd (dcM (fun x => nrz (bnd (ofO (setT (wipeS s own) t x)) fun s' => bnd (evTs ifs s') fun b => (match b with
        | true => bnd (ev k s') fun y => bnd (ev v s') fun z => bnd (viewM y) fun y => bnd (frzM z) fun z => bnd (ofO (asK y)) fun y => pur (some (y, z))
        | false => pur none))) items []) fun ys => pur (.o (.dK ys))
  | .fz a, s => bnd (ev a s) fun x => bnd (frzM x) fun d => pur (.d d)
  | .mkM c f as, s => bnd (evs as s) fun xs => bnd (argsM xs) fun vs => mkM true c (cf f) vs
  | .scut i n, s => bnd (slotM s i) fun x => (match x with
      | .s ns => pur (.o (.lst (cutL (ns.map .int) none (some (n : Int)))))
      | _ => no)
  | .semp i, s => bnd (slotM s i) fun x => (match x with
      | .s ns => pur (.d (.bl ns.isEmpty))
      | _ => no)
  | .lit ik as, s => bnd (evs as s) fun xs => bnd (viewsM xs) fun ds => bnd (ofO (itD ik ds)) fun items => pur (.o (.lst items))
  | .fst ps, s => bnd (evs ps s) fun xs => bnd (viewsM xs) fun ds => bnd (ofO (fstD ds)) fun z => if z.length ≤ 16777216 then pur (.d (.str z)) else no
def evs : List Ep → Sl → Mo (List RV)
  | [], _ => pur []
  | e :: r, s => bnd (ev e s) fun x => bnd (evs r s) fun xs => pur (x :: xs)
def evTs : List Ep → Sl → Mo Bool
  | [], _ => pur true
  | e :: r, s => bnd (ev e s) fun x => bnd (viewM x) fun d => bnd (ofO (truD d)) fun t => (match t with | true => evTs r s | false => pur false)
end
/-- as a test -/
def evT (e : Ep) (s : Sl) : Mo Bool := bnd (ev md cf e s) fun x => bnd (viewM x) fun d => ofO (truD d)
end
/-! ### statements -/
inductive Fl where
  | nx (s : Sl)
  | rt (r : RV)
  | bk (s : Sl)
  | ct (s : Sl)
  | rs (x : Ex) (s : Sl)
/-- an expression within a statement -/
def sM {α : Type} (s : Sl) (x : Mo α) (f : α → Mo Fl) : Mo Fl := fun m => match x m with
  | .ok a m' => f a m'
  | .rz e m' => .ok (.rs e s) m'
  | .no => .no
theorem sM_pur {α : Type} (s : Sl) (a : α) (f : α → Mo Fl) : sM s (pur a) f = f a := rfl
theorem sM_no {α : Type} (s : Sl) (f : α → Mo Fl) : sM s no f = no := rfl
theorem sM_rz {α : Type} (s : Sl) (e : Ex) (f : α → Mo Fl) : sM s (rz e) f = pur (.rs e s) := rfl
def forM' (f : D → Sl → Mo Fl) : List D → Sl → Mo Fl
  | [], s => pur (.nx s)
  | x :: r, s => bnd (f x s) fun fl => (match fl with
    | .nx s' => forM' f r s'
    | .ct s' => forM' f r s'
    | .bk s' => pur (.nx s')
    | fl => pur fl)
def whM (c : Sl → Mo Bool) (f : Sl → Mo Fl) : Nat → Sl → Mo Fl
  | 0, _ => no
  | n + 1, s => sM s (c s) fun b => (match b with
    | false => pur (.nx s)
    | true => bnd (f s) fun fl => (match fl with
      | .nx s' => whM c f n s'
      | .ct s' => whM c f n s'
      | .bk s' => pur (.nx s')
      | fl => pur fl))
def whFuel : Nat := 1000000
/-- a new cell, or the frozen tree -/
def cellM : RV → Mo Val
  | .d x => pur (.d x)
  | .c n => pur (.c n)
  | .o x => bnd (newM x) fun n => pur (.c n)
  | _ => no
def slM (b : Bool) (x : RV) : Mo Val := match b with
  | true => cellM x
  | false => bnd (frzM x) fun d => pur (.d d)
def putFd (fs : List (Nat × FV)) (f : Nat) (v : FV) : List (Nat × FV) := match fs with
  | [] => [(f, v)]
  | (g, x) :: r => if g = f then (g, v) :: r else (g, x) :: putFd r f v
/-- a cell's tree is put anew -/
def putM (x : RV) (f : D → Option D) : Mo Unit := match x with
  | .c n => fun m => (match m[n]? with
    | some (.fl d) => (match f d with
      | some d' => .ok () (m.set n (.fl d'))
      | none => .no)
    | _ => .no)
  | .f n k => fun m => (match m[n]? with
    | some (.iv c fs) => (match fs.lookup k with
      | some (.w d) => (match f d with
        | some d' => .ok () (m.set n (.iv c (putFd fs k (.w d'))))
        | none => .no)
      | _ => .no)
    | _ => .no)
  | _ => no
def setFM (md : Md) (x : RV) (f : Nat) (d : D) : Mo Unit := match x with
  | .c n => fun m => (match m[n]? with
    | some (.iv c fs) => if (c, f) ∈ md.at_ then (match fs.lookup f with
      | some (.w _) => .no
      | _ => if fs.length < 900 then .ok () (m.set n (.iv c (putFd fs f (.d d)))) else .no) else .no
    | _ => .no)
  | _ => no
def setWM (md : Md) (x : RV) (f : Nat) (v : RV) : Mo Unit := match x, v with
  | .c n, .o d => fun m => (match m[n]? with
    | some (.iv c fs) => if (c, f) ∈ md.at_ then (match fs.lookup f with
      | none => if fs.length < 900 then .ok () (m.set n (.iv c (fs ++ [(f, .w d)]))) else .no
      | _ => .no) else .no
    | _ => .no)
  | _, _ => no
section
variable (md : Md) (cf : Nat → List Val → Mo RV)
mutual
def ex : Sm → Sl → Mo Fl
  | .asg i e, s => sM s (bnd (ev md cf e s) frzM) fun d => pur (.nx (s.set i (some (.d d))))
  | .asgM i e, s => sM s (bnd (ev md cf e s) cellM) fun v => pur (.nx (s.set i (some v)))
  | .asgT is e, s => sM s (bnd (ev md cf e s) frzM) fun d => sM s (ofO (setT s (.tp is) d)) fun s' => pur (.nx s')
  | .par i j mi mj a b, s => sM s (bnd (ev md cf a s) fun x => bnd (ev md cf b s) fun y => bnd (slM mj y) fun w => bnd (slM mi x) fun v => pur (v, w)) fun p => pur (.nx ((s.set i (some p.1)).set j (some p.2)))
  | .setI o k v, s => sM s (bnd (ev md cf v s) fun x => bnd (ev md cf o s) fun y => bnd (ev md cf k s) fun z => bnd (frzM x) fun x => bnd (viewM z) fun z => putM y fun d => setD d z x) fun _ => pur (.nx s)
  | .setF f o v, s => sM s (bnd (ev md cf v s) fun x => bnd (ev md cf o s) fun y => bnd (frzM x) fun x => setFM md y f x) fun _ => pur (.nx s)
  | .setW f o v, s => sM s (bnd (ev md cf v s) fun x => bnd (ev md cf o s) fun y => setWM md y f x) fun _ => pur (.nx s)
  | .mm m o as, s => sM s (bnd (ev md cf o s) fun x => bnd (viewM x) fun d => grd (mmK m d) (bnd (evs md cf as s) fun xs => bnd (frzsM xs) fun ds => putM x fun d => mmD m d ds)) fun _ => pur (.nx s)
  | .ex e, s => sM s (ev md cf e s) fun _ => pur (.nx s)
  | .ret e, s => sM s (ev md cf e s) fun x => pur (.rt x)
  | .retN, _ => pur (.rt (.d .non))
  | .if_ c a b, s => sM s (evT md cf c s) fun t => (match t with
      | true => exs a s
      | false => exs b s)
  | .for_ t ik as b, s => sM s (bnd (evs md cf as s) fun xs => bnd (frzsM xs) fun ds => ofO (itD ik ds)) fun items =>
      forM' (fun x s => bnd (ofO (setT s t x)) fun s' => exs b s') items s
  | .while_ c b, s => whM (evT md cf c) (exs b) whFuel s
  | .raise_ c e, s => sM s (bnd (ev md cf e s) frzM) fun d => pur (.rs ⟨c, d⟩ s)
  | .raiseF c e, s => sM s (bnd (ev md cf e s) frzM) fun d => pur (.rs ⟨c, d⟩ s)
  | .try_ b hs, s => bnd (exs b s) fun fl => (match fl with
      | .rs x s' => exh hs x s'
      | fl => pur fl)
  | .aug i o e, s => sM s (bnd (slotM s i) fun x => bnd (ev md cf e s) fun y => bnd (viewM x) fun x => bnd (viewM y) fun y => bnd (ofO (augD o x y)) fun d => pur d) fun d => pur (.nx (s.set i (some (.d d))))
  | .binit, s => pur (.nx s)
  | .nv, _ => no
  | .pass_, s => pur (.nx s)
  | .brk, s => pur (.bk s)
  | .cnt, s => pur (.ct s)
def exs : List Sm → Sl → Mo Fl
  | [], s => pur (.nx s)
  | a :: r, s => bnd (ex a s) fun fl => (match fl with
      | .nx s' => exs r s'
      | fl => pur fl)
def exh : List (Nat × Option Nat × List Sm) → Ex → Sl → Mo Fl
  | [], x, s => pur (.rs x s)
  | (c, o, b) :: r, x, s => if md.isA x.c c then (match o with
      | some i => bnd (exs b (s.set i (some (.x x.c x.p)))) fun fl => (match fl with
        | .nx s' => pur (.nx (s'.set i none))
        | .bk s' => pur (.bk (s'.set i none))
        | .ct s' => pur (.ct (s'.set i none))
        | .rs e s' => pur (.rs e (s'.set i none))
        | fl => pur fl)
      | none => exs b s) else exh r x s
end
end
/-! ### calls -/
def startS (vs : List Val) (n : Nat) : Sl := vs.map some ++ List.replicate (n - vs.length) none
/-- what a body hands out; n0: the cells that stood at the entry -/
def outM (n0 : Nat) : Fl → Mo RV
  | .nx _ => pur (.d .non)
  | .rt (.c n) => fun m => if n < n0 then .ok (.c n) m else (match m[n]? with
    | some (.fl d) => .ok (.o d) m
    | some (.fz d) => .ok (.d d) m
    | _ => .no)
  | .rt (.f _ _) => no
  | .rt (.x _ _) => no
  | .rt (.s _) => no
  | .rt r => pur r
  | .rs e _ => rz e
  | _ => no
def cutM {α : Type} (n0 : Nat) (x : Mo α) : Mo α := fun m => match x m with
  | .ok a m' => .ok a (m'.take n0)
  | .rz e m' => .rz e (m'.take n0)
  | .no => .no
def callI (md : Md) : Nat → Nat → List Val → Mo RV
  | 0, _, _ => no
  | k + 1, f, vs => match md.fns[f]? with
    | some fd => if vs.length = fd.ps then fun m => cutM m.length (bnd (exs md (callI md k) fd.body (startS vs fd.n)) (outM m.length)) m else no
    | none => no
end Fw

/-! T3: how trees lie in the abstract heap. -/
namespace Fw
open PySem PySem.Spec PyProof.Rows L2

/-- what of the text the relations lean on: its written part, the classes' addresses, the fields' names -/
structure Wd where
  K : PySem.W.Frag
  ca : Nat → Addr
  fn : Nat → Str
  fi : ∀ f g, fn f = fn g → f = g
  en : Nat → Str
section
variable (W : Wd) (P : Addr → Prop) (H : Hp)
mutual
def Rep : D → V → Prop
  | .non, v => v = .non
  | .bl b, v => v = .bl b
  | .int i, v => v = .int i
  | .str x, v => v = .str x
  | .tup xs, v => ∃ a vs, v = .ref a ∧ (H a = some (.tup vs) ∧ P a) ∧ Reps xs vs
  | .lst xs, v => ∃ a vs, v = .ref a ∧ (H a = some (.lst vs) ∧ P a) ∧ Reps xs vs
  | .dK kvs, v => ∃ a vs, v = .ref a ∧ (Rd H a (.dK vs) ∧ P a) ∧ RepK kvs vs
  | .dT kvs, v => ∃ a vs, v = .ref a ∧ (Rd H a (.dT vs) ∧ P a) ∧ RepT kvs vs
  | .ins c fs, v => ∃ a dx vs, v = .ref a ∧ (H a = some (.ins (W.ca c) dx vs) ∧ P a) ∧ RepF fs vs
def Reps : List D → List V → Prop
  | [], vs => vs = []
  | x :: r, vs => ∃ v w, vs = v :: w ∧ Rep x v ∧ Reps r w
def RepK : List (Key × D) → List (Key × V) → Prop
  | [], vs => vs = []
  | (k, x) :: r, vs => ∃ v w, vs = (k, v) :: w ∧ Rep x v ∧ RepK r w
def RepT : List (List Key × D) → List (List Key × V) → Prop
  | [], vs => vs = []
  | (k, x) :: r, vs => ∃ v w, vs = (k, v) :: w ∧ Rep x v ∧ RepT r w
def RepF : List (Nat × D) → List (Str × V) → Prop
  | [], vs => vs = []
  | (k, x) :: r, vs => ∃ v w, vs = (W.fn k, v) :: w ∧ Rep x v ∧ RepF r w
end
end
/-- what of the heap a tree needs stands on -/
structure Stay (P P' : Addr → Prop) (H H' : Hp) : Prop where
  rd : ∀ a u, P a → Rd H a u → Rd H' a u ∧ P' a
  lst : ∀ a vs, P a → H a = some (.lst vs) → H' a = some (.lst vs) ∧ P' a
  tup : ∀ a vs, P a → H a = some (.tup vs) → H' a = some (.tup vs) ∧ P' a
  ins : ∀ a C dx vs, P a → H a = some (.ins C dx vs) → H' a = some (.ins C dx vs) ∧ P' a
theorem Stay.of {P P' : Addr → Prop} {H H' : Hp} (k : ∀ a o, P a → H a = some o → H' a = some o) (p : ∀ a, P a → P' a) : Stay P P' H H' where
  rd := fun a u q h => ⟨h.elim (fun h => .inl (k a _ q h)) fun ⟨o, h⟩ => .inr ⟨o, k a _ q h⟩, p a q⟩
  lst := fun a vs q h => ⟨k a _ q h, p a q⟩
  tup := fun a vs q h => ⟨k a _ q h, p a q⟩
  ins := fun a C dx vs q h => ⟨k a _ q h, p a q⟩
section
variable {W : Wd} {P P' : Addr → Prop} {H H' : Hp}
mutual
theorem Rep.stay (s : Stay P P' H H') : ∀ (d : D) (v : V), Rep W P H d v → Rep W P' H' d v
  | .non, _, h => by simpa only [Rep] using h
  | .bl _, _, h => by simpa only [Rep] using h
  | .int _, _, h => by simpa only [Rep] using h
  | .str _, _, h => by simpa only [Rep] using h
  | .tup xs, v, h => by
    simp only [Rep] at h ⊢
    obtain ⟨a, vs, e, h, r⟩ := h
    exact ⟨a, vs, e, s.tup _ _ h.2 h.1, Reps.stay s xs vs r⟩
  | .lst xs, v, h => by
    simp only [Rep] at h ⊢
    obtain ⟨a, vs, e, h, r⟩ := h
    exact ⟨a, vs, e, s.lst _ _ h.2 h.1, Reps.stay s xs vs r⟩
  | .dK kvs, v, h => by
    simp only [Rep] at h ⊢
    obtain ⟨a, vs, e, h, r⟩ := h
    exact ⟨a, vs, e, s.rd _ _ h.2 h.1, RepK.stay s kvs vs r⟩
  | .dT kvs, v, h => by
    simp only [Rep] at h ⊢
    obtain ⟨a, vs, e, h, r⟩ := h
    exact ⟨a, vs, e, s.rd _ _ h.2 h.1, RepT.stay s kvs vs r⟩
  | .ins c fs, v, h => by
    simp only [Rep] at h ⊢
    obtain ⟨a, dx, vs, e, h, r⟩ := h
    exact ⟨a, dx, vs, e, s.ins _ _ _ _ h.2 h.1, RepF.stay s fs vs r⟩
theorem Reps.stay (s : Stay P P' H H') : ∀ (ds : List D) (vs : List V), Reps W P H ds vs → Reps W P' H' ds vs
  | [], _, h => by simpa only [Reps] using h
  | d :: ds, vs, h => by
    simp only [Reps] at h ⊢
    obtain ⟨v, w, e, h, r⟩ := h
    exact ⟨v, w, e, Rep.stay s d v h, Reps.stay s ds w r⟩
theorem RepK.stay (s : Stay P P' H H') : ∀ (ds : List (Key × D)) (vs : List (Key × V)), RepK W P H ds vs → RepK W P' H' ds vs
  | [], _, h => by simpa only [RepK] using h
  | (k, d) :: ds, vs, h => by
    simp only [RepK] at h ⊢
    obtain ⟨v, w, e, h, r⟩ := h
    exact ⟨v, w, e, Rep.stay s d v h, RepK.stay s ds w r⟩
theorem RepT.stay (s : Stay P P' H H') : ∀ (ds : List (List Key × D)) (vs : List (List Key × V)), RepT W P H ds vs → RepT W P' H' ds vs
  | [], _, h => by simpa only [RepT] using h
  | (k, d) :: ds, vs, h => by
    simp only [RepT] at h ⊢
    obtain ⟨v, w, e, h, r⟩ := h
    exact ⟨v, w, e, Rep.stay s d v h, RepT.stay s ds w r⟩
theorem RepF.stay (s : Stay P P' H H') : ∀ (ds : List (Nat × D)) (vs : List (Str × V)), RepF W P H ds vs → RepF W P' H' ds vs
  | [], _, h => by simpa only [RepF] using h
  | (k, d) :: ds, vs, h => by
    simp only [RepF] at h ⊢
    obtain ⟨v, w, e, h, r⟩ := h
    exact ⟨v, w, e, Rep.stay s d v h, RepF.stay s ds w r⟩
end
end

/-! ### lists -/
section
variable {W : Wd} {P : Addr → Prop} {H : Hp}
theorem Reps.nil {vs : List V} : Reps W P H [] vs ↔ vs = [] := by simp only [Reps]
theorem Reps.cons {d : D} {ds : List D} {vs : List V} : Reps W P H (d :: ds) vs ↔ ∃ v w, vs = v :: w ∧ Rep W P H d v ∧ Reps W P H ds w := by simp only [Reps]
theorem Reps.mk {d : D} {ds : List D} {v : V} {vs : List V} (h : Rep W P H d v) (r : Reps W P H ds vs) : Reps W P H (d :: ds) (v :: vs) := Reps.cons.mpr ⟨v, vs, rfl, h, r⟩
theorem Reps.mk0 : Reps W P H [] [] := Reps.nil.mpr rfl
theorem Reps.length : ∀ {ds : List D} {vs : List V}, Reps W P H ds vs → ds.length = vs.length
  | [], vs, h => by rw [Reps.nil.mp h]; rfl
  | d :: ds, vs, h => by
    obtain ⟨v, w, rfl, _, r⟩ := Reps.cons.mp h
    rw [List.length_cons, List.length_cons, Reps.length r]
theorem Reps.get : ∀ {ds : List D} {vs : List V} {i : Nat} {d : D}, Reps W P H ds vs → ds[i]? = some d → ∃ v, vs[i]? = some v ∧ Rep W P H d v
  | [], vs, i, d, _, e => by simp at e
  | x :: ds, vs, 0, d, h, e => by
    obtain ⟨v, w, rfl, q, r⟩ := Reps.cons.mp h
    rw [List.getElem?_cons_zero] at e
    cases e
    exact ⟨v, rfl, q⟩
  | x :: ds, vs, i + 1, d, h, e => by
    obtain ⟨v, w, rfl, q, r⟩ := Reps.cons.mp h
    rw [List.getElem?_cons_succ] at e
    obtain ⟨u, e1, e2⟩ := Reps.get r e
    exact ⟨u, by rw [List.getElem?_cons_succ]; exact e1, e2⟩
theorem Reps.getV : ∀ {ds : List D} {vs : List V} {i : Nat} {v : V}, Reps W P H ds vs → vs[i]? = some v → ∃ d, ds[i]? = some d ∧ Rep W P H d v
  | [], vs, i, v, h, e => by rw [Reps.nil.mp h] at e; simp at e
  | x :: ds, vs, 0, d, h, e => by
    obtain ⟨v, w, rfl, q, r⟩ := Reps.cons.mp h
    rw [List.getElem?_cons_zero] at e
    cases e
    exact ⟨x, rfl, q⟩
  | x :: ds, vs, i + 1, d, h, e => by
    obtain ⟨v, w, rfl, q, r⟩ := Reps.cons.mp h
    rw [List.getElem?_cons_succ] at e
    obtain ⟨u, e1, e2⟩ := Reps.getV r e
    exact ⟨u, by rw [List.getElem?_cons_succ]; exact e1, e2⟩
theorem Reps.app : ∀ {ds es : List D} {vs ws : List V}, Reps W P H ds vs → Reps W P H es ws → Reps W P H (ds ++ es) (vs ++ ws)
  | [], _, vs, _, h, g => by rw [Reps.nil.mp h]; exact g
  | d :: ds, es, vs, ws, h, g => by
    obtain ⟨v, w, rfl, q, r⟩ := Reps.cons.mp h
    exact Reps.mk q (Reps.app r g)
theorem Reps.take : ∀ (n : Nat) {ds : List D} {vs : List V}, Reps W P H ds vs → Reps W P H (ds.take n) (vs.take n)
  | 0, _, _, _ => by rw [List.take_zero, List.take_zero]; exact Reps.mk0
  | n + 1, [], vs, h => by rw [Reps.nil.mp h, List.take_nil, List.take_nil]; exact Reps.mk0
  | n + 1, d :: ds, vs, h => by
    obtain ⟨v, w, rfl, q, r⟩ := Reps.cons.mp h
    rw [List.take_succ_cons, List.take_succ_cons]
    exact Reps.mk q (Reps.take n r)
theorem Reps.drop : ∀ (n : Nat) {ds : List D} {vs : List V}, Reps W P H ds vs → Reps W P H (ds.drop n) (vs.drop n)
  | 0, _, _, h => h
  | n + 1, [], vs, h => by rw [Reps.nil.mp h, List.drop_nil, List.drop_nil]; exact Reps.mk0
  | n + 1, d :: ds, vs, h => by
    obtain ⟨v, w, rfl, q, r⟩ := Reps.cons.mp h
    exact Reps.drop n r
theorem Reps.rev : ∀ {ds : List D} {vs : List V}, Reps W P H ds vs → Reps W P H ds.reverse vs.reverse
  | [], vs, h => by rw [Reps.nil.mp h]; exact Reps.mk0
  | d :: ds, vs, h => by
    obtain ⟨v, w, rfl, q, r⟩ := Reps.cons.mp h
    rw [List.reverse_cons, List.reverse_cons]
    exact Reps.app (Reps.rev r) (Reps.mk q Reps.mk0)
theorem Reps.set : ∀ {ds : List D} {vs : List V} (i : Nat) {d : D} {v : V}, Reps W P H ds vs → Rep W P H d v → Reps W P H (ds.set i d) (vs.set i v)
  | [], vs, i, d, v, h, _ => by rw [Reps.nil.mp h]; exact Reps.mk0
  | x :: ds, vs, 0, d, v, h, g => by
    obtain ⟨u, w, rfl, q, r⟩ := Reps.cons.mp h
    exact Reps.mk g r
  | x :: ds, vs, i + 1, d, v, h, g => by
    obtain ⟨u, w, rfl, q, r⟩ := Reps.cons.mp h
    exact Reps.mk q (Reps.set i r g)
theorem Reps.cut {ds : List D} {vs : List V} (lo hi : Option Int) (h : Reps W P H ds vs) : Reps W P H (cutL ds lo hi) (cutV vs lo hi) := by
  unfold cutL cutV
  rw [h.length]
  exact (h.drop _).take _
theorem Reps.rep {ds : List D} {vs : List V} (h : Reps W P H ds vs) : ∀ k : Nat, Reps W P H (List.replicate k ds).flatten (List.replicate k vs).flatten
  | 0 => Reps.mk0
  | k + 1 => by
    rw [List.replicate_succ, List.replicate_succ, List.flatten_cons, List.flatten_cons]
    exact Reps.app h (Reps.rep h k)
theorem Reps.at {ds : List D} {vs : List V} {i : Int} {d : D} (h : Reps W P H ds vs) (e : atI ds i = some d) : ∃ v, atI vs i = some v ∧ Rep W P H d v := by
  unfold atI at e ⊢
  rw [← h.length]
  cases q : ixN ds.length i with
  | none => rw [q] at e; cases e
  | some j =>
    rw [q] at e
    exact Reps.get h e
theorem Rep.asK {d : D} {v : V} {k : Key} (h : Rep W P H d v) (e : asK d = some k) : v = kV k := by
  cases d with
  | int i => cases e; simp only [Rep] at h; exact h
  | str i => cases e; simp only [Rep] at h; exact h
  | _ => cases e
theorem Reps.asKs : ∀ {ds : List D} {vs : List V} {ks : List Key}, Reps W P H ds vs → asKs ds = some ks → vs = ks.map kV
  | [], vs, ks, h, e => by
    have e' : ks = [] := by simpa [Fw.asKs] using e.symm
    rw [Reps.nil.mp h, e']; rfl
  | d :: ds, vs, ks, h, e => by
    obtain ⟨v, w, rfl, q, r⟩ := Reps.cons.mp h
    unfold Fw.asKs at e
    cases e1 : Fw.asK d with
    | none => rw [e1] at e; cases e
    | some k =>
      cases e2 : Fw.asKs ds with
      | none => rw [e1, e2] at e; cases e
      | some l =>
        rw [e1, e2] at e
        cases e
        rw [q.asK e1, Reps.asKs r e2]; rfl
theorem Rep.kD {k : Key} {v : V} : Rep W P H (kD k) v ↔ v = kV k := by
  cases k <;> simp only [Fw.kD, Rep, kV]
theorem Reps.kDs : ∀ {ks : List Key} {vs : List V}, Reps W P H (ks.map Fw.kD) vs ↔ vs = ks.map kV
  | [], vs => by rw [List.map_nil, List.map_nil]; exact Reps.nil
  | k :: ks, vs => by
    rw [List.map_cons, List.map_cons, Reps.cons]
    constructor
    · rintro ⟨v, w, rfl, q, r⟩
      rw [Rep.kD.mp q, Reps.kDs.mp r]
    · rintro rfl
      exact ⟨_, _, rfl, Rep.kD.mpr rfl, Reps.kDs.mpr rfl⟩
theorem asKs_map : ∀ ks : List Key, asKs (ks.map kD) = some ks
  | [] => rfl
  | .inl i :: r => by rw [List.map_cons]; unfold asKs; rw [asKs_map r]; rfl
  | .inr i :: r => by rw [List.map_cons]; unfold asKs; rw [asKs_map r]; rfl
theorem Reps.intsO : ∀ {ds : List D} {vs : List V} {ns : List Int}, Reps W P H ds vs → intsO ds = some ns → vs = ns.map V.int
  | [], vs, ns, h, e => by
    have e' : ns = [] := by simpa [Fw.intsO] using e.symm
    rw [Reps.nil.mp h, e']; rfl
  | d :: ds, vs, ns, h, e => by
    obtain ⟨v, w, rfl, q, r⟩ := Reps.cons.mp h
    cases d with
    | int i =>
      unfold Fw.intsO at e
      cases e2 : Fw.intsO ds with
      | none => rw [e2] at e; cases e
      | some l =>
        rw [e2] at e
        cases e
        rw [Reps.intsO r e2]
        simp only [Rep] at q
        rw [q]; rfl
    | _ => cases e
theorem Reps.boolsO : ∀ {ds : List D} {vs : List V} {ns : List Bool}, Reps W P H ds vs → boolsO ds = some ns → vs = ns.map V.bl
  | [], vs, ns, h, e => by
    have e' : ns = [] := by simpa [Fw.boolsO] using e.symm
    rw [Reps.nil.mp h, e']; rfl
  | d :: ds, vs, ns, h, e => by
    obtain ⟨v, w, rfl, q, r⟩ := Reps.cons.mp h
    cases d with
    | bl i =>
      unfold Fw.boolsO at e
      cases e2 : Fw.boolsO ds with
      | none => rw [e2] at e; cases e
      | some l =>
        rw [e2] at e
        cases e
        rw [Reps.boolsO r e2]
        simp only [Rep] at q
        rw [q]; rfl
    | _ => cases e
theorem Reps.strsO : ∀ {ds : List D} {vs : List V} {ns : List Str}, Reps W P H ds vs → strsO ds = some ns → vs = ns.map V.str
  | [], vs, ns, h, e => by
    have e' : ns = [] := by simpa [Fw.strsO] using e.symm
    rw [Reps.nil.mp h, e']; rfl
  | d :: ds, vs, ns, h, e => by
    obtain ⟨v, w, rfl, q, r⟩ := Reps.cons.mp h
    cases d with
    | str i =>
      unfold Fw.strsO at e
      cases e2 : Fw.strsO ds with
      | none => rw [e2] at e; cases e
      | some l =>
        rw [e2] at e
        cases e
        rw [Reps.strsO r e2]
        simp only [Rep] at q
        rw [q]; rfl
    | _ => cases e
theorem Reps.ofStrs : ∀ xs : List Str, Reps W P H (xs.map .str) (xs.map V.str)
  | [] => Reps.mk0
  | x :: r => Reps.mk (by simp only [Rep]) (Reps.ofStrs r)
/-! ### tables -/
theorem RepK.nil {vs : List (Key × V)} : RepK W P H [] vs ↔ vs = [] := by simp only [RepK]
theorem RepK.cons {k : Key} {d : D} {ds : List (Key × D)} {vs : List (Key × V)} : RepK W P H ((k, d) :: ds) vs ↔ ∃ v w, vs = (k, v) :: w ∧ Rep W P H d v ∧ RepK W P H ds w := by simp only [RepK]
theorem RepT.nil {vs : List (List Key × V)} : RepT W P H [] vs ↔ vs = [] := by simp only [RepT]
theorem RepT.cons {k : List Key} {d : D} {ds : List (List Key × D)} {vs : List (List Key × V)} : RepT W P H ((k, d) :: ds) vs ↔ ∃ v w, vs = (k, v) :: w ∧ Rep W P H d v ∧ RepT W P H ds w := by simp only [RepT]
/-- both kinds of tables at once -/
inductive RepA {κ : Type} (W : Wd) (P : Addr → Prop) (H : Hp) : List (κ × D) → List (κ × V) → Prop
  | nil : RepA W P H [] []
  | cons {k : κ} {d : D} {v : V} {ds : List (κ × D)} {vs : List (κ × V)} (h : Rep W P H d v) (r : RepA W P H ds vs) : RepA W P H ((k, d) :: ds) ((k, v) :: vs)
theorem RepK.iff : ∀ {ds : List (Key × D)} {vs : List (Key × V)}, RepK W P H ds vs ↔ RepA W P H ds vs
  | [], vs => RepK.nil.trans ⟨fun e => by rw [e]; exact .nil, fun h => by cases h; rfl⟩
  | (k, d) :: ds, vs => RepK.cons.trans ⟨fun ⟨v, w, e, q, r⟩ => by rw [e]; exact .cons q (RepK.iff.mp r), fun h => by cases h with | cons q r => exact ⟨_, _, rfl, q, RepK.iff.mpr r⟩⟩
theorem RepT.iff : ∀ {ds : List (List Key × D)} {vs : List (List Key × V)}, RepT W P H ds vs ↔ RepA W P H ds vs
  | [], vs => RepT.nil.trans ⟨fun e => by rw [e]; exact .nil, fun h => by cases h; rfl⟩
  | (k, d) :: ds, vs => RepT.cons.trans ⟨fun ⟨v, w, e, q, r⟩ => by rw [e]; exact .cons q (RepT.iff.mp r), fun h => by cases h with | cons q r => exact ⟨_, _, rfl, q, RepT.iff.mpr r⟩⟩
section
variable {κ : Type} [DecidableEq κ]
theorem lookA_nil (k : κ) : lookA ([] : List (κ × D)) k = none := rfl
theorem lookA_pos {β : Type} {k j : κ} {d : β} {r : List (κ × β)} (e : j = k) : lookA ((j, d) :: r) k = some d := by
  unfold lookA
  rw [List.find?_cons, decide_eq_true e]; rfl
theorem lookA_neg {β : Type} {k j : κ} {d : β} {r : List (κ × β)} (e : ¬ j = k) : lookA ((j, d) :: r) k = lookA r k := by
  unfold lookA
  rw [List.find?_cons, decide_eq_false e]
theorem RepA.length {ds : List (κ × D)} {vs : List (κ × V)} (h : RepA W P H ds vs) : ds.length = vs.length := by
  induction h with
  | nil => rfl
  | cons _ _ ih => rw [List.length_cons, List.length_cons, ih]
theorem RepA.keys {ds : List (κ × D)} {vs : List (κ × V)} (h : RepA W P H ds vs) : ds.map (·.1) = vs.map (·.1) := by
  induction h with
  | nil => rfl
  | cons _ _ ih => rw [List.map_cons, List.map_cons, ih]
theorem RepA.look {ds : List (κ × D)} {vs : List (κ × V)} (k : κ) (h : RepA W P H ds vs) :
    (∀ d, lookA ds k = some d → ∃ v, valV vs k = some v ∧ Rep W P H d v) ∧ (lookA ds k = none → valV vs k = none) := by
  induction h with
  | nil => exact ⟨fun d e => (by cases e), fun _ => rfl⟩
  | @cons j d v ds vs q r ih =>
    by_cases e : j = k
    · rw [lookA_pos e]
      refine ⟨fun d' e' => ⟨v, valV_pos (p := (j, v)) e, ?_⟩, fun e' => by cases e'⟩
      cases e'
      exact q
    · rw [lookA_neg e, valV_neg (p := (j, v)) e]
      exact ih
theorem RepA.anyk {ds : List (κ × D)} {vs : List (κ × V)} (k : κ) (h : RepA W P H ds vs) : (ds.any fun kv => decide (kv.1 = k)) = vs.any fun kv => decide (kv.1 = k) := by
  induction h with
  | nil => rfl
  | cons q r ih => rw [List.any_cons, List.any_cons, ih]
theorem RepA.app {ds es : List (κ × D)} {vs ws : List (κ × V)} (h : RepA W P H ds vs) (g : RepA W P H es ws) : RepA W P H (ds ++ es) (vs ++ ws) := by
  induction h with
  | nil => exact g
  | cons q r ih => exact .cons q ih
theorem RepA.put {ds : List (κ × D)} {vs : List (κ × V)} (k : κ) {d : D} {v : V} (h : RepA W P H ds vs) (q : Rep W P H d v) : RepA W P H (putA ds k d) (putK vs k v) := by
  have map : RepA W P H (ds.map fun kv => if kv.1 = k then (kv.1, d) else kv) (vs.map fun kv => if kv.1 = k then (kv.1, v) else kv) := by
    induction h with
    | nil => exact .nil
    | @cons j d' v' ds vs q' r ih =>
      rw [List.map_cons, List.map_cons]
      by_cases e : j = k
      · rw [if_pos e, if_pos e]
        exact .cons q ih
      · rw [if_neg e, if_neg e]
        exact .cons q' ih
  unfold putA putK
  rw [← h.anyk k]
  split
  · exact map
  · exact h.app (.cons q .nil)
theorem RepA.drop {ds : List (κ × D)} {vs : List (κ × V)} (k : κ) (h : RepA W P H ds vs) : RepA W P H (dropA ds k) (dropK vs k) := by
  unfold dropA dropK
  induction h with
  | nil => exact .nil
  | @cons j d' v' ds vs q' r ih =>
    rw [List.filter_cons, List.filter_cons]
    by_cases e : j = k
    · rw [if_neg (by simpa using e), if_neg (by simpa using e)]
      exact ih
    · rw [if_pos (by simpa using e), if_pos (by simpa using e)]
      exact .cons q' ih
theorem RepA.get {ds : List (κ × D)} {vs : List (κ × V)} (h : RepA W P H ds vs) : ∀ {i : Nat} {k : κ} {v : V}, vs[i]? = some (k, v) → ∃ d, ds[i]? = some (k, d) ∧ Rep W P H d v := by
  induction h with
  | nil => intro i k v e; simp at e
  | @cons j d' v' ds vs q' r ih =>
    intro i k v e
    cases i with
    | zero =>
      rw [List.getElem?_cons_zero] at e
      cases e
      exact ⟨d', rfl, q'⟩
    | succ i =>
      rw [List.getElem?_cons_succ] at e
      obtain ⟨d, e1, e2⟩ := ih e
      exact ⟨d, by rw [List.getElem?_cons_succ]; exact e1, e2⟩
end
/-! ### fields -/
theorem RepF.nil {vs : List (Str × V)} : RepF W P H [] vs ↔ vs = [] := by simp only [RepF]
theorem RepF.cons {k : Nat} {d : D} {ds : List (Nat × D)} {vs : List (Str × V)} : RepF W P H ((k, d) :: ds) vs ↔ ∃ v w, vs = (W.fn k, v) :: w ∧ Rep W P H d v ∧ RepF W P H ds w := by simp only [RepF]
theorem RepF.length : ∀ {ds : List (Nat × D)} {vs : List (Str × V)}, RepF W P H ds vs → ds.length = vs.length
  | [], vs, h => by rw [RepF.nil.mp h]; rfl
  | (k, d) :: ds, vs, h => by
    obtain ⟨v, w, rfl, q, r⟩ := RepF.cons.mp h
    rw [List.length_cons, List.length_cons, RepF.length r]
theorem lookup_fn {β : Type} (f k : Nat) (v : β) (r : List (Str × β)) : List.lookup (W.fn f) ((W.fn k, v) :: r) = if f = k then some v else List.lookup (W.fn f) r := by
  rw [List.lookup_cons]
  by_cases e : f = k
  · rw [if_pos e, e, beq_self_eq_true]
  · rw [if_neg e]
    have : (W.fn f == W.fn k) = false := beq_eq_false_iff_ne.mpr fun z => e (W.fi _ _ z)
    rw [this]
theorem lookup_nat {β : Type} (f k : Nat) (v : β) (r : List (Nat × β)) : List.lookup f ((k, v) :: r) = if f = k then some v else List.lookup f r := by
  rw [List.lookup_cons]
  by_cases e : f = k
  · rw [if_pos e, e, beq_self_eq_true]
  · rw [if_neg e, beq_eq_false_iff_ne.mpr e]
theorem RepF.look : ∀ {ds : List (Nat × D)} {vs : List (Str × V)} (f : Nat), RepF W P H ds vs →
    (∀ d, ds.lookup f = some d → ∃ v, vs.lookup (W.fn f) = some v ∧ Rep W P H d v) ∧ (ds.lookup f = none → vs.lookup (W.fn f) = none)
  | [], vs, f, h => by rw [RepF.nil.mp h]; exact ⟨fun d e => (by cases e), fun _ => rfl⟩
  | (k, d) :: ds, vs, f, h => by
    obtain ⟨v, w, rfl, q, r⟩ := RepF.cons.mp h
    rw [lookup_fn, lookup_nat]
    by_cases e : f = k
    · rw [if_pos e, if_pos e]
      refine ⟨fun d' e' => ⟨v, rfl, ?_⟩, fun e' => by cases e'⟩
      cases e'
      exact q
    · rw [if_neg e, if_neg e]
      exact RepF.look f r
/-! ### trees as data -/
mutual
theorem Rep.dp : ∀ (d : D) (v : V), Rep W P H d v → pln d = true → (py d).canLay0 = true → Dp W.K H v (py d)
  | .non, _, h, _, _ => by simp only [Rep] at h; rw [h]; simp only [py]; exact .non
  | .bl b, _, h, _, _ => by simp only [Rep] at h; rw [h]; simp only [py]; exact .bl b
  | .int i, _, h, _, _ => by simp only [Rep] at h; rw [h]; simp only [py]; exact .int i
  | .str x, _, h, _, _ => by simp only [Rep] at h; rw [h]; simp only [py]; exact .str x
  | .tup xs, v, h, p, l => by
    simp only [Rep] at h
    obtain ⟨a, vs, rfl, h, r⟩ := h
    simp only [pln] at p
    simp only [py, PyData.canLay0] at l ⊢
    exact .tup (SqT.of h.1) (Reps.dp xs vs r p l)
  | .lst xs, v, h, p, l => by
    simp only [Rep] at h
    obtain ⟨a, vs, rfl, h, r⟩ := h
    simp only [pln] at p
    simp only [py, PyData.canLay0] at l ⊢
    exact .lst (SqL.of h.1) (Reps.dp xs vs r p l)
  | .dK kvs, v, h, p, l => by simp [py, PyData.canLay0] at l
  | .dT kvs, v, h, p, l => by simp [py, PyData.canLay0] at l
  | .ins c fs, v, h, p, l => by simp [pln] at p
theorem Reps.dp : ∀ (ds : List D) (vs : List V), Reps W P H ds vs → plns ds = true → PyData.canLayAll0 (pys ds) = true → DpAll W.K H vs (pys ds)
  | [], _, h, _, _ => by rw [Reps.nil.mp h]; simp only [pys]; exact .nil
  | d :: ds, vs, h, p, l => by
    obtain ⟨v, w, rfl, q, r⟩ := Reps.cons.mp h
    simp only [plns, Bool.and_eq_true] at p
    simp only [pys, PyData.canLayAll0, Bool.and_eq_true] at l ⊢
    exact .cons (Rep.dp d v q p.1 l.1) (Reps.dp ds w r p.2 l.2)
end
theorem shp_dp {d : D} {v : V} (h : Rep W P H d v) (s : shp d = true) : Dp W.K H v (py d) ∧ SeqAt.shaped (py d) = true := by
  unfold shp at s
  rw [Bool.and_eq_true] at s
  exact ⟨Rep.dp d v h s.1 (SeqAt.canLay_of_shaped s.2), s.2⟩
theorem pys_map : ∀ ds : List D, pys ds = ds.map py
  | [] => by simp only [pys, List.map_nil]
  | d :: ds => by simp only [pys, List.map_cons, pys_map ds]
end
end Fw

/-! T4: the ghost: what is frozen, which addresses the cells own; what a step may do. -/
namespace Fw
open PySem PySem.Spec PyProof.Rows L2

structure Gh where
  fz : Addr → Prop
  rt : List Addr
  fr : List (List (Nat × Addr))
  as : List (List Addr)
/-- some cell owns it -/
def Ow (g : Gh) (a : Addr) : Prop := ∃ (n : Nat) (l : List Addr), g.as[n]? = some l ∧ a ∈ l
def MutO : HO → Prop
  | .lst _ => True
  | .dK _ => True
  | .dT _ => True
  | .ins _ _ _ => True
  | .own _ => True
  | _ => False
/-- a tree whose top is at a and may change -/
def Own (W : Wd) (P : Addr → Prop) (H : Hp) (a : Addr) (As : List Addr) : D → Prop
  | .lst xs => ∃ vs, H a = some (.lst vs) ∧ Reps W P H xs vs ∧ As = [a]
  | .dK kvs => ∃ vs, H a = some (.dK vs) ∧ RepA W P H kvs vs ∧ As = [a]
  | .dT kvs => ∃ vs, H a = some (.dT vs) ∧ RepA W P H kvs vs ∧ As = [a]
  | .ins c fs => ∃ dx vs, H a = some (.ins (W.ca c) dx vs) ∧ H dx = some (.own a) ∧ RepF W P H fs vs ∧ As = [a, dx]
  | _ => False
inductive IvF (W : Wd) (P : Addr → Prop) (H : Hp) (fr : List (Nat × Addr)) : List (Nat × FV) → List (Str × V) → List Addr → Prop
  | nil : IvF W P H fr [] [] []
  | d {f : Nat} {x : D} {v : V} {fs : List (Nat × FV)} {vs : List (Str × V)} {As : List Addr} (h : Rep W P H x v) (r : IvF W P H fr fs vs As) : IvF W P H fr ((f, .d x) :: fs) ((W.fn f, v) :: vs) As
  | w {f : Nat} {x : D} {a : Addr} {fs : List (Nat × FV)} {vs : List (Str × V)} {A1 As : List Addr} (e : fr.lookup f = some a) (h : Own W P H a A1 x) (r : IvF W P H fr fs vs As) : IvF W P H fr ((f, .w x) :: fs) ((W.fn f, .ref a) :: vs) (A1 ++ As)
def CellOk (W : Wd) (P : Addr → Prop) (H : Hp) (a : Addr) (fr : List (Nat × Addr)) (As : List Addr) : CV → Prop
  | .fz d => Rep W P H d (.ref a) ∧ As = []
  | .fl d => Own W P H a As d
  | .iv c fs => ∃ dx vs A', H a = some (.ins (W.ca c) dx vs) ∧ H dx = some (.own a) ∧ IvF W P H fr fs vs A' ∧ As = a :: dx :: A' ∧ ∀ f, fs.lookup f = none → fr.lookup f = none
/-- the cells -/
structure MR (W : Wd) (g : Gh) (H : Hp) (m : Mem) : Prop where
  l1 : g.rt.length = m.length
  l2 : g.fr.length = m.length
  l3 : g.as.length = m.length
  cell : ∀ (n : Nat) (w : CV), m[n]? = some w → ∃ a l As, g.rt[n]? = some a ∧ g.fr[n]? = some l ∧ g.as[n]? = some As ∧ CellOk W g.fz H a l As w
  nd : ∀ (n : Nat) l, g.as[n]? = some l → l.Nodup
  dj : ∀ (i j : Nat) li lj a, g.as[i]? = some li → g.as[j]? = some lj → a ∈ li → a ∈ lj → i = j
  nf : ∀ a, Ow g a → ¬ g.fz a
  mt : ∀ a, Ow g a → ∃ o, H a = some o ∧ MutO o
  ft : ∀ a, g.fz a → ∃ o, H a = some o
def DctO : HO → Prop
  | .dK _ => True
  | .dT _ => True
  | _ => False
/-- what a step may do; a frozen dict may come to be locked -/
structure Eff (g : Gh) (H : Hp) (g' : Gh) (H' : Hp) : Prop where
  keep : ∀ b o, H b = some o → ¬ Ow g b → H' b = some o ∨ (g'.fz b ∧ DctO o ∧ ∃ ob, H' b = some (.frz ob o))
  fzm : ∀ a, g.fz a → g'.fz a
  fzn : ∀ a, g'.fz a → g.fz a ∨ Ow g a ∨ H a = none ∨ ∃ xs, H a = some (.tup xs)
  asn : ∀ a, Ow g' a → Ow g a ∨ H a = none
  rtp : ∀ (n : Nat) (a : Addr), g.rt[n]? = some a → g'.rt[n]? = some a
  frp : ∀ (n : Nat) l f a, g.fr[n]? = some l → l.lookup f = some a → ∃ l', g'.fr[n]? = some l' ∧ l'.lookup f = some a
/-- the addresses of what is new and nobody's -/
structure Tmp (g : Gh) (H : Hp) (As : List Addr) : Prop where
  nd : As.Nodup
  fz : ∀ a ∈ As, ¬ g.fz a
  ow : ∀ a ∈ As, ¬ Ow g a
  mt : ∀ a ∈ As, ∃ o, H a = some o ∧ MutO o
/-- the script: locked, or an object of the module -/
def ScR (W : Wd) (H : Hp) (a : Addr) (ns : List Int) : Prop := (∃ o, H a = some (.frz o (.lst (ns.map V.int)))) ∨
  ∃ (o : Obj) (its : Array Value) (n : Nat), W.K.lookup a = some o ∧ o.cls = .type "list" ∧ o.dict = none ∧ o.data = .seq its n ∧ its.size ≤ sizeLine ∧ Vals (ns.map V.int) its.toList
theorem ScR.sq {W : Wd} {H : Hp} {a : Addr} {ns : List Int} (h : ScR W H a ns) : SqL W.K H a (ns.map V.int) := h.elim (fun ⟨o, e⟩ => .inl (.inr ⟨o, e⟩)) fun h => .inr h
theorem ScR.keep {W : Wd} {H H' : Hp} {a : Addr} {ns : List Int} (h : ScR W H a ns) (k : ∀ o, H a = some (.frz o (.lst (ns.map V.int))) → H' a = some (.frz o (.lst (ns.map V.int)))) : ScR W H' a ns := h.imp (fun ⟨o, e⟩ => ⟨o, k o e⟩) id
def RVR (W : Wd) (g : Gh) (H : Hp) (v : V) (As : List Addr) : RV → Prop
  | .d x => Rep W g.fz H x v ∧ As = []
  | .o x => ∃ a, v = .ref a ∧ Own W g.fz H a As x
  | .c n => (∃ a, g.rt[n]? = some a ∧ v = .ref a) ∧ As = []
  | .f n f => (∃ l a, g.fr[n]? = some l ∧ l.lookup f = some a ∧ v = .ref a) ∧ As = []
  | .x _ _ => False
  | .s ns => (∃ a, v = .ref a ∧ ScR W H a ns) ∧ As = []
def VR (W : Wd) (g : Gh) (H : Hp) (v : V) : Val → Prop
  | .d x => Rep W g.fz H x v
  | .c n => ∃ a, g.rt[n]? = some a ∧ v = .ref a
  | .x _ _ => False
  | .s ns => ∃ a, v = .ref a ∧ ScR W H a ns
/-- the slots -/
def SR (W : Wd) (g : Gh) (H : Hp) (σ : L2.St) (s : Sl) : Prop := s.length = σ.length ∧ ∀ (i : Nat) (x : Val), s[i]? = some (some x) → ∃ v, σ[i]? = some (some v) ∧ VR W g H v x
def ExR (W : Wd) (g : Gh) (H : Hp) (cls : Value) (d : Option Addr) (x : Ex) : Prop :=
  ∃ dd u, cls = .ref (W.ca x.c) ∧ d = some dd ∧ H dd = some (.xd [(W.en x.c, u)]) ∧ g.fz dd ∧ Rep W g.fz H x.p u

section
variable {W : Wd} {g g1 g' : Gh} {H H1 H' : Hp} {m m' : Mem}
theorem Eff.refl : Eff g H g H := ⟨fun _ _ e _ => .inl e, fun _ h => h, fun _ h => .inl h, fun _ h => .inl h, fun _ _ e => e, fun _ l _ _ e1 e2 => ⟨l, e1, e2⟩⟩
theorem Eff.there (e : Eff g H g' H') {b : Addr} {o : HO} (h : H b = some o) (n : ¬ Ow g b) : H' b ≠ none := fun z => by
  rcases e.keep b o h n with q | ⟨_, _, ob, q⟩
  · rw [z] at q; cases q
  · rw [z] at q; cases q
theorem Eff.tupk (e : Eff g H g' H') {b : Addr} {o : HO} {xs : List V} (h : H b = some o) (n : ¬ Ow g b) (z : H' b = some (.tup xs)) : o = .tup xs := by
  rcases e.keep b o h n with q | ⟨_, _, ob, q⟩
  · rw [z] at q; cases q; rfl
  · rw [z] at q; cases q
theorem Eff.trans (a : Eff g H g1 H1) (b : Eff g1 H1 g' H') : Eff g H g' H' where
  keep := fun c o e n => by
    have n1 : ¬ Ow g1 c := fun z => (a.asn c z).elim n fun q => by rw [q] at e; cases e
    rcases a.keep c o e n with q | ⟨f, d, ob, q⟩
    · exact b.keep c o q n1
    · rcases b.keep c _ q n1 with z | ⟨_, z, _⟩
      · exact .inr ⟨b.fzm c f, d, ob, z⟩
      · exact z.elim
  fzm := fun c h => b.fzm c (a.fzm c h)
  fzn := fun c h => by
    rcases b.fzn c h with h | h | h | ⟨xs, h⟩
    · exact a.fzn c h
    · exact (a.asn c h).elim (fun z => .inr (.inl z)) fun z => .inr (.inr (.inl z))
    · by_cases o : Ow g c
      · exact .inr (.inl o)
      · cases e : H c with
        | none => exact .inr (.inr (.inl rfl))
        | some u => exact (a.there e o h).elim
    · by_cases o : Ow g c
      · exact .inr (.inl o)
      · cases e : H c with
        | none => exact .inr (.inr (.inl rfl))
        | some u => exact .inr (.inr (.inr ⟨xs, by rw [a.tupk e o h]⟩))
  asn := fun c h => by
    rcases b.asn c h with h | h
    · exact a.asn c h
    · by_cases o : Ow g c
      · exact .inl o
      · cases e : H c with
        | none => exact .inr rfl
        | some u => exact (a.there e o h).elim
  rtp := fun n c e => b.rtp n c (a.rtp n c e)
  frp := fun n l f c e1 e2 => by
    obtain ⟨l1, q1, q2⟩ := a.frp n l f c e1 e2
    exact b.frp n l1 f c q1 q2
theorem stay_of {P P' : Addr → Prop} (k : ∀ a o, P a → H a = some o → H' a = some o ∨ (DctO o ∧ ∃ ob, H' a = some (.frz ob o))) (p : ∀ a, P a → P' a) : Stay P P' H H' where
  rd := fun a u q h => by
    refine ⟨?_, p a q⟩
    rcases h with h | ⟨o, h⟩
    · rcases k a _ q h with z | ⟨_, ob, z⟩
      · exact .inl z
      · exact .inr ⟨ob, z⟩
    · rcases k a _ q h with z | ⟨z, _⟩
      · exact .inr ⟨o, z⟩
      · exact z.elim
  lst := fun a vs q h => ⟨(k a _ q h).elim id fun z => z.1.elim, p a q⟩
  tup := fun a vs q h => ⟨(k a _ q h).elim id fun z => z.1.elim, p a q⟩
  ins := fun a C dx vs q h => ⟨(k a _ q h).elim id fun z => z.1.elim, p a q⟩
theorem Eff.stay (e : Eff g H g' H') (r : MR W g H m) : Stay g.fz g'.fz H H' := stay_of (fun a o p h => (e.keep a o h fun z => r.nf a z p).imp id fun z => z.2) e.fzm
theorem Rep.eff (e : Eff g H g' H') (r : MR W g H m) {d : D} {v : V} (h : Rep W g.fz H d v) : Rep W g'.fz H' d v := Rep.stay (e.stay r) d v h
theorem RepA.stay {κ : Type} {P P' : Addr → Prop} (s : Stay P P' H H') {ds : List (κ × D)} {vs : List (κ × V)} (h : RepA W P H ds vs) : RepA W P' H' ds vs := by
  induction h with
  | nil => exact .nil
  | cons q r ih => exact .cons (Rep.stay s _ _ q) ih
theorem MutO.ntup {o : HO} (h : MutO o) (xs : List V) : o ≠ .tup xs := fun e => by rw [e] at h; exact h
theorem Tmp.nfz {As : List Addr} (t : Tmp g H As) (e : Eff g H g' H') : ∀ a ∈ As, ¬ g'.fz a := fun a ha z => by
  obtain ⟨o, q, mo⟩ := t.mt a ha
  rcases e.fzn a z with h | h | h | ⟨xs, h⟩
  · exact t.fz a ha h
  · exact t.ow a ha h
  · rw [h] at q; cases q
  · rw [h] at q; cases q; exact mo
theorem Tmp.same {As : List Addr} (t : Tmp g H As) (e : Eff g H g' H') {a : Addr} {o : HO} (ha : a ∈ As) (h : H a = some o) : H' a = some o :=
  (e.keep a o h (t.ow a ha)).elim id fun z => (t.nfz e a ha z.1).elim
theorem Tmp.eff {As : List Addr} (t : Tmp g H As) (e : Eff g H g' H') : Tmp g' H' As where
  nd := t.nd
  fz := t.nfz e
  ow := fun a ha z => by
    obtain ⟨o, q, mo⟩ := t.mt a ha
    rcases e.asn a z with h | h
    · exact t.ow a ha h
    · rw [h] at q; cases q
  mt := fun a ha => by
    obtain ⟨o, q, mo⟩ := t.mt a ha
    exact ⟨o, t.same e ha q, mo⟩
theorem Own.keep {P P' : Addr → Prop} {a : Addr} {As : List Addr} {x : D} (h : Own W P H a As x) (s : Stay P P' H H') (k : ∀ b ∈ As, ∀ o, H b = some o → H' b = some o) : Own W P' H' a As x := by
  cases x with
  | lst xs =>
    obtain ⟨vs, h, r, rfl⟩ := h
    exact ⟨vs, k a (List.mem_cons_self ..) _ h, Reps.stay s _ _ r, rfl⟩
  | dK xs =>
    obtain ⟨vs, h, r, rfl⟩ := h
    exact ⟨vs, k a (List.mem_cons_self ..) _ h, r.stay s, rfl⟩
  | dT xs =>
    obtain ⟨vs, h, r, rfl⟩ := h
    exact ⟨vs, k a (List.mem_cons_self ..) _ h, r.stay s, rfl⟩
  | ins c fs =>
    obtain ⟨dx, vs, h, h2, r, rfl⟩ := h
    exact ⟨dx, vs, k a (by simp) _ h, k dx (by simp) _ h2, RepF.stay s _ _ r, rfl⟩
  | _ => exact h.elim
theorem IvF.keep {P P' : Addr → Prop} {fr fr' : List (Nat × Addr)} {fs : List (Nat × FV)} {vs : List (Str × V)} {As : List Addr} (h : IvF W P H fr fs vs As) (s : Stay P P' H H') (k : ∀ b ∈ As, ∀ o, H b = some o → H' b = some o) (kf : ∀ f a, fr.lookup f = some a → fr'.lookup f = some a) : IvF W P' H' fr' fs vs As := by
  induction h with
  | nil => exact .nil
  | d h r ih => exact .d (Rep.stay s _ _ h) (ih k)
  | w e h r ih => exact .w (kf _ _ e) (h.keep s fun b hb => k b (List.mem_append_left _ hb)) (ih fun b hb => k b (List.mem_append_right _ hb))
theorem CellOk.keep {P P' : Addr → Prop} {a : Addr} {fr : List (Nat × Addr)} {As : List Addr} {w : CV} (h : CellOk W P H a fr As w) (s : Stay P P' H H') (k : ∀ b ∈ As, ∀ o, H b = some o → H' b = some o) : CellOk W P' H' a fr As w := by
  cases w with
  | fz d => exact ⟨Rep.stay s _ _ h.1, h.2⟩
  | fl d => exact Own.keep h s k
  | iv c fs =>
    obtain ⟨dx, vs, A', h1, h2, h3, rfl, h5⟩ := h
    exact ⟨dx, vs, A', k a (by simp) _ h1, k dx (by simp) _ h2, h3.keep s (fun b hb => k b (by simp [hb])) fun _ _ e => e, rfl, h5⟩
theorem Own.mem {P : Addr → Prop} {a : Addr} {As : List Addr} {x : D} (h : Own W P H a As x) : ∀ b ∈ As, ∃ o, H b = some o ∧ MutO o := by
  cases x with
  | lst xs =>
    obtain ⟨vs, h, r, rfl⟩ := h
    intro b hb
    rw [List.mem_singleton.mp hb]
    exact ⟨_, h, trivial⟩
  | dK xs =>
    obtain ⟨vs, h, r, rfl⟩ := h
    intro b hb
    rw [List.mem_singleton.mp hb]
    exact ⟨_, h, trivial⟩
  | dT xs =>
    obtain ⟨vs, h, r, rfl⟩ := h
    intro b hb
    rw [List.mem_singleton.mp hb]
    exact ⟨_, h, trivial⟩
  | ins c fs =>
    obtain ⟨dx, vs, h, h2, r, rfl⟩ := h
    intro b hb
    rcases List.mem_cons.mp hb with e | hb
    · rw [e]; exact ⟨_, h, trivial⟩
    · rw [List.mem_singleton.mp hb]; exact ⟨_, h2, trivial⟩
  | _ => exact h.elim
theorem Own.self {P : Addr → Prop} {a : Addr} {As : List Addr} {x : D} (h : Own W P H a As x) : a ∈ As := by
  cases x with
  | lst xs => obtain ⟨vs, h, r, rfl⟩ := h; simp
  | dK xs => obtain ⟨vs, h, r, rfl⟩ := h; simp
  | dT xs => obtain ⟨vs, h, r, rfl⟩ := h; simp
  | ins c fs => obtain ⟨dx, vs, h, h2, r, rfl⟩ := h; simp
  | _ => exact h.elim
/-- an owned tree is a tree, whatever set its own addresses lie in -/
theorem Own.rep {P P' : Addr → Prop} {a : Addr} {As : List Addr} {x : D} (h : Own W P H a As x) (hp : ∀ b, P b → P' b) (ha : P' a) : Rep W P' H x (.ref a) := by
  have s : Stay P P' H H := .of (fun _ _ _ h => h) hp
  cases x with
  | lst xs =>
    obtain ⟨vs, h, r, rfl⟩ := h
    simp only [Rep]
    exact ⟨a, vs, rfl, ⟨h, ha⟩, Reps.stay s _ _ r⟩
  | dK xs =>
    obtain ⟨vs, h, r, rfl⟩ := h
    simp only [Rep]
    exact ⟨a, vs, rfl, ⟨.inl h, ha⟩, RepK.iff.mpr (r.stay s)⟩
  | dT xs =>
    obtain ⟨vs, h, r, rfl⟩ := h
    simp only [Rep]
    exact ⟨a, vs, rfl, ⟨.inl h, ha⟩, RepT.iff.mpr (r.stay s)⟩
  | ins c fs =>
    obtain ⟨dx, vs, h, h2, r, rfl⟩ := h
    simp only [Rep]
    exact ⟨a, dx, vs, rfl, ⟨h, ha⟩, RepF.stay s _ _ r⟩
  | _ => exact h.elim
theorem Rep.any {P : Addr → Prop} {d : D} {v : V} (h : Rep W P H d v) : Rep W (fun _ => True) H d v :=
  Rep.stay (.of (fun _ _ _ h => h) fun _ _ => trivial) d v h
theorem IvF.repF {P P' : Addr → Prop} {fr : List (Nat × Addr)} {fs : List (Nat × FV)} {vs : List (Str × V)} {As : List Addr} (h : IvF W P H fr fs vs As) (hp : ∀ b, P b → P' b) (ha : ∀ b ∈ As, P' b) : RepF W P' H (fieldsD fs) vs := by
  have s : Stay P P' H H := .of (fun _ _ _ h => h) hp
  induction h with
  | nil => exact RepF.nil.mpr rfl
  | d h r ih => exact RepF.cons.mpr ⟨_, _, rfl, Rep.stay s _ _ h, ih ha⟩
  | w e h r ih => exact RepF.cons.mpr ⟨_, _, rfl, h.rep hp (ha _ (List.mem_append_left _ h.self)), ih fun b hb => ha b (List.mem_append_right _ hb)⟩
theorem IvF.look {P : Addr → Prop} {fr : List (Nat × Addr)} {fs : List (Nat × FV)} {vs : List (Str × V)} {As : List Addr} (f : Nat) (h : IvF W P H fr fs vs As) :
    (∀ x, fs.lookup f = some (.d x) → ∃ v, vs.lookup (W.fn f) = some v ∧ Rep W P H x v) ∧
    (∀ x, fs.lookup f = some (.w x) → ∃ a A1, vs.lookup (W.fn f) = some (.ref a) ∧ fr.lookup f = some a ∧ Own W P H a A1 x ∧ ∀ b ∈ A1, b ∈ As) ∧
    (fs.lookup f = none → vs.lookup (W.fn f) = none) := by
  induction h with
  | nil => exact ⟨fun _ e => (by cases e), fun _ e => (by cases e), fun _ => rfl⟩
  | @d k x v fs vs As h r ih =>
    rw [lookup_nat, lookup_fn]
    by_cases e : f = k
    · rw [if_pos e, if_pos e]
      refine ⟨fun y z => ?_, fun _ z => (by cases z), fun z => (by cases z)⟩
      cases z
      exact ⟨v, rfl, h⟩
    · rw [if_neg e, if_neg e]
      exact ih
  | @w k x a fs vs A1 As e' h r ih =>
    rw [lookup_nat, lookup_fn]
    by_cases e : f = k
    · rw [if_pos e, if_pos e]
      refine ⟨fun _ z => (by cases z), fun y z => ?_, fun z => (by cases z)⟩
      cases z
      exact ⟨a, A1, rfl, by rw [e]; exact e', h, fun b hb => List.mem_append_left _ hb⟩
    · rw [if_neg e, if_neg e]
      refine ⟨ih.1, fun y z => ?_, ih.2.2⟩
      obtain ⟨b, B1, q1, q2, q3, q4⟩ := ih.2.1 y z
      exact ⟨b, B1, q1, q2, q3, fun c hc => List.mem_append_right _ (q4 c hc)⟩
theorem IvF.length {P : Addr → Prop} {fr : List (Nat × Addr)} {fs : List (Nat × FV)} {vs : List (Str × V)} {As : List Addr} (h : IvF W P H fr fs vs As) : fs.length = vs.length := by
  induction h with
  | nil => rfl
  | d h r ih => rw [List.length_cons, List.length_cons, ih]
  | w e h r ih => rw [List.length_cons, List.length_cons, ih]
theorem RVR.eff {v : V} {As : List Addr} {x : RV} (h : RVR W g H v As x) (r : MR W g H m) (t : Tmp g H As) (e : Eff g H g' H') : RVR W g' H' v As x := by
  cases x with
  | d x => exact ⟨Rep.eff e r h.1, h.2⟩
  | o x =>
    obtain ⟨a, rfl, h⟩ := h
    exact ⟨a, rfl, h.keep (e.stay r) fun b hb o q => t.same e hb q⟩
  | c n =>
    obtain ⟨⟨a, h, rfl⟩, rfl⟩ := h
    exact ⟨⟨a, e.rtp _ _ h, rfl⟩, rfl⟩
  | f n f =>
    obtain ⟨⟨l, a, h1, h2, rfl⟩, rfl⟩ := h
    obtain ⟨l', q1, q2⟩ := e.frp _ _ _ _ h1 h2
    exact ⟨⟨l', a, q1, q2, rfl⟩, rfl⟩
  | x c p => exact h.elim
  | s ns =>
    obtain ⟨⟨a, rfl, h⟩, rfl⟩ := h
    refine ⟨⟨a, rfl, h.keep fun o h => (e.keep _ _ h fun z => ?_).elim id fun z => z.2.1.elim⟩, rfl⟩
    obtain ⟨u, q, mo⟩ := r.mt a z
    rw [h] at q; cases q; exact mo
theorem VR.eff {v : V} {x : Val} (h : VR W g H v x) (r : MR W g H m) (e : Eff g H g' H') : VR W g' H' v x := by
  cases x with
  | d x => exact Rep.eff e r h
  | c n =>
    obtain ⟨a, h, rfl⟩ := h
    exact ⟨a, e.rtp _ _ h, rfl⟩
  | x c p => exact h.elim
  | s ns =>
    obtain ⟨a, rfl, h⟩ := h
    refine ⟨a, rfl, h.keep fun o h => (e.keep _ _ h fun z => ?_).elim id fun z => z.2.1.elim⟩
    obtain ⟨u, q, mo⟩ := r.mt a z
    rw [h] at q; cases q; exact mo
theorem SR.eff {σ : L2.St} {s : Sl} (h : SR W g H σ s) (r : MR W g H m) (e : Eff g H g' H') : SR W g' H' σ s := ⟨h.1, fun i x q => by
  obtain ⟨v, e1, e2⟩ := h.2 i x q
  exact ⟨v, e1, e2.eff r e⟩⟩
/-- a tree's top, whosever it is, over frozen children -/
def Top (W : Wd) (P : Addr → Prop) (H : Hp) (v : V) : D → Prop
  | .lst xs => ∃ a vs, v = .ref a ∧ H a = some (.lst vs) ∧ Reps W P H xs vs
  | .tup xs => ∃ a vs, v = .ref a ∧ (H a = some (.tup vs) ∧ P a) ∧ Reps W P H xs vs
  | .dK kvs => ∃ a vs, v = .ref a ∧ Rd H a (.dK vs) ∧ RepA W P H kvs vs
  | .dT kvs => ∃ a vs, v = .ref a ∧ Rd H a (.dT vs) ∧ RepA W P H kvs vs
  | .ins c fs => ∃ a dx vs, v = .ref a ∧ H a = some (.ins (W.ca c) dx vs) ∧ RepF W (fun _ => True) H fs vs
  | d => Rep W P H d v
theorem Rep.top {P : Addr → Prop} {d : D} {v : V} (h : Rep W P H d v) : Top W P H v d := by
  cases d with
  | lst xs =>
    simp only [Rep] at h
    obtain ⟨a, vs, e, h, r⟩ := h
    exact ⟨a, vs, e, h.1, r⟩
  | tup xs =>
    simp only [Rep] at h
    obtain ⟨a, vs, e, h, r⟩ := h
    exact ⟨a, vs, e, h, r⟩
  | dK xs =>
    simp only [Rep] at h
    obtain ⟨a, vs, e, h, r⟩ := h
    exact ⟨a, vs, e, h.1, RepK.iff.mp r⟩
  | dT xs =>
    simp only [Rep] at h
    obtain ⟨a, vs, e, h, r⟩ := h
    exact ⟨a, vs, e, h.1, RepT.iff.mp r⟩
  | ins c fs =>
    simp only [Rep] at h
    obtain ⟨a, dx, vs, e, h, r⟩ := h
    exact ⟨a, dx, vs, e, h.1, RepF.stay (.of (fun _ _ _ h => h) fun _ _ => trivial) _ _ r⟩
  | non => exact h
  | bl b => exact h
  | int i => exact h
  | str x => exact h
theorem Own.top {P : Addr → Prop} {a : Addr} {As : List Addr} {x : D} (h : Own W P H a As x) : Top W P H (.ref a) x := by
  cases x with
  | lst xs => obtain ⟨vs, h, r, rfl⟩ := h; exact ⟨a, vs, rfl, h, r⟩
  | dK xs => obtain ⟨vs, h, r, rfl⟩ := h; exact ⟨a, vs, rfl, .inl h, r⟩
  | dT xs => obtain ⟨vs, h, r, rfl⟩ := h; exact ⟨a, vs, rfl, .inl h, r⟩
  | ins c fs =>
    obtain ⟨dx, vs, h, h2, r, rfl⟩ := h
    exact ⟨a, dx, vs, rfl, h, RepF.stay (.of (fun _ _ _ h => h) fun _ _ => trivial) _ _ r⟩
  | _ => exact h.elim
theorem Top.any {P : Addr → Prop} {d : D} {v : V} (h : Top W P H v d) : Rep W (fun _ => True) H d v := by
  have s : Stay P (fun _ => True) H H := (.of (fun _ _ _ h => h) fun _ _ => trivial)
  cases d with
  | lst xs =>
    obtain ⟨a, vs, e, h, r⟩ := h
    simp only [Rep]
    exact ⟨a, vs, e, ⟨h, trivial⟩, Reps.stay s _ _ r⟩
  | tup xs =>
    obtain ⟨a, vs, e, h, r⟩ := h
    simp only [Rep]
    exact ⟨a, vs, e, ⟨h.1, trivial⟩, Reps.stay s _ _ r⟩
  | dK xs =>
    obtain ⟨a, vs, e, h, r⟩ := h
    simp only [Rep]
    exact ⟨a, vs, e, ⟨h, trivial⟩, RepK.iff.mpr (r.stay s)⟩
  | dT xs =>
    obtain ⟨a, vs, e, h, r⟩ := h
    simp only [Rep]
    exact ⟨a, vs, e, ⟨h, trivial⟩, RepT.iff.mpr (r.stay s)⟩
  | ins c fs =>
    obtain ⟨a, dx, vs, e, h, r⟩ := h
    simp only [Rep]
    exact ⟨a, dx, vs, e, ⟨h, trivial⟩, r⟩
  | non => exact Rep.any (P := P) h
  | bl b => exact Rep.any (P := P) h
  | int i => exact Rep.any (P := P) h
  | str x => exact Rep.any (P := P) h
/-- a value looked at -/
theorem view_ok {v : V} {As : List Addr} {x : RV} {d : D} (h : RVR W g H v As x) (r : MR W g H m) (e : viewM x m = .ok d m') : m' = m ∧ Top W g.fz H v d := by
  cases x with
  | d x => cases e; exact ⟨rfl, h.1.top⟩
  | o x =>
    cases e
    obtain ⟨a, rfl, h⟩ := h
    exact ⟨rfl, h.top⟩
  | c n =>
    obtain ⟨⟨a, h, rfl⟩, rfl⟩ := h
    have e : (match m[n]? with
      | some w => Rs.ok w.view m
      | none => .no) = .ok d m' := e
    cases q : m[n]? with
    | none => rw [q] at e; cases e
    | some w =>
      rw [q] at e
      cases e
      obtain ⟨a', l, As, e1, e2, e3, ok⟩ := r.cell n w q
      rw [h] at e1; cases e1
      refine ⟨rfl, ?_⟩
      cases w with
      | fz d => exact ok.1.top
      | fl d => exact Own.top ok
      | iv c fs =>
        obtain ⟨dx, vs, A', h1, h2, h3, rfl, _⟩ := ok
        exact ⟨a, dx, vs, rfl, h1, h3.repF (fun _ _ => trivial) fun _ _ => trivial⟩
  | f n f =>
    obtain ⟨⟨l, a, h1, h2, rfl⟩, rfl⟩ := h
    have e : (match (m[n]?).bind (fldW · f) with
      | some d => Rs.ok d m
      | none => .no) = .ok d m' := e
    cases q : m[n]? with
    | none => rw [q] at e; cases e
    | some w =>
      rw [q] at e
      obtain ⟨a', l', As, e1, e2, e3, ok⟩ := r.cell n w q
      rw [h1] at e2; cases e2
      cases w with
      | fz d => cases e
      | fl d => cases e
      | iv c fs =>
        obtain ⟨dx, vs, A', k1, k2, k3, rfl, _⟩ := ok
        have e : (match (match fs.lookup f with
          | some (.w d) => some d
          | _ => none) with
          | some d => Rs.ok d m
          | none => .no) = .ok d m' := e
        cases q2 : fs.lookup f with
        | none => rw [q2] at e; cases e
        | some u =>
          cases u with
          | d x => rw [q2] at e; cases e
          | w x =>
            rw [q2] at e
            cases e
            obtain ⟨b, A1, z1, z2, z3, z4⟩ := (k3.look f).2.1 _ q2
            rw [h2] at z2; cases z2
            exact ⟨rfl, z3.top⟩
  | x c p => exact h.elim
  | s ns => cases e
end
end Fw

/-! T5: cells made, written, frozen, dropped. -/
namespace Fw
open PySem PySem.Spec PyProof.Rows L2

/-- the heap may have grown -/
def Grow (H H' : Hp) : Prop := ∀ b o, H b = some o → H' b = some o
theorem Grow.refl (H : Hp) : Grow H H := fun _ _ e => e
theorem Grow.upd {H : Hp} {p : Addr} {o : HO} (h : H p = none) : Grow H (upd H p o) := fun b u e => by
  rw [upd_ne fun z => by rw [z, h] at e; cases e]
  exact e
/-- more is frozen -/
def Gh.add (g : Gh) (Q : Addr → Prop) : Gh := { g with fz := fun a => g.fz a ∨ Q a }
theorem Ow.add {g : Gh} {Q : Addr → Prop} {a : Addr} : Ow (g.add Q) a ↔ Ow g a := Iff.rfl
section
variable {W : Wd} {g g0 g' : Gh} {H H0 H' : Hp} {m m' : Mem}
theorem MR.grow (r : MR W g H m) (k : Grow H H') : MR W g H' m where
  l1 := r.l1
  l2 := r.l2
  l3 := r.l3
  cell := fun n w e => by
    obtain ⟨a, l, As, e1, e2, e3, ok⟩ := r.cell n w e
    have s : Stay g.fz g.fz H H' := .of (fun a o _ h => k a o h) fun _ p => p
    exact ⟨a, l, As, e1, e2, e3, ok.keep s fun b _ o e => k b o e⟩
  nd := r.nd
  dj := r.dj
  nf := r.nf
  mt := fun a h => by
    obtain ⟨o, e, q⟩ := r.mt a h
    exact ⟨o, k _ _ e, q⟩
  ft := fun a h => by
    obtain ⟨o, e⟩ := r.ft a h
    exact ⟨o, k _ _ e⟩
theorem Eff.grow (k : Grow H H') : Eff g H g H' := ⟨fun b o e _ => .inl (k b o e), fun _ h => h, fun _ h => .inl h, fun _ h => .inl h, fun _ _ e => e, fun _ l _ _ e1 e2 => ⟨l, e1, e2⟩⟩
theorem MR.add {Q : Addr → Prop} (r : MR W g H m) (h : ∀ a, Q a → (∃ o, H a = some o) ∧ ¬ Ow g a) : MR W (g.add Q) H m where
  l1 := r.l1
  l2 := r.l2
  l3 := r.l3
  cell := fun n w e => by
    obtain ⟨a, l, As, e1, e2, e3, ok⟩ := r.cell n w e
    have s : Stay g.fz (g.add Q).fz H H := .of (fun _ _ _ h => h) fun _ p => .inl p
    exact ⟨a, l, As, e1, e2, e3, ok.keep s fun b _ o e => e⟩
  nd := r.nd
  dj := r.dj
  nf := fun a o z => z.elim (r.nf a o) fun q => (h a q).2 o
  mt := r.mt
  ft := fun a z => z.elim (r.ft a) fun q => (h a q).1
theorem Eff.add {Q : Addr → Prop} (e : Eff g0 H0 g H) (h : ∀ a, Q a → H0 a = none ∨ Ow g0 a ∨ ∃ xs, H0 a = some (.tup xs)) : Eff g0 H0 (g.add Q) H where
  keep := fun b o q n => (e.keep b o q n).imp id fun ⟨f, z⟩ => ⟨.inl f, z⟩
  fzm := fun a p => .inl (e.fzm a p)
  fzn := fun a p => p.elim (e.fzn a) fun q => (h a q).elim (fun z => .inr (.inr (.inl z))) fun z => z.elim (fun z => .inr (.inl z)) fun z => .inr (.inr (.inr z))
  asn := e.asn
  rtp := e.rtp
  frp := e.frp
/-- more is frozen, nothing else changes -/
structure More (g g' : Gh) : Prop where
  fz : ∀ a, g.fz a → g'.fz a
  rt : ∀ (n : Nat) (a : Addr), g.rt[n]? = some a → g'.rt[n]? = some a
  fr : ∀ (n : Nat) l f a, g.fr[n]? = some l → l.lookup f = some a → ∃ l', g'.fr[n]? = some l' ∧ l'.lookup f = some a
theorem More.refl (g : Gh) : More g g := ⟨fun _ h => h, fun _ _ e => e, fun _ l _ _ e1 e2 => ⟨l, e1, e2⟩⟩
theorem More.trans {g1 : Gh} (a : More g g1) (b : More g1 g') : More g g' := ⟨fun c h => b.fz c (a.fz c h), fun n c e => b.rt n c (a.rt n c e), fun n l f c e1 e2 => by
  obtain ⟨l1, q1, q2⟩ := a.fr n l f c e1 e2
  exact b.fr n l1 f c q1 q2⟩
theorem More.stay (k : More g g') : Stay g.fz g'.fz H H := .of (fun _ _ _ h => h) k.fz
theorem RVR.more {v : V} {As : List Addr} {x : RV} (h : RVR W g H v As x) (k : More g g') : RVR W g' H v As x := by
  cases x with
  | d x => exact ⟨Rep.stay k.stay _ _ h.1, h.2⟩
  | o x =>
    obtain ⟨a, rfl, h⟩ := h
    exact ⟨a, rfl, h.keep k.stay fun _ _ _ e => e⟩
  | c n =>
    obtain ⟨⟨a, h, rfl⟩, rfl⟩ := h
    exact ⟨⟨a, k.rt _ _ h, rfl⟩, rfl⟩
  | f n f =>
    obtain ⟨⟨l, a, h1, h2, rfl⟩, rfl⟩ := h
    obtain ⟨l', q1, q2⟩ := k.fr _ _ _ _ h1 h2
    exact ⟨⟨l', a, q1, q2, rfl⟩, rfl⟩
  | x c p => exact h.elim
  | s ns => exact h
theorem VR.more {v : V} {x : Val} (h : VR W g H v x) (k : More g g') : VR W g' H v x := by
  cases x with
  | d x => exact Rep.stay k.stay _ _ h
  | c n =>
    obtain ⟨a, h, rfl⟩ := h
    exact ⟨a, k.rt _ _ h, rfl⟩
  | x c p => exact h.elim
  | s ns => exact h

/-! ### one cell's addresses anew -/
theorem set_get {α : Type} {l : List α} {n i : Nat} {x y : α} (h : (l.set n x)[i]? = some y) : (i = n ∧ y = x) ∨ (i ≠ n ∧ l[i]? = some y) := by
  by_cases e : i = n
  · subst e
    rw [List.getElem?_set] at h
    rw [if_pos rfl] at h
    split at h
    · cases h; exact .inl ⟨rfl, rfl⟩
    · cases h
  · rw [List.getElem?_set_ne (Ne.symm e)] at h
    exact .inr ⟨e, h⟩
theorem set_at {α : Type} {l : List α} {n : Nat} {x y : α} (h : l[n]? = some y) : (l.set n x)[n]? = some x := by
  rw [List.getElem?_set_self (List.getElem?_eq_some_iff.mp h).1]
/-- cell n is w now, its addresses Bs; Q is frozen besides -/
theorem MR.setC {n : Nat} {w w' : CV} {a : Addr} {l l' : List (Nat × Addr)} {As Bs : List Addr} {Q : Addr → Prop} (r : MR W g H m) (e : m[n]? = some w) (e1 : g.rt[n]? = some a) (e2 : g.fr[n]? = some l) (e3 : g.as[n]? = some As)
    (k : ∀ b o, H b = some o → b ∉ As → H' b = some o) (kA : ∀ b ∈ As, ∃ o, H' b = some o)
    (ok : CellOk W (fun b => g.fz b ∨ Q b) H' a l' Bs w') (nb : Bs.Nodup) (hb : ∀ b ∈ Bs, ¬ g.fz b ∧ ¬ Q b ∧ (∀ i li, i ≠ n → g.as[i]? = some li → b ∉ li) ∧ ∃ o, H' b = some o ∧ MutO o)
    (hq : ∀ b, Q b → (∃ o, H' b = some o) ∧ ∀ i li, i ≠ n → g.as[i]? = some li → b ∉ li) :
    MR W ⟨fun b => g.fz b ∨ Q b, g.rt, g.fr.set n l', g.as.set n Bs⟩ H' (m.set n w') := by
  have nA : ∀ b, g.fz b → b ∉ As := fun b p q => r.nf b ⟨n, As, e3, q⟩ p
  have st : Stay g.fz (fun b => g.fz b ∨ Q b) H H' := .of (fun b o p h => k b o h (nA b p)) fun _ p => .inl p
  have ow : ∀ b, Ow ⟨fun b => g.fz b ∨ Q b, g.rt, g.fr.set n l', g.as.set n Bs⟩ b → b ∈ Bs ∨ ∃ i li, i ≠ n ∧ g.as[i]? = some li ∧ b ∈ li := fun b ⟨i, li, q, hb⟩ => by
    rcases set_get q with ⟨_, z⟩ | ⟨z1, z2⟩
    · exact .inl (z ▸ hb)
    · exact .inr ⟨i, li, z1, z2, hb⟩
  refine ⟨?_, ?_, ?_, ?_, ?_, ?_, ?_, ?_, ?_⟩
  · show g.rt.length = _; rw [List.length_set]; exact r.l1
  · show (g.fr.set n l').length = _; rw [List.length_set, List.length_set]; exact r.l2
  · show (g.as.set n Bs).length = _; rw [List.length_set, List.length_set]; exact r.l3
  · intro i u q
    rcases set_get q with ⟨z1, z2⟩ | ⟨z1, z2⟩
    · subst z1; subst z2
      exact ⟨a, l', Bs, e1, set_at e2, set_at e3, ok⟩
    · obtain ⟨a', li, Ai, q1, q2, q3, ok'⟩ := r.cell i u z2
      refine ⟨a', li, Ai, q1, ?_, ?_, ok'.keep st fun b hb' o h => k b o h fun hA => z1 (r.dj i n Ai As b q3 e3 hb' hA)⟩
      · show (g.fr.set n l')[i]? = _; rw [List.getElem?_set_ne (Ne.symm z1)]; exact q2
      · show (g.as.set n Bs)[i]? = _; rw [List.getElem?_set_ne (Ne.symm z1)]; exact q3
  · intro i li q
    rcases set_get q with ⟨_, z⟩ | ⟨z1, z2⟩
    · rw [z]; exact nb
    · exact r.nd i li z2
  · intro i j li lj b qi qj hi hj
    rcases set_get qi with ⟨zi, yi⟩ | ⟨zi, yi⟩
    · rcases set_get qj with ⟨zj, yj⟩ | ⟨zj, yj⟩
      · rw [zi, zj]
      · exact absurd hj ((hb b (yi ▸ hi)).2.2.1 j lj zj yj)
    · rcases set_get qj with ⟨zj, yj⟩ | ⟨zj, yj⟩
      · exact absurd hi ((hb b (yj ▸ hj)).2.2.1 i li zi yi)
      · exact r.dj i j li lj b yi yj hi hj
  · intro b o z
    rcases ow b o with o | ⟨i, li, zi, yi, hi⟩
    · exact z.elim (hb b o).1 (hb b o).2.1
    · exact z.elim (r.nf b ⟨i, li, yi, hi⟩) fun q => (hq b q).2 i li zi yi hi
  · intro b o
    rcases ow b o with o | ⟨i, li, zi, yi, hi⟩
    · exact (hb b o).2.2.2
    · obtain ⟨o, q, mo⟩ := r.mt b ⟨i, li, yi, hi⟩
      exact ⟨o, k b o q fun hA => zi (r.dj i n li As b yi e3 hi hA), mo⟩
  · intro b z
    rcases z with p | q
    · obtain ⟨o, h⟩ := r.ft b p
      exact ⟨o, k b o h (nA b p)⟩
    · exact (hq b q).1
/-- its effect, from where the step began -/
theorem Eff.setC {n : Nat} {a : Addr} {l l' : List (Nat × Addr)} {As Bs : List Addr} {Q : Addr → Prop} (e : Eff g0 H0 g H) (e2 : g.fr[n]? = some l) (e3 : g.as[n]? = some As)
    (k : ∀ b o, H b = some o → b ∉ As → H' b = some o) (hl : ∀ f a, l.lookup f = some a → l'.lookup f = some a)
    (hb : ∀ b ∈ Bs, b ∈ As ∨ H0 b = none ∨ Ow g0 b) (hq : ∀ b, Q b → b ∈ As ∨ H0 b = none ∨ Ow g0 b) : Eff g0 H0 ⟨fun b => g.fz b ∨ Q b, g.rt, g.fr.set n l', g.as.set n Bs⟩ H' where
  keep := fun b o q no => by
    have nA : b ∉ As := fun hA => (e.asn b ⟨n, As, e3, hA⟩).elim no fun z => by rw [z] at q; cases q
    rcases e.keep b o q no with z | ⟨f, d, ob, z⟩
    · exact .inl (k b o z nA)
    · exact .inr ⟨.inl f, d, ob, k b _ z nA⟩
  fzm := fun b p => .inl (e.fzm b p)
  fzn := fun b p => by
    rcases p with p | p
    · exact e.fzn b p
    · rcases hq b p with h | h | h
      · exact (e.asn b ⟨n, As, e3, h⟩).elim (fun z => .inr (.inl z)) fun z => .inr (.inr (.inl z))
      · exact .inr (.inr (.inl h))
      · exact .inr (.inl h)
  asn := fun b ⟨i, li, q, hi⟩ => by
    rcases set_get q with ⟨_, z⟩ | ⟨z1, z2⟩
    · rcases hb b (z ▸ hi) with h | h | h
      · exact e.asn b ⟨n, As, e3, h⟩
      · exact .inr h
      · exact .inl h
    · exact e.asn b ⟨i, li, z2, hi⟩
  rtp := e.rtp
  frp := fun i l0 f c q1 q2 => by
    obtain ⟨l1, z1, z2⟩ := e.frp i l0 f c q1 q2
    by_cases ei : i = n
    · subst ei
      rw [e2] at z1; cases z1
      exact ⟨l', set_at e2, hl f c z2⟩
    · exact ⟨l1, by show (g.fr.set n l')[i]? = _; rw [List.getElem?_set_ne (Ne.symm ei)]; exact z1, z2⟩
/-! ### a new cell -/
theorem app_get {α : Type} {l : List α} {i : Nat} {x y : α} (h : (l ++ [x])[i]? = some y) : (i = l.length ∧ y = x) ∨ (i < l.length ∧ l[i]? = some y) := by
  by_cases e : i < l.length
  · rw [List.getElem?_append_left e] at h
    exact .inr ⟨e, h⟩
  · rw [List.getElem?_append_right (Nat.le_of_not_lt e)] at h
    cases q : i - l.length with
    | zero =>
      rw [q] at h
      cases h
      exact .inl ⟨by omega, rfl⟩
    | succ k => rw [q] at h; simp at h
theorem app_lt {α : Type} {l : List α} {i : Nat} {x y : α} (h : l[i]? = some y) : (l ++ [x])[i]? = some y := by
  rw [List.getElem?_append_left (List.getElem?_eq_some_iff.mp h).1]; exact h
theorem app_end {α : Type} {l : List α} {n : Nat} {x : α} (h : l.length = n) : (l ++ [x])[n]? = some x := by
  subst h; simp
def Gh.snoc (g : Gh) (a : Addr) (As : List Addr) : Gh := ⟨g.fz, g.rt ++ [a], g.fr ++ [[]], g.as ++ [As]⟩
theorem ow_snoc {a : Addr} {As : List Addr} {b : Addr} (h : Ow (g.snoc a As) b) : b ∈ As ∨ Ow g b := by
  obtain ⟨i, li, q, hi⟩ := h
  rcases app_get q with ⟨_, z⟩ | ⟨z1, z2⟩
  · exact .inl (z ▸ hi)
  · exact .inr ⟨i, li, z2, hi⟩
theorem More.snoc (g : Gh) (a : Addr) (As : List Addr) : More g (g.snoc a As) := ⟨fun _ h => h, fun _ _ e => app_lt e, fun _ l _ _ e1 e2 => ⟨l, app_lt e1, e2⟩⟩
theorem MR.snoc {a : Addr} {As : List Addr} {w : CV} (r : MR W g H m) (t : Tmp g H As) (ok : CellOk W g.fz H a [] As w) : MR W (g.snoc a As) H (m ++ [w]) where
  l1 := by show (g.rt ++ [a]).length = _; rw [List.length_append, List.length_append, r.l1]; rfl
  l2 := by show (g.fr ++ [[]]).length = _; rw [List.length_append, List.length_append, r.l2]; rfl
  l3 := by show (g.as ++ [As]).length = _; rw [List.length_append, List.length_append, r.l3]; rfl
  cell := fun n u e => by
    rcases app_get e with ⟨z1, z2⟩ | ⟨z1, z2⟩
    · subst z2
      exact ⟨a, [], As, app_end (r.l1.trans z1.symm), app_end (r.l2.trans z1.symm), app_end (r.l3.trans z1.symm), ok⟩
    · obtain ⟨a', l, A', e1, e2, e3, ok'⟩ := r.cell n u z2
      exact ⟨a', l, A', app_lt e1, app_lt e2, app_lt e3, ok'⟩
  nd := fun n l e => by
    rcases app_get e with ⟨_, z⟩ | ⟨_, z⟩
    · rw [z]; exact t.nd
    · exact r.nd n l z
  dj := fun i j li lj b qi qj hi hj => by
    rcases app_get qi with ⟨zi, yi⟩ | ⟨zi, yi⟩
    · rcases app_get qj with ⟨zj, yj⟩ | ⟨zj, yj⟩
      · rw [zi, zj]
      · exact (t.ow b (yi ▸ hi) ⟨j, lj, yj, hj⟩).elim
    · rcases app_get qj with ⟨zj, yj⟩ | ⟨zj, yj⟩
      · exact (t.ow b (yj ▸ hj) ⟨i, li, yi, hi⟩).elim
      · exact r.dj i j li lj b yi yj hi hj
  nf := fun b o => (ow_snoc o).elim (t.fz b) (r.nf b)
  mt := fun b o => (ow_snoc o).elim (t.mt b) (r.mt b)
  ft := r.ft
theorem Eff.snoc {a : Addr} {As : List Addr} (e : Eff g0 H0 g H) (nw : ∀ b ∈ As, H0 b = none ∨ Ow g0 b) : Eff g0 H0 (g.snoc a As) H where
  keep := e.keep
  fzm := e.fzm
  fzn := e.fzn
  asn := fun b o => (ow_snoc o).elim (fun h => (nw b h).symm) (e.asn b)
  rtp := fun n c q => app_lt (e.rtp n c q)
  frp := fun n l f c q1 q2 => by
    obtain ⟨l', z1, z2⟩ := e.frp n l f c q1 q2
    exact ⟨l', app_lt z1, z2⟩
/-! ### cells dropped -/
def Gh.cut (g : Gh) (n : Nat) : Gh := ⟨g.fz, g.rt.take n, g.fr.take n, g.as.take n⟩
theorem take_get {α : Type} {l : List α} {n i : Nat} {y : α} (h : (l.take n)[i]? = some y) : i < n ∧ l[i]? = some y := by
  rw [List.getElem?_take] at h
  split at h
  · exact ⟨by assumption, h⟩
  · cases h
theorem take_at {α : Type} {l : List α} {n i : Nat} {y : α} (h : l[i]? = some y) (hi : i < n) : (l.take n)[i]? = some y := by
  rw [List.getElem?_take, if_pos hi]; exact h
theorem ow_cut {n : Nat} {b : Addr} (h : Ow (g.cut n) b) : ∃ i li, i < n ∧ g.as[i]? = some li ∧ b ∈ li := by
  obtain ⟨i, li, q, hi⟩ := h
  obtain ⟨z1, z2⟩ := take_get q
  exact ⟨i, li, z1, z2, hi⟩
theorem MR.cut {n : Nat} (r : MR W g H m) : MR W (g.cut n) H (m.take n) where
  l1 := by show (g.rt.take n).length = _; rw [List.length_take, List.length_take, r.l1]
  l2 := by show (g.fr.take n).length = _; rw [List.length_take, List.length_take, r.l2]
  l3 := by show (g.as.take n).length = _; rw [List.length_take, List.length_take, r.l3]
  cell := fun i u e => by
    obtain ⟨z1, z2⟩ := take_get e
    obtain ⟨a', l, A', e1, e2, e3, ok'⟩ := r.cell i u z2
    exact ⟨a', l, A', take_at e1 z1, take_at e2 z1, take_at e3 z1, ok'⟩
  nd := fun i l e => r.nd i l (take_get e).2
  dj := fun i j li lj b qi qj hi hj => r.dj i j li lj b (take_get qi).2 (take_get qj).2 hi hj
  nf := fun b o => by
    obtain ⟨i, li, _, q, hi⟩ := ow_cut o
    exact r.nf b ⟨i, li, q, hi⟩
  mt := fun b o => by
    obtain ⟨i, li, _, q, hi⟩ := ow_cut o
    exact r.mt b ⟨i, li, q, hi⟩
  ft := r.ft
theorem Eff.cut {n : Nat} (e : Eff g0 H0 g H) (h1 : g0.rt.length ≤ n) (h2 : g0.fr.length ≤ n) : Eff g0 H0 (g.cut n) H where
  keep := e.keep
  fzm := e.fzm
  fzn := e.fzn
  asn := fun b o => by
    obtain ⟨i, li, _, q, hi⟩ := ow_cut o
    exact e.asn b ⟨i, li, q, hi⟩
  rtp := fun i c q => take_at (e.rtp i c q) (Nat.lt_of_lt_of_le (List.getElem?_eq_some_iff.mp q).1 h1)
  frp := fun i l f c q1 q2 => by
    obtain ⟨l', z1, z2⟩ := e.frp i l f c q1 q2
    exact ⟨l', take_at z1 (Nat.lt_of_lt_of_le (List.getElem?_eq_some_iff.mp q1).1 h2), z2⟩
/-! ### a frozen dict is locked -/
theorem lock_stay {P : Addr → Prop} {d : Addr} {u : HO} {ob : Obj} (h : H d = some u) (hu : DctO u) : Stay P P H (upd H d (.frz ob u)) := stay_of (fun a o _ e => by
  by_cases q : a = d
  · subst q
    rw [h] at e; cases e
    exact .inr ⟨hu, ob, upd_same⟩
  · exact .inl (by rw [upd_ne q]; exact e)) fun _ p => p
theorem MR.lock {d : Addr} {u : HO} {ob : Obj} (r : MR W g H m) (f : g.fz d) (h : H d = some u) (hu : DctO u) : MR W g (upd H d (.frz ob u)) m where
  l1 := r.l1
  l2 := r.l2
  l3 := r.l3
  cell := fun n w e => by
    obtain ⟨a, l, As, e1, e2, e3, ok⟩ := r.cell n w e
    refine ⟨a, l, As, e1, e2, e3, ok.keep (lock_stay h hu) fun b hb o q => ?_⟩
    have : b ≠ d := fun z => r.nf b ⟨n, As, e3, hb⟩ (by rw [z]; exact f)
    rw [upd_ne this]; exact q
  nd := r.nd
  dj := r.dj
  nf := r.nf
  mt := fun b o => by
    have : b ≠ d := fun z => r.nf b o (by rw [z]; exact f)
    rw [upd_ne this]
    exact r.mt b o
  ft := fun b p => by
    by_cases q : b = d
    · exact ⟨_, by rw [q]; exact upd_same⟩
    · rw [upd_ne q]; exact r.ft b p
theorem Eff.lock {d : Addr} {u : HO} {ob : Obj} (f : g.fz d) (h : H d = some u) (hu : DctO u) : Eff g H g (upd H d (.frz ob u)) := ⟨fun b o e _ => by
  by_cases q : b = d
  · subst q
    rw [h] at e; cases e
    exact .inr ⟨f, hu, ob, upd_same⟩
  · exact .inl (by rw [upd_ne q]; exact e), fun _ h => h, fun _ h => .inl h, fun _ h => .inl h, fun _ _ e => e, fun _ l _ _ e1 e2 => ⟨l, e1, e2⟩⟩
/-! ### frozen -/
/-- what stands behind a value: from (g0, H0) to (g, H), the cells m -/
structure Out (W : Wd) (g0 : Gh) (H0 : Hp) (g : Gh) (H : Hp) (m : Mem) (v : V) (As : List Addr) (x : RV) : Prop where
  eff : Eff g0 H0 g H
  mr : MR W g H m
  rv : RVR W g H v As x
  tm : Tmp g H As
  nw : ∀ a ∈ As, H0 a = none ∨ Ow g0 a
theorem Tmp.nil : Tmp g H [] := ⟨List.nodup_nil, fun _ h => by simp at h, fun _ h => by simp at h, fun _ h => by simp at h⟩
theorem Tmp.left {As Bs : List Addr} (t : Tmp g H (As ++ Bs)) : Tmp g H As := ⟨(List.nodup_append.mp t.nd).1, fun a h => t.fz a (List.mem_append_left _ h), fun a h => t.ow a (List.mem_append_left _ h), fun a h => t.mt a (List.mem_append_left _ h)⟩
theorem Tmp.right {As Bs : List Addr} (t : Tmp g H (As ++ Bs)) : Tmp g H Bs := ⟨(List.nodup_append.mp t.nd).2.1, fun a h => t.fz a (List.mem_append_right _ h), fun a h => t.ow a (List.mem_append_right _ h), fun a h => t.mt a (List.mem_append_right _ h)⟩
theorem Tmp.app {As Bs : List Addr} (a : Tmp g H As) (b : Tmp g H Bs) (d : ∀ x ∈ As, x ∉ Bs) : Tmp g H (As ++ Bs) :=
  ⟨List.nodup_append.mpr ⟨a.nd, b.nd, fun x hx y hy e => d x hx (e ▸ hy)⟩, fun x h => (List.mem_append.mp h).elim (a.fz x) (b.fz x), fun x h => (List.mem_append.mp h).elim (a.ow x) (b.ow x), fun x h => (List.mem_append.mp h).elim (a.mt x) (b.mt x)⟩
/-- a value is frozen: what else is new stays so -/
theorem frz_ok {v : V} {As : List Addr} {x : RV} {d : D} (e : Eff g0 H0 g H) (r : MR W g H m) (h : RVR W g H v As x) (t : Tmp g H As) (nw : ∀ a ∈ As, H0 a = none ∨ Ow g0 a) (q : frzM x m = .ok d m') :
    ∃ g', Eff g0 H0 g' H ∧ MR W g' H m' ∧ More g g' ∧ Rep W g'.fz H d v ∧ ∀ Bs, Tmp g H Bs → (∀ b ∈ As, b ∉ Bs) → Tmp g' H Bs := by
  cases x with
  | d x => cases q; exact ⟨g, e, r, .refl g, h.1, fun _ t _ => t⟩
  | o x =>
    cases q
    obtain ⟨a, rfl, h⟩ := h
    refine ⟨g.add (· ∈ As), e.add fun b hb => (nw b hb).elim .inl fun z => .inr (.inl z), r.add fun b hb => ⟨(t.mt b hb).imp fun o z => z.1, t.ow b hb⟩, ⟨fun _ p => .inl p, fun _ _ e => e, fun _ l _ _ e1 e2 => ⟨l, e1, e2⟩⟩, h.rep (fun _ p => .inl p) (.inr h.self), fun Bs tb dj => ⟨tb.nd, fun b hb z => z.elim (tb.fz b hb) fun z => dj b z hb, tb.ow, tb.mt⟩⟩
  | c n =>
    obtain ⟨⟨a, h, rfl⟩, rfl⟩ := h
    have q : (match m[n]? with
      | some (.fl d) => Rs.ok d (m.set n (.fz d))
      | some (.fz d) => .ok d m
      | _ => .no) = .ok d m' := q
    cases e0 : m[n]? with
    | none => rw [e0] at q; cases q
    | some w =>
      rw [e0] at q
      obtain ⟨a', l, As, e1, e2, e3, ok⟩ := r.cell n w e0
      rw [h] at e1; cases e1
      cases w with
      | fz d => cases q; exact ⟨g, e, r, .refl g, ok.1, fun _ t _ => t⟩
      | iv c fs => cases q
      | fl d =>
        cases q
        have ok : Own W g.fz H a As d := ok
        have hA : ∀ b ∈ As, (∃ o, H b = some o) ∧ ∀ i li, i ≠ n → g.as[i]? = some li → b ∉ li := fun b hb => ⟨(ok.mem b hb).imp fun o z => z.1, fun i li hi qi hbi => hi (r.dj i n li As b qi e3 hbi hb)⟩
        refine ⟨_, e.setC (a := a) (H' := H) (l' := l) (Bs := []) (Q := (· ∈ As)) e2 e3 (fun b o z _ => z) (fun _ _ z => z) (fun b hb => by simp at hb) (fun b hb => .inl hb),
          r.setC (l' := l) (Bs := []) (Q := (· ∈ As)) (w' := .fz d) e0 h e2 e3 (fun b o z _ => z) (fun b hb => (hA b hb).1) ⟨ok.rep (fun _ p => .inl p) (.inr ok.self), rfl⟩ List.nodup_nil (fun b hb => by simp at hb) hA, ⟨fun _ p => .inl p, fun _ _ z => z, fun i l1 f c z1 z2 => ?_⟩, ok.rep (fun _ p => .inl p) (.inr ok.self), fun Bs tb _ => ⟨tb.nd, fun b hb z => z.elim (tb.fz b hb) fun z => tb.ow b hb ⟨n, As, e3, z⟩, fun b hb ⟨i, li, qi, hi⟩ => ?_, tb.mt⟩⟩
        · by_cases ei : i = n
          · subst ei
            rw [e2] at z1; cases z1
            exact ⟨l, set_at e2, z2⟩
          · exact ⟨l1, by show (g.fr.set n l)[i]? = _; rw [List.getElem?_set_ne (Ne.symm ei)]; exact z1, z2⟩
        · rcases set_get qi with ⟨_, z⟩ | ⟨z1, z2⟩
          · rw [z] at hi; simp at hi
          · exact tb.ow b hb ⟨i, li, z2, hi⟩
  | f n f => cases q
  | x c p => exact h.elim
  | s ns => cases q
end
end Fw

/-! T6: readings of the interpreter's answers. -/
namespace Fw
open PySem PySem.Spec PyProof.Rows L2

/-- what is wanted behind an answer, from (g, H) -/
def Post (W : Wd) (g : Gh) (H : Hp) (r : Rs RV) (Q : VK) (E : XK) : Prop := match r with
  | .ok x m => ∀ v g' H' As, Out W g H g' H' m v As x → Q v H'
  | .rz x m => ∀ cls d g' H', Eff g H g' H' → MR W g' H' m → ExR W g' H' cls d x → E cls d H'
  | .no => False
/-- an expression's reading -/
def tM (W : Wd) (x : Sl → Mo RV) (Wx : WX) : TE := fun σ H Q => ∃ g s m, MR W g H m ∧ SR W g H σ s ∧ Post W g H (x s m) Q (WE Wx σ)
inductive RVs (W : Wd) (g : Gh) (H : Hp) : List V → List RV → List Addr → Prop
  | nil : RVs W g H [] [] []
  | cons {v : V} {x : RV} {vs : List V} {xs : List RV} {As Bs : List Addr} (h : RVR W g H v As x) (r : RVs W g H vs xs Bs) : RVs W g H (v :: vs) (x :: xs) (As ++ Bs)
/-- under way: from (g0, H0) we came to (g, H), the cells m, with these values in hand -/
structure At (W : Wd) (g0 : Gh) (H0 : Hp) (σ : L2.St) (s : Sl) (g : Gh) (H : Hp) (m : Mem) (vs : List V) (xs : List RV) (As : List Addr) : Prop where
  eff : Eff g0 H0 g H
  mr : MR W g H m
  sr : SR W g H σ s
  rv : RVs W g H vs xs As
  tm : Tmp g H As
  nw : ∀ a ∈ As, H0 a = none ∨ Ow g0 a
section
variable {W : Wd} {g g0 g' g1 : Gh} {H H0 H' H1 : Hp} {m m' m1 : Mem} {σ : L2.St} {s : Sl} {Wx : WX} {vs : List V} {xs : List RV} {As : List Addr} {Q : VK} {E : XK}
theorem Post.mono {r : Rs RV} {Q' : VK} {E' : XK} (h : Post W g H r Q E) (hq : ∀ v H', Q v H' → Q' v H') (he : ∀ c d H', E c d H' → E' c d H') : Post W g H r Q' E' := by
  cases r with
  | ok x m => exact fun v g' H' As o => hq _ _ (h v g' H' As o)
  | rz x m => exact fun cls d g' H' e r x => he _ _ _ (h cls d g' H' e r x)
  | no => exact h
theorem tM.mono {x : Sl → Mo RV} {Q' : VK} (h : tM W x Wx σ H Q) (hq : ∀ v H', Q v H' → Q' v H') : tM W x Wx σ H Q' := by
  obtain ⟨g, s, m, h1, h2, h3⟩ := h
  exact ⟨g, s, m, h1, h2, h3.mono hq fun _ _ _ z => z⟩
theorem At.start (h1 : MR W g H m) (h2 : SR W g H σ s) : At W g H σ s g H m [] [] [] := ⟨.refl, h1, h2, .nil, .nil, fun _ h => by simp at h⟩
theorem RVs.eff {vs : List V} {xs : List RV} {As : List Addr} (h : RVs W g H vs xs As) (r : MR W g H m) (t : Tmp g H As) (e : Eff g H g' H') : RVs W g' H' vs xs As := by
  induction h with
  | nil => exact .nil
  | cons h r' ih => exact .cons (h.eff r t.left e) (ih t.right)
theorem RVs.more {vs : List V} {xs : List RV} {As : List Addr} (h : RVs W g H vs xs As) (k : More g g') : RVs W g' H vs xs As := by
  induction h with
  | nil => exact .nil
  | cons h r' ih => exact .cons (h.more k) ih
/-- one more value -/
theorem At.next {v : V} {x : RV} {Bs : List Addr} (A : At W g0 H0 σ s g H m vs xs As) (o : Out W g H g1 H1 m1 v Bs x) : At W g0 H0 σ s g1 H1 m1 (v :: vs) (x :: xs) (Bs ++ As) where
  eff := A.eff.trans o.eff
  mr := o.mr
  sr := A.sr.eff A.mr o.eff
  rv := .cons o.rv (A.rv.eff A.mr A.tm o.eff)
  tm := o.tm.app (A.tm.eff o.eff) fun a hb ha => by
    obtain ⟨u, q, _⟩ := A.tm.mt a ha
    rcases o.nw a hb with h | h
    · rw [h] at q; cases q
    · exact A.tm.ow a ha h
  nw := fun a h => by
    rcases List.mem_append.mp h with h | h
    · rcases o.nw a h with h | h
      · by_cases ow : Ow g0 a
        · exact .inr ow
        · cases e : H0 a with
          | none => exact .inl rfl
          | some u =>
            exact (A.eff.there e ow h).elim
      · exact (A.eff.asn a h).symm
    · exact A.nw a h
/-- the next expression of a row -/
theorem tm_step {x : Sl → Mo RV} {f : RV → Mo RV} (A : At W g0 H0 σ s g H m vs xs As) (h : Post W g0 H0 (bnd (x s) f m) Q (WE Wx σ)) :
    tM W x Wx σ H fun v H1 => ∃ g1 m1 a As', At W g0 H0 σ s g1 H1 m1 (v :: vs) (a :: xs) As' ∧ Post W g0 H0 (f a m1) Q (WE Wx σ) := by
  refine ⟨g, s, m, A.mr, A.sr, ?_⟩
  cases e : x s m with
  | ok a m1 =>
    rw [bnd_ok e] at h
    exact fun v g1 H1 Bs o => ⟨g1, m1, a, _, A.next o, h⟩
  | rz a m1 =>
    rw [bnd_rzo e] at h
    exact fun cls d g' H' e r x => h cls d g' H' (A.eff.trans e) r x
  | no =>
    rw [bnd_noo e] at h
    exact h.elim
/-- an Out from where we stand, the values in hand let go -/
theorem At.out {v : V} {x : RV} {Bs : List Addr} (A : At W g0 H0 σ s g H m vs xs As) (o : Out W g H g1 H1 m1 v Bs x) : Out W g0 H0 g1 H1 m1 v Bs x := by
  have B := A.next o
  exact ⟨B.eff, B.mr, o.rv, o.tm, fun a h => B.nw a (List.mem_append_left _ h)⟩
theorem Out.d {d : D} {v : V} (r : MR W g H m) (h : Rep W g.fz H d v) : Out W g H g H m v [] (.d d) := ⟨.refl, r, ⟨h, rfl⟩, .nil, fun _ h => by simp at h⟩
theorem At.retD {d : D} {v : V} (A : At W g0 H0 σ s g H m vs xs As) (h : Post W g0 H0 (.ok (.d d) m) Q E) (r : Rep W g.fz H d v) : Q v H := h v g H [] (A.out (.d A.mr r))
/-- a new object -/
theorem At.retO {d : D} {p : Addr} {o : HO} (A : At W g0 H0 σ s g H m vs xs As) (h : Post W g0 H0 (.ok (.o d) m) Q E) (hp : H p = none) (mo : MutO o) (ow : Own W g.fz (upd H p o) p [p] d) : Q (.ref p) (upd H p o) := by
  have k : Grow H (upd H p o) := .upd hp
  refine h (.ref p) g _ [p] (A.out ⟨.grow k, A.mr.grow k, ⟨p, rfl, ow⟩, ⟨by simp, fun a h z => ?_, fun a h z => ?_, fun a h => ?_⟩, fun a h => .inl (by rw [List.mem_singleton.mp h]; exact hp)⟩)
  · rw [List.mem_singleton.mp h] at z
    obtain ⟨u, e⟩ := A.mr.ft _ z
    rw [hp] at e; cases e
  · rw [List.mem_singleton.mp h] at z
    obtain ⟨u, e, _⟩ := A.mr.mt _ z
    rw [hp] at e; cases e
  · rw [List.mem_singleton.mp h]
    exact ⟨o, upd_same, mo⟩
/-- a new tuple, at once frozen -/
theorem At.retT {ds : List D} {ws : List V} {p : Addr} (A : At W g0 H0 σ s g H m vs xs As) (h : Post W g0 H0 (.ok (.d (.tup ds)) m) Q E) (hp : H p = none) (r : Reps W g.fz H ds ws) : Q (.ref p) (upd H p (.tup ws)) := by
  have k : Grow H (upd H p (.tup ws)) := .upd hp
  have st : Stay g.fz (g.add (· = p)).fz H (upd H p (.tup ws)) := .of (fun a o _ h => k a o h) fun _ q => .inl q
  refine h (.ref p) (g.add (· = p)) _ [] (A.out ⟨(Eff.grow k).add fun a e => .inl (by rw [e]; exact hp), (A.mr.grow k).add fun a e => ⟨⟨.tup ws, by rw [e]; exact upd_same⟩, fun z => ?_⟩, ⟨?_, rfl⟩, .nil, fun a h => by simp at h⟩)
  · obtain ⟨u, q, _⟩ := A.mr.mt a z
    rw [e, hp] at q; cases q
  · simp only [Rep]
    exact ⟨p, ws, rfl, ⟨upd_same, .inr rfl⟩, Reps.stay st _ _ r⟩
/-- the value at a place in hand -/
theorem At.view {f : D → Mo RV} {x : RV} {v : V} {Bs : List Addr} (A : At W g0 H0 σ s g H m vs xs As) (hx : RVR W g H v Bs x) (h : Post W g0 H0 (bnd (viewM x) f m) Q E) : ∃ d, Top W g.fz H v d ∧ Post W g0 H0 (f d m) Q E := by
  cases e : viewM x m with
  | ok d m' =>
    obtain ⟨rfl, t⟩ := view_ok hx A.mr e
    rw [bnd_ok e] at h
    exact ⟨d, t, h⟩
  | rz a m1 =>
    cases x with
    | d d => cases e
    | o d => cases e
    | x c p => cases e
    | s ns => cases e
    | c n =>
      have e : (match m[n]? with
        | some w => Rs.ok w.view m
        | none => .no) = .rz a m1 := e
      cases q : m[n]? with
      | none => rw [q] at e; cases e
      | some w => rw [q] at e; cases e
    | f n k =>
      have e : (match (m[n]?).bind (fldW · k) with
        | some d => Rs.ok d m
        | none => .no) = .rz a m1 := e
      cases q : (m[n]?).bind (fldW · k) with
      | none => rw [q] at e; cases e
      | some w => rw [q] at e; cases e
  | no =>
    rw [bnd_noo e] at h
    exact h.elim
theorem At.rv1 {v : V} {x : RV} (A : At W g0 H0 σ s g H m (v :: vs) (x :: xs) As) : ∃ Bs, RVR W g H v Bs x := by
  cases A.rv with
  | cons h r => exact ⟨_, h⟩
theorem At.rv2 {v u : V} {x y : RV} (A : At W g0 H0 σ s g H m (v :: u :: vs) (x :: y :: xs) As) : ∃ Bs, RVR W g H u Bs y := by
  cases A.rv with
  | cons h r =>
    cases r with
    | cons h r => exact ⟨_, h⟩
theorem At.rv3 {v u w : V} {x y z : RV} (A : At W g0 H0 σ s g H m (v :: u :: w :: vs) (x :: y :: z :: xs) As) : ∃ Bs, RVR W g H w Bs z := by
  cases A.rv with
  | cons h r =>
    cases r with
    | cons h r =>
      cases r with
      | cons h r => exact ⟨_, h⟩
theorem Post.ofO {f : RV → Mo RV} {x : Option RV} (h : Post W g H (bnd (ofO x) f m) Q E) : ∃ a, x = some a ∧ Post W g H (f a m) Q E := by
  cases x with
  | none => exact h.elim
  | some a => exact ⟨a, rfl, h⟩
theorem Post.ofOg {α : Type} {f : α → Mo RV} {x : Option α} (h : Post W g H (bnd (Fw.ofO x) f m) Q E) : ∃ a, x = some a ∧ Post W g H (f a m) Q E := by
  cases x with
  | none => exact h.elim
  | some a => exact ⟨a, rfl, h⟩
theorem Post.ofO1 {x : Option RV} (h : Post W g H (Fw.ofO x m) Q E) : ∃ a, x = some a ∧ Post W g H (.ok a m) Q E := by
  cases x with
  | none => exact h.elim
  | some a => exact ⟨a, rfl, h⟩
/-! ### binary operations -/
theorem Top.int_ {P : Addr → Prop} {v : V} {i : Int} (h : Top W P H v (.int i)) : v = .int i := by simpa only [Top, Rep] using h
theorem Top.str_ {P : Addr → Prop} {v : V} {i : Str} (h : Top W P H v (.str i)) : v = .str i := by simpa only [Top, Rep] using h
theorem Top.bl_ {P : Addr → Prop} {v : V} {i : Bool} (h : Top W P H v (.bl i)) : v = .bl i := by simpa only [Top, Rep] using h
theorem Top.non_ {P : Addr → Prop} {v : V} (h : Top W P H v .non) : v = .non := by simpa only [Top, Rep] using h
end
end Fw

/-! T7: the operations by values. -/
namespace Fw
open PySem PySem.Spec PyProof.Rows L2

def BOp.op : BOp → Operator
  | .add => .Add
  | .sub => .Sub
  | .mul => .Mult
  | .fdiv => .FloorDiv
  | .mod => .Mod
  | .pow => .Pow
  | .shl => .LShift
/-- what an operation asks, over trees -/
def rR (W : Wd) (P : Addr → Prop) (r : Option RV) (H : Hp) (Q : VK) : Prop := match r with
  | some (.d d) => (∀ v, Rep W P H d v → Q v H) ∧ (∀ xs, d = .tup xs → ∀ p ws, H p = none → Reps W P H xs ws → Q (.ref p) (upd H p (.tup ws)))
  | some (.o (.lst xs)) => ∀ p ws, H p = none → Reps W P H xs ws → Q (.ref p) (upd H p (.lst ws))
  | some (.o (.dK kvs)) => ∀ p ws, H p = none → RepA W P H kvs ws → Q (.ref p) (upd H p (.dK ws))
  | _ => False
def rBin (W : Wd) (o : BOp) : R2 := fun x y H Q => ∃ (P : Addr → Prop) (a b : D), Top W P H x a ∧ Top W P H y b ∧ rR W P (binD o a b) H Q
section
variable {W : Wd} {X : Cx}
theorem rR_int {P : Addr → Prop} {i : Int} {H : Hp} {Q : VK} (h : rR W P (some (.d (.int i))) H Q) : Q (.int i) H := h.1 _ (by simp only [Rep])
theorem rR_str {P : Addr → Prop} {i : Str} {H : Hp} {Q : VK} (h : rR W P (some (.d (.str i))) H Q) : Q (.str i) H := h.1 _ (by simp only [Rep])
theorem rR_bl {P : Addr → Prop} {i : Bool} {H : Hp} {Q : VK} (h : rR W P (some (.d (.bl i))) H Q) : Q (.bl i) H := h.1 _ (by simp only [Rep])
theorem rR_if {P : Addr → Prop} {c : Prop} [Decidable c] {r : RV} {H : Hp} {Q : VK} (h : rR W P (if c then some r else none) H Q) : c ∧ rR W P (some r) H Q := by
  split at h
  · exact ⟨by assumption, h⟩
  · exact h.elim
theorem op_bin (o : BOp) : OpR X (binaryOp o.op) (rBin W o) := fun pins s σ H x y v u Q I rx ry h => by
  obtain ⟨P, a, b, ta, tb, h⟩ := h
  cases o with
  | add =>
    cases a <;> cases b <;> first | exact h.elim | skip
    · rename_i i j
      exact op_add pins s σ H x y v u Q I rx ry ⟨i, j, ta.int_, tb.int_, rR_int h⟩
    · rename_i i j
      obtain ⟨c, h⟩ := rR_if h
      exact op_add_str pins s σ H x y v u Q I rx ry ⟨i, j, ta.str_, tb.str_, c, rR_str h⟩
    · rename_i i j
      obtain ⟨c, h⟩ := rR_if h
      obtain ⟨p, vs, rfl, h1, r1⟩ := ta
      obtain ⟨q, ws, rfl, h2, r2⟩ := tb
      exact op_cat pins s σ H _ _ v u Q I rx ry ⟨p, q, vs, ws, rfl, rfl, h1, h2, by rw [← r1.length, ← r2.length]; exact c, fun z hz => h z _ hz (r1.app r2)⟩
  | sub =>
    cases a <;> cases b <;> first | exact h.elim | skip
    rename_i i j
    exact op_sub pins s σ H x y v u Q I rx ry ⟨i, j, ta.int_, tb.int_, rR_int h⟩
  | mul =>
    cases a <;> cases b <;> first | exact h.elim | skip
    · rename_i i j
      obtain ⟨c, h⟩ := rR_if h
      unfold mulOk at c
      rw [Bool.or_eq_true, Bool.or_eq_true] at c
      rcases c with c | c | c
      · exact op_mul pins s σ H x y v u Q I rx ry ⟨i, j, ta.int_, tb.int_, .inl (of_decide_eq_true c), rR_int h⟩
      · exact op_mul pins s σ H x y v u Q I rx ry ⟨i, j, ta.int_, tb.int_, .inr (of_decide_eq_true c), rR_int h⟩
      · exact op_mulW pins s σ H x y v u Q I rx ry ⟨i, j, ta.int_, tb.int_, (by have c' : i.natAbs.log2 + j.natAbs.log2 < 1000000 := of_decide_eq_true c; exact c'), rR_int h⟩
    · rename_i xs k
      obtain ⟨c, h⟩ := rR_if h
      obtain ⟨p, vs, rfl, h1, r1⟩ := ta
      exact op_rep pins s σ H _ y v u Q I rx ry ⟨p, k, vs, rfl, tb.int_, h1, c.1, c.2.1, by rw [← r1.length]; exact c.2.2, fun z hz => h z _ hz (r1.rep _)⟩
  | fdiv =>
    cases a <;> cases b <;> first | exact h.elim | skip
    rename_i i j
    obtain ⟨c, h⟩ := rR_if h
    exact op_fdivN pins s σ H x y v u Q I rx ry ⟨i, j, ta.int_, tb.int_, c, rR_int h⟩
  | mod =>
    cases a <;> cases b <;> first | exact h.elim | skip
    rename_i i j
    obtain ⟨c, h⟩ := rR_if h
    exact op_modN pins s σ H x y v u Q I rx ry ⟨i, j, ta.int_, tb.int_, c, rR_int h⟩
  | pow =>
    cases a <;> cases b <;> first | exact h.elim | skip
    rename_i i j
    obtain ⟨c, h⟩ := rR_if h
    exact op_pow pins s σ H x y v u Q I rx ry ⟨i, j, ta.int_, tb.int_, c, rR_int h⟩
  | shl =>
    cases a <;> cases b <;> first | exact h.elim | skip
    rename_i i j
    obtain ⟨c, h⟩ := rR_if h
    exact op_shl pins s σ H x y v u Q I rx ry ⟨i, j, ta.int_, tb.int_, c, rR_int h⟩
end
def RO : Option RV → Prop
  | none => True
  | some (.d _) => True
  | some (.o (.lst _)) => True
  | some (.o (.dK _)) => True
  | _ => False
/-- from where we stand: an operation's answer -/
theorem At.rR {W : Wd} {g0 g : Gh} {H0 H : Hp} {σ : L2.St} {s : Sl} {m : Mem} {vs : List V} {xs : List RV} {As : List Addr} {Q : VK} {E : XK} {r : Option RV} (A : At W g0 H0 σ s g H m vs xs As) (h : Post W g0 H0 (ofO r m) Q E) (hr : RO r) : Fw.rR W g.fz r H Q := by
  cases r with
  | none => exact h.elim
  | some r =>
    have h : Post W g0 H0 (.ok r m) Q E := h
    cases r with
    | d d => exact ⟨fun v hv => A.retD h hv, fun xs e p ws hp hw => by subst e; exact A.retT h hp hw⟩
    | o d =>
      cases d with
      | lst l =>
        intro p ws hp hw
        exact A.retO h hp trivial ⟨ws, upd_same, Reps.stay (.of (fun a o _ e => Grow.upd hp a o e) fun _ q => q) _ _ hw, rfl⟩
      | dK l =>
        intro p ws hp hw
        exact A.retO h hp trivial ⟨ws, upd_same, hw.stay (.of (fun a o _ e => Grow.upd hp a o e) fun _ q => q), rfl⟩
      | _ => exact hr.elim
    | _ => exact hr.elim
theorem RO.ite {c : Prop} [Decidable c] {r : RV} (h : RO (some r)) : RO (if c then some r else none) := by
  split
  · exact h
  · trivial
theorem RO.map {α : Type} {f : α → RV} {o : Option α} (h : ∀ a, RO (some (f a))) : RO (o.map f) := by
  cases o with
  | none => trivial
  | some a => exact h a
theorem binD_ro (o : BOp) (a b : D) : RO (binD o a b) := by
  cases o <;> cases a <;> cases b <;> first | exact trivial | exact RO.ite trivial
theorem cutD_ro (a : D) (lo hi : Option Int) : RO (cutD a lo hi) := by
  cases a <;> first | exact trivial | exact RO.ite trivial
theorem revD_ro (a : D) : RO (revD a) := by
  cases a <;> exact trivial
end Fw

/-! T8: comparisons. -/
namespace Fw
open PySem PySem.Spec PyProof.Rows L2

def COp.op : COp → CmpOp
  | .eq => .Eq
  | .ne => .NotEq
  | .lt => .Lt
  | .le => .LtE
  | .gt => .Gt
  | .ge => .GtE
  | .in_ => .In
  | .nin => .NotIn
  | .is_ => .Is
  | .isn => .IsNot
def rCmp (W : Wd) (o : COp) : R2 := fun x y H Q => ∃ (P : Addr → Prop) (a b : D) (k : Bool), Top W P H x a ∧ Top W P H y b ∧ cmpD o a b = some k ∧ Q (.bl k) H
section
variable {W : Wd} {X : Cx} {P : Addr → Prop} {H : Hp} {σ : L2.St} {s : Shared} {pins : List (Addr × Obj)}
theorem reads_of (I : Inv X pins σ H s) (hK : W.K = X.K) {d : D} {v : V} {u : Value} (h : Rep W P H d v) (sh : shp d = true) (r : RelV v u) : ∃ as, Reads s.heap u (py d) as := by
  obtain ⟨h1, _⟩ := shp_dp h sh
  rw [hK] at h1
  exact Dp.reads I _ _ _ h1 r
theorem hitsA (I : Inv X pins σ H s) (hK : W.K = X.K) (hu : X.A.units + 65 < cLine) {ls : List (Key × D)} {ws : List (Key × V)} {vb : List (Key × Value)} (rl : RepA W P H ls ws) (kl : KV ws vb) (sl : (ls.all fun p => shp p.2) = true) :
    ∀ {ks : List (Key × D)} {vs : List (Key × V)} {va : List (Key × Value)}, RepA W P H ks vs → KV vs va → (ks.all fun p => shp p.2) = true →
      PySem.W.KeqHits X.A.in1 s vb va (ks.all fun p => match lookA ls p.1 with
        | some v => PyData.eqv (py p.2) (py v)
        | none => false)
  | _, _, _, .nil, .nil, _ => .nil
  | _, _, _, .cons (k := k) (d := d) (v := v) (ds := ks) h r, .cons (b := q) (l₂ := va) e t, sk => by
    obtain ⟨k', u⟩ := q
    obtain ⟨e1, e2⟩ := e
    have e1 : k = k' := e1
    subst e1
    rw [List.all_cons, Bool.and_eq_true] at sk
    have ih := hitsA I hK hu rl kl sl r t sk.2
    have rv := kl.val k
    rw [List.all_cons]
    cases q : lookA ls k with
    | none =>
      rw [(rl.look k).2 q] at rv
      cases q2 : valueAt vb k with
      | none =>
        show PySem.W.KeqHits _ _ _ _ (false && _)
        rw [Bool.false_and]
        exact .miss q2
      | some y => rw [q2] at rv; exact rv.elim
    | some d2 =>
      obtain ⟨v2, q1, h2⟩ := (rl.look k).1 d2 q
      rw [q1] at rv
      cases q2 : valueAt vb k with
      | none => rw [q2] at rv; exact rv.elim
      | some y =>
        rw [q2] at rv
        have sh2 : shp d2 = true := by
          unfold lookA at q
          cases qf : ls.find? fun kv => decide (kv.1 = k) with
          | none => rw [qf] at q; cases q
          | some p =>
            rw [qf] at q
            cases q
            exact List.all_eq_true.mp sl p (List.mem_of_find?_eq_some qf)
        obtain ⟨as, ra⟩ := reads_of I hK h sk.1 e2
        obtain ⟨bs, rb⟩ := reads_of I hK h2 sh2 rv
        show PySem.W.KeqHits _ _ _ _ (PyData.eqv (py d) (py d2) && _)
        exact .hit q2 (PySem.W.keq_at ra rb (shp_dp h sk.1).2 (shp_dp h2 sh2).2 (by show X.A.units + 1 + 64 < cLine; omega)) ih
/-- == of two dicts -/
theorem dict_eq_ok (I : Inv X pins σ H s) (hK : W.K = X.K) (hu : X.A.units + 65 < cLine) {a b : Addr} {ks ls : List (Key × D)} {vs ws : List (Key × V)} (ha : Rd H a (.dK vs)) (hb : Rd H b (.dK ws)) (ra : RepA W P H ks vs) (rb : RepA W P H ls ws)
    (sk : (ks.all fun p => shp p.2) = true) (sl : (ls.all fun p => shp p.2) = true) : (∀ Q : VK, Q (.bl (dictEq ks ls)) H → wpAny (model X.prog X.w) X.A (compareOp .Eq (.ref a) (.ref b)) (EP X pins σ Q) X.xe s) ∧
      ∀ Q : VK, Q (.bl (!dictEq ks ls)) H → wpAny (model X.prog X.w) X.A (compareOp .NotEq (.ref a) (.ref b)) (EP X pins σ Q) X.xe s := by
  obtain ⟨_, ya, va, ka, da⟩ := dk_rd I.hok ha
  obtain ⟨_, yb, vb, kb, db⟩ := dk_rd I.hok hb
  have hits := hitsA I hK hu rb kb sl ra ka sk
  have hl : (va.length == vb.length) = decide (ks.length = ls.length) := by
    rw [ra.length, rb.length, ka.length, kb.length]; rfl
  refine ⟨fun Q q => PySem.W.keq_eq (knd := mixKind X.prog X.w) ya yb da db (by omega) (fun _ => hits) (fin_bl I q ?_), fun Q q => PySem.W.keq_ne (knd := mixKind X.prog X.w) ya yb da db (by omega) (fun _ => hits) (fin_bl I q ?_)⟩
  · rw [hl]; rfl
  · rw [hl]; rfl
theorem eqv_flat {d e : D} {x y : V} (hd : Top W P H x d) (he : Top W P H y e) (fd : flatB d = true) (fe : flatB e = true) : eqV x y = PyData.eqv (py d) (py e) ∧ flatV x = true ∧ flatV y = true := by
  cases d <;> cases e <;> first | (cases fd; done) | (cases fe; done) | skip
  all_goals
    simp only [Top, Rep] at hd he
    subst hd he
    simp [eqV, py, PyData.eqv, flatV]
theorem any_flat {d : D} {x : V} (hd : Top W P H x d) (fd : flatB d = true) : ∀ {es : List D} {ys : List V}, Reps W P H es ys → es.all flatB = true → inV x ys = (es.any fun z => PyData.eqv (py z) (py d)) ∧ ys.all flatV = true
  | [], ys, h, _ => by rw [Reps.nil.mp h]; exact ⟨rfl, rfl⟩
  | e :: es, ys, h, fe => by
    obtain ⟨v, w, rfl, q, r⟩ := Reps.cons.mp h
    rw [List.all_cons, Bool.and_eq_true] at fe
    obtain ⟨i1, i2⟩ := any_flat hd fd r fe.2
    obtain ⟨e1, e2, e3⟩ := eqv_flat q.top hd fe.1 fd
    unfold inV at i1 ⊢
    rw [List.any_cons, List.any_cons, List.all_cons, e1, i1, e2, i2]
    exact ⟨rfl, rfl⟩
theorem any_pys (d : PyData) : ∀ ys : List D, ((pys ys).any fun z => PyData.eqv z d) = ys.any fun z => PyData.eqv (py z) d
  | [] => by simp only [pys, List.any_nil]
  | y :: ys => by simp only [pys, List.any_cons, any_pys d ys]
/-- in, over trees: both answers at once -/
theorem in_ok (hK : W.K = X.K) (hu : X.A.units + 65 < cLine) {x y : V} {v u : Value} {a b : D} {k : Bool} (I : Inv X pins σ H s) (rx : RelV x v) (ry : RelV y u) (ta : Top W P H x a) (tb : Top W P H y b) (e : inD a b = some k) :
    (∀ Q : VK, Q (.bl k) H → wpAny (model X.prog X.w) X.A (compareOp .In v u) (EP X pins σ Q) X.xe s) ∧ ∀ Q : VK, Q (.bl (!k)) H → wpAny (model X.prog X.w) X.A (compareOp .NotIn v u) (EP X pins σ Q) X.xe s := by
  cases b with
  | lst ys =>
    have e : (if shp a = true ∧ shp (.lst ys) = true then some (ys.any fun z => PyData.eqv (py z) (py a)) else none) = some k := e
    split at e
    · rename_i c
      cases e
      obtain ⟨h1, h2⟩ := shp_dp ta.any c.1
      obtain ⟨h3, h4⟩ := shp_dp tb.any c.2
      rw [hK] at h1 h3
      simp only [py] at h3 h4
      refine ⟨fun Q q => op_inD hu pins s σ H x y v u Q I rx ry ⟨_, _, h1, h3, h2, h4, ?_⟩, fun Q q => op_notInD hu pins s σ H x y v u Q I rx ry ⟨_, _, h1, h3, h2, h4, ?_⟩⟩
      · rw [any_pys]; exact q
      · rw [any_pys]; exact q
    · cases e
  | tup ys =>
    have e : (if flatB a = true ∧ ys.all flatB = true then some (ys.any fun z => PyData.eqv (py z) (py a)) else none) = some k := e
    split at e
    · rename_i c
      cases e
      obtain ⟨p, ws, rfl, h, r⟩ := tb
      obtain ⟨i1, i2⟩ := any_flat ta c.1 r c.2
      have fx : flatV x = true := (eqv_flat ta ta c.1 c.1).2.1
      refine ⟨fun Q q => op_in_seq pins s σ H x _ v u Q I rx ry ⟨p, ws, rfl, .inr (SqT.of h.1), fx, i2, ?_⟩, fun Q q => op_notIn_seq pins s σ H x _ v u Q I rx ry ⟨p, ws, rfl, .inr (SqT.of h.1), fx, i2, ?_⟩⟩
      · rw [if_neg (by decide), i1]; exact q
      · rw [if_pos rfl, i1]; exact q
    · cases e
  | dK kvs =>
    obtain ⟨p, ws, rfl, h, r⟩ := tb
    have e : (asK a).map (fun k => (lookA kvs k).isSome) = some k := e
    cases q : asK a with
    | none => rw [q] at e; cases e
    | some j =>
      rw [q] at e
      cases e
      have ex := ta.any.asK q
      subst ex
      cases ry
      have iso : (valV ws j).isSome = (lookA kvs j).isSome := by
        cases q2 : lookA kvs j with
        | none => rw [(r.look j).2 q2]; rfl
        | some d => obtain ⟨v, q3, _⟩ := (r.look j).1 d q2; rw [q3]; rfl
      have g : DGet H p (kV j) (valV ws j) := .inl ⟨ws, j, h, rfl, rfl⟩
      refine ⟨fun Q q => d_in (by omega) I g rx fun s' I' => fin_bl I' q iso.symm, fun Q q => d_notIn (by omega) I g rx fun s' I' => fin_bl I' q (by rw [iso])⟩
  | dT kvs =>
    obtain ⟨p, ws, rfl, h, r⟩ := tb
    cases a with
    | tup xs =>
      have e : (asKs xs).map (fun k => (lookA kvs k).isSome) = some k := e
      cases q : asKs xs with
      | none => rw [q] at e; cases e
      | some j =>
        rw [q] at e
        cases e
        obtain ⟨b, zs, rfl, h2, r2⟩ := ta
        have ez := r2.asKs q
        subst ez
        cases ry
        have iso : (valV ws j).isSome = (lookA kvs j).isSome := by
          cases q2 : lookA kvs j with
          | none => rw [(r.look j).2 q2]; rfl
          | some d => obtain ⟨v, q3, _⟩ := (r.look j).1 d q2; rw [q3]; rfl
        have g : DGet H p (.ref b) (valV ws j) := .inr ⟨ws, j, b, h, rfl, h2.1, rfl⟩
        refine ⟨fun Q q => d_in (by omega) I g rx fun s' I' => fin_bl I' q iso.symm, fun Q q => d_notIn (by omega) I g rx fun s' I' => fin_bl I' q (by rw [iso])⟩
    | _ => cases e
  | str y' =>
    cases a with
    | str x' =>
      cases e
      have ex := ta.str_
      have ey := tb.str_
      exact ⟨fun Q q => op_in_str pins s σ H x y v u Q I rx ry ⟨_, _, ex, ey, q⟩, fun Q q => op_notin_str pins s σ H x y v u Q I rx ry ⟨_, _, ex, ey, q⟩⟩
    | _ => cases e
  | _ => cases e
theorem eq_ok (hK : W.K = X.K) (hu : X.A.units + 65 < cLine) {x y : V} {v u : Value} {a b : D} {k : Bool} (I : Inv X pins σ H s) (rx : RelV x v) (ry : RelV y u) (ta : Top W P H x a) (tb : Top W P H y b) (e : eqD a b = some k) :
    (∀ Q : VK, Q (.bl k) H → wpAny (model X.prog X.w) X.A (compareOp .Eq v u) (EP X pins σ Q) X.xe s) ∧ ∀ Q : VK, Q (.bl (!k)) H → wpAny (model X.prog X.w) X.A (compareOp .NotEq v u) (EP X pins σ Q) X.xe s := by
  have other : (if shp a = true ∧ shp b = true then some (PyData.eqv (py a) (py b)) else none) = some k → (∀ Q : VK, Q (.bl k) H → wpAny (model X.prog X.w) X.A (compareOp .Eq v u) (EP X pins σ Q) X.xe s) ∧ ∀ Q : VK, Q (.bl (!k)) H → wpAny (model X.prog X.w) X.A (compareOp .NotEq v u) (EP X pins σ Q) X.xe s := fun e => by
    split at e
    · rename_i c
      cases e
      obtain ⟨h1, h2⟩ := shp_dp ta.any c.1
      obtain ⟨h3, h4⟩ := shp_dp tb.any c.2
      rw [hK] at h1 h3
      exact ⟨fun Q q => op_eqD (by omega) pins s σ H x y v u Q I rx ry ⟨_, _, h1, h3, h2, h4, q⟩, fun Q q => op_neD (by omega) pins s σ H x y v u Q I rx ry ⟨_, _, h1, h3, h2, h4, q⟩⟩
    · cases e
  cases a with
  | dK ks =>
    cases b with
    | dK ls =>
      have e : (if (ks.all fun p => shp p.2) = true ∧ (ls.all fun p => shp p.2) = true then some (dictEq ks ls) else none) = some k := e
      split at e
      · rename_i c
        cases e
        obtain ⟨p, ws, rfl, h, r⟩ := ta
        obtain ⟨q, zs, rfl, h2, r2⟩ := tb
        cases rx
        cases ry
        exact dict_eq_ok I hK hu h h2 r r2 c.1 c.2
      · cases e
    | _ => exact other e
  | _ => cases b <;> exact other e
theorem op_cmp (hK : W.K = X.K) (hu : X.A.units + 65 < cLine) (o : COp) : OpR X (compareOp o.op) (rCmp W o) := fun pins s σ H x y v u Q I rx ry h => by
  obtain ⟨P, a, b, k, ta, tb, e, h⟩ := h
  have neg : ∀ {z : Option Bool}, z.map (!·) = some k → ∃ j, z = some j ∧ k = !j := fun {z} e => by
    cases z with
    | none => cases e
    | some j => cases e; exact ⟨j, rfl, rfl⟩
  cases o with
  | eq => exact (eq_ok hK hu I rx ry ta tb e).1 Q h
  | ne =>
    have e2 : (eqD a b).map (!·) = some k := e
    obtain ⟨j, e3, rfl⟩ := neg e2
    exact (eq_ok hK hu I rx ry ta tb e3).2 Q h
  | in_ => exact (in_ok hK hu I rx ry ta tb e).1 Q h
  | nin =>
    have e2 : (inD a b).map (!·) = some k := e
    obtain ⟨j, e3, rfl⟩ := neg e2
    exact (in_ok hK hu I rx ry ta tb e3).2 Q h
  | is_ =>
    have e : (if isNon b = true then some (isNon a) else none) = some k := e
    split at e
    · rename_i c
      cases e
      cases b <;> first | (cases c; done) | skip
      have hy := tb.non_
      have hx : decide (x = .non) = isNon a := by
        cases a <;> simp only [Top, Rep] at ta <;> first | (obtain ⟨_, _, _, e, _⟩ := ta; rw [e]; rfl) | (obtain ⟨_, _, e, _⟩ := ta; rw [e]; rfl) | (rw [ta]; rfl)
      exact op_isN pins s σ H x y v u Q I rx ry ⟨hy, by rw [hx]; exact h⟩
    · cases e
  | isn =>
    have e : (if isNon b = true then some (!isNon a) else none) = some k := e
    split at e
    · rename_i c
      cases e
      cases b <;> first | (cases c; done) | skip
      have hy := tb.non_
      have hx : decide (x = .non) = isNon a := by
        cases a <;> simp only [Top, Rep] at ta <;> first | (obtain ⟨_, _, _, e, _⟩ := ta; rw [e]; rfl) | (obtain ⟨_, _, e, _⟩ := ta; rw [e]; rfl) | (rw [ta]; rfl)
      exact op_notN pins s σ H x y v u Q I rx ry ⟨hy, by rw [hx]; exact h⟩
    · cases e
  | lt =>
    cases a <;> cases b <;> first | (cases e; done) | skip
    · cases e
      exact op_lt pins s σ H x y v u Q I rx ry ⟨_, _, ta.int_, tb.int_, h⟩
    · cases e
      exact op_lt_str pins s σ H x y v u Q I rx ry ⟨_, _, ta.str_, tb.str_, h⟩
  | le =>
    cases a <;> cases b <;> first | (cases e; done) | skip
    cases e
    exact op_le pins s σ H x y v u Q I rx ry ⟨_, _, ta.int_, tb.int_, h⟩
  | gt =>
    cases a <;> cases b <;> first | (cases e; done) | skip
    cases e
    exact op_gt pins s σ H x y v u Q I rx ry ⟨_, _, ta.int_, tb.int_, h⟩
  | ge =>
    cases a <;> cases b <;> first | (cases e; done) | skip
    cases e
    exact op_ge pins s σ H x y v u Q I rx ry ⟨_, _, ta.int_, tb.int_, h⟩
end
end Fw

/-! T9: rows of values; arguments; what a function promises. -/
namespace Fw
open PySem PySem.Spec PyProof.Rows L2

def RzP (W : Wd) (g : Gh) (H : Hp) (x : Ex) (m : Mem) (E : XK) : Prop := ∀ cls d g' H', Eff g H g' H' → MR W g' H' m → ExR W g' H' cls d x → E cls d H'
/-- a wish that a raised error's wish goes with -/
structure Wish {β : Type} (W : Wd) (g : Gh) (H : Hp) (P : Rs β → Prop) (E : XK) : Prop where
  no : ¬ P .no
  rz : ∀ x m, P (.rz x m) → RzP W g H x m E
structure OutL (W : Wd) (g0 : Gh) (H0 : Hp) (g : Gh) (H : Hp) (m : Mem) (vs : List V) (xs : List RV) (As : List Addr) : Prop where
  eff : Eff g0 H0 g H
  mr : MR W g H m
  rv : RVs W g H vs xs As
  tm : Tmp g H As
  nw : ∀ a ∈ As, H0 a = none ∨ Ow g0 a
def PostL (W : Wd) (g : Gh) (H : Hp) (r : Rs (List RV)) (Q : List V → Hp → Prop) (E : XK) : Prop := match r with
  | .ok xs m => ∀ vs g' H' As, OutL W g H g' H' m vs xs As → Q vs H'
  | .rz x m => RzP W g H x m E
  | .no => False
def tMs (W : Wd) (x : Sl → Mo (List RV)) (Wx : WX) : TA := fun σ H Q => ∃ g s m, MR W g H m ∧ SR W g H σ s ∧ PostL W g H (x s m) Q (WE Wx σ)
section
variable {W : Wd} {g g0 g' g1 : Gh} {H H0 H' H1 : Hp} {m m' m1 : Mem} {σ : L2.St} {s : Sl} {Wx : WX} {vs : List V} {xs : List RV} {As : List Addr} {Q : VK} {E : XK}
theorem wish_post : Wish W g H (fun r => Post W g H r Q E) E := ⟨fun h => h, fun _ _ h => h⟩
theorem wish_postL {Q : List V → Hp → Prop} : Wish W g H (fun r => PostL W g H r Q E) E := ⟨fun h => h, fun _ _ h => h⟩
theorem tm_stepG {β : Type} {P : Rs β → Prop} {x : Sl → Mo RV} {f : RV → Mo β} (w : Wish W g0 H0 P (WE Wx σ)) (A : At W g0 H0 σ s g H m vs xs As) (h : P (bnd (x s) f m)) :
    tM W x Wx σ H fun v H1 => ∃ g1 m1 a As', At W g0 H0 σ s g1 H1 m1 (v :: vs) (a :: xs) As' ∧ P (f a m1) := by
  refine ⟨g, s, m, A.mr, A.sr, ?_⟩
  cases e : x s m with
  | ok a m1 =>
    rw [bnd_ok e] at h
    exact fun v g1 H1 Bs o => ⟨g1, m1, a, _, A.next o, h⟩
  | rz a m1 =>
    rw [bnd_rzo e] at h
    exact fun cls d g' H' e r x => w.rz _ _ h cls d g' H' (A.eff.trans e) r x
  | no =>
    rw [bnd_noo e] at h
    exact w.no h
theorem RVs.app {us : List V} {ys : List RV} {Bs : List Addr} (h : RVs W g H us ys Bs) (r : RVs W g H vs xs As) : RVs W g H (us ++ vs) (ys ++ xs) (Bs ++ As) := by
  induction h with
  | nil => exact r
  | cons h _ ih => rw [List.append_assoc]; exact .cons h ih
theorem At.nextL {us : List V} {ys : List RV} {Bs : List Addr} (A : At W g0 H0 σ s g H m vs xs As) (o : OutL W g H g1 H1 m1 us ys Bs) : At W g0 H0 σ s g1 H1 m1 (us ++ vs) (ys ++ xs) (Bs ++ As) where
  eff := A.eff.trans o.eff
  mr := o.mr
  sr := A.sr.eff A.mr o.eff
  rv := o.rv.app (A.rv.eff A.mr A.tm o.eff)
  tm := o.tm.app (A.tm.eff o.eff) fun a hb ha => by
    obtain ⟨u, q, _⟩ := A.tm.mt a ha
    rcases o.nw a hb with h | h
    · rw [h] at q; cases q
    · exact A.tm.ow a ha h
  nw := fun a h => by
    rcases List.mem_append.mp h with h | h
    · rcases o.nw a h with h | h
      · by_cases ow : Ow g0 a
        · exact .inr ow
        · cases e : H0 a with
          | none => exact .inl rfl
          | some u =>
            exact (A.eff.there e ow h).elim
      · exact (A.eff.asn a h).symm
    · exact A.nw a h
theorem tms_stepG {β : Type} {P : Rs β → Prop} {x : Sl → Mo (List RV)} {f : List RV → Mo β} (w : Wish W g0 H0 P (WE Wx σ)) (A : At W g0 H0 σ s g H m vs xs As) (h : P (bnd (x s) f m)) :
    tMs W x Wx σ H fun us H1 => ∃ g1 m1 ys Bs, At W g0 H0 σ s g1 H1 m1 (us ++ vs) (ys ++ xs) (Bs ++ As) ∧ RVs W g1 H1 us ys Bs ∧ us.length = ys.length ∧ P (f ys m1) := by
  refine ⟨g, s, m, A.mr, A.sr, ?_⟩
  cases e : x s m with
  | ok a m1 =>
    rw [bnd_ok e] at h
    refine fun us g1 H1 Bs o => ⟨g1, m1, a, Bs, A.nextL o, o.rv, ?_, h⟩
    clear h e
    have r := o.rv
    clear o
    induction r with
    | nil => rfl
    | cons _ _ ih => rw [List.length_cons, List.length_cons, ih]
  | rz a m1 =>
    rw [bnd_rzo e] at h
    exact fun cls d g' H' e r x => w.rz _ _ h cls d g' H' (A.eff.trans e) r x
  | no =>
    rw [bnd_noo e] at h
    exact w.no h
theorem tMs.mono {x : Sl → Mo (List RV)} {Q Q' : List V → Hp → Prop} (h : tMs W x Wx σ H Q) (hq : ∀ v H', Q v H' → Q' v H') : tMs W x Wx σ H Q' := by
  obtain ⟨g, s, m, h1, h2, h3⟩ := h
  refine ⟨g, s, m, h1, h2, ?_⟩
  cases e : x s m with
  | ok a m1 => rw [e] at h3; exact fun vs g' H' As o => hq _ _ (h3 vs g' H' As o)
  | rz a m1 => rw [e] at h3; exact h3
  | no => rw [e] at h3; exact h3
/-- a row of none, of one more -/
theorem tms_nil {Q : List V → Hp → Prop} (h : tMs W (fun _ => pur []) Wx σ H Q) : Q [] H := by
  obtain ⟨g, s, m, h1, h2, h3⟩ := h
  exact h3 [] g H [] ⟨.refl, h1, .nil, .nil, fun _ h => by simp at h⟩
theorem OutL.cons {g2 : Gh} {H2 : Hp} {m2 : Mem} {v : V} {a : RV} {us : List V} {ys : List RV} {Bs : List Addr} (o : Out W g H g1 H1 m1 v As a) (p : OutL W g1 H1 g2 H2 m2 us ys Bs) : OutL W g H g2 H2 m2 (v :: us) (a :: ys) (As ++ Bs) where
  eff := o.eff.trans p.eff
  mr := p.mr
  rv := .cons (o.rv.eff o.mr o.tm p.eff) p.rv
  tm := (o.tm.eff p.eff).app p.tm fun x ha hb => by
    obtain ⟨u, q, _⟩ := o.tm.mt x ha
    rcases p.nw x hb with h | h
    · rw [h] at q; cases q
    · exact o.tm.ow x ha h
  nw := fun x h => by
    rcases List.mem_append.mp h with h | h
    · exact o.nw x h
    · rcases p.nw x h with h | h
      · by_cases ow : Ow g x
        · exact .inr ow
        · cases e : H x with
          | none => exact .inl rfl
          | some u =>
            exact (o.eff.there e ow h).elim
      · exact (o.eff.asn x h).symm
theorem tms_cons {x : Sl → Mo RV} {y : Sl → Mo (List RV)} {Q : List V → Hp → Prop} (h : tMs W (fun s => bnd (x s) fun a => bnd (y s) fun as => pur (a :: as)) Wx σ H Q) : tCons (tM W x Wx) (tMs W y Wx) σ H Q := by
  obtain ⟨g, s, m, h1, h2, h3⟩ := h
  refine ⟨g, s, m, h1, h2, ?_⟩
  have h3 : PostL W g H (bnd (x s) (fun a => bnd (y s) fun as => pur (a :: as)) m) Q (WE Wx σ) := h3
  cases e : x s m with
  | no => rw [bnd_noo e] at h3; exact h3
  | rz a m1 => rw [bnd_rzo e] at h3; exact h3
  | ok a m1 =>
    rw [bnd_ok e] at h3
    refine fun v g1 H1 As o => ⟨g1, s, m1, o.mr, h2.eff h1 o.eff, ?_⟩
    cases e2 : y s m1 with
    | no => rw [bnd_noo e2] at h3; exact h3
    | rz b m2 =>
      rw [bnd_rzo e2] at h3
      exact fun cls d g' H' e r x => h3 cls d g' H' (o.eff.trans e) r x
    | ok ys m2 =>
      rw [bnd_ok e2] at h3
      exact fun us g2 H2 Bs p => h3 (v :: us) g2 H2 _ (OutL.cons o p)
/-- from a later state -/
theorem Post.of {r : Rs RV} (A : At W g0 H0 σ s g H m vs xs As) (h : Post W g0 H0 r Q E) : Post W g H r Q E := by
  cases r with
  | ok x m => exact fun v g' H' Bs o => h v g' H' Bs (A.out o)
  | rz x m => exact fun cls d g' H' e r x => h cls d g' H' (A.eff.trans e) r x
  | no => exact h
theorem RVs.length (h : RVs W g H vs xs As) : vs.length = xs.length := by
  induction h with
  | nil => rfl
  | cons _ _ ih => rw [List.length_cons, List.length_cons, ih]
/-! ### arguments -/
inductive VRs (W : Wd) (g : Gh) (H : Hp) : List V → List Val → Prop
  | nil : VRs W g H [] []
  | cons {v : V} {x : Val} {vs : List V} {xs : List Val} (h : VR W g H v x) (r : VRs W g H vs xs) : VRs W g H (v :: vs) (x :: xs)
theorem VRs.length {ys : List Val} (h : VRs W g H vs ys) : vs.length = ys.length := by
  induction h with
  | nil => rfl
  | cons _ _ ih => rw [List.length_cons, List.length_cons, ih]
/-- all that is new is frozen -/
theorem At.frz (A : At W g0 H0 σ s g H m vs xs As) : At W g0 H0 σ s (g.add (· ∈ As)) H m [] [] [] where
  eff := A.eff.add fun a h => (A.nw a h).imp id .inl
  mr := A.mr.add fun a h => ⟨(A.tm.mt a h).imp fun o z => z.1, A.tm.ow a h⟩
  sr := ⟨A.sr.1, fun i x q => by
    obtain ⟨v, e1, e2⟩ := A.sr.2 i x q
    exact ⟨v, e1, e2.more ⟨fun _ h => .inl h, fun _ _ e => e, fun _ l _ _ e1 e2 => ⟨l, e1, e2⟩⟩⟩⟩
  rv := .nil
  tm := .nil
  nw := fun _ h => by simp at h
theorem arg_ok {v : V} {x : RV} {y : Val} {Bs : List Addr} {P : Addr → Prop} (h : RVR W g H v Bs x) (hb : ∀ b ∈ Bs, P b) (e : argM x m = .ok y m') : m' = m ∧ VR W (g.add P) H v y := by
  cases x with
  | d d => cases e; exact ⟨rfl, Rep.stay (.of (fun _ _ _ e => e) fun _ p => .inl p) _ _ h.1⟩
  | o d =>
    cases e
    obtain ⟨a, rfl, h⟩ := h
    exact ⟨rfl, h.rep (fun _ p => .inl p) (.inr (hb a h.self))⟩
  | c n =>
    cases e
    obtain ⟨⟨a, h, rfl⟩, _⟩ := h
    exact ⟨rfl, a, h, rfl⟩
  | f n f => cases e
  | x c p => cases e
  | s ns => cases e
theorem args_ok {P : Addr → Prop} : ∀ {vs : List V} {xs : List RV} {As : List Addr} {ys : List Val} {m m' : Mem}, RVs W g H vs xs As → (∀ b ∈ As, P b) → argsM xs m = .ok ys m' → m' = m ∧ VRs W (g.add P) H vs ys
  | _, _, _, _, _, _, .nil, _, e => by cases e; exact ⟨rfl, .nil⟩
  | _, _, _, ys, m, m', .cons (x := x) (xs := xs) h r, hb, e => by
    have q : bnd (argM x) (fun v => bnd (argsM xs) fun vs => pur (v :: vs)) m = .ok ys m' := e
    clear e
    cases e1 : argM x m with
    | no => rw [bnd_noo e1] at q; cases q
    | rz a m1 => rw [bnd_rzo e1] at q; cases q
    | ok y m1 =>
      rw [bnd_ok e1] at q
      obtain ⟨w1, hy⟩ := arg_ok h (fun b q => hb b (List.mem_append_left _ q)) e1
      cases e2 : argsM xs m1 with
      | no => rw [bnd_noo e2] at q; cases q
      | rz a m2 => rw [bnd_rzo e2] at q; cases q
      | ok zs m2 =>
        rw [bnd_ok e2] at q
        cases q
        obtain ⟨w2, hz⟩ := args_ok r (fun b q => hb b (List.mem_append_right _ q)) e2
        exact ⟨w2.trans w1, .cons hy hz⟩
theorem argM_rz (x : RV) (m : Mem) (e : Ex) (m' : Mem) : argM x m ≠ .rz e m' := by
  cases x <;> exact fun h => by cases h
theorem argsM_rz : ∀ (xs : List RV) (m : Mem) (e : Ex) (m' : Mem), argsM xs m ≠ .rz e m'
  | [], m, e, m', h => by cases h
  | x :: xs, m, e, m', h => by
    have h : bnd (argM x) (fun v => bnd (argsM xs) fun vs => pur (v :: vs)) m = .rz e m' := h
    cases e1 : argM x m with
    | no => rw [bnd_noo e1] at h; cases h
    | rz a m1 => exact argM_rz _ _ _ _ e1
    | ok y m1 =>
      rw [bnd_ok e1] at h
      cases e2 : argsM xs m1 with
      | no => rw [bnd_noo e2] at h; cases h
      | rz a m1 => exact argsM_rz _ _ _ _ e2
      | ok zs m2 => rw [bnd_ok e2] at h; cases h
/-- the arguments are handed over -/
theorem At.args {β : Type} {P : Rs β → Prop} {f : List Val → Mo β} {us : List V} {ys : List RV} {Bs : List Addr} (w : Wish W g0 H0 P E) (A : At W g0 H0 σ s g H m vs xs As) (r : RVs W g H us ys Bs) (hb : ∀ b ∈ Bs, b ∈ As) (h : P (bnd (argsM ys) f m)) :
    ∃ ws, VRs W (g.add (· ∈ As)) H us ws ∧ P (f ws m) := by
  cases e : argsM ys m with
  | no => rw [bnd_noo e] at h; exact (w.no h).elim
  | rz a m1 => exact (argsM_rz _ _ _ _ e).elim
  | ok ws m1 =>
    rw [bnd_ok e] at h
    obtain ⟨rfl, q⟩ := args_ok (P := (· ∈ As)) r hb e
    exact ⟨ws, q, h⟩
/-! ### values looked at -/
inductive Tops (W : Wd) (P : Addr → Prop) (H : Hp) : List V → List D → Prop
  | nil : Tops W P H [] []
  | cons {v : V} {d : D} {vs : List V} {ds : List D} (h : Top W P H v d) (r : Tops W P H vs ds) : Tops W P H (v :: vs) (d :: ds)
theorem At.viewG {β : Type} {P : Rs β → Prop} {f : D → Mo β} {x : RV} {v : V} {Bs : List Addr} (w : Wish W g0 H0 P E) (A : At W g0 H0 σ s g H m vs xs As) (hx : RVR W g H v Bs x) (h : P (bnd (viewM x) f m)) : ∃ d, Top W g.fz H v d ∧ P (f d m) := by
  cases e : viewM x m with
  | ok d m' =>
    obtain ⟨rfl, t⟩ := view_ok hx A.mr e
    rw [bnd_ok e] at h
    exact ⟨d, t, h⟩
  | rz a m1 =>
    cases x with
    | d d => cases e
    | o d => cases e
    | x c p => cases e
    | s ns => cases e
    | c n =>
      have e : (match m[n]? with
        | some w => Rs.ok w.view m
        | none => .no) = .rz a m1 := e
      cases q : m[n]? with
      | none => rw [q] at e; cases e
      | some w => rw [q] at e; cases e
    | f n k =>
      have e : (match (m[n]?).bind (fldW · k) with
        | some d => Rs.ok d m
        | none => .no) = .rz a m1 := e
      cases q : (m[n]?).bind (fldW · k) with
      | none => rw [q] at e; cases e
      | some w => rw [q] at e; cases e
  | no =>
    rw [bnd_noo e] at h
    exact (w.no h).elim
theorem At.viewsG {β : Type} {P : Rs β → Prop} (w : Wish W g0 H0 P E) (A : At W g0 H0 σ s g H m vs xs As) : ∀ {us : List V} {ys : List RV} {Bs : List Addr} {f : List D → Mo β}, RVs W g H us ys Bs → P (bnd (viewsM ys) f m) → ∃ ds, Tops W g.fz H us ds ∧ P (f ds m)
  | _, _, _, f, .nil, h => ⟨[], .nil, h⟩
  | _, _, _, f, .cons (x := x) (xs := ys) h1 r, h => by
    have h : P (bnd (bnd (viewM x) fun v => bnd (viewsM ys) fun vs => pur (v :: vs)) f m) := h
    rw [bnd_bnd] at h
    obtain ⟨d, t, h⟩ := A.viewG w h1 h
    have h : P (bnd (bnd (viewsM ys) fun vs => pur (d :: vs)) f m) := h
    rw [bnd_bnd] at h
    obtain ⟨ds, ts, h⟩ := At.viewsG w A r h
    exact ⟨d :: ds, .cons t ts, h⟩
/-! ### values frozen -/
/-- a value in hand is frozen, the others stay -/
theorem At.frzG {β : Type} {P : Rs β → Prop} {f : D → Mo β} {x : RV} {v : V} {Bs Cs : List Addr} (w : Wish W g0 H0 P E) (A : At W g0 H0 σ s g H m (v :: vs) (x :: xs) (Bs ++ Cs)) (hx : RVR W g H v Bs x) (hr : RVs W g H vs xs Cs) (h : P (bnd (frzM x) f m)) :
    ∃ d g' m', More g g' ∧ Rep W g'.fz H d v ∧ At W g0 H0 σ s g' H m' vs xs Cs ∧ P (f d m') := by
  cases e : frzM x m with
  | ok d m' =>
    obtain ⟨g', e1, r1, k, rep, tm⟩ := frz_ok A.eff A.mr hx A.tm.left (fun a h => A.nw a (List.mem_append_left _ h)) e
    rw [bnd_ok e] at h
    refine ⟨d, g', m', k, rep, ⟨e1, r1, ⟨A.sr.1, fun i x q => ?_⟩, hr.more k, tm Cs A.tm.right fun b hb hc => ?_, fun a h => A.nw a (List.mem_append_right _ h)⟩, h⟩
    · obtain ⟨v, z1, z2⟩ := A.sr.2 i x q
      exact ⟨v, z1, z2.more k⟩
    · exact (List.nodup_append.mp A.tm.nd).2.2 b hb b hc rfl
  | rz a m1 =>
    cases x with
    | d d => cases e
    | o d => cases e
    | x c p => cases e
    | s ns => cases e
    | f n k => cases e
    | c n =>
      have e : (match m[n]? with
        | some (.fl d) => Rs.ok d (m.set n (.fz d))
        | some (.fz d) => .ok d m
        | _ => .no) = .rz a m1 := e
      cases q : m[n]? with
      | none => rw [q] at e; cases e
      | some w => rw [q] at e; cases w <;> cases e
  | no =>
    rw [bnd_noo e] at h
    exact (w.no h).elim
theorem At.frzsG {β : Type} {P : Rs β → Prop} (w : Wish W g0 H0 P E) : ∀ {us : List V} {ys : List RV} {Bs Cs : List Addr} {f : List D → Mo β} {g : Gh} {m : Mem}, RVs W g H us ys Bs → At W g0 H0 σ s g H m (us ++ vs) (ys ++ xs) (Bs ++ Cs) → RVs W g H vs xs Cs → P (bnd (frzsM ys) f m) →
    ∃ ds g' m', More g g' ∧ Reps W g'.fz H ds us ∧ At W g0 H0 σ s g' H m' vs xs Cs ∧ P (f ds m')
  | _, _, _, Cs, f, g, m, .nil, A, hr, h => ⟨[], g, m, .refl g, Reps.mk0, A, h⟩
  | _, _, _, Cs, f, g, m, .cons (v := v) (x := x) (xs := ys) (vs := us) (As := B1) (Bs := B2) h1 r, A, hr, h => by
    have h : P (bnd (bnd (frzM x) fun v => bnd (frzsM ys) fun vs => pur (v :: vs)) f m) := h
    rw [bnd_bnd] at h
    have A : At W g0 H0 σ s g H m (v :: (us ++ vs)) (x :: (ys ++ xs)) (B1 ++ (B2 ++ Cs)) := by
      rw [← List.append_assoc]
      exact A
    obtain ⟨d, g1, m1, k, rep, A1, h⟩ := A.frzG w h1 (RVs.app r hr) h
    have h : P (bnd (bnd (frzsM ys) fun vs => pur (d :: vs)) f m1) := h
    rw [bnd_bnd] at h
    obtain ⟨ds, g2, m2, k2, reps, A2, h⟩ := At.frzsG w (r.more k) A1 (hr.more k) h
    exact ⟨d :: ds, g2, m2, k.trans k2, Reps.mk (Rep.stay k2.stay _ _ rep) reps, A2, h⟩
end
/-! ### what a function promises -/
def spF (W : Wd) (md : Md) (k f : Nat) : Sp := fun vs H Q E => ∃ g m ws, MR W g H m ∧ VRs W g H vs ws ∧ Post W g H (callI md k f ws m) Q E
end Fw

/-! T10: the contexts; names, constants, operators. -/
namespace Fw
open PySem PySem.Spec PyProof.Rows L2

/-- what a function of the text keeps; no repr is under way at the call -/
structure FnG (P : Program) (w : World) (K : PySem.W.Frag) (mg : Str → Option Value) (base : Heap) (k : Nat) (f : Addr) (fd : FuncData) (ps : List Str) (sp : Sp) : Prop where
  len : ∀ vs H Q E, sp vs H Q E → vs.length = ps.length
  go : ∀ (A : Around) (outer : List Env) (s : Shared) (H : Hp) (args : Args) (us : List Value) (vs : List V) (Q : VK) (E : XK), Room k A → A.guards = some [] → Env0 P w K mg base A outer s H → BindsTo s fd args (ps.zip us) → Vals vs us → sp vs H Q E →
    codeAny (model P w) A (.call (.ref f) args) (CR (L2.CX P w) outer P w H s Q E) s
/-- the names: functions (a method: the empty text), classes, attributes, constants, free built-ins; the classes that are made with their __init__ -/
structure Nm where
  fn : List Str
  cl : List Str
  fld : List Str
  gc : List (Str × D)
  mks : List (Nat × Nat)
  xc : List Str
  cv : List (Nat × Nat × D)
/-- a context's names -/
structure Ck where
  N : List Str
  sc : Scope
  ck : Str → Bool
def Ck.vis (c : Ck) (x : Str) : Bool := match c.sc.names.lookup x with
  | some .local => true
  | some .cell => true
  | some .free => true
  | _ => false
def Ck.loc (c : Ck) (x : Str) : Bool := match c.sc.names.lookup x with
  | some .local => true
  | some .cell => c.ck x
  | _ => false
def Ck.gl (c : Ck) (x : Str) : Bool := match c.sc.names.lookup x with
  | some .globalImplicit => true
  | _ => false
/-- a scalar as a value -/
def scV : D → Option V
  | .non => some .non
  | .bl b => some (.bl b)
  | .int i => some (.int i)
  | .str x => some (.str x)
  | _ => none
/-- a type's name, a class's address, as values of the language -/
def tyD (W : Wd) : D → Value
  | .non => .type "NoneType"
  | .bl _ => .type "bool"
  | .int _ => .type "int"
  | .str _ => .type "str"
  | .tup _ => .type "tuple"
  | .lst _ => .type "list"
  | .dK _ => .type "dict"
  | .dT _ => .type "dict"
  | .ins c _ => .ref (W.ca c)
def Ty.val (W : Wd) : Ty → Value
  | .tstr => .type "str"
  | .tint => .type "int"
  | .tbool => .type "bool"
  | .tlist => .type "list"
  | .ttuple => .type "tuple"
  | .tdict => .type "dict"
  | .tcls c => .ref (W.ca c)
  | .tblt n => .type n
/-- the asked class is one of the known -/
def Ty.ok (n : Nat) : Ty → Bool
  | .tcls c => decide (c < n)
  | .tblt _ => false
  | _ => true
structure IsiC (K : PySem.W.Frag) (C : Addr) : Prop where
  ha : PySem.W.findIn K (.ref C) "__class__" = some (some (.builtin "object.__class__"))
  hn : PySem.W.specialIn K (.builtin "object.__class__") "__get__" = some (some (.builtin "getset_descriptor.__get__"))
  ht : PySem.W.takesIn K (.builtin "object.__class__") = some true
  hm : PySem.W.mroIn K C (.type "object") = some true
structure GW (W : Wd) (md : Md) (nm : Nm) (fa : Nat → Addr) (j : Nat) (P : Program) (w : World) (K : PySem.W.Frag) (mg : Str → Option Value) (base : Heap) : Prop where
  fn : ∀ (f : Nat) (fd : Fd), md.fns[f]? = some fd → ∃ (dat : FuncData) (ps : List Str), FnG P w K mg base (2 * j) (fa f) dat ps (spF W md j f) ∧ Binds K dat ps []
  gf : ∀ (f : Nat) (x : Str), nm.fn[f]? = some x → (x.length == 0) = false → mg x = some (.ref (fa f)) ∧ PySem.W.keepIn K (.ref (fa f)) = true
  cl : ∀ (c : Nat) (x : Str), nm.cl[c]? = some x → mg x = some (.ref (W.ca c))
  cls : ∀ (c : Nat) (x : Str), nm.cl[c]? = some x → Cls K (W.ca c)
  fld : ∀ (f : Nat) (x : Str), nm.fld[f]? = some x → W.fn f = x
  gc : ∀ (g : Nat) (x : Str) (d : D), nm.gc[g]? = some (x, d) → ∃ v u, scV d = some v ∧ mg x = some u ∧ RelV v u
  mks : ∀ c f, (c, f) ∈ nm.mks → Mk K (W.ca c) (fa f)
  ms : ∀ c m f, md.ms.lookup (c, m) = some f → Cls K (W.ca c) ∧ Meth K (W.ca c) (W.fn m) (fa f)
  pr : ∀ c m f, md.pr.lookup (c, m) = some f → Cls K (W.ca c) ∧ ∃ p, PropOf K (W.ca c) (W.fn m) p (fa f)
  at_ : ∀ c f, (c, f) ∈ md.at_ → Cls K (W.ca c) ∧ NoAttr K (W.ca c) (W.fn f)
  isc : ∀ (c : Nat) (x : Str), nm.cl[c]? = some x → IsiC K (W.ca c)
  ncl : md.ncl = nm.cl.length
  isi : ∀ d (t : Ty), noT md.ncl d = true → t.ok md.ncl = true → PySem.W.kitOne K (tyD W d) (t.val W) = some (tyB md d t)
  cv : ∀ cl f d, (cl, f, d) ∈ nm.cv → ∃ mc v u, scV d = some v ∧ ClX.CRead K (W.ca cl) mc ∧ ClX.CVal K (W.ca cl) mc (W.fn f) v u
  bl : ∀ x : Str, (bootBuiltins x).isSome = true → bootMainNames.contains x = false → mg x = none
structure GX (X : Cx) (W : Wd) (md : Md) (nm : Nm) (fa : Nat → Addr) (j : Nat) (c : Ck) (Wx : WX) : Prop where
  K : W.K = X.K
  calm : X.calm = true
  N : X.N = c.N
  nd : c.N.Nodup
  sc : X.env.scope = c.sc
  ck : ∀ x, c.ck x = true → X.fn x = true
  room : Room (2 * j + 1) X.A
  tk : Takes X Wx
  gd : X.A.guards = some []
  gw : GW W md nm fa j X.prog X.w X.K X.mg X.base
section
variable {X : Cx} {W : Wd} {md : Md} {nm : Nm} {fa : Nat → Addr} {j : Nat} {c : Ck} {Wx : WX} {e a b : Expr} {pos : Pos} {t : TE}
theorem PE.of {t' : TE} (h : PE X e t) (i : ∀ σ H Q, t' σ H Q → t σ H Q) : PE X e t' := ⟨fun pins s σ H Q I q => h.run pins s σ H Q I (i _ _ _ q)⟩
theorem PA.of {es : List Expr} {t t' : TA} (h : PA X es t) (i : ∀ σ H Q, t' σ H Q → t σ H Q) : PA X es t' := ⟨fun pos pins s σ H Q I q => h.run pos pins s σ H Q I (i _ _ _ q)⟩
theorem PT.of {t t' : TT} (h : PT X e t) (i : ∀ σ H Q, t' σ H Q → t σ H Q) : PT X e t' := ⟨fun pins s σ H Q I q => h.run pins s σ H Q I (i _ _ _ q)⟩
theorem PW.of {t t' : TT} (h : PW X e t) (i : ∀ σ H Q, t' σ H Q → t σ H Q) : PW X e t' := ⟨fun whole pins s σ H Q I q => h.run whole pins s σ H Q I (i _ _ _ q)⟩
theorem GX.vis (G : GX X W md nm fa j c Wx) {x : Str} (h : c.vis x = true) : Vis X.env.scope x := by
  rw [G.sc]
  unfold Ck.vis at h
  unfold Vis
  cases e : c.sc.names.lookup x with
  | none => rw [e] at h; cases h
  | some k => rw [e] at h; cases k <;> first | exact .inl rfl | exact .inr (.inl rfl) | exact .inr (.inr rfl) | cases h
theorem GX.gl (G : GX X W md nm fa j c Wx) {x : Str} (h : c.gl x = true) : Gl X x := by
  show X.env.scope.names.lookup x = _
  rw [G.sc]
  unfold Ck.gl at h
  cases e : c.sc.names.lookup x with
  | none => rw [e] at h; cases h
  | some k => rw [e] at h; cases k <;> first | rfl | cases h
theorem GX.loc (G : GX X W md nm fa j c Wx) {x : Str} (h : c.loc x = true) : L2.Loc X.env.scope x ∧ (X.fn x = true ∨ X.env.scope.names.lookup x = some .local) := by
  unfold L2.Loc
  rw [G.sc]
  unfold Ck.loc at h
  cases e : c.sc.names.lookup x with
  | none => rw [e] at h; cases h
  | some k => rw [e] at h; cases k <;> first | exact ⟨.inl rfl, .inr rfl⟩ | exact ⟨.inr rfl, .inl (G.ck x h)⟩ | cases h
theorem GX.units (G : GX X W md nm fa j c Wx) : X.A.units + 65 < cLine := by
  have := G.room.un
  omega
theorem GX.units1 (G : GX X W md nm fa j c Wx) : X.A.units + 1 < cLine := by
  have := G.room.un
  omega
/-! ### names and constants -/
theorem slot_out {g : Gh} {H : Hp} {m : Mem} {σ : L2.St} {s : Sl} {i : Nat} {Q : VK} {E : XK} (r : MR W g H m) (sr : SR W g H σ s) (h : Post W g H (slotM s i m) Q E) : ∃ v, σ[i]? = some (some v) ∧ Q v H := by
  unfold slotM at h
  cases e : s[i]? with
  | none => rw [e] at h; exact h.elim
  | some o =>
    cases o with
    | none => rw [e] at h; exact h.elim
    | some x =>
      rw [e] at h
      obtain ⟨v, e1, e2⟩ := sr.2 i x e
      refine ⟨v, e1, ?_⟩
      cases x with
      | d d => exact h v g H [] ⟨.refl, r, ⟨e2, rfl⟩, .nil, fun _ h => by simp at h⟩
      | c n => exact h v g H [] ⟨.refl, r, ⟨e2, rfl⟩, .nil, fun _ h => by simp at h⟩
      | x c p => exact e2.elim
      | s ns => exact h v g H [] ⟨.refl, r, ⟨e2, rfl⟩, .nil, fun _ h => by simp at h⟩
theorem m_var (G : GX X W md nm fa j c Wx) {i : Nat} {x : Str} (hN : c.N[i]? = some x) (hv : c.vis x = true) (h1 : (x == ("__debug__" : Str)) = false) (h2 : (x == ("__classdict__" : Str)) = false) : PE X (.Name x pos) (tM W (fun s => slotM s i) Wx) :=
  PE.of (pe_var (by rw [G.N]; exact hN) (G.vis hv) h1 h2) fun σ H Q ⟨g, s, m, r, sr, h⟩ => slot_out r sr h
theorem scV_rep {d : D} {v : V} (h : scV d = some v) {P : Addr → Prop} {H : Hp} : Rep W P H d v := by
  cases d <;> cases h <;> simp only [Rep]
theorem const_out {g : Gh} {H : Hp} {m : Mem} {Q : VK} {E : XK} {d : D} {v : V} (r : MR W g H m) (hv : scV d = some v) (h : Post W g H (.ok (.d d) m) Q E) : Q v H :=
  h v g H [] (.d r (scV_rep hv))
theorem m_con {d : D} {v : V} (hv : scV d = some v) (h : PE X e (tC v)) : PE X e (tM W (fun _ => pur (.d d)) Wx) :=
  PE.of h fun σ H Q ⟨g, s, m, r, sr, h⟩ => const_out r hv h
def conB : D → Const → Bool
  | .non, .none => true
  | .bl b, .bool k => b == k
  | .int i, .int k => i == k
  | .str x, .str y => x == y
  | _, _ => false
theorem m_k {d : D} {k : Const} {n : Nat} (h : conB d k = true) : PE X (.Constant k n pos) (tM W (fun _ => pur (.d d)) Wx) := by
  cases d <;> cases k <;> first | cases h | skip
  · exact m_con (v := .non) rfl pe_non
  · obtain rfl := eq_of_beq h
    exact m_con (v := .bl _) rfl pe_bl
  · obtain rfl := eq_of_beq h
    exact m_con (v := .int _) rfl pe_int
  · obtain rfl := eq_of_beq h
    exact m_con (v := .str _) rfl pe_str
theorem m_gc (G : GX X W md nm fa j c Wx) {g : Nat} {x : Str} {d : D} (hg : nm.gc[g]? = some (x, d)) (hl : c.gl x = true) (h1 : (x == ("__debug__" : Str)) = false) : PE X (.Name x pos) (tM W (fun _ => pur (.d d)) Wx) := by
  obtain ⟨v, u, e1, e2, e3⟩ := G.gw.gc g x d hg
  exact m_con e1 (pe_glob (G.gl hl) e2 e3 h1)
/-! ### operators -/
variable {x y : Sl → Mo RV}
theorem m_op2 {r : R2} {f : D → D → Mo RV} (h : PE X e (tOp r (tM W x Wx) (tM W y Wx)))
    (hr : ∀ (g0 g : Gh) (H0 H : Hp) (σ : L2.St) (s : Sl) (m : Mem) (vs : List V) (xs : List RV) (As : List Addr) (Q : VK) (v u : V) (d d' : D), At W g0 H0 σ s g H m vs xs As → Top W g.fz H v d → Top W g.fz H u d' → Post W g0 H0 (f d d' m) Q (WE Wx σ) → r v u H Q) :
    PE X e (tM W (fun s => bnd (x s) fun a => bnd (y s) fun b => bnd (viewM a) fun a => bnd (viewM b) fun b => f a b) Wx) :=
  PE.of h fun σ H Q ⟨g, s, m, r1, sr, h⟩ => by
    refine (tm_step (At.start r1 sr) h).mono fun v H1 ⟨g1, m1, a, As1, A1, h1⟩ => ?_
    refine (tm_step A1 h1).mono fun u H2 ⟨g2, m2, b, As2, A2, h2⟩ => ?_
    obtain ⟨B1, w1⟩ := A2.rv1
    obtain ⟨B2, w2⟩ := A2.rv2
    obtain ⟨d, t1, h3⟩ := A2.view w2 h2
    obtain ⟨d', t2, h4⟩ := A2.view w1 h3
    exact hr _ _ _ _ _ _ _ _ _ _ _ _ _ _ _ A2 t1 t2 h4
theorem m_bin (o : BOp) (ha : PE X a (tM W x Wx)) (hb : PE X b (tM W y Wx)) : PE X (.BinOp a o.op b pos) (tM W (fun s => bnd (x s) fun a => bnd (y s) fun b => bnd (viewM a) fun a => bnd (viewM b) fun b => ofO (binD o a b)) Wx) :=
  m_op2 (pe_op (op_bin (W := W) o) ha hb) fun g0 g H0 H σ s m vs xs As Q v u d d' A t1 t2 h => ⟨g.fz, d, d', t1, t2, A.rR h (binD_ro o d d')⟩
theorem out_bl {g0 g : Gh} {H0 H : Hp} {σ : L2.St} {s : Sl} {m : Mem} {vs : List V} {xs : List RV} {As : List Addr} {Q : VK} {E : XK} {b : Bool} (A : At W g0 H0 σ s g H m vs xs As) (h : Post W g0 H0 (.ok (.d (.bl b)) m) Q E) : Q (.bl b) H :=
  A.retD h (by simp only [Rep])
theorem out_int {g0 g : Gh} {H0 H : Hp} {σ : L2.St} {s : Sl} {m : Mem} {vs : List V} {xs : List RV} {As : List Addr} {Q : VK} {E : XK} {b : Int} (A : At W g0 H0 σ s g H m vs xs As) (h : Post W g0 H0 (.ok (.d (.int b)) m) Q E) : Q (.int b) H :=
  A.retD h (by simp only [Rep])
theorem m_cmp (G : GX X W md nm fa j c Wx) (o : COp) (ha : PE X a (tM W x Wx)) (hb : PE X b (tM W y Wx)) (hm : behindInMarks o.op b = false) : PE X (.Compare a [o.op] [b] pos) (tM W (fun s => bnd (x s) fun a => bnd (y s) fun b => bnd (viewM a) fun a => bnd (viewM b) fun b => bnd (ofO (cmpD o a b)) fun b => pur (.d (.bl b))) Wx) :=
  m_op2 (pe_cmpR (op_cmp G.K G.units o) ha hb hm) fun g0 g H0 H σ s m vs xs As Q v u d d' A t1 t2 h => by
    obtain ⟨k, ek, h⟩ := h.ofOg
    exact ⟨g.fz, d, d', k, t1, t2, ek, out_bl A h⟩
theorem m_neg (ha : PE X a (tM W x Wx)) : PE X (.UnaryOp .USub a pos) (tM W (fun s => bnd (x s) fun a => bnd (viewM a) fun a => (match a with | .int i => pur (.d (.int (-i))) | _ => no)) Wx) :=
  PE.of (pe_un un_neg ha) fun σ H Q ⟨g, s, m, r1, sr, h⟩ => by
    refine (tm_step (At.start r1 sr) h).mono fun v H1 ⟨g1, m1, a, As1, A1, h1⟩ => ?_
    obtain ⟨B1, w1⟩ := A1.rv1
    obtain ⟨d, t1, h3⟩ := A1.view w1 h1
    cases d <;> first | exact h3.elim | skip
    rename_i i
    exact ⟨i, t1.int_, out_int A1 h3⟩
end
end Fw

/-! T11: truth, tests, and, or, not, if-else; calls of functions; displays. -/
namespace Fw
open PySem PySem.Spec PyProof.Rows L2

def PostT (W : Wd) (g : Gh) (H : Hp) (r : Rs Bool) (Q : Bool → Hp → Prop) (E : XK) : Prop := match r with
  | .ok b m => ∀ g' H', Eff g H g' H' → MR W g' H' m → Q b H'
  | .rz x m => RzP W g H x m E
  | .no => False
def tT (W : Wd) (x : Sl → Mo Bool) (Wx : WX) : TT := fun σ H Q => ∃ g s m, MR W g H m ∧ SR W g H σ s ∧ PostT W g H (x s m) Q (WE Wx σ)
section
variable {X : Cx} {W : Wd} {md : Md} {nm : Nm} {fa : Nat → Addr} {j : Nat} {c : Ck} {Wx : WX} {e a b : Expr} {pos : Pos} {t : TE}
  {g g0 g' g1 : Gh} {H H0 H' H1 : Hp} {m m' m1 : Mem} {σ : L2.St} {s : Sl} {vs : List V} {xs : List RV} {As : List Addr} {Q : VK} {E : XK}
theorem wish_postT {Q : Bool → Hp → Prop} : Wish W g H (fun r => PostT W g H r Q E) E := ⟨fun h => h, fun _ _ h => h⟩
/-- a step that leaves the values in hand -/
theorem At.step (A : At W g0 H0 σ s g H m vs xs As) (e : Eff g H g1 H1) (r : MR W g1 H1 m1) : At W g0 H0 σ s g1 H1 m1 vs xs As where
  eff := A.eff.trans e
  mr := r
  sr := A.sr.eff A.mr e
  rv := A.rv.eff A.mr A.tm e
  tm := A.tm.eff e
  nw := A.nw
theorem tt_step {β : Type} {P : Rs β → Prop} {x : Sl → Mo Bool} {f : Bool → Mo β} (w : Wish W g0 H0 P (WE Wx σ)) (A : At W g0 H0 σ s g H m vs xs As) (h : P (bnd (x s) f m)) :
    tT W x Wx σ H fun b H1 => ∃ g1 m1, At W g0 H0 σ s g1 H1 m1 vs xs As ∧ P (f b m1) := by
  refine ⟨g, s, m, A.mr, A.sr, ?_⟩
  cases e : x s m with
  | ok b m1 =>
    rw [bnd_ok e] at h
    exact fun g1 H1 e1 r1 => ⟨g1, m1, A.step e1 r1, h⟩
  | rz a m1 =>
    rw [bnd_rzo e] at h
    exact fun cls d g' H' e r x => w.rz _ _ h cls d g' H' (A.eff.trans e) r x
  | no =>
    rw [bnd_noo e] at h
    exact w.no h
theorem tT.mono {x : Sl → Mo Bool} {Q Q' : Bool → Hp → Prop} (h : tT W x Wx σ H Q) (hq : ∀ v H', Q v H' → Q' v H') : tT W x Wx σ H Q' := by
  obtain ⟨g, s, m, h1, h2, h3⟩ := h
  refine ⟨g, s, m, h1, h2, ?_⟩
  cases e : x s m with
  | ok a m1 => rw [e] at h3; exact fun g' H' e r => hq _ _ (h3 g' H' e r)
  | rz a m1 => rw [e] at h3; exact h3
  | no => rw [e] at h3; exact h3
theorem At.retB {Q : Bool → Hp → Prop} {b : Bool} (A : At W g0 H0 σ s g H m vs xs As) (h : PostT W g0 H0 (.ok b m) Q E) : Q b H := h g H A.eff A.mr
theorem Post.keep (A : At W g0 H0 σ s g H m vs xs As) {v : V} {x : RV} {Bs : List Addr} (B : At W g0 H0 σ s g H m (v :: vs) (x :: xs) (Bs ++ As)) (hx : RVR W g H v Bs x) (h : Post W g0 H0 (.ok x m) Q E) : Q v H :=
  h v g H Bs ⟨B.eff, B.mr, hx, B.tm.left, fun a h => B.nw a (List.mem_append_left _ h)⟩
/-- the answer is the value in hand -/
theorem At.retV {v : V} {x : RV} (A : At W g0 H0 σ s g H m [v] [x] As) (h : Post W g0 H0 (.ok x m) Q E) : Q v H := by
  cases A.rv with
  | cons hx r =>
    cases r
    exact h v g H _ ⟨A.eff, A.mr, hx, A.tm.left, fun a h => A.nw a (List.mem_append_left _ h)⟩
/-! ### truth -/
theorem truV_of {P : Addr → Prop} {K : PySem.W.Frag} {v : V} {d : D} {k : Bool} (h : Top W P H v d) (e : truD d = some k) : TruV K v H k := by
  cases d <;> first | cases e | skip
  · rw [h.non_]; rfl
  · rw [h.bl_]; rfl
  · rw [h.int_]; rfl
  · rename_i xs
    obtain ⟨a, ws, rfl, h1, r⟩ := h
    refine .inr (.inl ⟨ws, .of h1.1, ?_⟩)
    have := r.length
    cases xs <;> cases ws <;> first | rfl | cases this
  · rename_i xs
    obtain ⟨a, ws, rfl, h1, r⟩ := h
    refine .inl ⟨ws, .of h1, ?_⟩
    have := r.length
    cases xs <;> cases ws <;> first | rfl | cases this
/-- a test by a value's truth -/
def truM (x : Mo RV) : Mo Bool := bnd x fun a => bnd (viewM a) fun d => ofO (truD d)
theorem truM_step {β : Type} {P : Rs β → Prop} {x : Sl → Mo RV} {f : Bool → Mo β} {K : PySem.W.Frag} (w : Wish W g0 H0 P (WE Wx σ)) (A : At W g0 H0 σ s g H m vs xs As) (h : P (bnd (truM (x s)) f m)) :
    tM W x Wx σ H fun v H1 => ∃ k, TruV K v H1 k ∧ ∃ g1 m1 a As', At W g0 H0 σ s g1 H1 m1 (v :: vs) (a :: xs) As' ∧ P (f k m1) := by
  unfold truM at h
  rw [bnd_bnd] at h
  refine (tm_stepG w A h).mono fun v H1 ⟨g1, m1, a, As1, A1, h1⟩ => ?_
  have h1 : P (bnd (bnd (viewM a) fun d => ofO (truD d)) f m1) := h1
  rw [bnd_bnd] at h1
  obtain ⟨B1, w1⟩ := A1.rv1
  obtain ⟨d, t1, h2⟩ := A1.viewG w w1 h1
  have h2 : P (bnd (ofO (truD d)) f m1) := h2
  cases e : truD d with
  | none => rw [e] at h2; exact (w.no h2).elim
  | some k => rw [e] at h2; exact ⟨k, truV_of t1 e, g1, m1, a, As1, A1, h2⟩
def plT : Expr → Bool
  | .UnaryOp .Not _ _ => false
  | .BoolOp _ _ _ => false
  | .IfExp _ _ _ _ => false
  | .Compare _ _ _ _ => false
  | _ => true
theorem plT_he {env : Env} (h : plT e = true) : ∀ whole, isTrue e env whole = (do let v ← whole; standAt e.pos; holding [v] (truthy v)) := by
  intro whole
  cases e <;> first | rfl | cases h | skip
  rename_i op _ _
  cases op <;> first | rfl | cases h
variable {x y z : Sl → Mo RV} {p q : Sl → Mo Bool}
theorem pur_bnd {α : Type} (x : Mo α) : bnd x pur = x := by
  funext m
  show (match x m with | .ok a m' => .ok a m' | .rz e m' => .rz e m' | .no => .no : Rs α) = x m
  cases x m <;> rfl
theorem t_val (h : PE X e (tM W x Wx)) (hp : plT e = true) : PT X e (tT W (fun s => truM (x s)) Wx) :=
  PT.of (pt_truth h (plT_he hp)) fun σ H Q ⟨g, s, m, r, sr, h⟩ => by
    have h : PostT W g H (bnd (truM (x s)) pur m) Q (WE Wx σ) := by rw [pur_bnd]; exact h
    exact (truM_step wish_postT (At.start r sr) h).mono fun v H1 ⟨k, tk, g1, m1, a, As1, A1, h1⟩ => ⟨k, tk, A1.retB h1⟩
theorem t_not (h : PT X a (tT W p Wx)) : PT X (.UnaryOp .Not a pos) (tT W (fun s => bnd (p s) fun k => pur (!k)) Wx) :=
  PT.of (pt_not h) fun σ H Q ⟨g, s, m, r, sr, h⟩ => (tt_step wish_postT (At.start r sr) h).mono fun k H1 ⟨g1, m1, A1, h1⟩ => A1.retB h1
def andM (x : Mo Bool) (y : Mo Bool) : Mo Bool := bnd x fun k => match k with
  | true => y
  | false => pur false
def orM (x : Mo Bool) (y : Mo Bool) : Mo Bool := bnd x fun k => match k with
  | true => pur true
  | false => y
theorem At.tT (A : At W g0 H0 σ s g H m vs xs As) {Q : Bool → Hp → Prop} (h : PostT W g0 H0 (p s m) Q (WE Wx σ)) : tT W p Wx σ H Q := by
  have h : PostT W g0 H0 (bnd (p s) pur m) Q (WE Wx σ) := by rw [pur_bnd]; exact h
  exact (tt_step wish_postT A h).mono fun k H1 ⟨g1, m1, A1, h1⟩ => A1.retB h1
theorem tAnd_of {Q : Bool → Hp → Prop} (h : tT W (fun s => andM (p s) (q s)) Wx σ H Q) : tAnd (tT W p Wx) (tT W q Wx) σ H Q := by
  obtain ⟨g, s, m, r, sr, h⟩ := h
  refine (tt_step wish_postT (At.start r sr) h).mono fun k H1 ⟨g1, m1, A1, h1⟩ => ?_
  cases k with
  | true => rw [if_pos rfl]; exact A1.tT h1
  | false => rw [if_neg Bool.false_ne_true]; exact A1.retB h1
theorem tOr_of {Q : Bool → Hp → Prop} (h : tT W (fun s => orM (p s) (q s)) Wx σ H Q) : tOr (tT W p Wx) (tT W q Wx) σ H Q := by
  obtain ⟨g, s, m, r, sr, h⟩ := h
  refine (tt_step wish_postT (At.start r sr) h).mono fun k H1 ⟨g1, m1, A1, h1⟩ => ?_
  cases k with
  | true => rw [if_pos rfl]; exact A1.retB h1
  | false => rw [if_neg Bool.false_ne_true]; exact A1.tT h1
theorem m_and {rest : List Expr} (ha : PE X a (tM W x Wx)) (hb : PE X (.BoolOp .And (b :: rest) pos) (tM W y Wx)) : PE X (.BoolOp .And (a :: b :: rest) pos) (tM W (fun s => bnd (x s) fun a => bnd (viewM a) fun d => bnd (ofO (truD d)) fun t => (match t with | true => y s | false => pur a)) Wx) :=
  PE.of (pe_andT ha hb) fun σ H Q ⟨g, s, m, r, sr, h⟩ => by
    refine (tm_step (At.start r sr) h).mono fun v H1 ⟨g1, m1, a, As1, A1, h1⟩ => ?_
    obtain ⟨B1, w1⟩ := A1.rv1
    obtain ⟨d, t1, h2⟩ := A1.view w1 h1
    obtain ⟨k, ek, h3⟩ := h2.ofOg
    refine ⟨k, truV_of t1 ek, ?_⟩
    cases k with
    | true =>
      rw [if_pos rfl]
      exact ⟨g1, s, m1, A1.mr, A1.sr, Post.of A1 h3⟩
    | false =>
      rw [if_neg Bool.false_ne_true]
      exact A1.retV h3
theorem m_or {rest : List Expr} (ha : PE X a (tM W x Wx)) (hb : PE X (.BoolOp .Or (b :: rest) pos) (tM W y Wx)) : PE X (.BoolOp .Or (a :: b :: rest) pos) (tM W (fun s => bnd (x s) fun a => bnd (viewM a) fun d => bnd (ofO (truD d)) fun t => (match t with | true => pur a | false => y s)) Wx) :=
  PE.of (pe_orT ha hb) fun σ H Q ⟨g, s, m, r, sr, h⟩ => by
    refine (tm_step (At.start r sr) h).mono fun v H1 ⟨g1, m1, a, As1, A1, h1⟩ => ?_
    obtain ⟨B1, w1⟩ := A1.rv1
    obtain ⟨d, t1, h2⟩ := A1.view w1 h1
    obtain ⟨k, ek, h3⟩ := h2.ofOg
    refine ⟨k, truV_of t1 ek, ?_⟩
    cases k with
    | true =>
      rw [if_pos rfl]
      exact A1.retV h3
    | false =>
      rw [if_neg Bool.false_ne_true]
      exact ⟨g1, s, m1, A1.mr, A1.sr, Post.of A1 h3⟩
theorem m_not (ha : PE X a (tM W x Wx)) : PE X (.UnaryOp .Not a pos) (tM W (fun s => bnd (x s) fun a => bnd (viewM a) fun d => bnd (ofO (truD d)) fun b => pur (.d (.bl (!b)))) Wx) :=
  PE.of (pe_notT ha) fun σ H Q ⟨g, s, m, r, sr, h⟩ => by
    refine (tm_step (At.start r sr) h).mono fun v H1 ⟨g1, m1, a, As1, A1, h1⟩ => ?_
    obtain ⟨B1, w1⟩ := A1.rv1
    obtain ⟨d, t1, h2⟩ := A1.view w1 h1
    obtain ⟨k, ek, h3⟩ := h2.ofOg
    exact ⟨k, truV_of t1 ek, out_bl A1 h3⟩
theorem m_ife {d : Expr} (hc : PT X d (tT W p Wx)) (ha : PE X a (tM W x Wx)) (hb : PE X b (tM W y Wx)) : PE X (.IfExp d a b pos) (tM W (fun s => bnd (p s) fun t => (match t with | true => x s | false => y s)) Wx) :=
  PE.of (pe_ifExp hc ha hb) fun σ H Q ⟨g, s, m, r, sr, h⟩ => by
    refine (tt_step wish_post (At.start r sr) h).mono fun k H1 ⟨g1, m1, A1, h1⟩ => ?_
    cases k with
    | true => rw [if_pos rfl]; exact ⟨g1, s, m1, A1.mr, A1.sr, Post.of A1 h1⟩
    | false => rw [if_neg Bool.false_ne_true]; exact ⟨g1, s, m1, A1.mr, A1.sr, Post.of A1 h1⟩
/-- a comparison as a test -/
theorem t_cmp (G : GX X W md nm fa j c Wx) (o : COp) (ha : PE X a (tM W x Wx)) (hb : PE X b (tM W y Wx)) (hm : behindInMarks o.op b = false) : PT X (.Compare a [o.op] [b] pos) (tT W (fun s => bnd (x s) fun a => bnd (y s) fun b => bnd (viewM a) fun a => bnd (viewM b) fun b => ofO (cmpD o a b)) Wx) :=
  PT.of (pt_cmpR (op_cmp G.K G.units o) ha hb hm) fun σ H Q ⟨g, s, m, r, sr, h⟩ => by
    refine (tm_stepG wish_postT (At.start r sr) h).mono fun v H1 ⟨g1, m1, a, As1, A1, h1⟩ => ?_
    refine (tm_stepG wish_postT A1 h1).mono fun u H2 ⟨g2, m2, b, As2, A2, h2⟩ => ?_
    obtain ⟨B1, w1⟩ := A2.rv1
    obtain ⟨B2, w2⟩ := A2.rv2
    obtain ⟨d, t1, h3⟩ := A2.viewG wish_postT w2 h2
    obtain ⟨d', t2, h4⟩ := A2.viewG wish_postT w1 h3
    have h4 : PostT W g H (ofO (cmpD o d d') m2) Q (WE Wx σ) := h4
    cases ek : cmpD o d d' with
    | none => rw [ek] at h4; exact h4.elim
    | some k =>
      rw [ek] at h4
      exact ⟨g2.fz, d, d', k, t1, t2, ek, k, rfl, A2.retB h4⟩
/-! ### argument lists -/
def nst : Expr → Bool
  | .Starred _ _ => false
  | _ => true
theorem nst_star {env : Env} (h : nst e = true) (es : List Expr) : starEach (e :: es) env = (false, eval e env) :: starEach es env := by
  cases e <;> first | rfl | cases h
theorem nst_any {env : Env} {pos : Pos} : ∀ {es : List Expr}, es.all nst = true → (backTo pos (starEach es env)).any (·.1) = false
  | [], _ => rfl
  | e :: es, h => by
    rw [List.all_cons, Bool.and_eq_true] at h
    rw [nst_star h.1]
    exact nst_any h.2
theorem ma_nil : PA X [] (tMs W (fun _ => pur []) Wx) := PA.of pa_nil fun σ H Q h => tms_nil h
theorem ma_cons {es : List Expr} {xs : Sl → Mo (List RV)} (ha : PE X e (tM W x Wx)) (hr : PA X es (tMs W xs Wx)) (hs : nst e = true) : PA X (e :: es) (tMs W (fun s => bnd (x s) fun a => bnd (xs s) fun as => pur (a :: as)) Wx) :=
  PA.of (pa_cons ha hr (nst_star hs es)) fun σ H Q h => tms_cons h
variable {es : List Expr} {l : Sl → Mo (List RV)}
/-- the list's readings, from its start -/
theorem tms_start {β : Type} {P : Rs β → Prop} {f : List RV → Mo β} (w : Wish W g H P (WE Wx σ)) (r : MR W g H m) (sr : SR W g H σ s) (h : P (bnd (l s) f m)) :
    tMs W l Wx σ H fun us H1 => ∃ g1 m1 ys Bs, At W g H σ s g1 H1 m1 us ys Bs ∧ P (f ys m1) := by
  refine (tms_stepG w (At.start r sr) h).mono fun us H1 ⟨g1, m1, ys, Bs, A, _, _, q⟩ => ⟨g1, m1, ys, Bs, ?_, q⟩
  rw [List.append_nil, List.append_nil, List.append_nil] at A
  exact A
/-- the arguments handed over, from the list's start -/
theorem At.hand {β : Type} {P : Rs β → Prop} {f : List Val → Mo β} (w : Wish W g0 H0 P E) (A : At W g0 H0 σ s g H m vs xs As) (h : P (bnd (argsM xs) f m)) :
    ∃ ws g', VRs W g' H vs ws ∧ At W g0 H0 σ s g' H m [] [] [] ∧ P (f ws m) := by
  obtain ⟨ws, q, h⟩ := At.args w A A.rv (fun _ h => h) h
  exact ⟨ws, _, q, A.frz, h⟩
section
variable {k : Nat} {f : Addr} {fd : FuncData} {ps : List Str} {sp : Sp} {z : Str} {p : Pos} {E : L2.St → XK}
theorem run_fnG {pins : List (Addr × Obj)} {σ : L2.St} {H : Hp} {s : Shared} {Q : VK} {us : List Value} {vs : List V} {E : XK} (F : FnG X.prog X.w X.K X.mg X.base k f fd ps sp) (hr : Room k X.A) (gd : X.A.guards = some []) (hb : Binds X.K fd ps [])
    (hx : PassesAt (L2.CX X.prog X.w) X σ E) (I : Inv X pins σ H s) (r : Vals vs us) (h : sp vs H Q E) : wpAny (model X.prog X.w) X.A (call (.ref f) us) (EP X pins σ Q) X.xe s := by
  have n : us.length = ps.length := by rw [← r.length]; exact F.len _ _ _ _ h
  have b2 := hb s us I.kIn (by rw [List.append_nil]; exact n)
  rw [List.append_nil] at b2
  apply wpAny_call
  apply codeAny_mono (F.go X.A X.stack s H ⟨us, []⟩ us vs Q E hr gd I.env0 b2 r h)
  intro res s' q
  match res, q with
  | .error e, q => exact hx pins H s e s' I q
  | .ok (.ret u), q => exact I.after q
/-- f(..) of a global function, what is raised wished for at the slots -/
theorem pe_callG (F : FnG X.prog X.w X.K X.mg X.base k f fd ps sp) (hr : Room k X.A) (gd : X.A.guards = some []) (hg : Gl X z) (hm : X.mg z = some (.ref f)) (hk : PySem.W.keepIn X.K (.ref f) = true) (hb : Binds X.K fd ps []) (hx : ∀ σ, PassesAt (L2.CX X.prog X.w) X σ (E σ))
    {t : TA} (ha : PA X es t) (hdb : (z == ("__debug__" : Str)) = false) (hs : es.all nst = true) : PE X (.Call (.Name z p) es [] pos) (fun σ H Q => match es with
      | [] => sp [] H Q (E σ)
      | _ => t σ H fun vs H1 => sp vs H1 Q (E σ)) := by
  refine ⟨fun pins s σ H Q I h => wpAny_Call_Name_kw (ld_glob I hg hm ?_ hdb)⟩
  cases es with
  | nil => exact PySem.W.callWith_K0 I.kIn hk (run_fnG (us := []) F hr gd hb (hx σ) I .nil h)
  | cons e es =>
    rw [List.all_cons, Bool.and_eq_true] at hs
    exact PySem.W.callWith_K (h₀ := X.base) I.ok.mod.kin hk (thn (ha.run pos pins s σ H _ I h) fun us s1 ⟨vs, H1, I1, r, q⟩ => ⟨I1.kIn, run_fnG F hr gd hb (hx σ) I1 r q⟩) (nst_star hs.1 es) (nst_any hs.2)
end
theorem m_call (G : GX X W md nm fa j c Wx) {f : Nat} {fd : Fd} {x : Str} {p : Pos} (hf : md.fns[f]? = some fd) (hn : nm.fn[f]? = some x) (hx : (x.length == 0) = false) (hg : c.gl x = true) (hd : (x == ("__debug__" : Str)) = false)
    (ha : PA X es (tMs W l Wx)) (hl : es = [] → ∀ s, l s = pur []) (hs : es.all nst = true) : PE X (.Call (.Name x p) es [] pos) (tM W (fun s => bnd (l s) fun xs => bnd (argsM xs) fun vs => callI md j f vs) Wx) := by
  obtain ⟨dat, ps, F, B⟩ := G.gw.fn f fd hf
  obtain ⟨m1, k1⟩ := G.gw.gf f x hn hx
  have hr : Room (2 * j) X.A := G.room.mono (Nat.le_succ _)
  refine PE.of (pe_callG F hr G.gd (G.gl hg) m1 k1 B (fun σ => passAt G.tk σ) ha hd hs) fun σ H Q ⟨g, s, m, r, sr, h⟩ => ?_
  have h : Post W g H (bnd (l s) (fun xs => bnd (argsM xs) fun vs => callI md j f vs) m) Q (WE Wx σ) := h
  have gen : tMs W l Wx σ H fun vs H1 => spF W md j f vs H1 Q (WE Wx σ) := by
    refine (tms_start wish_post r sr h).mono fun us H1 ⟨g1, m1, ys, Bs, A, h⟩ => ?_
    obtain ⟨ws, g2, q, A2, h⟩ := A.hand wish_post h
    exact ⟨g2, m1, ws, A2.mr, q, Post.of A2 h⟩
  cases es with
  | nil =>
    rw [hl rfl s] at h
    exact ⟨g, m, [], r, .nil, h⟩
  | cons e es => exact gen
end
end Fw

/-! T12: instances: made, their methods, attributes, properties. -/
namespace Fw
open PySem PySem.Spec PyProof.Rows L2

section
variable {W : Wd} {g g0 g' g1 : Gh} {H H0 H' H1 : Hp} {m m' m1 : Mem} {σ : L2.St} {s : Sl} {vs : List V} {xs : List RV} {As : List Addr} {Q : VK} {E : XK}
theorem cell_rep {P P' : Addr → Prop} {a : Addr} {fr : List (Nat × Addr)} {w : CV} (h : CellOk W P H a fr As w) (hp : ∀ b, P b → P' b) (ha : ∀ b ∈ As, P' b) : Rep W P' H w.view (.ref a) := by
  cases w with
  | fz d => exact Rep.stay (.of (fun _ _ _ e => e) hp) _ _ h.1
  | fl d =>
    have h : Own W P H a As d := h
    exact h.rep hp (ha a h.self)
  | iv c fs =>
    obtain ⟨dx, ws, A', e1, e2, h3, e4, _⟩ := h
    subst e4
    show Rep W P' H (.ins c (fieldsD fs)) (.ref a)
    simp only [Rep]
    exact ⟨a, dx, ws, rfl, ⟨e1, ha a (by simp)⟩, h3.repF hp fun b hb => ha b (by simp [hb])⟩
theorem len_le {α : Type} {l l' : List α} (h : ∀ (n : Nat) (a : α), l[n]? = some a → l'[n]? = some a) : l.length ≤ l'.length := by
  cases e : l.length with
  | zero => exact Nat.zero_le _
  | succ n =>
    have q : l[n]? = some (l[n]'(by omega)) := List.getElem?_eq_getElem _
    have := h n _ q
    obtain ⟨z, _⟩ := List.getElem?_eq_some_iff.mp this
    exact z
theorem fr_le (e : Eff g H g' H') : g.fr.length ≤ g.fr.length := Nat.le_refl _
/-- a new instance's cell -/
theorem made_cell {c : Nat} {x dx : Addr} (r : MR W g H m) (e1 : H x = none) (e2 : H dx = none) (ne : dx ≠ x) :
    let H2 := upd (upd H dx (.own x)) x (.ins (W.ca c) dx [])
    Grow H H2 ∧ MR W (g.snoc x [x, dx]) H2 (m ++ [.iv c []]) ∧ Eff g H (g.snoc x [x, dx]) H2 ∧ (g.snoc x [x, dx]).rt[m.length]? = some x := by
  intro H2
  have k : Grow H H2 := fun b o e => by
    have h1 : b ≠ x := fun z => by rw [z, e1] at e; cases e
    have h2 : b ≠ dx := fun z => by rw [z, e2] at e; cases e
    show upd (upd H dx (.own x)) x _ b = _
    rw [upd_ne h1, upd_ne h2]; exact e
  have ex : H2 x = some (.ins (W.ca c) dx []) := upd_same
  have ed : H2 dx = some (.own x) := by
    show upd (upd H dx (.own x)) x _ dx = _
    rw [upd_ne ne]; exact upd_same
  have r2 := r.grow k
  have nf : ∀ a ∈ [x, dx], H a = none := fun a h => by
    rcases List.mem_cons.mp h with h | h
    · rw [h]; exact e1
    · rw [List.mem_singleton.mp h]; exact e2
  refine ⟨k, r2.snoc ⟨?_, fun a h z => ?_, fun a h z => ?_, fun a h => ?_⟩ ⟨dx, [], [], ex, ed, .nil, rfl, fun _ _ => rfl⟩, (Eff.grow k).snoc fun b h => .inl (nf b h), app_end r.l1⟩
  · refine List.nodup_cons.mpr ⟨fun z => ne (List.mem_singleton.mp z).symm, List.nodup_cons.mpr ⟨by simp, List.nodup_nil⟩⟩
  · obtain ⟨u, q⟩ := r.ft a z
    rw [nf a h] at q; cases q
  · obtain ⟨u, q, _⟩ := r.mt a z
    rw [nf a h] at q; cases q
  · rcases List.mem_cons.mp h with h | h
    · rw [h]; exact ⟨_, ex, trivial⟩
    · rw [List.mem_singleton.mp h]; exact ⟨_, ed, trivial⟩
theorem VRs.more {ws : List Val} (h : VRs W g H vs ws) (k : More g g') : VRs W g' H vs ws := by
  induction h with
  | nil => exact .nil
  | cons h _ ih => exact .cons (h.more k) ih
theorem VRs.eff {ws : List Val} (h : VRs W g H vs ws) (r : MR W g H m) (e : Eff g H g' H') : VRs W g' H' vs ws := by
  induction h with
  | nil => exact .nil
  | cons h _ ih => exact .cons (h.eff r e) ih
/-- the exception behind a cut -/
theorem ExR.cut {cls : Value} {d : Option Addr} {x : Ex} {n : Nat} (h : ExR W g H cls d x) : ExR W (g.cut n) H cls d x := h
theorem frl (r : MR W g H m) : g.fr.length = g.rt.length := by rw [r.l2, r.l1]
/-- what the init is asked, and what is then there -/
theorem made_post {mu : Bool} {c : Nat} {cf : List Val → Mo RV} {ws : List Val} {x dx : Addr} (r0 : MR W g0 H0 m) (A : At W g0 H0 σ s g H m1 [] [] []) (e1 : H x = none) (e2 : H dx = none) (ne : dx ≠ x) (h : Post W g0 H0 (mkM mu c cf ws m1) Q E) :
    Post W (g.snoc x [x, dx]) (upd (upd H dx (.own x)) x (.ins (W.ca c) dx [])) (cf (.c m1.length :: ws) (m1 ++ [.iv c []])) (fun v H2 => v = .non ∧ Q (.ref x) H2) E := by
  obtain ⟨k, r2, ef, rt⟩ := made_cell (c := c) A.mr e1 e2 ne
  have l1 : g0.rt.length ≤ m1.length := by rw [← A.mr.l1]; exact len_le A.eff.rtp
  have l2 : g0.fr.length ≤ m1.length := by rw [frl r0]; exact l1
  unfold mkM at h
  cases q : cf (.c m1.length :: ws) (m1 ++ [.iv c []]) with
  | no => rw [q] at h; exact h.elim
  | rz e m' =>
    rw [q] at h
    exact fun cls d g' H' e' r' x' => h cls d (g'.cut m1.length) H' ((A.eff.trans (ef.trans e')).cut l1 l2) r'.cut x'.cut
  | ok rv m' =>
    rw [q] at h
    cases rv with
    | d d =>
      cases d with
      | non =>
        intro v g' H' As o
        have hv : v = .non := by have := o.rv.1; simpa only [Rep] using this
        refine ⟨hv, ?_⟩
        have e3 := A.eff.trans (ef.trans o.eff)
        have rt' := o.eff.rtp _ _ rt
        cases mu with
        | true =>
          have h : Post W g0 H0 (.ok (.c m1.length) m') Q E := h
          exact h (.ref x) g' H' [] ⟨e3, o.mr, ⟨⟨x, rt', rfl⟩, rfl⟩, .nil, fun _ h => by simp at h⟩
        | false =>
          have h : Post W g0 H0 (match m'[m1.length]? with
            | some w => .ok (.d w.view) (m'.take m1.length)
            | _ => .no) Q E := h
          cases qw : m'[m1.length]? with
          | none => rw [qw] at h; exact h.elim
          | some w =>
            rw [qw] at h
            obtain ⟨a, l, Bs, q1, q2, q3, ok⟩ := o.mr.cell _ _ qw
            rw [rt'] at q1
            cases q1
            have ow : ∀ b ∈ Bs, Ow g' b := fun b hb => ⟨_, _, q3, hb⟩
            refine h (.ref x) ((g'.cut m1.length).add (· ∈ Bs)) H' [] ⟨(e3.cut l1 l2).add fun b hb => ?_, o.mr.cut.add fun b hb => ⟨(o.mr.mt b (ow b hb)).imp fun _ z => z.1, fun z => ?_⟩, ⟨cell_rep ok (fun b hb => .inl hb) fun b hb => .inr hb, rfl⟩, .nil, fun _ h => by simp at h⟩
            · rcases e3.asn b (ow b hb) with z | z
              · exact .inr (.inl z)
              · exact .inl z
            · obtain ⟨i, li, hi, ei, mi⟩ := ow_cut z
              have := o.mr.dj i m1.length li Bs b ei q3 mi hb
              omega
      | _ => exact h.elim
    | _ => exact h.elim
end
section
variable {X : Cx} {W : Wd} {md : Md} {nm : Nm} {fa : Nat → Addr} {j : Nat} {c : Ck} {Wx : WX} {e a b : Expr} {pos : Pos} {t : TE} {es : List Expr} {l : Sl → Mo (List RV)} {x : Sl → Mo RV}
  {g g0 g' g1 : Gh} {H H0 H' H1 : Hp} {m m' m1 : Mem} {σ : L2.St} {s : Sl} {vs : List V} {xs : List RV} {As : List Addr} {Q : VK} {E : XK}
def tMakeS (C : Addr) (sp : Sp) (E : L2.St → XK) (t : TA) : TE := fun σ H Q => t σ H fun vs H1 => ∀ x dx, H1 x = none → H1 dx = none → dx ≠ x → sp (.ref x :: vs) (upd (upd H1 dx (.own x)) x (.ins C dx [])) (fun v H2 => v = .non ∧ Q (.ref x) H2) (E σ)
section
variable {k : Nat} {f C : Addr} {fd : FuncData} {ps : List Str} {sp : Sp} {E : L2.St → XK} {z n : Str} {p apos : Pos} {o : Expr} {t : TA} {ta : TE}
theorem make_gd {A : Around} (h : A.guards = some []) (C : Addr) (us : List Value) : (A.under (.builtin "type.__call__" ⟨.ref C :: us, []⟩)).guards = some [] := by
  show pushGuards (Code.guards (.builtin "type.__call__" ⟨.ref C :: us, []⟩)) A.guards = _
  rw [h]
  rfl
theorem run_makeG {pins : List (Addr × Obj)} {σ : L2.St} {H : Hp} {s : Shared} {Q : VK} {us : List Value} {vs : List V} {E : XK} (M : Mk X.K C f) (F : FnG X.prog X.w X.K X.mg X.base k f fd ps sp) (hr : Room (k + 1) X.A) (gd : X.A.guards = some []) (hb : Binds X.K fd ps [])
    (hx : PassesAt (L2.CX X.prog X.w) X σ E) (I : Inv X pins σ H s) (r : Vals vs us)
    (h : ∀ x dx, H x = none → H dx = none → dx ≠ x → sp (.ref x :: vs) (upd (upd H dx (.own x)) x (.ins C dx [])) (fun v H2 => v = .non ∧ Q (.ref x) H2) E) :
    wpAny (model X.prog X.w) X.A (call (.ref C) us) (EP X pins σ Q) X.xe s := by
  have q0 := h (s.heap.objs.size + 1) s.heap.objs.size (I.hok.fresh (Nat.le_add_right _ 1)) (I.hok.fresh Nat.le.refl) fun z => absurd z (Nat.ne_of_lt (Nat.lt_add_one _))
  have J := Inv.made (C := C) I
  have rr : Vals (V.ref (s.heap.objs.size + 1) :: vs) (Value.ref (s.heap.objs.size + 1) :: us) := .cons rfl r
  have nl : (Value.ref (s.heap.objs.size + 1) :: us ++ []).length = ps.length := by
    rw [List.append_nil, ← rr.length]
    exact F.len _ _ _ _ q0
  have bb := hb _ (Value.ref (s.heap.objs.size + 1) :: us) J.kIn nl
  rw [List.append_nil] at bb
  apply wpAny_call
  apply make_map (f := f) I.kIn M.makes M.init (beq_iff_eq.mp M.fn)
  apply codeAny_mono (F.go _ X.stack _ _ ⟨Value.ref (s.heap.objs.size + 1) :: us, []⟩ _ _ _ E (hr.make C us []) (make_gd gd C us) (J.env0.make C us []) bb rr q0)
  intro res s' q
  match res, q with
  | .error e, q => exact hx pins _ _ e s' J q
  | .ok (.ret u), q =>
    obtain ⟨v, H', I3, rv, ev, q3⟩ := J.after q
    subst ev
    exact ⟨rv, V.ref (s.heap.objs.size + 1), H', I3, rfl, q3⟩
/-- C(..) -/
theorem pe_makeG (M : Mk X.K C f) (F : FnG X.prog X.w X.K X.mg X.base k f fd ps sp) (hr : Room (k + 1) X.A) (gd : X.A.guards = some []) (hg : Gl X z) (hm : X.mg z = some (.ref C)) (hb : Binds X.K fd ps []) (hx : ∀ σ, PassesAt (L2.CX X.prog X.w) X σ (E σ))
    (ha : PA X es t) (hdb : (z == ("__debug__" : Str)) = false) (hs : es.all nst = true) : PE X (.Call (.Name z p) es [] pos) (fun σ H Q => match es with
      | [] => tMakeS C sp E tNil σ H Q
      | _ => tMakeS C sp E t σ H Q) := by
  refine ⟨fun pins s σ H Q I h => wpAny_Call_Name_kw (ld_glob I hg hm ?_ hdb)⟩
  cases es with
  | nil => exact PySem.W.callWith_K0 I.kIn M.kp (run_makeG (us := []) M F hr gd hb (hx σ) I .nil h)
  | cons e es =>
    rw [List.all_cons, Bool.and_eq_true] at hs
    exact PySem.W.callWith_K (h₀ := X.base) I.ok.mod.kin M.kp (thn (ha.run pos pins s σ H _ I h) fun us s1 ⟨vs, H1, I1, r, q⟩ => ⟨I1.kIn, run_makeG M F hr gd hb (hx σ) I1 r q⟩) (nst_star hs.1 es) (nst_any hs.2)
/-- a method of whatever class the instance has -/
def tMethX (X : Cx) (n : Str) (E : L2.St → XK) (ta : TE) (t : TA) : TE := fun σ H Q => ta σ H fun x H1 => ∃ a C dx fs f k fd ps sp, x = .ref a ∧ H1 a = some (.ins C dx fs) ∧ Cls X.K C ∧ Meth X.K C n f ∧ fs.lookup n = none ∧
  FnG X.prog X.w X.K X.mg X.base k f fd ps sp ∧ Room k X.A ∧ Binds X.K fd ps [] ∧ t σ H1 fun vs H2 => sp (.ref a :: vs) H2 Q (E σ)
theorem pe_methX {pl : Sem Bool} (he : PE X o ta) (gd : X.A.guards = some []) (hx : ∀ σ, PassesAt (L2.CX X.prog X.w) X σ (E σ)) (ha : PA X es t) (hs : es.all nst = true)
    (ht : eval (.Call (.Attribute o n apos) es [] pos) X.env = (do
      let ov ← eval o X.env
      standAt apos.atName
      let (f, first) ← holding [ov] (getMethod ov n pl)
      callWith pos f first (backTo pos (starEach es X.env)) (backToKw pos (keywordEach [] X.env)))) :
    PE X (.Call (.Attribute o n apos) es [] pos) (fun σ H Q => match es with
      | [] => tMethX X n E ta tNil σ H Q
      | _ => tMethX X n E ta t σ H Q) := by
  refine ⟨fun pins s σ H Q I h => ?_⟩
  cases es with
  | nil =>
    refine PySem.W.methodCall_KW (pl := pl) (thn (he.run pins s σ H _ I h) fun u s1 ⟨x, H1, I1, rx, a, C, dx, fs, f, k, fd, ps, sp, ex, ea, c, hm, l, F, hr, hb, q⟩ => ?_) ht
    subst ex
    obtain rfl : u = Value.ref a := rx
    exact getmeth_ok I1 ea c hm l (PySem.W.callWith_K0 (first := [.ref a]) I1.kIn hm.kp (run_fnG (us := [.ref a]) (vs := [.ref a]) F hr gd hb (hx σ) I1 (.cons rfl .nil) q))
  | cons e es =>
    rw [List.all_cons, Bool.and_eq_true] at hs
    refine PySem.W.methodCall_KW (pl := pl) (thn (he.run pins s σ H _ I h) fun u s1 ⟨x, H1, I1, rx, a, C, dx, fs, f, k, fd, ps, sp, ex, ea, c, hm, l, F, hr, hb, q⟩ => ?_) ht
    subst ex
    obtain rfl : u = Value.ref a := rx
    refine getmeth_ok I1 ea c hm l (PySem.W.callWith_K (first := [.ref a]) (h₀ := X.base) I.ok.mod.kin hm.kp (thn (ha.run pos pins s1 σ H1 _ I1 q) fun us s2 ⟨vs, H2, I2, r, q2⟩ => ⟨I2.kIn, ?_⟩) (nst_star hs.1 es) (nst_any hs.2))
    exact run_fnG (us := .ref a :: us) (vs := .ref a :: vs) F hr gd hb (hx σ) I2 (.cons rfl r) q2
end
theorem m_make (G : GX X W md nm fa j c Wx) {mu : Bool} {f : Nat} {fd : Fd} {cl : Nat} {z : Str} {p : Pos} (hf : md.fns[f]? = some fd) (hn : nm.cl[cl]? = some z) (hmk : (cl, f) ∈ nm.mks) (hg : c.gl z = true) (hd : (z == ("__debug__" : Str)) = false)
    (ha : PA X es (tMs W l Wx)) (hl : es = [] → ∀ s, l s = pur []) (hs : es.all nst = true) : PE X (.Call (.Name z p) es [] pos) (tM W (fun s => bnd (l s) fun xs => bnd (argsM xs) fun vs => mkM mu cl (callI md j f) vs) Wx) := by
  obtain ⟨dat, ps, F, B⟩ := G.gw.fn f fd hf
  have hm := G.gw.cl cl z hn
  have M := G.gw.mks cl f hmk
  have core : ∀ (σ : L2.St) (Q : VK) (g g2 : Gh) (H H1 : Hp) (s : Sl) (m m1 : Mem) (us : List V) (ws : List Val), MR W g H m → VRs W g2 H1 us ws → At W g H σ s g2 H1 m1 [] [] [] → Post W g H (mkM mu cl (callI md j f) ws m1) Q (WE Wx σ) →
      ∀ x dx, H1 x = none → H1 dx = none → dx ≠ x → spF W md j f (.ref x :: us) (upd (upd H1 dx (.own x)) x (.ins (W.ca cl) dx [])) (fun v H2 => v = .non ∧ Q (.ref x) H2) (WE Wx σ) := fun σ Q g g2 H H1 s m m1 us ws r q A h x dx e1 e2 ne => by
    obtain ⟨k, r2, ef, rt⟩ := made_cell (c := cl) A.mr e1 e2 ne
    exact ⟨g2.snoc x [x, dx], m1 ++ [.iv cl []], .c m1.length :: ws, r2, .cons ⟨x, rt, rfl⟩ (q.eff A.mr ef), made_post r A e1 e2 ne h⟩
  refine PE.of (pe_makeG M F G.room G.gd (G.gl hg) hm B (fun σ => passAt G.tk σ) ha hd hs) fun σ H Q ⟨g, s, m, r, sr, h⟩ => ?_
  have h : Post W g H (bnd (l s) (fun xs => bnd (argsM xs) fun vs => mkM mu cl (callI md j f) vs) m) Q (WE Wx σ) := h
  have gen : tMakeS (W.ca cl) (spF W md j f) (WE Wx) (tMs W l Wx) σ H Q := by
    refine (tms_start wish_post r sr h).mono fun us H1 ⟨g1, m1, ys, Bs, A, h⟩ => ?_
    obtain ⟨ws, g2, q, A2, h⟩ := A.hand wish_post h
    exact core σ Q g g2 H H1 s m m1 us ws r q A2 h
  cases es with
  | nil =>
    rw [hl rfl s] at h
    exact core σ Q g g H H s m m [] [] r .nil (At.start r sr) h
  | cons e es => exact gen
end
end Fw

/-! T13: methods, attributes, properties. -/
namespace Fw
open PySem PySem.Spec PyProof.Rows L2

def nsup : Expr → Bool
  | .Call (.Name x _) [] [] _ => x != ("super" : Str)
  | _ => true
theorem nsup_base {o : Expr} {f : Str} {env : Env} (h : nsup o = true) : attributeBase o f env (eval o env) = eval o env := by
  cases o with
  | Call fn args kws pos =>
    cases fn with
    | Name x p =>
      cases args with
      | nil =>
        cases kws with
        | nil => exact abase_call h
        | cons _ _ => rfl
      | cons _ _ => rfl
    | _ => rfl
  | _ => rfl
theorem few_of {es : List Expr} {env : Env} {pos : Pos} (h : es.all nst = true) (h2 : decide (es.length < 30) = true) : methodCallForm (es.length + ([] : List Keyword).length) (backTo pos (starEach es env)) (backToKw pos (keywordEach [] env)) = true := by
  unfold methodCallForm
  have e1 : (backTo pos (starEach es env)).all (fun x => !x.1) = true := by
    have := nst_any (env := env) (pos := pos) h
    rw [List.all_eq_true]
    intro x hx
    rw [List.any_eq_false] at this
    simpa using this x hx
  have e2 : decide (es.length + ([] : List Keyword).length + (if (backToKw pos (keywordEach [] env)).isEmpty = true then 0 else 1) < 30) = true := h2
  rw [Bool.and_eq_true, Bool.and_eq_true]
  exact ⟨⟨e1, rfl⟩, e2⟩
theorem meth_ht {o : Expr} {n : Str} {apos pos : Pos} {es : List Expr} {env : Env} (hb : nsup o = true) (hl : (apos.endLine == pos.line) = true) (h : es.all nst = true) (h2 : decide (es.length < 30) = true) :
    eval (.Call (.Attribute o n apos) es [] pos) env = (do
      let ov ← eval o env
      standAt apos.atName
      let (f, first) ← holding [ov] (getMethod ov n (plainOf o env))
      callWith pos f first (backTo pos (starEach es env)) (backToKw pos (keywordEach [] env))) :=
  mcall_of (nsup_base hb) fun ov => mcall_line (few_of h h2) hl
section
variable {X : Cx} {W : Wd} {md : Md} {nm : Nm} {fa : Nat → Addr} {j : Nat} {c : Ck} {Wx : WX} {e o : Expr} {pos apos : Pos} {t : TE} {es : List Expr} {l : Sl → Mo (List RV)} {x : Sl → Mo RV}
  {g g0 g' g1 : Gh} {H H0 H' H1 : Hp} {m m' m1 : Mem} {σ : L2.St} {s : Sl} {vs : List V} {xs : List RV} {As : List Addr} {Q : VK} {E : XK}
/-- an instance that is looked at -/
theorem ins_of {P : Addr → Prop} {v : V} {cl : Nat} {fs : List (Nat × D)} (h : Top W P H v (.ins cl fs)) : ∃ a dx ws, v = .ref a ∧ H a = some (.ins (W.ca cl) dx ws) ∧ RepF W (fun _ => True) H fs ws := by
  have := h.any
  simp only [Rep] at this
  obtain ⟨a, dx, ws, e1, ⟨e2, _⟩, e3⟩ := this
  exact ⟨a, dx, ws, e1, e2, e3⟩
/-- the class of the value in hand -/
theorem cls_of {mn cl : Nat} {v : V} {y : RV} {Bs : List Addr} (r : MR W g H m) (h : RVR W g H v Bs y) (e : clsOf mn y m = some cl) : ∃ a dx ws, v = .ref a ∧ H a = some (.ins (W.ca cl) dx ws) ∧ ws.lookup (W.fn mn) = none := by
  have key : ∀ (d : D), (match d with
      | .ins c fs => if (fs.lookup mn).isSome = true then none else some c
      | _ => none) = some cl → ∀ P, Top W P H v d → ∃ a dx ws, v = .ref a ∧ H a = some (.ins (W.ca cl) dx ws) ∧ ws.lookup (W.fn mn) = none := fun d e P t => by
    cases d <;> first | cases e | skip
    rename_i c fs
    have e : (if (fs.lookup mn).isSome = true then none else some c) = some cl := e
    cases q : fs.lookup mn with
    | some z => rw [q] at e; cases e
    | none =>
      rw [q] at e
      cases e
      obtain ⟨a, dx, ws, e1, e2, e3⟩ := ins_of t
      exact ⟨a, dx, ws, e1, e2, (e3.look mn).2 q⟩
  cases y with
  | d d =>
    cases d <;> first | cases e | skip
    exact key (.ins _ _) e _ h.1.top
  | o d =>
    cases d <;> first | cases e | skip
    obtain ⟨a, rfl, h⟩ := h
    exact key (.ins _ _) e _ h.top
  | c n =>
    have e : (match m[n]? with
      | some w => (match w.view with
        | .ins c fs => if (fs.lookup mn).isSome = true then none else some c
        | _ => none)
      | _ => none) = some cl := e
    cases q : m[n]? with
    | none => rw [q] at e; cases e
    | some w =>
      rw [q] at e
      obtain ⟨_, t⟩ := view_ok (x := .c n) (d := w.view) (m' := m) h r (by
        show (match m[n]? with
          | some w => Rs.ok w.view m
          | none => .no) = _
        rw [q])
      exact key _ e _ t
  | f n f => cases e
  | x c p => cases e
  | s ns => cases e
theorem clsM_ok {β : Type} {P : Rs β → Prop} {mn : Nat} {y : RV} {f : Nat → Mo β} (w : Wish W g0 H0 P E) (h : P (bnd (clsM mn y) f m)) : ∃ cl, clsOf mn y m = some cl ∧ P (f cl m) := by
  cases e : clsOf mn y m with
  | none =>
    have : clsM mn y m = .no := by
      show (match clsOf mn y m with
        | some c => Rs.ok c m
        | none => .no) = _
      rw [e]
    rw [bnd_noo this] at h
    exact (w.no h).elim
  | some cl =>
    have : clsM mn y m = .ok cl m := by
      show (match clsOf mn y m with
        | some c => Rs.ok c m
        | none => .no) = _
      rw [e]
    rw [bnd_ok this] at h
    exact ⟨cl, rfl, h⟩
theorem ref_inj {a b : Addr} (h : V.ref a = V.ref b) : a = b := by injection h
/-- o.m(..) -/
theorem m_meth (G : GX X W md nm fa j c Wx) (hK : ∀ c m f, md.ms.lookup (c, m) = some f → ∃ fd, md.fns[f]? = some fd) {mn : Nat} {n : Str} (hn : nm.fld[mn]? = some n) (ho : PE X o (tM W x Wx)) (hb : nsup o = true) (hli : (apos.endLine == pos.line) = true)
    (ha : PA X es (tMs W l Wx)) (hl : es = [] → ∀ s, l s = pur []) (hs : es.all nst = true) (h2 : decide (es.length < 30) = true) :
    PE X (.Call (.Attribute o n apos) es [] pos) (tM W (fun s => bnd (x s) fun x => bnd (clsM mn x) fun cl => bnd (ofO (md.ms.lookup (cl, mn))) fun f => bnd (l s) fun xs => bnd (argsM xs) fun vs => bnd (argM x) fun v => callI md j f (v :: vs)) Wx) := by
  have hr : Room (2 * j) X.A := G.room.mono (Nat.le_succ _)
  have ef := G.gw.fld mn n hn
  have core : ∀ (σ : L2.St) (Q : VK) (g g2 : Gh) (H H2 : Hp) (s : Sl) (m2 : Mem) (us : List V) (ys : List RV) (v : V) (y : RV) (Cs : List Addr) (f : Nat), At W g H σ s g2 H2 m2 (us ++ [v]) (ys ++ [y]) Cs → us.length = ys.length →
      Post W g H (bnd (argsM ys) (fun vs => bnd (argM y) fun w => callI md j f (w :: vs)) m2) Q (WE Wx σ) → spF W md j f (v :: us) H2 Q (WE Wx σ) := fun σ Q g g2 H H2 s m2 us ys v y Cs f A hle h => by
    have rv := A.rv
    have sp : ∀ {us : List V} {ys : List RV} {Cs : List Addr}, us.length = ys.length → RVs W g2 H2 (us ++ [v]) (ys ++ [y]) Cs → ∃ B1 B2, Cs = B1 ++ B2 ∧ RVs W g2 H2 us ys B1 ∧ RVR W g2 H2 v B2 y := by
      intro us
      induction us with
      | nil =>
        intro ys Cs hle r
        cases ys with
        | nil =>
          cases r with
          | cons h r => cases r; exact ⟨[], _, by simp, .nil, h⟩
        | cons _ _ => simp at hle
      | cons u us ih =>
        intro ys Cs hle r
        cases ys with
        | nil => simp at hle
        | cons y ys =>
          cases r with
          | cons h r =>
            obtain ⟨B1, B2, e, q1, q2⟩ := ih (by simpa using hle) r
            subst e
            exact ⟨_, B2, by rw [List.append_assoc], .cons h q1, q2⟩
    obtain ⟨B1, B2, e, q1, q2⟩ := sp hle rv
    obtain ⟨ws, qv, k⟩ := A.args wish_post q1 (fun b hb => by rw [e]; exact List.mem_append_left _ hb) h
    clear h
    cases ea : argM y m2 with
    | no => rw [bnd_noo ea] at k; exact k.elim
    | rz z m' => exact (argM_rz _ _ _ _ ea).elim
    | ok w m' =>
      rw [bnd_ok ea] at k
      obtain ⟨em, qw⟩ := arg_ok (P := (· ∈ Cs)) q2 (fun b hb => by rw [e]; exact List.mem_append_right _ hb) ea
      rw [em] at k
      exact ⟨_, m2, w :: ws, A.frz.mr, .cons qw qv, Post.of A.frz k⟩
  have im : ∀ σ H Q, tM W (fun s => bnd (x s) fun x => bnd (clsM mn x) fun cl => bnd (ofO (md.ms.lookup (cl, mn))) fun f => bnd (l s) fun xs => bnd (argsM xs) fun vs => bnd (argM x) fun v => callI md j f (v :: vs)) Wx σ H Q →
      (es = [] → tMethX X n (WE Wx) (tM W x Wx) tNil σ H Q) ∧ tMethX X n (WE Wx) (tM W x Wx) (tMs W l Wx) σ H Q := fun σ H Q ⟨g, s, m, r, sr, h⟩ => by
    have pre : tM W x Wx σ H fun v H1 => ∃ g1 m1 y As1, At W g H σ s g1 H1 m1 [v] [y] As1 ∧ ∃ cl f a dx ws, v = .ref a ∧ H1 a = some (.ins (W.ca cl) dx ws) ∧ ws.lookup n = none ∧ md.ms.lookup (cl, mn) = some f ∧
        Post W g H (bnd (l s) (fun xs => bnd (argsM xs) fun vs => bnd (argM y) fun w => callI md j f (w :: vs)) m1) Q (WE Wx σ) := by
      refine (tm_step (At.start r sr) h).mono fun v H1 ⟨g1, m1, y, As1, A1, h1⟩ => ?_
      obtain ⟨B1, w1⟩ := A1.rv1
      obtain ⟨cl, ec, h2⟩ := clsM_ok (E := WE Wx σ) wish_post h1
      obtain ⟨a, dx, ws, ev, ea, elk⟩ := cls_of A1.mr w1 ec
      obtain ⟨f, q, h3⟩ := h2.ofOg
      exact ⟨g1, m1, y, As1, A1, cl, f, a, dx, ws, ev, ea, by rw [← ef]; exact elk, q, h3⟩
    refine ⟨fun en => ?_, ?_⟩
    · refine pre.mono fun v H1 ⟨g1, m1, y, As1, A1, cl, f, a, dx, ws, ev, ea, elk, q, h2⟩ => ?_
      obtain ⟨kc, km⟩ := G.gw.ms cl mn f q
      obtain ⟨fd, hfd⟩ := hK cl mn f q
      obtain ⟨dat, ps, F, B⟩ := G.gw.fn f fd hfd
      rw [ef] at km
      refine ⟨a, _, dx, ws, fa f, 2 * j, dat, ps, _, ev, ea, kc, km, elk, F, hr, B, ?_⟩
      have h2 : Post W g H (bnd (l s) (fun xs => bnd (argsM xs) fun vs => bnd (argM y) fun w => callI md j f (w :: vs)) m1) Q (WE Wx σ) := h2
      rw [hl en s] at h2
      subst ev
      exact core σ Q g g1 H H1 s m1 [] [] _ y As1 f A1 rfl h2
    · refine pre.mono fun v H1 ⟨g1, m1, y, As1, A1, cl, f, a, dx, ws, ev, ea, elk, q, h2⟩ => ?_
      obtain ⟨kc, km⟩ := G.gw.ms cl mn f q
      obtain ⟨fd, hfd⟩ := hK cl mn f q
      obtain ⟨dat, ps, F, B⟩ := G.gw.fn f fd hfd
      rw [ef] at km
      refine ⟨a, _, dx, ws, fa f, 2 * j, dat, ps, _, ev, ea, kc, km, elk, F, hr, B, ?_⟩
      subst ev
      refine (tms_stepG wish_post A1 h2).mono fun us H2 ⟨g2, m2, ys, Bs, A2, _, hle, h3⟩ => ?_
      exact core σ Q g g2 H H2 s m2 us ys _ y _ f A2 hle h3
  refine PE.of (pe_methX ho G.gd (fun σ => passAt G.tk σ) ha hs (meth_ht hb hli hs h2)) fun σ H Q q => ?_
  cases es with
  | nil => exact (im σ H Q q).1 rfl
  | cons e es => exact (im σ H Q q).2
end
end Fw

/-! T14: attributes, properties, displays, subscripts, slices. -/
namespace Fw
open PySem PySem.Spec PyProof.Rows L2

section
variable {X : Cx} {W : Wd} {md : Md} {nm : Nm} {fa : Nat → Addr} {j : Nat} {c : Ck} {Wx : WX} {e o : Expr} {pos apos : Pos} {t : TE} {es : List Expr} {l : Sl → Mo (List RV)} {x y z : Sl → Mo RV}
  {g g0 g' g1 : Gh} {H H0 H' H1 : Hp} {m m' m1 : Mem} {σ : L2.St} {s : Sl} {vs : List V} {xs : List RV} {As : List Addr} {Q : VK} {E : XK}
/-- the attribute of the value in hand -/
theorem attr_ok {f : Nat} {v : V} {y : RV} {Bs : List Addr} (A : At W g0 H0 σ s g H m vs xs As) (gw : ∀ c f, (c, f) ∈ md.at_ → Cls X.K (W.ca c) ∧ NoAttr X.K (W.ca c) (W.fn f)) (h : RVR W g H v Bs y) (h2 : Post W g0 H0 (attrM md f y m) Q E) :
    ∃ a C dx fs u, v = .ref a ∧ H a = some (.ins C dx fs) ∧ Cls X.K C ∧ NoAttr X.K C (W.fn f) ∧ fs.lookup (W.fn f) = some u ∧ Q u H := by
  have leaf : ∀ (cl : Nat) (fs : List (Nat × D)) (P : Addr → Prop) (a dx : Addr) (ws : List (Str × V)), (∀ b, P b → g.fz b) → v = .ref a → H a = some (.ins (W.ca cl) dx ws) → RepF W P H fs ws →
      Post W g0 H0 ((if (cl, f) ∈ md.at_ then (match fs.lookup f with | some x => pur (.d x) | none => no) else no : Mo RV) m) Q E →
      ∃ a C dx fs u, v = .ref a ∧ H a = some (.ins C dx fs) ∧ Cls X.K C ∧ NoAttr X.K C (W.fn f) ∧ fs.lookup (W.fn f) = some u ∧ Q u H := fun cl fs P a dx ws hp ev ea r q => by
    split at q
    · rename_i hm
      obtain ⟨k1, k2⟩ := gw cl f hm
      cases e : fs.lookup f with
      | none => rw [e] at q; exact q.elim
      | some d =>
        rw [e] at q
        obtain ⟨u, e1, e2⟩ := (r.look f).1 d e
        exact ⟨a, _, dx, ws, u, ev, ea, k1, k2, e1, A.retD q (Rep.stay (.of (fun _ _ _ e => e) hp) _ _ e2)⟩
    · exact q.elim
  cases y with
  | d d =>
    cases d <;> first | exact h2.elim | skip
    have hh := h.1
    simp only [Rep] at hh
    obtain ⟨a, dx, ws, e1, ⟨e2, _⟩, e3⟩ := hh
    exact leaf _ _ _ a dx ws (fun _ h => h) e1 e2 e3 h2
  | o d =>
    cases d <;> first | exact h2.elim | skip
    obtain ⟨a, e1, dx, ws, e2, _, e3, _⟩ := h
    exact leaf _ _ _ a dx ws (fun _ h => h) e1 e2 e3 h2
  | c n =>
    obtain ⟨⟨a, ha, ev⟩, _⟩ := h
    have h2 : Post W g0 H0 (match m[n]? with
      | some (.iv c fs) => if (c, f) ∈ md.at_ then (match fs.lookup f with
        | some (.d x) => .ok (.d x) m
        | some (.w _) => .ok (.f n f) m
        | _ => .no) else .no
      | some (.fl (.ins c fs)) => if (c, f) ∈ md.at_ then (match fs.lookup f with | some x => .ok (.d x) m | none => .no) else .no
      | some (.fz (.ins c fs)) => if (c, f) ∈ md.at_ then (match fs.lookup f with | some x => .ok (.d x) m | none => .no) else .no
      | _ => .no) Q E := h2
    cases qm : m[n]? with
    | none => rw [qm] at h2; exact h2.elim
    | some w =>
      rw [qm] at h2
      obtain ⟨a', l, Bs, q1, q2, q3, ok⟩ := A.mr.cell _ _ qm
      rw [ha] at q1
      cases q1
      cases w with
      | iv cl fs =>
        obtain ⟨dx, ws, A', e1, e2, r, _, _⟩ := ok
        simp only at h2
        split at h2
        · rename_i hm
          obtain ⟨k1, k2⟩ := gw cl f hm
          obtain ⟨i1, i2, _⟩ := r.look f
          cases e : fs.lookup f with
          | none => rw [e] at h2; exact h2.elim
          | some u =>
            rw [e] at h2
            cases u with
            | d d =>
              obtain ⟨u, z1, z2⟩ := i1 d e
              exact ⟨a, _, dx, ws, u, ev, e1, k1, k2, z1, A.retD h2 z2⟩
            | w d =>
              obtain ⟨b, A1, z1, z2, z3, _⟩ := i2 d e
              exact ⟨a, _, dx, ws, .ref b, ev, e1, k1, k2, z1, h2 (.ref b) g H [] ⟨A.eff, A.mr, ⟨⟨l, b, q2, z2, rfl⟩, rfl⟩, .nil, fun _ h => by simp at h⟩⟩
        · exact h2.elim
      | fl d =>
        cases d <;> first | exact h2.elim | skip
        obtain ⟨dx, ws, e2, _, e3, _⟩ := ok
        refine leaf _ _ _ a dx ws (fun _ h => h) ev e2 e3 ?_
        simp only at h2
        split at h2
        · rename_i hm
          rw [if_pos hm]
          split at h2
          · rename_i e; rw [e]; exact h2
          · exact h2.elim
        · exact h2.elim
      | fz d =>
        cases d <;> first | exact h2.elim | skip
        have hh := ok.1
        simp only [Rep] at hh
        obtain ⟨a2, dx, ws, e1, ⟨e2, _⟩, e3⟩ := hh
        cases e1
        refine leaf _ _ _ a dx ws (fun _ h => h) ev e2 e3 ?_
        simp only at h2
        split at h2
        · rename_i hm
          rw [if_pos hm]
          split at h2
          · rename_i e; rw [e]; exact h2
          · exact h2.elim
        · exact h2.elim
  | f n f => exact h2.elim
  | x c p => exact h.elim
  | s ns => exact h2.elim
theorem m_attr (G : GX X W md nm fa j c Wx) {f : Nat} {n : Str} (hn : nm.fld[f]? = some n) (ho : PE X o (tM W x Wx)) (hb : nsup o = true) : PE X (.Attribute o n pos) (tM W (fun s => bnd (x s) (attrM md f)) Wx) :=
  PE.of (pe_fld ho (nsup_base hb)) fun σ H Q ⟨g, s, m, r, sr, h⟩ => by
    refine (tm_step (At.start r sr) h).mono fun v H1 ⟨g1, m1, a, As1, A1, h1⟩ => ?_
    obtain ⟨B1, w1⟩ := A1.rv1
    obtain ⟨a, C, dx, fs, u, e1, e2, e3, e4, e5, e6⟩ := attr_ok A1 G.gw.at_ w1 h1
    rw [G.gw.fld f n hn] at e4 e5
    exact ⟨a, C, dx, fs, u, e1, e2, e3, e4, e5, e6⟩
/-! ### properties -/
theorem getpropG {C p q a dx : Addr} {fs : List (Str × V)} {f : Str} {k : Nat} {fd : FuncData} {ps : List Str} {sp : Sp} {pins : List (Addr × Obj)} {s : Shared} {b : Bool} {E' : Value → Shared → Prop} (I : Inv X pins σ H s) (ea : H a = some (.ins C dx fs)) (kc : Cls X.K C) (hp : PropOf X.K C f p q)
    (F : FnG X.prog X.w X.K X.mg X.base k q fd ps sp) (hr : Room (k + 1) X.A) (gd : X.A.guards = some []) (hb : Binds X.K fd ps []) (h : sp [.ref a] H Q fun _ _ _ => False) : wpAny (model X.prog X.w) X.A (getAttr (.ref a) f b) (EP X pins σ Q) E' s := by
  obtain ⟨mA, O, _⟩ := ins_get I.hok ea
  obtain ⟨od, J, _⟩ := O.look
  obtain ⟨rest, rc⟩ := hp.rec_
  have J1 := I.tok (s.toks + 1)
  have hc : (PySem.W.clsIn X.K C).isSome = true := by
    obtain ⟨cd, z, _⟩ := PySem.W.any_some kc.hd
    rw [z]; rfl
  have b2 := hb { s with toks := s.toks + 1 } [.ref a] J1.kIn (by rw [List.append_nil, ← F.len _ _ _ _ h]; rfl)
  rw [List.append_nil] at b2
  obtain ⟨g1, g2⟩ := PySem.W.plainGet_of (kc.get f)
  apply PySem.W.get_bind I.kIn J g1 (PySem.W.findObj_data hc hp.at_ hp.get hp.tak) g2
  apply wpAny_call
  apply PySem.W.prop_get (s := { s with toks := s.toks + 1 }) I.kIn rc
  apply codeAny_mono (F.go X.A.in1 X.stack { s with toks := s.toks + 1 } H ⟨[.ref a], []⟩ [.ref a] [.ref a] Q _ hr.in1 (by rw [Around.in1_guards]; exact gd) J1.env0.in1 b2 (.cons rfl .nil) h)
  intro res s' qq
  match res, qq with
  | .error er, ⟨_, _, _, _, _, _, _, _, _, _, _, _, z⟩ => exact z.elim
  | .ok (.ret u), qq =>
    obtain ⟨v, H', I3, rv, q3⟩ := J1.after qq
    show wpAny _ _ (handedOut u) _ _ _
    rw [PySem.W.handedOut_of (handed_of rv)]
    exact wpAny_pure ⟨v, H', I3, rv, q3⟩
theorem nrz_post {x : Mo RV} (h : Post W g H (nrz x m) Q E) : Post W g H (x m) Q fun _ _ _ => False := by
  unfold nrz at h
  cases e : x m with
  | ok a m' => rw [e] at h; exact h
  | rz a m' => rw [e] at h; exact h.elim
  | no => rw [e] at h; exact h.elim
theorem m_prop (G : GX X W md nm fa j c Wx) (hK : ∀ c m f, md.pr.lookup (c, m) = some f → ∃ fd, md.fns[f]? = some fd) {f : Nat} {n : Str} (hn : nm.fld[f]? = some n) (ho : PE X o (tM W x Wx)) (hb : nsup o = true) :
    PE X (.Attribute o n pos) (tM W (fun s => bnd (x s) fun x => bnd (clsM f x) fun cl => bnd (ofO (md.pr.lookup (cl, f))) fun k => bnd (argM x) fun v => nrz (callI md j k [v])) Wx) := by
  refine ⟨fun pins s σ H Q I ⟨g, sl, m, r, sr, h⟩ => attr_of (nsup_base hb) (thn (ho.run pins s σ H _ I (tm_step (At.start r sr) h)) fun u s1 ⟨v, H1, I1, rv, g1, m1, a, As1, A1, h1⟩ => ?_)⟩
  obtain ⟨B1, w1⟩ := A1.rv1
  obtain ⟨cl, ec, h2⟩ := clsM_ok (E := WE Wx σ) wish_post h1
  obtain ⟨b, dx, ws, ev, ea, elk⟩ := cls_of A1.mr w1 ec
  obtain ⟨k, qk, h3⟩ := h2.ofOg
  obtain ⟨kc, p, kp⟩ := G.gw.pr cl f k qk
  obtain ⟨fd, hfd⟩ := hK cl f k qk
  obtain ⟨dat, ps, F, B⟩ := G.gw.fn k fd hfd
  subst ev
  obtain rfl : u = Value.ref b := rv
  rw [G.gw.fld f n hn] at kp
  refine getpropG I1 ea kc kp F G.room G.gd B ?_
  have h4 : Post W g H (bnd (argM a) (fun v => nrz (callI md j k [v])) m1) Q (WE Wx σ) := h3
  cases e : argM a m1 with
  | no => rw [bnd_noo e] at h4; exact h4.elim
  | rz z m' => exact (argM_rz _ _ _ _ e).elim
  | ok w m' =>
    rw [bnd_ok e] at h4
    have w2 : RVR W g1 H1 (.ref b) As1 a := by
      cases A1.rv with
      | cons h r => cases r; rw [List.append_nil]; exact h
    obtain ⟨em, qw⟩ := arg_ok (P := (· ∈ As1)) w2 (fun _ h => h) e
    rw [em] at h4
    exact ⟨_, m1, [w], A1.frz.mr, .cons qw .nil, Post.of A1.frz (nrz_post h4)⟩
/-! ### displays -/
theorem tms_startL {β : Type} {P : Rs β → Prop} {f : List RV → Mo β} (w : Wish W g H P (WE Wx σ)) (r : MR W g H m) (sr : SR W g H σ s) (h : P (bnd (l s) f m)) :
    tMs W l Wx σ H fun us H1 => ∃ g1 m1 ys Bs, At W g H σ s g1 H1 m1 us ys Bs ∧ l s m = .ok ys m1 ∧ P (f ys m1) := by
  refine ⟨g, s, m, r, sr, ?_⟩
  cases e : l s m with
  | ok a m1 =>
    rw [bnd_ok e] at h
    exact fun us g1 H1 Bs o => ⟨g1, m1, a, Bs, ⟨o.eff, o.mr, sr.eff r o.eff, o.rv, o.tm, o.nw⟩, rfl, h⟩
  | rz a m1 =>
    rw [bnd_rzo e] at h
    exact fun cls d g' H' e r x => w.rz _ _ h cls d g' H' e r x
  | no =>
    rw [bnd_noo e] at h
    exact w.no h
/-- all frozen, from the row's start -/
theorem At.frzA {β : Type} {P : Rs β → Prop} {f : List D → Mo β} (w : Wish W g0 H0 P E) (A : At W g0 H0 σ s g H m vs xs As) (h : P (bnd (frzsM xs) f m)) :
    ∃ ds g' m', More g g' ∧ Reps W g'.fz H ds vs ∧ At W g0 H0 σ s g' H m' [] [] [] ∧ P (f ds m') := by
  have A' : At W g0 H0 σ s g H m (vs ++ []) (xs ++ []) (As ++ []) := by
    rw [List.append_nil, List.append_nil, List.append_nil]; exact A
  exact At.frzsG w A.rv A' .nil h
theorem m_lst (ha : PA X es (tMs W l Wx)) (hl : ∀ s m ys m', l s m = .ok ys m' → ys.length ≤ 16777216) : PE X (.List es pos) (tM W (fun s => bnd (l s) fun xs => bnd (frzsM xs) fun ds => pur (.o (.lst ds))) Wx) :=
  PE.of (pe_lst ha) fun σ H Q ⟨g, s, m, r, sr, h⟩ => by
    refine (tms_startL wish_post r sr h).mono fun us H1 ⟨g1, m1, ys, Bs, A, el, h⟩ => ?_
    refine ⟨by rw [A.rv.length]; exact hl _ _ _ _ el, fun p hp => ?_⟩
    obtain ⟨ds, g2, m2, k, reps, A2, h⟩ := A.frzA wish_post h
    exact A2.retO h hp trivial ⟨us, upd_same, Reps.stay (.of (fun a o _ e => Grow.upd hp a o e) fun _ q => q) _ _ reps, rfl⟩
theorem m_tup {n : Nat} (ha : PA X es (tMs W l Wx)) (hl : ∀ s m ys m', l s m = .ok ys m' → ys.length ≤ 16777216) : PE X (.Tuple es n pos) (tM W (fun s => bnd (l s) fun xs => bnd (frzsM xs) fun ds => pur (.d (.tup ds))) Wx) :=
  PE.of (pe_tup ha) fun σ H Q ⟨g, s, m, r, sr, h⟩ => by
    refine (tms_startL wish_post r sr h).mono fun us H1 ⟨g1, m1, ys, Bs, A, el, h⟩ => ?_
    refine ⟨by rw [A.rv.length]; exact hl _ _ _ _ el, fun p hp => ?_⟩
    obtain ⟨ds, g2, m2, k, reps, A2, h⟩ := A.frzA wish_post h
    exact A2.retT h hp reps
theorem m_dct0 {b : Bool} : PE X (.Dict [] [] pos) (tM W (fun _ => pur (.o (if b then .dT [] else .dK []))) Wx) := by
  cases b with
  | false =>
    exact PE.of pe_dnewK fun σ H Q ⟨g, s, m, r, sr, h⟩ p hp => (At.start r sr).retO h hp trivial ⟨[], upd_same, .nil, rfl⟩
  | true =>
    exact PE.of pe_dnewT fun σ H Q ⟨g, s, m, r, sr, h⟩ p hp => (At.start r sr).retO h hp trivial ⟨[], upd_same, .nil, rfl⟩
/-! ### subscripts -/
def rSub (W : Wd) : R2 := fun x y H Q => ∃ (P : Addr → Prop) (a i d : D), Top W P H x a ∧ Top W P H y i ∧ subD a i = some d ∧ ∀ v, Rep W P H d v → Q v H
theorem ix_sub (hu : X.A.units + 1 < cLine) : IxR X (rSub W) := by
  intro value slice pins s σ H x y v u Q I rx ry h hs
  obtain ⟨P, a, i, d, ta, ti, e, q⟩ := h
  have dict : ∀ (p : Addr) (w : V), x = .ref p → DGet H p y (some w) → Q w H → wpAny (model X.prog X.w) X.A (subscriptTail value slice v u) (EP X pins σ Q) X.xe s := fun p w ex g qw => by
    subst ex
    obtain rfl : v = Value.ref p := rx
    exact tail_any (dict_typeIs I g) PySem.F.slot_dict_getitem.lookup (d_getItem hu I g ry fun w' s' I' r' => ⟨w, H, I', r', qw⟩) hs
  cases a <;> first | cases e | skip
  · rename_i zz
    cases i <;> first | cases e | skip
    rename_i k
    have e : (if zz.length ≤ 16777216 then (L2.atI zz.cps.toList k).map fun c => D.str ⟨#[c]⟩ else none) = some d := e
    split at e
    · rename_i hz
      cases qa : L2.atI zz.cps.toList k with
      | none => rw [qa] at e; cases e
      | some ch =>
        rw [qa] at e
        cases e
        exact ix_str value slice pins s σ H x y v u Q I rx ry ⟨zz, k, ch, ta.str_, ti.int_, hz, qa, q _ (by simp only [Rep])⟩ hs
    · cases e
  · rename_i ds
    cases i <;> first | cases e | skip
    rename_i k
    obtain ⟨p, ws, ex, hp, r⟩ := ta
    obtain ⟨w, e1, e2⟩ := r.at e
    exact ix_tup value slice pins s σ H x y v u Q I rx ry ⟨p, ws, k, w, ex, ti.int_, .of hp.1, e1, q _ e2⟩ hs
  · rename_i ds
    cases i <;> first | cases e | skip
    rename_i k
    obtain ⟨p, ws, ex, hp, r⟩ := ta
    obtain ⟨w, e1, e2⟩ := r.at e
    exact ix_list value slice pins s σ H x y v u Q I rx ry ⟨p, ws, k, w, ex, ti.int_, .of hp, e1, q _ e2⟩ hs
  · rename_i kvs
    have e : (asK i).bind (lookA kvs) = some d := e
    cases qa : asK i with
    | none => rw [qa] at e; cases e
    | some k =>
      rw [qa] at e
      obtain ⟨p, ws, ex, hp, r⟩ := ta
      obtain ⟨w, e1, e2⟩ := (r.look k).1 d e
      exact dict p w ex (.inl ⟨ws, k, hp, ti.any.asK qa, e1.symm⟩) (q _ e2)
  · rename_i kvs
    cases i <;> first | cases e | skip
    rename_i ks
    have e : (asKs ks).bind (lookA kvs) = some d := e
    cases qa : asKs ks with
    | none => rw [qa] at e; cases e
    | some k =>
      rw [qa] at e
      obtain ⟨p, ws, ex, hp, r⟩ := ta
      obtain ⟨b, zs, ey, h2, r2⟩ := ti
      have ez := r2.asKs qa
      subst ez
      obtain ⟨w, e1, e2⟩ := (r.look k).1 d e
      exact dict p w ex (.inr ⟨ws, k, b, hp, ey, h2.1, e1.symm⟩) (q _ e2)
def plIx : Expr → Bool
  | .Slice _ _ _ _ => false
  | _ => true
theorem plIx_ok {b : Expr} (h : plIx b = true) : PlainIx b := by
  intro o i
  cases b <;> first | rfl | cases h
theorem m_sub (G : GX X W md nm fa j c Wx) {a b : Expr} (ha : PE X a (tM W x Wx)) (hb : PE X b (tM W y Wx)) (hp : plIx b = true) : PE X (.Subscript a b pos) (tM W (fun s => bnd (x s) fun x => bnd (y s) fun y => bnd (viewM x) fun x => bnd (viewM y) fun y => rD (subD x y)) Wx) :=
  m_op2 (pe_ix (ix_sub G.units1) ha hb (plIx_ok hp)) fun g0 g H0 H σ s m vs xs As Q v u d d' A t1 t2 h => by
    have h : Post W g0 H0 ((match subD d d' with
      | some d => pur (.d d)
      | none => no : Mo RV) m) Q (WE Wx σ) := h
    cases q : subD d d' with
    | none => rw [q] at h; exact h.elim
    | some z => rw [q] at h; exact ⟨g.fz, d, d', z, t1, t2, q, fun w r => A.retD h r⟩
end
end Fw

/-! T15: slices; built-in functions by values; dict.get. -/
namespace Fw
open PySem PySem.Spec PyProof.Rows L2

section
variable {X : Cx} {W : Wd} {md : Md} {nm : Nm} {fa : Nat → Addr} {j : Nat} {c : Ck} {Wx : WX} {e o : Expr} {pos apos p2 p3 : Pos} {t : TE} {es : List Expr} {l : Sl → Mo (List RV)} {x y z : Sl → Mo RV}
  {g g0 g' g1 : Gh} {H H0 H' H1 : Hp} {m m' m1 : Mem} {σ : L2.St} {s : Sl} {vs : List V} {xs : List RV} {As : List Addr} {Q : VK} {E : XK}
/-- a slice's part: from where we stand it steps -/
def POs (X : Cx) (W : Wd) (Wx : WX) (a : Option Expr) (x : Sl → Mo (Option Int)) : Prop := ∃ t : TO, PO X a t ∧ ∀ (g0 g : Gh) (H0 H : Hp) (σ : L2.St) (s : Sl) (m : Mem) (vs : List V) (xs : List RV) (As : List Addr) (Q : VK) (f : Option Int → Mo RV) (R : Option Int → Hp → Prop), At W g0 H0 σ s g H m vs xs As →
  Post W g0 H0 (bnd (x s) f m) Q (WE Wx σ) → (∀ i g1 H1 m1, At W g0 H0 σ s g1 H1 m1 vs xs As → Post W g0 H0 (f i m1) Q (WE Wx σ) → R i H1) → t σ H R
theorem pos_none : POs X W Wx none (fun _ => pur none) := ⟨_, po_none, fun g0 g H0 H σ s m vs xs As Q f R A h k => k _ _ _ _ A h⟩
theorem At.drop {v : V} {y : RV} (A : At W g0 H0 σ s g H m (v :: vs) (y :: xs) As) : ∃ Bs, At W g0 H0 σ s g H m vs xs Bs := by
  cases h : A.rv with
  | cons h1 r => exact ⟨_, A.eff, A.mr, A.sr, r, A.tm.right, fun a h => A.nw a (List.mem_append_right _ h)⟩
theorem At.drop' {v : V} {y : RV} {Bs : List Addr} (A : At W g0 H0 σ s g H m (v :: vs) (y :: xs) Bs) (r : RVs W g H vs xs As) (n : Tmp g H As) (nw : ∀ a ∈ As, H0 a = none ∨ Ow g0 a) : At W g0 H0 σ s g H m vs xs As := ⟨A.eff, A.mr, A.sr, r, n, nw⟩
/-- the next value of a row, and the row without it -/
theorem tm_step2 {β : Type} {P : Rs β → Prop} {x : Sl → Mo RV} {f : RV → Mo β} (w : Wish W g0 H0 P (WE Wx σ)) (A : At W g0 H0 σ s g H m vs xs As) (h : P (bnd (x s) f m)) :
    tM W x Wx σ H fun v H1 => ∃ g1 m1 a Bs, At W g0 H0 σ s g1 H1 m1 (v :: vs) (a :: xs) (Bs ++ As) ∧ RVR W g1 H1 v Bs a ∧ At W g0 H0 σ s g1 H1 m1 vs xs As ∧ P (f a m1) := by
  refine ⟨g, s, m, A.mr, A.sr, ?_⟩
  cases e : x s m with
  | ok a m1 =>
    rw [bnd_ok e] at h
    exact fun v g1 H1 Bs o => ⟨g1, m1, a, Bs, A.next o, o.rv, A.step o.eff o.mr, h⟩
  | rz a m1 =>
    rw [bnd_rzo e] at h
    exact fun cls d g' H' e r x => w.rz _ _ h cls d g' H' (A.eff.trans e) r x
  | no =>
    rw [bnd_noo e] at h
    exact w.no h
theorem pos_some (h : PE X e (tM W x Wx)) : POs X W Wx (some e) (fun s => intM (x s)) :=
  ⟨_, po_some h, fun g0 g H0 H σ s m vs xs As Q f R A h k => by
    unfold intM at h
    rw [bnd_bnd] at h
    refine (tm_step2 wish_post A h).mono fun v H1 ⟨g1, m1, a, Bs, A1, w1, A2, h1⟩ => ?_
    have h1 : Post W g0 H0 (bnd (bnd (viewM a) fun d => (match d with
      | .int i => pur (some i)
      | _ => no)) f m1) Q (WE Wx σ) := h1
    rw [bnd_bnd] at h1
    obtain ⟨d, t, h2⟩ := A1.view w1 h1
    cases d <;> first | exact h2.elim | skip
    rename_i i
    exact ⟨i, t.int_, k _ _ _ _ A2 h2⟩⟩
def rSl (W : Wd) : V → Option Int → Option Int → Hp → VK → Prop := fun x lo hi H Q => ∃ (P : Addr → Prop) (a : D), Top W P H x a ∧ rR W P (cutD a lo hi) H Q
theorem sl_ok : SlR X (rSl W) := by
  intro pins s σ H x v vl vu lo hi sl Q I rx hs pl pu h
  obtain ⟨P, a, ta, h⟩ := h
  cases a <;> first | exact h.elim | skip
  · rename_i zz
    obtain ⟨hz, h⟩ := rR_if h
    exact sl_str pins s σ H x v vl vu lo hi sl Q I rx hs pl pu ⟨zz, ta.str_, hz, rR_str h⟩
  · rename_i ds
    obtain ⟨p, ws, ex, hp, r⟩ := ta
    refine sl_tupA pins s σ H x v vl vu lo hi sl Q I rx hs pl pu ⟨p, ws, ex, .of hp.1, fun hw => ?_, fun hw q hq => h.2 _ rfl q _ hq (r.cut lo hi)⟩
    obtain ⟨w1, w2⟩ := hw
    have e : cutL ds lo hi = ds := by
      unfold cutL
      rw [r.length, w1, w2, List.drop_zero, Nat.sub_zero, ← r.length, List.take_length]
    refine h.1 (.ref p) ?_
    rw [e]
    simp only [Rep]
    exact ⟨p, ws, rfl, hp, r⟩
  · rename_i ds
    obtain ⟨p, ws, ex, hp, r⟩ := ta
    exact sl_list pins s σ H x v vl vu lo hi sl Q I rx hs pl pu ⟨p, ws, ex, .of hp, fun q hq => h q _ hq (r.cut lo hi)⟩
theorem m_sl {a : Expr} {lo hi : Option Expr} {u v : Sl → Mo (Option Int)} (ha : PE X a (tM W x Wx)) (hl : POs X W Wx lo u) (hh : POs X W Wx hi v) : PE X (.Subscript a (.Slice lo hi none p2) pos) (tM W (fun s => bnd (x s) fun x => bnd (u s) fun l => bnd (v s) fun h => bnd (viewM x) fun x => ofO (cutD x l h)) Wx) := by
  obtain ⟨tl, pl, sl⟩ := hl
  obtain ⟨th, ph, sh⟩ := hh
  refine PE.of (pe_slice (sl_ok (W := W)) ha pl ph) fun σ H Q ⟨g, s, m, r, sr, h⟩ => ?_
  refine (tm_step (At.start r sr) h).mono fun v H1 ⟨g1, m1, a, As1, A1, h1⟩ => ?_
  refine sl _ _ _ _ σ s _ _ _ _ Q _ _ A1 h1 fun i g2 H2 m2 A2 h2 => ?_
  refine sh _ _ _ _ σ s _ _ _ _ Q _ _ A2 h2 fun k g3 H3 m3 A3 h3 => ?_
  obtain ⟨B1, w1⟩ := A3.rv1
  obtain ⟨d, t1, h4⟩ := A3.view w1 h3
  exact ⟨g3.fz, d, t1, A3.rR h4 (cutD_ro d i k)⟩
end
end Fw

/-! T16: built-in functions by values. -/
namespace Fw
open PySem PySem.Spec PyProof.Rows L2

section
variable {X : Cx} {W : Wd} {P : Addr → Prop} {H : Hp} {Q : VK}
theorem Tops.one {vs : List V} {d : D} (h : Tops W P H vs [d]) : ∃ v, vs = [v] ∧ Top W P H v d := by
  cases h with
  | cons h r => cases r; exact ⟨_, rfl, h⟩
theorem Tops.two {vs : List V} {d e : D} (h : Tops W P H vs [d, e]) : ∃ v u, vs = [v, u] ∧ Top W P H v d ∧ Top W P H u e := by
  cases h with
  | cons h r =>
    cases r with
    | cons h2 r => cases r; exact ⟨_, _, rfl, h, h2⟩
def rBi (W : Wd) (b : BI) : List V → Hp → VK → Prop := fun vs H Q => ∃ (P : Addr → Prop) (ds : List D), Tops W P H vs ds ∧ rR W P (biD b ds) H Q
theorem cr_len : CallR X (.builtin "len") (rBi W .len) := by
  intro pins s σ H xs us Q I r ⟨P, ds, t, h⟩
  match ds, t, h with
  | [d], t, h =>
    obtain ⟨v, rfl, tv⟩ := t.one
    cases d <;> first | exact h.elim | skip
    · rename_i z
      have h : rR W P ((if z.length ≤ 16777216 then some z.length else none).map fun n => .d (.int (n : Int))) H Q := h
      split at h
      · rename_i hz
        exact call_len_str pins s σ H _ us Q I r ⟨z, by rw [tv.str_], hz, rR_int h⟩
      · exact h.elim
    · obtain ⟨p, ws, rfl, hp, rp⟩ := tv
      exact call_len_seq pins s σ H _ us Q I r ⟨p, ws, rfl, .inr (.of hp.1), by rw [← rp.length]; exact rR_int h⟩
    · obtain ⟨p, ws, rfl, hp, rp⟩ := tv
      exact call_len_seq pins s σ H _ us Q I r ⟨p, ws, rfl, .inl (.of hp), by rw [← rp.length]; exact rR_int h⟩
    · obtain ⟨p, ws, rfl, hp, rp⟩ := tv
      obtain ⟨u, rfl, ru⟩ := vals1 r
      obtain rfl : u = Value.ref p := ru
      exact d_len I hp fun t s' I' => ⟨.int ws.length, H, I', ⟨t, rfl⟩, by rw [← rp.length]; exact rR_int h⟩
theorem cr_max2 (hc : X.calm = true) : CallR X (.builtin "max") (rBi W .max2) := by
  intro pins s σ H xs us Q I r ⟨P, ds, t, h⟩
  match ds, t, h with
  | [.int i, .int k], t, h =>
    obtain ⟨v, u, rfl, t1, t2⟩ := t.two
    exact call_max2 hc pins s σ H _ us Q I r ⟨i, k, by rw [t1.int_, t2.int_], rR_int h⟩
theorem cr_abs : CallR X (.builtin "abs") (rBi W .abs_) := by
  intro pins s σ H xs us Q I r ⟨P, ds, t, h⟩
  match ds, t, h with
  | [.int i], t, h =>
    obtain ⟨v, rfl, t1⟩ := t.one
    exact call_abs pins s σ H _ us Q I r ⟨i, by rw [t1.int_], rR_int h⟩
theorem cr_int : CallR X (.type "int") (rBi W .int_) := by
  intro pins s σ H xs us Q I r ⟨P, ds, t, h⟩
  match ds, t, h with
  | [.int i], t, h =>
    obtain ⟨v, rfl, t1⟩ := t.one
    exact call_int1 pins s σ H _ us Q I r (.inl ⟨i, by rw [t1.int_], rR_int h⟩)
  | [.bl i], t, h =>
    obtain ⟨v, rfl, t1⟩ := t.one
    exact call_int1 pins s σ H _ us Q I r (.inr ⟨i, by rw [t1.bl_], rR_int h⟩)
  | [.str z], t, h =>
    obtain ⟨v, rfl, t1⟩ := t.one
    have h : rR W P (if z.length ≤ 640 then (PySem.intText? z).map fun n => .d (.int n) else none) H Q := h
    split at h
    · rename_i hz
      cases q : PySem.intText? z with
      | none => rw [q] at h; exact h.elim
      | some n =>
        rw [q] at h
        exact call_int_str pins s σ H _ us Q I r ⟨z, n, by rw [t1.str_], q, hz, rR_int h⟩
    · exact h.elim
theorem cr_str : CallR X (.type "str") (rBi W .str_) := by
  intro pins s σ H xs us Q I r ⟨P, ds, t, h⟩
  match ds, t, h with
  | [.int i], t, h =>
    obtain ⟨v, rfl, t1⟩ := t.one
    obtain ⟨c, h⟩ := rR_if h
    exact call_str_int pins s σ H _ us Q I r ⟨i, by rw [t1.int_], c, rR_str h⟩
theorem cr_tuple : CallR X (.type "tuple") (rBi W .tuple_) := by
  intro pins s σ H xs us Q I r ⟨P, ds, t, h⟩
  match ds, t, h with
  | [.lst ys], t, h =>
    obtain ⟨v, rfl, p, ws, rfl, hp, rp⟩ := t.one
    exact call_tuple_of pins s σ H _ us Q I r ⟨p, ws, rfl, .inl ⟨.of hp, fun q hq => h.2 _ rfl q _ hq rp⟩⟩
  | [.tup ys], t, h =>
    obtain ⟨v, rfl, p, ws, rfl, hp, rp⟩ := t.one
    exact call_tuple_of pins s σ H _ us Q I r ⟨p, ws, rfl, .inr ⟨.of hp.1, h.1 _ (by simp only [Rep]; exact ⟨p, ws, rfl, hp, rp⟩)⟩⟩
theorem cr_list : CallR X (.type "list") (rBi W .list_) := by
  intro pins s σ H xs us Q I r ⟨P, ds, t, h⟩
  match ds, t, h with
  | [.lst ys], t, h =>
    obtain ⟨v, rfl, p, ws, rfl, hp, rp⟩ := t.one
    exact call_list_of pins s σ H _ us Q I r ⟨p, ws, rfl, .inl (.of hp), fun q hq => h q _ hq rp⟩
  | [.tup ys], t, h =>
    obtain ⟨v, rfl, p, ws, rfl, hp, rp⟩ := t.one
    exact call_list_of pins s σ H _ us Q I r ⟨p, ws, rfl, .inr (.of hp.1), fun q hq => h q _ hq rp⟩
theorem merge_foldl {κ β : Type} [DecidableEq κ] : ∀ (l a : List (κ × β)), mergeA a l = l.foldl (fun acc kv => putA acc kv.1 kv.2) a
  | [], _ => rfl
  | (k, v) :: r, a => merge_foldl r (putA a k v)
theorem pairs_rep : ∀ {ds : List D} {ws : List V} {l : List (Key × D)}, Reps W P H ds ws → pairsK ds = some l → ∃ (ps : List Addr) (kvs : List (Key × V)), ws = ps.map V.ref ∧ Paired (fun p kv => SqT X.K H p [kV kv.1, kv.2]) ps kvs ∧ RepA W P H l kvs
  | [], ws, l, h, e => by
    cases e
    rw [Reps.nil.mp h]
    exact ⟨[], [], rfl, .nil, .nil⟩
  | d :: ds, ws, l, h, e => by
    obtain ⟨v, w, rfl, q, r⟩ := Reps.cons.mp h
    match d, e, q with
    | .tup [a, b], e, q =>
      have e : (match asK a, pairsK ds with
        | some k, some l => some ((k, b) :: l)
        | _, _ => none) = some l := e
      cases ea : asK a with
      | none => rw [ea] at e; cases e
      | some k =>
        cases el : pairsK ds with
        | none => rw [ea, el] at e; cases e
        | some l' =>
          rw [ea, el] at e
          cases e
          obtain ⟨ps, kvs, i1, i2, i3⟩ := pairs_rep r el
          simp only [Rep] at q
          obtain ⟨p, zs, rfl, hp, rz⟩ := q
          obtain ⟨v1, w1, rfl, q1, r1⟩ := Reps.cons.mp rz
          obtain ⟨v2, w2, rfl, q2, r2⟩ := Reps.cons.mp r1
          rw [Reps.nil.mp r2] at hp
          have e1 := q1.asK ea
          subst e1
          exact ⟨p :: ps, (k, v2) :: kvs, by rw [i1]; rfl, .cons (.of hp.1) i2, .cons q2 i3⟩
theorem merge_rep {l : List (Key × D)} {kvs : List (Key × V)} (h : RepA W P H l kvs) : ∀ {a : List (Key × D)} {b : List (Key × V)}, RepA W P H a b → RepA W P H (mergeA a l) (mergeK b kvs) := by
  induction h with
  | nil => exact fun h => h
  | cons q r ih => exact fun h => ih (h.put _ q)
theorem cr_dict (hc : X.calm = true) : CallR X (.type "dict") (rBi W .dict_) := by
  intro pins s σ H xs us Q I r ⟨P, ds, t, h⟩
  match ds, t, h with
  | [.dK kvs], t, h =>
    obtain ⟨v, rfl, p, ws, rfl, hp, rp⟩ := t.one
    exact call_dictD pins s σ H _ us Q I r ⟨p, ws, rfl, hp, fun q hq => h q _ hq rp⟩
  | [.lst ys], t, h =>
    obtain ⟨v, rfl, p, ws, rfl, hp, rp⟩ := t.one
    have h : rR W P (if ys.length ≤ 1000000 then (pairsK ys).map fun l => .o (.dK (mergeA [] l)) else none) H Q := h
    split at h
    · cases q : pairsK ys with
      | none => rw [q] at h; exact h.elim
      | some l =>
        rw [q] at h
        obtain ⟨ps, kvs, e1, e2, e3⟩ := pairs_rep (X := X) rp q
        subst e1
        exact call_dictP hc pins s σ H _ us Q I r ⟨p, ps, kvs, rfl, .of hp, e2, fun q hq => h q _ hq (merge_rep e3 .nil)⟩
    · exact h.elim
/-! ### all, any of a list of bools -/
theorem bools_at : ∀ {bs : List Bool} {its : List Value}, Vals (bs.map V.bl) its → its = bs.map Value.bool
  | [], its, h => by cases h; rfl
  | b :: bs, its, h => by
    cases h with
    | cons h t => cases h; rw [List.map_cons, ← bools_at t]
theorem range_all (l : List Bool) (p : Nat → Bool) (h : ∀ i b, l[i]? = some b → p i = b) : (List.range l.length).all p = l.all id := by
  induction l generalizing p with
  | nil => rfl
  | cons b l ih =>
    rw [List.length_cons, List.range_succ_eq_map, List.all_cons, List.all_cons, List.all_map, h 0 b rfl, ← ih (p ∘ Nat.succ) fun i c e => h (i + 1) c (by simpa using e)]
    rfl
theorem range_any (l : List Bool) (p : Nat → Bool) (h : ∀ i b, l[i]? = some b → p i = b) : (List.range l.length).any p = l.any id := by
  induction l generalizing p with
  | nil => rfl
  | cons b l ih =>
    rw [List.length_cons, List.range_succ_eq_map, List.any_cons, List.any_cons, List.any_map, h 0 b rfl, ← ih (p ∘ Nat.succ) fun i c e => h (i + 1) c (by simpa using e)]
    rfl
def trA (its : Array Value) (i : Nat) : Bool := its[i]? == some (.bool true)
theorem walk_bools {pins : List (Addr × Obj)} {σ : L2.St} {s : Shared} {p : Addr} {bs : List Bool} (hc : X.calm = true) (I : Inv X pins σ H s) (hp : H p = some (.lst (bs.map V.bl))) {R : Value → Shared → Prop}
    (all : (Nat → Bool) → Nat → Bool) {F : Bool} (hall : ∀ t, (∀ i b, bs[i]? = some b → t i = b) → all t bs.length = F) (hR : ∀ s', Inv X pins σ H s' → R (.bool F) s') :
    wpAny (model X.prog X.w) X.A.in1 (pyIter (.ref p)) (fun it s₂ => ∃ I fp wr n P St tr, it = .ref I ∧ Walks X.prog X.w X.A.in1 I fp wr n P St ∧ St 0 s₂.heap ∧ TruthOf X.prog X.w X.A.in1 P tr ∧
      ∀ h' tk, (∀ b o, b ∉ wr → s₂.heap.get? b = some o → h'.get? b = some o) → R (.bool (all tr n)) { s₂ with heap := h', toks := tk }) X.xe s := by
  obtain ⟨its, rv, pl, hz⟩ := I.list (.of hp)
  have ei := bools_at rv
  subst ei
  have hl := pl.isList
  refine wpAny_pyIter_list hl ?_
  have hne : p ≠ s.heap.objs.size := Nat.ne_of_lt (I.hok.lt hp)
  have hg : ∀ (i : Nat) (b : Bool), bs[i]? = some b → trA (bs.map Value.bool).toArray i = b := fun i b e => by
    unfold trA
    have : (bs.map Value.bool).toArray[i]? = some (.bool b) := by simp [e]
    rw [this]
    cases b <;> rfl
  refine ⟨s.heap.objs.size, _, _, _, _, _, trA (bs.map Value.bool).toArray, rfl, Walks.list (by show X.A.handled = none; exact I.ok.hd hc) s.heap.objs.size p hne (bs.map Value.bool).toArray, ⟨⟨_, Heap.get?_push_size _ rfl, rfl, rfl⟩, hl.push _⟩, ?_, fun h' tk hk => ?_⟩
  · intro i v s Q E hv hQ
    have hv : (bs.map Value.bool).toArray[i]? = some v := hv
    have hv2 : (bs.map Value.bool)[i]? = some v := by simpa using hv
    rw [List.getElem?_map] at hv2
    cases e : bs[i]? with
    | none => rw [e] at hv2; cases hv2
    | some b =>
      rw [e] at hv2
      cases hv2
      rw [hg i b e] at hQ
      exact wpAny_truthy_bool hQ
  · have e : all (trA (bs.map Value.bool).toArray) (bs.map Value.bool).toArray.size = F := by
      have : (bs.map Value.bool).toArray.size = bs.length := by simp
      rw [this]
      exact hall _ hg
    rw [e]
    exact hR _ (I.kept (t' := tk) fun b u q => hk b u (by
      have := Heap.lt_size q
      simp only [List.mem_singleton]
      exact Nat.ne_of_lt this) (Heap.get?_push_of_some _ q))
theorem cr_all (hc : X.calm = true) : CallR X (.builtin "all") (rBi W .all_) := by
  intro pins s σ H xs us Q I r ⟨P, ds, t, h⟩
  match ds, t, h with
  | [.lst ys], t, h =>
    obtain ⟨v, rfl, p, ws, rfl, hp, rp⟩ := t.one
    have h : rR W P ((boolsO ys).map fun l => .d (.bl (l.all id))) H Q := h
    cases q : boolsO ys with
    | none => rw [q] at h; exact h.elim
    | some l =>
      rw [q] at h
      have e := rp.boolsO q
      subst e
      obtain ⟨u, rfl, ru⟩ := vals1 r
      obtain rfl : u = Value.ref p := ru
      exact call_all_walk (walk_bools hc I hp (fun t n => (List.range n).all t) (fun t ht => range_all l t ht) fun s' I' => ⟨.bl _, H, I', rfl, rR_bl h⟩)
theorem cr_any (hc : X.calm = true) : CallR X (.builtin "any") (rBi W .any_) := by
  intro pins s σ H xs us Q I r ⟨P, ds, t, h⟩
  match ds, t, h with
  | [.lst ys], t, h =>
    obtain ⟨v, rfl, p, ws, rfl, hp, rp⟩ := t.one
    have h : rR W P ((boolsO ys).map fun l => .d (.bl (l.any id))) H Q := h
    cases q : boolsO ys with
    | none => rw [q] at h; exact h.elim
    | some l =>
      rw [q] at h
      have e := rp.boolsO q
      subst e
      obtain ⟨u, rfl, ru⟩ := vals1 r
      obtain rfl : u = Value.ref p := ru
      exact call_any_walk (walk_bools hc I hp (fun t n => (List.range n).any t) (fun t ht => range_any l t ht) fun s' I' => ⟨.bl _, H, I', rfl, rR_bl h⟩)
/-! ### repr -/
theorem cr_repr (hK : W.K = X.K) (gd : X.A.guards = some []) (hu : X.A.units + 65 < cLine) : CallR X (.builtin "repr") (rBi W .repr_) := by
  intro pins s σ H xs us Q I r ⟨P, ds, t, h⟩
  match ds, t, h with
  | [d], t, h =>
    obtain ⟨v, rfl, tv⟩ := t.one
    obtain ⟨u, rfl, ru⟩ := vals1 r
    obtain ⟨⟨c1, c2, c3, c4, c5, c6⟩, h⟩ := rR_if h
    have q := rR_str h
    have dp := Rep.dp d v tv.any c1 c5
    rw [hK] at dp
    obtain ⟨as, rd⟩ := Dp.reads I _ _ _ dp ru
    have fin : ∀ a, u = .ref a → wpAny (model X.prog X.w) X.A (call (.builtin "repr") [u]) (EP X pins σ Q) X.xe s := fun a e => by
      subst e
      exact repr_of_reads' rd c2 (fun z => by rw [c6] at z; cases z) gd (by omega) (fun _ _ e => e) (fun h' u tk hk => ⟨.str _, H, I.kept (t' := tk) hk, ⟨u, rfl⟩, q⟩) c4
    cases d with
    | non =>
      have := tv.non_; subst this
      obtain rfl : u = Value.none := ru
      exact PySem.P.repr_of_none ⟨.str _, H, I.tok _, ⟨_, rfl⟩, q⟩
    | bl b =>
      have := tv.bl_; subst this
      obtain rfl : u = Value.bool b := ru
      exact PySem.P.repr_of_bool ⟨.str _, H, I.tok _, ⟨_, rfl⟩, by cases b <;> exact q⟩
    | int i =>
      have := tv.int_; subst this
      obtain ⟨t, rfl⟩ := ru
      exact PySem.P.repr_of_int (of_decide_eq_true c2) ⟨.str _, H, I.tok _, ⟨_, rfl⟩, q⟩
    | str z =>
      have := tv.str_; subst this
      obtain ⟨t, rfl⟩ := ru
      exact PySem.P.repr_of_str ⟨.str _, H, I.tok _, ⟨_, rfl⟩, q⟩ c4
    | tup ys => obtain ⟨p, ws, rfl, hp, rp⟩ := tv; exact fin p ru
    | lst ys => obtain ⟨p, ws, rfl, hp, rp⟩ := tv; exact fin p ru
    | dK ys => obtain ⟨p, ws, rfl, hp, rp⟩ := tv; exact fin p ru
    | dT ys => obtain ⟨p, ws, rfl, hp, rp⟩ := tv; exact fin p ru
    | ins c fs => cases c1
end
end Fw

/-! T17: the calls of built-in functions, isinstance, dict.get. -/
namespace Fw
open PySem PySem.Spec PyProof.Rows L2

def BI.nm : BI → Str
  | .len => "len"
  | .max2 => "max"
  | .abs_ => "abs"
  | .int_ => "int"
  | .str_ => "str"
  | .tuple_ => "tuple"
  | .list_ => "list"
  | .dict_ => "dict"
  | .repr_ => "repr"
  | .sum_ => "sum"
  | .all_ => "all"
  | .any_ => "any"
  | .sorted_ => "sorted"
def BI.ok : BI → Bool
  | .sum_ => false
  | .sorted_ => false
  | _ => true
def Ty.nm : Ty → Str
  | .tstr => "str"
  | .tint => "int"
  | .tbool => "bool"
  | .tlist => "list"
  | .ttuple => "tuple"
  | .tdict => "dict"
  | _ => ""
def Ty.v (W : Wd) : Ty → V
  | .tstr => .ty "str"
  | .tint => .ty "int"
  | .tbool => .ty "bool"
  | .tlist => .ty "list"
  | .ttuple => .ty "tuple"
  | .tdict => .ty "dict"
  | .tcls c => .ref (W.ca c)
  | .tblt n => .ty n
def tyEx (nm : Nm) (c : Ck) (t : Ty) : Expr → Bool
  | .Name x _ => c.gl x && !(x == ("__debug__" : Str)) && (match t with
    | .tcls k => nm.cl[k]? == some x
    | .tblt _ => false
    | t => x == t.nm)
  | _ => false
theorem biD_ro (b : BI) (ds : List D) : RO (biD b ds) := by
  unfold biD
  split <;> first | exact RO.map fun _ => trivial | (refine RO.ite ?_; trivial) | trivial | skip
  · split
    · exact RO.map fun _ => trivial
    · trivial
  · split
    · exact RO.map fun _ => trivial
    · trivial
  · split
    · exact RO.map fun _ => trivial
    · trivial
section
variable {X : Cx} {W : Wd} {md : Md} {nm : Nm} {fa : Nat → Addr} {j : Nat} {c : Ck} {Wx : WX} {e o : Expr} {pos apos p : Pos} {t : TE} {es : List Expr} {l : Sl → Mo (List RV)} {x y z : Sl → Mo RV}
  {g g0 g' g1 : Gh} {H H0 H' H1 : Hp} {m m' m1 : Mem} {σ : L2.St} {s : Sl} {vs : List V} {xs : List RV} {As : List Addr} {Q : VK} {E : XK}
theorem m_bi (G : GX X W md nm fa j c Wx) (b : BI) (hb : b.ok = true) (hg : c.gl b.nm = true) (ha : PA X (e :: es) (tMs W l Wx)) (hs : (e :: es).all nst = true) :
    PE X (.Call (.Name b.nm p) (e :: es) [] pos) (tM W (fun s => bnd (l s) fun xs => bnd (viewsM xs) fun ds => ofO (biD b ds)) Wx) := by
  rw [List.all_cons, Bool.and_eq_true] at hs
  have h1 := nst_star (env := X.env) hs.1 es
  have h2 := nst_any (env := X.env) (pos := pos) hs.2
  have im : ∀ σ H Q, tM W (fun s => bnd (l s) fun xs => bnd (viewsM xs) fun ds => ofO (biD b ds)) Wx σ H Q → tCB (rBi W b) (tMs W l Wx) σ H Q := fun σ H Q ⟨g, s, m, r, sr, h⟩ => by
    refine (tms_start wish_post r sr h).mono fun us H1 ⟨g1, m1, ys, Bs, A, h⟩ => ?_
    obtain ⟨ds, t, h⟩ := At.viewsG wish_post A A.rv h
    exact ⟨g1.fz, ds, t, A.rR h (biD_ro b ds)⟩
  have nmg : ∀ n : Str, (bootBuiltins n).isSome = true → bootMainNames.contains n = false → X.mg n = none := G.gw.bl
  cases b with
  | len => exact PE.of (pe_callB cr_len (G.gl hg) (nmg _ (by decide +kernel) (by decide +kernel)) rfl ha (by decide) (by decide) h1 h2) im
  | max2 => exact PE.of (pe_callB (cr_max2 G.calm) (G.gl hg) (nmg _ (by decide +kernel) (by decide +kernel)) rfl ha (by decide) (by decide) h1 h2) im
  | abs_ => exact PE.of (pe_callB cr_abs (G.gl hg) (nmg _ (by decide +kernel) (by decide +kernel)) rfl ha (by decide) (by decide) h1 h2) im
  | int_ => exact PE.of (pe_callTy cr_int (G.gl hg) (nmg _ (by decide +kernel) (by decide +kernel)) rfl ha (by decide) (by decide) h1 h2) im
  | str_ => exact PE.of (pe_callTy cr_str (G.gl hg) (nmg _ (by decide +kernel) (by decide +kernel)) rfl ha (by decide) (by decide) h1 h2) im
  | tuple_ => exact PE.of (pe_callTy cr_tuple (G.gl hg) (nmg _ (by decide +kernel) (by decide +kernel)) rfl ha (by decide) (by decide) h1 h2) im
  | list_ => exact PE.of (pe_callTy cr_list (G.gl hg) (nmg _ (by decide +kernel) (by decide +kernel)) rfl ha (by decide) (by decide) h1 h2) im
  | dict_ => exact PE.of (pe_callTy (cr_dict G.calm) (G.gl hg) (nmg _ (by decide +kernel) (by decide +kernel)) rfl ha (by decide) (by decide) h1 h2) im
  | repr_ => exact PE.of (pe_callB (cr_repr G.K G.gd G.units) (G.gl hg) (nmg _ (by decide +kernel) (by decide +kernel)) rfl ha (by decide) (by decide) h1 h2) im
  | all_ => exact PE.of (pe_callB (cr_all G.calm) (G.gl hg) (nmg _ (by decide +kernel) (by decide +kernel)) rfl ha (by decide) (by decide) h1 h2) im
  | any_ => exact PE.of (pe_callB (cr_any G.calm) (G.gl hg) (nmg _ (by decide +kernel) (by decide +kernel)) rfl ha (by decide) (by decide) h1 h2) im
  | sum_ => cases hb
  | sorted_ => cases hb
/-! ### isinstance -/
theorem ty_pe (G : GX X W md nm fa j c Wx) {T : Ty} (h : tyEx nm c T e = true) : PE X e (tC (T.v W)) ∧ ClsV (T.v W) (T.val W) ∧ nst e = true := by
  cases e <;> first | cases h | skip
  rename_i n p
  simp only [tyEx] at h
  rw [Bool.and_eq_true, Bool.and_eq_true] at h
  obtain ⟨⟨h1, h2⟩, h3⟩ := h
  have h2 : (n == ("__debug__" : Str)) = false := by simpa using h2
  have nmg : ∀ n : Str, (bootBuiltins n).isSome = true → bootMainNames.contains n = false → X.mg n = none := G.gw.bl
  have bt : ∀ {nn : Str} {tn : String}, (n == nn) = true → bootBuiltins nn = some (.type tn) → nn ≠ "__name__" → bootMainNames.contains nn = false → PE X (.Name n p) (tC (.ty tn)) := fun {nn tn} e hv ne nm0 => by
    have e := eq_of_beq e
    subst e
    exact pe_bltn (G.gl h1) (nmg _ (by rw [hv]; rfl) nm0) hv rfl ne h2
  cases T with
  | tstr => exact ⟨bt h3 rfl (by decide) (by decide +kernel), .ty _, rfl⟩
  | tint => exact ⟨bt h3 rfl (by decide) (by decide +kernel), .ty _, rfl⟩
  | tbool => exact ⟨bt h3 rfl (by decide) (by decide +kernel), .ty _, rfl⟩
  | tlist => exact ⟨bt h3 rfl (by decide) (by decide +kernel), .ty _, rfl⟩
  | ttuple => exact ⟨bt h3 rfl (by decide) (by decide +kernel), .ty _, rfl⟩
  | tdict => exact ⟨bt h3 rfl (by decide) (by decide +kernel), .ty _, rfl⟩
  | tcls k =>
    have e : nm.cl[k]? = some n := by simpa using h3
    exact ⟨pe_glob (v := .ref (W.ca k)) (u := .ref (W.ca k)) (G.gl h1) (G.gw.cl k n e) rfl h2, .own _, rfl⟩
  | tblt n => cases h3
theorem tyx (G : GX X W md nm fa j c Wx) {P : Addr → Prop} {v : V} {d : D} (t : Top W P H v d) (h1 : noT md.ncl d = true) : TyX X.K H v (tyD W d) := by
  cases d with
  | non => rw [t.non_]; exact .base .non
  | bl b => rw [t.bl_]; exact .base (.bl _)
  | int b => rw [t.int_]; exact .base (.int _)
  | str b => rw [t.str_]; exact .base (.str _)
  | tup ds => obtain ⟨p, ws, rfl, hp, rp⟩ := t; exact .base (.tup hp.1)
  | lst ds => obtain ⟨p, ws, rfl, hp, rp⟩ := t; exact .base (.lst hp)
  | dK ds =>
    obtain ⟨p, ws, rfl, hp, rp⟩ := t
    rcases hp with hp | ⟨o, hp⟩
    · exact .base (.dK hp)
    · exact .fDict hp
  | dT ds => cases h1
  | ins cl fs =>
    obtain ⟨p, dx, ws, rfl, hp, rp⟩ := ins_of t
    have h2 : cl < nm.cl.length := by rw [← G.gw.ncl]; exact of_decide_eq_true h1
    have q : nm.cl[cl]? = some nm.cl[cl] := List.getElem?_eq_getElem h2
    obtain ⟨a1, a2, a3, a4⟩ := G.gw.isc cl _ q
    exact .base (.ins hp (G.gw.cls cl _ q) a1 a2 a3 a4)
theorem isi_view {Ts : List Ty} {v : V} {a : RV} {Bs : List Addr} (A : At W g0 H0 σ s g H m vs xs As) (w : RVR W g H v Bs a)
    (h : Post W g0 H0 (isiM md Ts a m) Q E) : ∃ d, Top W g.fz H v d ∧ Post W g0 H0 (grd (noT md.ncl d) (pur (.d (.bl (Ts.any (tyB md d))))) m) Q E := by
  unfold isiM at h
  cases a with
  | x c p => exact w.elim
  | d d => exact A.view w h
  | o d => exact A.view w h
  | c n => exact A.view w h
  | f n f => exact A.view w h
  | s ns => exact A.view w h
theorem TyX.grow {K : PySem.W.Frag} {v : V} {t : Value} (h : TyX K H v t) (k : Grow H H') : TyX K H' v t := by
  cases h with
  | base h =>
    refine .base ?_
    cases h with
    | non => exact .non
    | bl b => exact .bl b
    | int i => exact .int i
    | str z => exact .str z
    | flt z => exact .flt z
    | lst e => exact .lst (k _ _ e)
    | frz e => exact .frz (k _ _ e)
    | tup e => exact .tup (k _ _ e)
    | dK e => exact .dK (k _ _ e)
    | dT e => exact .dT (k _ _ e)
    | ins e a b c d f => exact .ins (k _ _ e) a b c d f
  | byt b => exact .byt b
  | set e => exact .set (k _ _ e)
  | kList e c => exact .kList e c
  | kTuple e c => exact .kTuple e c
  | kDict e c => exact .kDict e c
  | fTuple e => exact .fTuple (k _ _ e)
  | fDict e => exact .fDict (k _ _ e)
theorem post_grd {b : Bool} {r : Mo RV} (h : Post W g H (grd b r m) Q E) : b = true ∧ Post W g H (r m) Q E := by
  cases b with
  | true => exact ⟨rfl, h⟩
  | false => exact h.elim
theorem isi_nm (G : GX X W md nm fa j c Wx) : X.mg "isinstance" = none := G.gw.bl _ (by decide +kernel) (by decide +kernel)
theorem m_isi1 (G : GX X W md nm fa j c Wx) {T : Ty} {te : Expr} (ha : PE X e (tM W x Wx)) (hs : nst e = true) (hg : c.gl "isinstance" = true) (ht : tyEx nm c T te = true) (hT : T.ok md.ncl = true) :
    PE X (.Call (.Name "isinstance" p) [e, te] [] pos) (tM W (fun s => bnd (x s) fun x => isiM md [T] x) Wx) := by
  obtain ⟨pt, cv, ns⟩ := ty_pe G ht
  have pa : PA X [e, te] (tCons (tM W x Wx) (tCons (tC (T.v W)) tNil)) := pa_cons ha (pa_cons pt pa_nil (nst_star ns [])) (nst_star hs _)
  refine PE.of (pe_callB call_isi (G.gl hg) (isi_nm G) rfl pa (by decide) (by decide) (nst_star hs _) (nst_any (by rw [List.all_cons, ns]; rfl))) fun σ H Q ⟨g, s, m, r, sr, h⟩ => ?_
  refine (tm_step (At.start r sr) h).mono fun v H1 ⟨g1, m1, a, As1, A1, h1⟩ => ?_
  obtain ⟨B1, w1⟩ := A1.rv1
  obtain ⟨d, t1, h2⟩ := isi_view A1 w1 h1
  obtain ⟨k1, h3⟩ := post_grd h2
  refine ⟨v, _, _, _, _, rfl, cv, tyx G t1 k1, G.gw.isi d T k1 hT, ?_⟩
  have e : [T].any (tyB md d) = tyB md d T := by simp
  rw [e] at h3
  exact out_bl A1 h3
theorem tys_pe (G : GX X W md nm fa j c Wx) : ∀ {Ts : List Ty} {tes : List Expr}, (Ts.length == tes.length) = true → (Ts.zip tes).all (fun p => tyEx nm c p.1 p.2) = true →
    ∃ t, PA X tes t ∧ (∀ σ H R, R (Ts.map (Ty.v W)) H → t σ H R) ∧ Paired ClsV (Ts.map (Ty.v W)) (Ts.map (Ty.val W)) ∧ tes.all nst = true
  | [], [], _, _ => ⟨_, pa_nil, fun _ _ _ h => h, .nil, rfl⟩
  | [], _ :: _, h, _ => by cases h
  | _ :: _, [], h, _ => by cases h
  | T :: Ts, te :: tes, h, k => by
    rw [List.zip_cons_cons, List.all_cons, Bool.and_eq_true] at k
    obtain ⟨t, p1, p2, p3, p4⟩ := tys_pe G (Ts := Ts) (tes := tes) (by simpa using h) k.2
    obtain ⟨q1, q2, q3⟩ := ty_pe G k.1
    exact ⟨_, pa_cons q1 p1 (nst_star q3 _), fun σ H R h => p2 σ H _ h, .cons q2 p3, by rw [List.all_cons, q3, p4]; rfl⟩
theorem kit_any (G : GX X W md nm fa j c Wx) {d : D} (k : noT md.ncl d = true) : ∀ (Ts : List Ty), Ts.all (Ty.ok md.ncl) = true → PySem.W.kitAny X.K (tyD W d) (Ts.map (Ty.val W)) = some (Ts.any (tyB md d))
  | [], _ => kitAny_nil
  | T :: Ts, h => by
    rw [List.all_cons, Bool.and_eq_true] at h
    refine kitAny_cons (G.gw.isi d T k h.1) (fun e => ?_) fun e => ?_
    · rw [List.any_cons, e, Bool.false_or]; exact kit_any G k Ts h.2
    · rw [List.any_cons, e, Bool.true_or]
theorem m_isiT (G : GX X W md nm fa j c Wx) {Ts : List Ty} {tes : List Expr} {n : Nat} {pp : Pos} (ha : PE X e (tM W x Wx)) (hs : nst e = true) (hg : c.gl "isinstance" = true) (hl : (Ts.length == tes.length) = true) (ht : (Ts.zip tes).all (fun p => tyEx nm c p.1 p.2) = true) (hT : Ts.all (Ty.ok md.ncl) = true) (h9 : decide (Ts.length < 1000) = true) :
    PE X (.Call (.Name "isinstance" p) [e, .Tuple tes n pp] [] pos) (tM W (fun s => bnd (x s) fun x => isiM md Ts x) Wx) := by
  obtain ⟨t, p1, p2, p3, p4⟩ := tys_pe G hl ht
  have pa : PA X [e, .Tuple tes n pp] (tCons (tM W x Wx) (tCons (tTup t) tNil)) := pa_cons ha (pa_cons (pe_tup p1) pa_nil rfl) (nst_star hs _)
  refine PE.of (pe_callB call_isiT (G.gl hg) (isi_nm G) rfl pa (by decide) (by decide) (nst_star hs _) rfl) fun σ H Q ⟨g, s, m, r, sr, h⟩ => ?_
  refine (tm_step (At.start r sr) h).mono fun v H1 ⟨g1, m1, a, As1, A1, h1⟩ => ?_
  obtain ⟨B1, w1⟩ := A1.rv1
  obtain ⟨d, t1, h2⟩ := isi_view A1 w1 h1
  obtain ⟨k1, h3⟩ := post_grd h2
  refine p2 σ H1 _ ⟨?_, fun q hq => ?_⟩
  · rw [List.length_map]
    have := of_decide_eq_true h9
    show _ ≤ 16777216
    omega
  · have gr : Grow H1 (upd H1 q (.tup (Ts.map (Ty.v W)))) := .upd hq
    have A2 := A1.step (.grow gr) (A1.mr.grow gr)
    refine ⟨v, q, _, _, _, _, rfl, upd_same, p3, ?_, kit_any G k1 Ts hT, out_bl A2 h3⟩
    exact TyX.grow (tyx G t1 k1) gr
/-! ### dict.get -/
theorem post_ofO {α : Type} {f : α → Mo RV} {o : Option α} (h : Post W g H (bnd (ofO o) f m) Q E) : ∃ a, o = some a ∧ Post W g H (f a m) Q E := h.ofOg
theorem flat_rep {P P' : Addr → Prop} {v : V} {d : D} (t : Top W P H v d) (f : flatB d = true) : Rep W P' H d v := by
  cases d <;> first | cases f | skip
  · rw [t.non_]; simp only [Rep]
  · rw [t.bl_]; simp only [Rep]
  · rw [t.int_]; simp only [Rep]
  · rw [t.str_]; simp only [Rep]
theorem isD_of {P : Addr → Prop} {b : BM} {v : V} {d : D} (t : Top W P H v d) (h : bmK b d = true) (hb : b = .get1 ∨ b = .get2) : ∃ a, v = .ref a ∧ IsD H a := by
  have kk : ∀ kvs, d = .dK kvs → ∃ a, v = .ref a ∧ IsD H a := fun kvs e => by
    subst e
    obtain ⟨p, ws, rfl, hp, rp⟩ := t
    exact ⟨p, rfl, .inl ⟨ws, hp⟩⟩
  have kt : ∀ kvs, d = .dT kvs → ∃ a, v = .ref a ∧ IsD H a := fun kvs e => by
    subst e
    obtain ⟨p, ws, rfl, hp, rp⟩ := t
    exact ⟨p, rfl, .inr ⟨ws, hp⟩⟩
  rcases hb with e | e <;> subst e <;> cases d <;> first | exact kk _ rfl | exact kt _ rfl | cases h
/-- what get finds -/
theorem get_fin {P : Addr → Prop} {a : Addr} {y : V} {d k : D} (t : Top W P H (.ref a) d) (ty : Top W P H y k) {o : Option D} (h : gotD d k = some o) : ∃ ov, DGet H a y ov ∧ (∀ r, o = some r → ∃ v, ov = some v ∧ Rep W P H r v) ∧ (o = none → ov = none) := by
  cases d <;> first | (cases h; done) | skip
  · rename_i kvs
    have h : (asK k).map (lookA kvs) = some o := h
    cases q : asK k with
    | none => rw [q] at h; cases h
    | some kk =>
      rw [q] at h
      cases h
      obtain ⟨p, ws, e, hp, rp⟩ := t
      cases e
      exact ⟨valV ws kk, .inl ⟨ws, kk, hp, ty.any.asK q, rfl⟩, (rp.look kk).1, (rp.look kk).2⟩
  · rename_i kvs
    cases k <;> first | (cases h; done) | skip
    rename_i ks
    have h : (asKs ks).map (lookA kvs) = some o := h
    cases q : asKs ks with
    | none => rw [q] at h; cases h
    | some kk =>
      rw [q] at h
      cases h
      obtain ⟨p, ws, e, hp, rp⟩ := t
      cases e
      obtain ⟨b, zs, rfl, h2, r2⟩ := ty
      have ez := r2.asKs q
      subst ez
      exact ⟨valV ws kk, .inr ⟨ws, kk, b, hp, rfl, h2.1, rfl⟩, (rp.look kk).1, (rp.look kk).2⟩
theorem m_get1 (G : GX X W md nm fa j c Wx) {cpos : Pos} (ho : PE X o (tM W x Wx)) (he : PE X e (tM W y Wx)) (hb : nsup o = true) (hli : (apos.endLine == cpos.line) = true) (hs : nst e = true) :
    PE X (.Call (.Attribute o "get" apos) [e] [] cpos) (tM W (fun s => bnd (x s) fun x => bnd (viewM x) fun d => grd (bmK .get1 d) (bnd (bnd (y s) fun a => bnd (pur []) fun as => pur (a :: as)) fun xs => bnd (viewM x) fun d => bnd (viewsM xs) fun ds => ofO (bmD .get1 d ds))) Wx) := by
  have al : [e].all nst = true := by rw [List.all_cons, hs]; rfl
  have M : M1 X o "get" apos e cpos := ⟨nsup_base hb, few_of al rfl, hli, by rw [nst_star hs]; rfl⟩
  refine PE.of (pe_dget1 G.units1 ho he M) fun σ H Q ⟨g, s, m, r, sr, h⟩ => ?_
  refine (tm_step (At.start r sr) h).mono fun v H1 ⟨g1, m1, a, As1, A1, h1⟩ => ?_
  obtain ⟨B1, w1⟩ := A1.rv1
  obtain ⟨d0, t0, h2⟩ := A1.view w1 h1
  obtain ⟨k0, h3⟩ := post_grd h2
  obtain ⟨p, rfl, di⟩ := isD_of t0 k0 (.inl rfl)
  refine ⟨p, rfl, di, ?_⟩
  rw [bnd_bnd] at h3
  refine (tm_step A1 h3).mono fun u H2 ⟨g2, m2, b, As2, A2, h4⟩ => ?_
  obtain ⟨B3, w3⟩ := A2.rv1
  obtain ⟨B4, w4⟩ := A2.rv2
  have h4 : Post W g H (bnd (viewM a) (fun d => bnd (bnd (viewM b) fun v => bnd (pur []) fun vs => pur (v :: vs)) fun ds => ofO (bmD .get1 d ds)) m2) Q (WE Wx σ) := h4
  obtain ⟨d, t, h5⟩ := A2.view w4 h4
  rw [bnd_bnd] at h5
  obtain ⟨k, tk, h6⟩ := A2.view w3 h5
  have h6 : Post W g H (ofO ((gotD d k).map fun o => .d (o.getD .non)) m2) Q (WE Wx σ) := h6
  cases q : gotD d k with
  | none => rw [q] at h6; exact h6.elim
  | some o =>
    rw [q] at h6
    obtain ⟨ov, q1, q2, q3⟩ := get_fin t tk q
    refine ⟨ov, q1, ?_⟩
    cases o with
    | none =>
      rw [q3 rfl]
      exact A2.retD h6 (by show Rep W g2.fz H2 .non .non; simp only [Rep])
    | some r =>
      obtain ⟨w, z1, z2⟩ := q2 r rfl
      rw [z1]
      exact A2.retD h6 z2
theorem m_get2 (G : GX X W md nm fa j c Wx) {cpos : Pos} {f : Expr} (ho : PE X o (tM W x Wx)) (he : PE X e (tM W y Wx)) (hf : PE X f (tM W z Wx)) (hb : nsup o = true) (hli : (apos.endLine == cpos.line) = true) (hs : nst e = true) (hs2 : nst f = true) :
    PE X (.Call (.Attribute o "get" apos) [e, f] [] cpos) (tM W (fun s => bnd (x s) fun x => bnd (viewM x) fun d => grd (bmK .get2 d) (bnd (bnd (y s) fun a => bnd (bnd (z s) fun a => bnd (pur []) fun as => pur (a :: as)) fun as => pur (a :: as)) fun xs => bnd (viewM x) fun d => bnd (viewsM xs) fun ds => ofO (bmD .get2 d ds))) Wx) := by
  have al : [e, f].all nst = true := by rw [List.all_cons, List.all_cons, hs, hs2]; rfl
  have M : M2 X o "get" apos e f cpos := ⟨nsup_base hb, few_of al rfl, hli, by rw [nst_star hs, nst_star hs2]; rfl⟩
  refine PE.of (pe_dget2 G.units1 ho he hf M) fun σ H Q ⟨g, s, m, r, sr, h⟩ => ?_
  refine (tm_step (At.start r sr) h).mono fun v H1 ⟨g1, m1, a, As1, A1, h1⟩ => ?_
  obtain ⟨B1, w1⟩ := A1.rv1
  obtain ⟨d0, t0, h2⟩ := A1.view w1 h1
  obtain ⟨k0, h3⟩ := post_grd h2
  obtain ⟨p, rfl, di⟩ := isD_of t0 k0 (.inr rfl)
  refine ⟨p, rfl, di, ?_⟩
  rw [bnd_bnd] at h3
  refine (tm_step A1 h3).mono fun u H2 ⟨g2, m2, b, As2, A2, h4⟩ => ?_
  rw [bnd_bnd, bnd_bnd] at h4
  refine (tm_step A2 h4).mono fun u2 H3 ⟨g3, m3, b2, As3, A3, h5⟩ => ?_
  obtain ⟨B3, w3⟩ := A3.rv1
  obtain ⟨B4, w4⟩ := A3.rv2
  obtain ⟨B5, w5⟩ := A3.rv3
  have h5 : Post W g H (bnd (viewM a) (fun d => bnd (bnd (viewM b) fun v => bnd (bnd (viewM b2) fun v => bnd (pur []) fun vs => pur (v :: vs)) fun vs => pur (v :: vs)) fun ds => ofO (bmD .get2 d ds)) m3) Q (WE Wx σ) := h5
  obtain ⟨d, t, h6⟩ := A3.view w5 h5
  rw [bnd_bnd] at h6
  obtain ⟨k, tk, h7⟩ := A3.view w4 h6
  rw [bnd_bnd, bnd_bnd] at h7
  obtain ⟨zz, tz, h8⟩ := A3.view w3 h7
  have h8 : Post W g H (ofO (if flatB zz = true then (gotD d k).map fun o => .d (o.getD zz) else none) m3) Q (WE Wx σ) := h8
  by_cases fz : flatB zz = true
  · rw [if_pos fz] at h8
    cases q : gotD d k with
    | none => rw [q] at h8; exact h8.elim
    | some o =>
      rw [q] at h8
      obtain ⟨ov, q1, q2, q3⟩ := get_fin t tk q
      refine ⟨ov, q1, ?_⟩
      cases o with
      | none =>
        rw [q3 rfl]
        exact A3.retD h8 (flat_rep tz fz)
      | some r =>
        obtain ⟨w, z1, z2⟩ := q2 r rfl
        rw [z1]
        exact A3.retD h8 z2
  · rw [if_neg fz] at h8; exact h8.elim
end
end Fw

/-! T18: what is walked. -/
namespace Fw
open PySem PySem.Spec PyProof.Rows L2

/-- a walk over trees: it goes and stops, and gives the items' trees -/
structure WalkD (W : Wd) (J : It) (ds : List D) (G : Gh → Hp → Prop) : Prop where
  stay : ∀ g H m g' H', G g H → MR W g H m → Eff g H g' H' → G g' H'
  more : ∀ g g' H, G g H → More g g' → G g' H
  put : ∀ g H H', G g H → (∀ b o, g.fz b → H b = some o → H' b = some o) → G g H'
  goes : ∀ i g H, i < ds.length → G g H → J.go i H
  stops : ∀ g H, G g H → J.stop ds.length H
  yields : ∀ i g H x H' m d, ds[i]? = some d → G g H → MR W g H m → J.yld i H x H' → ∃ g', Eff g H g' H' ∧ MR W g' H' m ∧ Rep W g'.fz H' d x
def PostI (W : Wd) (g : Gh) (H : Hp) (r : Rs (List D)) (R : It → Hp → Prop) (E : XK) : Prop := match r with
  | .ok ds m => ds.length ≤ 16777216 → ∀ J G g' H', Eff g H g' H' → MR W g' H' m → WalkD W J ds G → G g' H' → R J H'
  | .rz x m => RzP W g H x m E
  | .no => False
/-- what is walked, as the interpreter has it -/
def iD (W : Wd) (x : Sl → Mo (List D)) (Wx : WX) : TI := fun σ H R => ∃ g s m, MR W g H m ∧ SR W g H σ s ∧ PostI W g H (x s m) R (WE Wx σ)
section
variable {X : Cx} {W : Wd} {md : Md} {nm : Nm} {fa : Nat → Addr} {j : Nat} {c : Ck} {Wx : WX} {e o tg : Expr} {pos apos p : Pos} {t : TE} {es : List Expr} {l : Sl → Mo (List RV)} {x y z : Sl → Mo RV}
  {g g0 g' g1 : Gh} {H H0 H' H1 : Hp} {m m' m1 : Mem} {σ : L2.St} {s : Sl} {vs : List V} {xs : List RV} {As : List Addr} {Q : VK} {E : XK}
theorem wish_postI {R : It → Hp → Prop} : Wish W g H (fun r => PostI W g H r R E) E := ⟨fun h => h, fun _ _ h => h⟩
theorem get_len {α β : Type} {as : List α} {bs : List β} (h : as.length = bs.length) {i : Nat} (hi : i < as.length) : ∃ b, bs[i]? = some b := ⟨_, List.getElem?_eq_getElem (by omega)⟩
/-! ### the walks -/
theorem wd_list {K : PySem.W.Frag} {p : Addr} {ds : List D} : WalkD W (Itl K p) ds (fun g H => Rep W g.fz H (.lst ds) (.ref p)) where
  stay := fun g H m g' H' h r e => Rep.eff e r h
  more := fun g g' H h k => Rep.stay k.stay _ _ h
  put := fun g H H' h k => Rep.stay (.of k fun _ f => f) _ _ h
  goes := fun i g H hi h => by
    simp only [Rep] at h
    obtain ⟨a, ws, e, h, r⟩ := h
    cases e
    obtain ⟨b, hb⟩ := get_len r.length hi
    exact ⟨ws, b, .of h.1, hb⟩
  stops := fun g H h => by
    simp only [Rep] at h
    obtain ⟨a, ws, e, h, r⟩ := h
    cases e
    exact ⟨ws, .of h.1, by rw [r.length]; exact Nat.le_refl _⟩
  yields := fun i g H x H' m d hd h r y => by
    obtain ⟨rfl, y⟩ := y
    simp only [Rep] at h
    obtain ⟨a, ws, e, h, rr⟩ := h
    cases e
    obtain ⟨v, e1, e2⟩ := Reps.get rr hd
    have := y ws (.of h.1)
    rw [e1] at this
    cases this
    exact ⟨g, .refl, r, e2⟩
theorem wd_tup {K : PySem.W.Frag} {p : Addr} {ds : List D} : WalkD W (Itt K p) ds (fun g H => Rep W g.fz H (.tup ds) (.ref p)) where
  stay := fun g H m g' H' h r e => Rep.eff e r h
  more := fun g g' H h k => Rep.stay k.stay _ _ h
  put := fun g H H' h k => Rep.stay (.of k fun _ f => f) _ _ h
  goes := fun i g H hi h => by
    simp only [Rep] at h
    obtain ⟨a, ws, e, h, r⟩ := h
    cases e
    obtain ⟨b, hb⟩ := get_len r.length hi
    exact ⟨ws, b, .of h.1, hb⟩
  stops := fun g H h => by
    simp only [Rep] at h
    obtain ⟨a, ws, e, h, r⟩ := h
    cases e
    exact ⟨ws, .of h.1, by rw [r.length]; exact Nat.le_refl _⟩
  yields := fun i g H x H' m d hd h r y => by
    obtain ⟨rfl, y⟩ := y
    simp only [Rep] at h
    obtain ⟨a, ws, e, h, rr⟩ := h
    cases e
    obtain ⟨v, e1, e2⟩ := Reps.get rr hd
    have := y ws (.of h.1)
    rw [e1] at this
    cases this
    exact ⟨g, .refl, r, e2⟩
theorem wd_str {z : Str} : WalkD W (Its z) (z.cps.toList.map fun c => .str ⟨#[c]⟩) (fun _ _ => True) where
  stay := fun g H m g' H' h r e => trivial
  more := fun g g' H h k => trivial
  put := fun g H H' h k => trivial
  goes := fun i g H hi h => by show i < z.cps.size; simpa using hi
  stops := fun g H h => by show z.cps.size ≤ _; simp
  yields := fun i g H x H' m d hd h r y => by
    obtain ⟨rfl, ch, hc, rfl⟩ := y
    have : d = .str ⟨#[ch]⟩ := by
      rw [List.getElem?_map] at hd
      simp [hc] at hd
      exact hd.symm
    subst this
    exact ⟨g, .refl, r, by simp only [Rep]⟩
theorem wd_rng {a b : Int} : WalkD W (Itr a (b - a).toNat) (rngD a b) (fun _ _ => True) where
  stay := fun g H m g' H' h r e => trivial
  more := fun g g' H h k => trivial
  put := fun g H H' h k => trivial
  goes := fun i g H hi h => by
    show i < (b - a).toNat
    have : (rngD a b).length = (b - a).toNat := by simp [rngD]
    rw [← this]; exact hi
  stops := fun g H h => by show (b - a).toNat ≤ _; simp [rngD]
  yields := fun i g H x H' m d hd h r y => by
    obtain ⟨rfl, rfl⟩ := y
    have : d = .int (a + (i : Nat)) := by
      unfold rngD at hd
      rw [List.getElem?_map] at hd
      cases q : (List.range (b - a).toNat)[i]? with
      | none => rw [q] at hd; cases hd
      | some k =>
        rw [q] at hd
        have : i = k := by
          obtain ⟨h1, h2⟩ := List.getElem?_eq_some_iff.mp q
          simpa using h2
        subst this
        cases hd
        rfl
    subst this
    exact ⟨g, .refl, r, by simp only [Rep]⟩
/-- a locked dict stays -/
theorem frz_stay {p : Addr} {ob : Obj} {u : HO} (r : MR W g H m) (f : g.fz p) (h : H p = some (.frz ob u)) (e : Eff g H g' H') : g'.fz p ∧ H' p = some (.frz ob u) :=
  ⟨e.fzm p f, (e.keep p _ h fun z => r.nf p z f).elim id fun z => z.2.1.elim⟩
theorem wd_keys {p : Addr} {ob : Obj} {kvs : List (Key × D)} {ws : List (Key × V)} (hk : kvs.map (·.1) = ws.map (·.1)) : WalkD W (Itk p ob ws) (kvs.map fun q => kD q.1) (fun g H => g.fz p ∧ H p = some (.frz ob (.dK ws))) where
  stay := fun g H m g' H' h r e => frz_stay r h.1 h.2 e
  more := fun g g' H h k => ⟨k.fz _ h.1, h.2⟩
  put := fun g H H' h k => ⟨h.1, k _ _ h.1 h.2⟩
  goes := fun i g H hi h => by
    have : ws.length = kvs.length := by have := congrArg List.length hk; simpa using this.symm
    exact ⟨h.2, by rw [this]; simpa using hi⟩
  stops := fun g H h => by
    have : ws.length = kvs.length := by have := congrArg List.length hk; simpa using this.symm
    exact ⟨h.2, by simp [this]⟩
  yields := fun i g H x H' m d hd h r y => by
    obtain ⟨rfl, k, v, e1, rfl⟩ := y
    have e2 : (ws.map (·.1))[i]? = some k := by rw [List.getElem?_map, e1]; rfl
    rw [← hk, List.getElem?_map] at e2
    rw [List.getElem?_map] at hd
    cases q : kvs[i]? with
    | none => rw [q] at hd; cases hd
    | some z =>
      rw [q] at hd e2
      cases hd
      cases e2
      exact ⟨g, .refl, r, Rep.kD.mpr rfl⟩
theorem wd_keysT {p : Addr} {ob : Obj} {kvs : List (List Key × D)} {ws : List (List Key × V)} (hk : kvs.map (·.1) = ws.map (·.1)) : WalkD W (Itkt p ob ws) (kvs.map fun q => ksD q.1) (fun g H => g.fz p ∧ H p = some (.frz ob (.dT ws))) where
  stay := fun g H m g' H' h r e => frz_stay r h.1 h.2 e
  more := fun g g' H h k => ⟨k.fz _ h.1, h.2⟩
  put := fun g H H' h k => ⟨h.1, k _ _ h.1 h.2⟩
  goes := fun i g H hi h => by
    have : ws.length = kvs.length := by have := congrArg List.length hk; simpa using this.symm
    exact ⟨h.2, by rw [this]; simpa using hi⟩
  stops := fun g H h => by
    have : ws.length = kvs.length := by have := congrArg List.length hk; simpa using this.symm
    exact ⟨h.2, by simp [this]⟩
  yields := fun i g H x H' m d hd h r y => by
    obtain ⟨rfl, k, v, q, e1, rfl, hq⟩ := y
    have e2 : (ws.map (·.1))[i]? = some k := by rw [List.getElem?_map, e1]; rfl
    rw [← hk, List.getElem?_map] at e2
    rw [List.getElem?_map] at hd
    cases qz : kvs[i]? with
    | none => rw [qz] at hd; cases hd
    | some z =>
      rw [qz] at hd e2
      cases hd
      cases e2
      have nq : ¬ Ow g q := fun z => by
        obtain ⟨u, e, mo⟩ := r.mt q z
        rw [hq] at e; cases e; exact mo
      refine ⟨g.add (· = q), Eff.refl.add fun a e => .inr (.inr ⟨_, (congrArg _ e).trans hq⟩), r.add fun a e => ⟨⟨_, (congrArg _ e).trans hq⟩, by rw [e]; exact nq⟩, ?_⟩
      show Rep W _ _ (.tup (z.1.map kD)) (.ref q)
      simp only [Rep]
      exact ⟨q, _, rfl, ⟨hq, .inr rfl⟩, Reps.kDs.mpr rfl⟩
theorem wd_vals {p : Addr} {ob : Obj} {kvs : List (Key × D)} {ws : List (Key × V)} : WalkD W (Itd p ob ws) (kvs.map (·.2)) (fun g H => (g.fz p ∧ H p = some (.frz ob (.dK ws))) ∧ RepA W g.fz H kvs ws) where
  stay := fun g H m g' H' h r e => ⟨frz_stay r h.1.1 h.1.2 e, h.2.stay (e.stay r)⟩
  more := fun g g' H h k => ⟨⟨k.fz _ h.1.1, h.1.2⟩, h.2.stay k.stay⟩
  put := fun g H H' h k => ⟨⟨h.1.1, k _ _ h.1.1 h.1.2⟩, h.2.stay (.of k fun _ f => f)⟩
  goes := fun i g H hi h => ⟨h.1.2, by rw [← h.2.length]; simpa using hi⟩
  stops := fun g H h => ⟨h.1.2, by simp [h.2.length]⟩
  yields := fun i g H x H' m d hd h r y => by
    obtain ⟨rfl, k, e1⟩ := y
    obtain ⟨d', e2, e3⟩ := h.2.get e1
    rw [List.getElem?_map, e2] at hd
    cases hd
    exact ⟨g, .refl, r, e3⟩
theorem enumF_get : ∀ {ds : List D} {k : Int} {i : Nat} {d : D}, (enumF k ds)[i]? = some d → ∃ x, ds[i]? = some x ∧ d = .tup [.int (k + (i : Nat)), x]
  | [], _, _, _, h => by simp [enumF] at h
  | x :: ds, k, 0, d, h => by
    have : d = .tup [.int k, x] := by simpa [enumF] using h.symm
    exact ⟨x, rfl, by rw [this]; simp⟩
  | x :: ds, k, i + 1, d, h => by
    obtain ⟨y, e1, e2⟩ := enumF_get (k := k + 1) (ds := ds) (i := i) (by simpa [enumF] using h)
    refine ⟨y, by simpa using e1, ?_⟩
    rw [e2]
    have : k + 1 + (i : Int) = k + ((i + 1 : Nat) : Int) := by omega
    rw [this]
theorem enumF_length : ∀ (ds : List D) (k : Int), (enumF k ds).length = ds.length
  | [], _ => rfl
  | _ :: ds, k => by rw [enumF, List.length_cons, enumF_length ds, List.length_cons]
/-- a new pair of trees -/
theorem pair_new {T : Addr} {a b : V} {d e : D} (r : MR W g H m) (hT : H T = none) (ha : Rep W g.fz H d a) (hb : Rep W g.fz H e b) :
    ∃ g', Eff g H g' (upd H T (.tup [a, b])) ∧ MR W g' (upd H T (.tup [a, b])) m ∧ Rep W g'.fz (upd H T (.tup [a, b])) (.tup [d, e]) (.ref T) := by
  have k : Grow H (upd H T (.tup [a, b])) := .upd hT
  have st : Stay g.fz (g.add (· = T)).fz H (upd H T (.tup [a, b])) := .of (fun a o _ h => k a o h) fun _ q => .inl q
  refine ⟨g.add (· = T), (Eff.grow k).add fun a e => .inl (by rw [e]; exact hT), (r.grow k).add fun c e => ⟨⟨_, (congrArg _ e).trans upd_same⟩, fun z => ?_⟩, ?_⟩
  · obtain ⟨u, q, _⟩ := r.mt c z
    rw [e, hT] at q; cases q
  · simp only [Rep]
    exact ⟨T, _, rfl, ⟨upd_same, .inr rfl⟩, Reps.mk (Rep.stay st _ _ ha) (Reps.mk (Rep.stay st _ _ hb) Reps.mk0)⟩
theorem wd_enum {K : PySem.W.Frag} {p : Addr} {ds : List D} : WalkD W (Ite K p) (enumF 0 ds) (fun g H => Rep W g.fz H (.lst ds) (.ref p)) where
  stay := fun g H m g' H' h r e => Rep.eff e r h
  more := fun g g' H h k => Rep.stay k.stay _ _ h
  put := fun g H H' h k => Rep.stay (.of k fun _ f => f) _ _ h
  goes := fun i g H hi h => by
    rw [enumF_length] at hi
    simp only [Rep] at h
    obtain ⟨a, ws, e, h, r⟩ := h
    cases e
    obtain ⟨b, hb⟩ := get_len r.length hi
    exact ⟨ws, b, .of h.1, hb⟩
  stops := fun g H h => by
    simp only [Rep] at h
    obtain ⟨a, ws, e, h, r⟩ := h
    cases e
    exact ⟨ws, .of h.1, by rw [enumF_length, r.length]; exact Nat.le_refl _⟩
  yields := fun i g H x H' m d hd h r y => by
    obtain ⟨T, v, rfl, hT, rfl, y⟩ := y
    obtain ⟨d', e1, rfl⟩ := enumF_get hd
    simp only [Rep] at h
    obtain ⟨a, ws, e, h, rr⟩ := h
    cases e
    obtain ⟨u, e2, e3⟩ := Reps.get rr e1
    have := y ws (.of h.1)
    rw [e2] at this
    cases this
    exact pair_new r hT (by simp only [Rep]; rw [Int.zero_add]) e3
/-! ### the iterables -/
/-- one value, frozen, to be walked -/
def oneM (ik : IK) (x : Mo RV) : Mo (List D) := bnd x fun a => bnd (frzsM [a]) fun ds => ofO (itD ik ds)
theorem one_step {ik : IK} {R : It → Hp → Prop} (r : MR W g H m) (sr : SR W g H σ s) (h : PostI W g H (oneM ik (x s) m) R (WE Wx σ)) :
    tM W x Wx σ H fun v H1 => ∃ g1 m1 d items, Eff g H g1 H1 ∧ MR W g1 H1 m1 ∧ Rep W g1.fz H1 d v ∧ itD ik [d] = some items ∧ PostI W g H (.ok items m1) R (WE Wx σ) := by
  refine (tm_stepG wish_postI (At.start r sr) h).mono fun v H1 ⟨g1, m1, a, As1, A1, h1⟩ => ?_
  obtain ⟨ds, g2, m2, k, reps, A2, h2⟩ := A1.frzA wish_postI h1
  cases ds with
  | nil => exact (by have := reps.length; simp at this)
  | cons d ds =>
    obtain ⟨v', w, e, q, rr⟩ := Reps.cons.mp reps
    cases e
    cases ds with
    | cons d2 ds => exact (by have := rr.length; simp at this)
    | nil =>
      have h2 : PostI W g H (ofO (itD ik [d]) m2) R (WE Wx σ) := h2
      cases qi : itD ik [d] with
      | none => rw [qi] at h2; exact h2.elim
      | some items =>
        rw [qi] at h2
        exact ⟨g2, m2, d, items, A2.eff, A2.mr, q, qi, h2⟩
theorem lst_heap {P : Addr → Prop} {ds : List D} {v : V} (h : Rep W P H (.lst ds) v) : ∃ p ws, v = .ref p ∧ H p = some (.lst ws) ∧ Reps W P H ds ws := by
  simp only [Rep] at h
  obtain ⟨p, ws, e, h, r⟩ := h
  exact ⟨p, ws, e, h.1, r⟩
theorem i_seq (he : PE X e (tM W x Wx)) : PI X tg e (iD W (fun s => oneM .seq (x s)) Wx) := by
  refine ⟨fun pins s σ H R I ⟨g, sl, m, r, sr, h⟩ => thn (he.run pins s σ H _ I (one_step r sr h)) fun u s1 ⟨v, H1, I1, rv, g1, m1, d, items, ef, mr, rep, ei, h1⟩ => ?_⟩
  cases d <;> first | (cases ei; done) | skip
  · rename_i zz
    have ei : (if zz.cps.size ≤ 16777216 then some (zz.cps.toList.map fun c => D.str ⟨#[c]⟩) else none) = some items := ei
    split at ei
    case isFalse => cases ei
    rename_i hz
    cases ei
    have ev : v = .str zz := by simpa only [Rep] using rep
    subst ev
    obtain ⟨t, rfl⟩ := rv
    have q := h1 (by simpa using hz) _ _ _ _ ef mr (wd_str (W := W)) trivial
    cases ha : zz.cps.all (· < 128)
    · exact wpAny_pyIter_wide ha (pi_one (tk := s1.toks) I1 _ (turn_str _ zz t "str_iterator" (.inr rfl)) ⟨_, Heap.get?_push_size _ rfl, rfl, rfl⟩ q)
    · exact wpAny_pyIter_ascii ha (pi_one (tk := s1.toks) I1 _ (turn_str _ zz t "str_ascii_iterator" (.inl rfl)) ⟨_, Heap.get?_push_size _ rfl, rfl, rfl⟩ q)
  · rename_i ds
    cases ei
    have rep2 := rep
    simp only [Rep] at rep2
    obtain ⟨p, ws, rfl, hp, rr⟩ := rep2
    obtain rfl : u = Value.ref p := rv
    obtain ⟨its, _, pl, hz⟩ := I1.tuple (.of hp.1)
    exact wpAny_pyIter_tuple (show s1.heap.IsTuple p its.toArray from pl) (pi_one (tk := s1.toks) I1 _ (turn_tuple p _) ⟨_, Heap.get?_push_size _ rfl, rfl, rfl⟩ (h1 (by rw [rr.length]; exact hz) _ _ _ _ ef mr (wd_tup (K := X.K)) rep))
  · rename_i ds
    cases ei
    obtain ⟨p, ws, rfl, hp, rr⟩ := lst_heap rep
    obtain rfl : u = Value.ref p := rv
    obtain ⟨its, _, pl, hz⟩ := I1.list (.of hp)
    exact wpAny_pyIter_list pl.isList (pi_one (tk := s1.toks) I1 _ (turn_list p _) ⟨_, Heap.get?_push_size _ rfl, rfl, rfl⟩ (h1 (by rw [rr.length]; exact hz) _ _ _ _ ef mr (wd_list (K := X.K)) rep))
theorem i_keys (he : PE X e (tM W x Wx)) : PI X tg e (iD W (fun s => oneM .keys (x s)) Wx) := by
  refine ⟨fun pins s σ H R I ⟨g, sl, m, r, sr, h⟩ => thn (he.run pins s σ H _ I (one_step r sr h)) fun u s1 ⟨v, H1, I1, rv, g1, m1, d, items, ef, mr, rep, ei, h1⟩ => ?_⟩
  cases d <;> first | (cases ei; done) | skip
  · rename_i kvs
    cases ei
    simp only [Rep] at rep
    obtain ⟨p, ws, rfl, ⟨rd, fz⟩, rr⟩ := rep
    obtain rfl : u = Value.ref p := rv
    have ks := (RepK.iff.mp rr).keys
    have hz : (kvs.map fun q => kD q.1).length ≤ 16777216 := by
      have := (dk_rd I1.hok rd).1
      rw [List.length_map, (RepK.iff.mp rr).length]
      exact this
    have go : ∀ (ob : Obj) (H2 : Hp), Inv X pins σ H2 s1 → H2 p = some (.frz ob (.dK ws)) → Eff g H g1 H2 → MR W g1 H2 m1 → wpAny (model X.prog X.w) X.A (pyIter (.ref p)) (PIE X pins σ tg R) X.xe s1 := fun ob H2 I2 hp ef mr => by
      obtain ⟨hs, hgd, hx, es, ep, vs, hdt, hsz, kv, hm⟩ := I2.frzK hp
      refine iter_keys hs hgd hx hdt (pi_one (tk := s1.toks) I2 _ (turn_keys _ hdt) ⟨_, Heap.get?_push_size _ rfl, rfl, ?_⟩ (h1 hz _ _ _ _ ef mr (wd_keys ks) ⟨fz, hp⟩))
      rw [hsz] <;> rfl
    rcases rd with hp | ⟨ob, hp⟩
    · obtain ⟨ob, I2⟩ := I1.lock hp trivial
      exact go ob _ I2 upd_same (ef.trans (.lock fz hp trivial)) (mr.lock fz hp trivial)
    · exact go ob _ I1 hp ef mr
  · rename_i kvs
    cases ei
    simp only [Rep] at rep
    obtain ⟨p, ws, rfl, ⟨rd, fz⟩, rr⟩ := rep
    obtain rfl : u = Value.ref p := rv
    have ks := (RepT.iff.mp rr).keys
    have hz : (kvs.map fun q => ksD q.1).length ≤ 16777216 := by
      have := (dt_rd I1.hok rd).1
      rw [List.length_map, (RepT.iff.mp rr).length]
      exact this
    have go : ∀ (ob : Obj) (H2 : Hp), Inv X pins σ H2 s1 → H2 p = some (.frz ob (.dT ws)) → Eff g H g1 H2 → MR W g1 H2 m1 → wpAny (model X.prog X.w) X.A (pyIter (.ref p)) (PIE X pins σ tg R) X.xe s1 := fun ob H2 I2 hp ef mr => by
      obtain ⟨hs, hgd, hx, es, ep, hdt, hsz, ent⟩ := I2.frzT hp
      refine iter_keys hs hgd hx hdt (pi_one (tk := s1.toks) I2 _ (turn_keysT _ hdt) ⟨_, Heap.get?_push_size _ rfl, rfl, ?_⟩ (h1 hz _ _ _ _ ef mr (wd_keysT ks) ⟨fz, hp⟩))
      rw [hsz] <;> rfl
    rcases rd with hp | ⟨ob, hp⟩
    · obtain ⟨ob, I2⟩ := I1.lock hp trivial
      exact go ob _ I2 upd_same (ef.trans (.lock fz hp trivial)) (mr.lock fz hp trivial)
    · exact go ob _ I1 hp ef mr
end
end Fw

/-! T19: enumerate over a tuple; ranges, enumerate as walks. -/
namespace PySem
open Sem (wp)
open AutoSeq1 (wpAny_loadPart')
theorem fw_enum_newT (l : Addr) (its : Array Value) (n : Nat) (dd : Option Addr) (sl : Array (Option Value)) :
    Meets (Builtin.«enumerate.__new__» ⟨[.type "enumerate", .ref l], []⟩) (fun _ R s => s.heap.get? l = some { cls := .type "tuple", dict := dd, data := .seq its n, slots := sl } ∧
      R (.ok (.ret (.ref (s.heap.push { cls := .type "tuple_iterator", data := .fields #[.ref l, .int 0 0] }).objs.size)))
        { s with heap := (s.heap.push { cls := .type "tuple_iterator", data := .fields #[.ref l, .int 0 0] }).push { cls := .type "enumerate", data := .fields #[.none, .bool false, .ref s.heap.objs.size, rawInt 0, .none, .none] } }) :=
  .of_wp fun prog w A R s h => by
    obtain ⟨hp, g, d, tk, os⟩ := s
    obtain ⟨hl, hR⟩ := h
    have hsub := sub_enumerate
    have hT : Heap.IsTuple (Shared.heap ⟨hp, g, d, tk, os⟩) l its := ⟨_, hl, rfl, n, rfl⟩
    wp_walk using wpAny_loadPart' hl
    apply wpAny_stack_any
    intro st
    apply wpAny_pure
    split
    · rename_i cc _ _ _ _ _
      cases (cc == Value.type "enumerate")
      · wp_walk using wpAny_loadPart' hl, wpAny_pyIter_tuple hT
        exact ⟨_, rfl, hR⟩
      · wp_walk using wpAny_loadPart' hl, wpAny_pyIter_tuple hT
        exact ⟨_, rfl, hR⟩
    · wp_walk using wpAny_loadPart' hl, wpAny_pyIter_tuple hT
      exact ⟨_, rfl, hR⟩
section
variable {prog : Program} {w : World} {A : Around} {E : Value → Shared → Prop} {s : Shared}
theorem fw_call_enumT {l : Addr} {its : Array Value} {Q : Value → Shared → Prop} (hT : s.heap.IsTuple l its)
    (h : ∀ h', IsEnum h' (s.heap.objs.size + 1) s.heap.objs.size 0 .none → h'.IsTupleIter s.heap.objs.size l 0 → h'.objs.size = s.heap.objs.size + 2 →
      (∀ b o, s.heap.get? b = some o → h'.get? b = some o) → Q (.ref (s.heap.objs.size + 1)) { s with heap := h' }) :
    wpAny (model prog w) A (call (.type "enumerate") [.ref l]) Q E s := by
  obtain ⟨⟨c, dd, dt, sl⟩, hl, hc, n, hd⟩ := hT
  have hc' : c = .type "tuple" := hc
  have hd' : dt = .seq its n := hd
  rw [hc', hd'] at hl
  refine callType_new F.called_enumerate (by decide) (F.typeCall_enumerate_1 _) (F.newCall_enumerate_1 _) (fun obj => F.args_object_init_2 obj _) F.entry_enumerate_new
    (fw_enum_newT l its n dd sl) ⟨hl, ?_⟩
  have hz : (s.heap.push { cls := .type "tuple_iterator", data := .fields #[.ref l, .int 0 0] }).objs.size = s.heap.objs.size + 1 := Heap.size_push ..
  show _ ∧ _
  rw [hz]
  generalize hB : (Obj.mk (.type "enumerate") none (.fields #[.none, .bool false, .ref s.heap.objs.size, rawInt 0, .none, .none]) #[] : Obj) = ob
  have hg : ((s.heap.push { cls := .type "tuple_iterator", data := .fields #[.ref l, .int 0 0] }).push ob).get? (s.heap.objs.size + 1) = some ob := by
    rw [← hz]
    exact Heap.get?_push_size _ (by rw [← hB]; rfl)
  refine ⟨⟨ob, hg, by rw [← hB]⟩, h _ (by rw [IsEnum, hg, ← hB]) ⟨_, Heap.get?_push_of_some _ (Heap.get?_push_size _ rfl), rfl, rfl⟩ (by rw [Heap.size_push, hz]) fun b o x => Heap.get?_push_of_some _ (Heap.get?_push_of_some _ x)⟩
end
end PySem
namespace Fw
open PySem PySem.Spec PyProof.Rows L2
/-- the tuple at a, its items in new pairs with their places -/
def Itet (K : PySem.W.Frag) (a : Addr) : It where
  go := fun i H => ∃ (xs : List V) (x : V), SqT K H a xs ∧ xs[i]? = some x
  yld := fun i H v H' => ∃ T x, v = .ref T ∧ H T = none ∧ H' = upd H T (.tup [.int (i : Nat), x]) ∧ ∀ xs, SqT K H a xs → xs[i]? = some x
  stop := fun i H => ∃ xs : List V, SqT K H a xs ∧ xs.length = i
theorem turn_enumT {P : Program} {w : World} {K : PySem.W.Frag} {elts : List Expr} {kk : Nat} {tpos : Pos} (a e it : Addr) :
    Turn P w K (.Tuple elts kk tpos) (Itet K a) [e, it] e (fun i h => ((∃ old, IsEnum h e it ((i : Nat) : Int) old) ∧ h.IsTupleIter it a i) ∧ e ≠ it ∧ a ≠ it ∧ a ≠ e) where
  mem := by simp
  obj := fun i h st b hb => by
    obtain ⟨⟨⟨old, he⟩, o, ho, hc, hd⟩, _⟩ := st
    rcases List.mem_cons.mp hb with z | z
    · rw [z]; exact ⟨_, he, fun v q => nomatch q⟩
    · rw [List.mem_singleton.mp z]; exact ⟨o, ho, fun v q => by rw [hd] at q; cases q⟩
  keep := fun i h h' ⟨⟨⟨old, he⟩, hi⟩, hn⟩ k => ⟨⟨⟨old, k e (by simp) _ he⟩, hi.at fun o q => k it (by simp) o q⟩, hn⟩
  item := by
    intro X hP hw hK hc i pins s σ H E I hf st hg
    subst hP hw hK
    obtain ⟨⟨⟨old, he⟩, hit⟩, n1, n2, n3⟩ := st
    obtain ⟨xs, x, hq, hx⟩ := hg
    obtain ⟨its, rv, pl, _⟩ := I.tuple hq
    obtain ⟨u, hu, ru⟩ := rv.get hx
    have hel : e < s.heap.objs.size := Heap.lt_size he
    have hil : it < s.heap.objs.size := by obtain ⟨_, q, _⟩ := hit; exact Heap.lt_size q
    have hlt : i < its.toArray.size := by
      have := (List.getElem?_eq_some_iff.mp hu).1
      simpa using this
    refine wpAny_pyNext_enum_itemD (Draws.tuple (by show X.A.handled = none; exact I.ok.hd hc) it a n2 its.toArray) he ⟨hit, (show s.heap.IsTuple a its.toArray from pl)⟩ hlt n1 (by simp [n1, Ne.symm n3]) fun x2 h' tk hPx ho st' hT hsz hk => ?_
    have ex : x2 = u := by
      have hPx : its.toArray[i]? = some x2 := hPx
      have : its[i]? = some x2 := by simpa using hPx
      rw [hu] at this; cases this; rfl
    subst ex
    refine ⟨_, rfl, wpAny_letOwnedTupleGo_enum (s := { s with heap := h', toks := tk + 1 }) ho fun h2 he' sb => ?_⟩
    have hT2 : h2.get? s.heap.objs.size = some { cls := .type "tuple", data := .seq #[.int i tk, x2] } := (sb.2 _ (Nat.ne_of_gt hel)).trans hT
    have new : ObjOk X.prog X.w (upd H s.heap.objs.size (.tup [.int (i : Nat), x])) h2 s.heap.objs.size (.tup [.int (i : Nat), x]) :=
      ⟨by show 2 ≤ 16777216; omega, [.int i tk, x2], .cons ⟨_, rfl⟩ (.cons ru .nil), ⟨_, hT2, rfl, _, rfl⟩⟩
    have I1 := I.turnedNew (t' := tk + 1) (ch := [e, it]) (fun b ob hb q => (sb.2 b (fun z => hb (by simp [z]))).trans (hk b ob (fun z => hb (by simp [z])) (fun z => hb (by simp [z])) q)) hf (Nat.le_refl _) new
    refine ⟨.ref s.heap.objs.size, _, I1, rfl, ⟨_, x, rfl, I.hok.fresh (Nat.le_refl _), rfl, fun ys hy => by rw [I.tuple_inj hy hq]; exact hx⟩, ⟨⟨⟨x2, ?_⟩, st'.1.at fun o q => (sb.2 it (Ne.symm n1)).trans q⟩, n1, n2, n3⟩, fun b hb => ?_⟩
    · have : ((i + 1 : Nat) : Int) = (i : Int) + 1 := by omega
      rw [this]; exact he'
    · have hb' : b < s.heap.objs.size := by
        rcases List.mem_cons.mp hb with z | z
        · rw [z]; exact hel
        · rw [List.mem_singleton.mp z]; exact hil
      rw [upd_ne (Nat.ne_of_lt hb')]
      exact (hf b hb).1
  done := by
    intro X hP hw hK hc i pins s σ H E I hf st hg
    subst hP hw hK
    obtain ⟨⟨⟨old, he⟩, hit⟩, n1, n2, n3⟩ := st
    obtain ⟨xs, hq, hx⟩ := hg
    obtain ⟨its, rv, pl, _⟩ := I.tuple hq
    obtain ⟨f0, f1, f2, f3, f4, f5⟩ := hf it (by simp)
    have hl : its.toArray.size = i := by rw [← hx, rv.length]; simp
    have D := Draws.tuple (prog := X.prog) (w := X.w) (A := X.A.in1) (by show X.A.handled = none; exact I.ok.hd hc) it a n2 its.toArray
    exact wpAny_pyNext_enum_endD D he ⟨by rw [hl]; exact hit, (show s.heap.IsTuple a its.toArray from pl)⟩ fun h' eb => ⟨rfl, I.turned (t' := s.toks) (fun b o hb q => eb b o hb q) f0 f1 f3 f4 f5⟩
  self := fun A i s Q E ⟨⟨⟨_, he⟩, _⟩, _⟩ h => wpAny_pyIter_enum he h
end Fw

/-! T20: ranges and enumerate as walks; targets. -/
namespace Fw
open PySem PySem.Spec PyProof.Rows L2

section
variable {X : Cx} {W : Wd} {md : Md} {nm : Nm} {fa : Nat → Addr} {j : Nat} {c : Ck} {Wx : WX} {e o tg : Expr} {pos apos p : Pos} {t : TE} {es : List Expr} {l : Sl → Mo (List RV)} {x y z : Sl → Mo RV}
  {g g0 g' g1 : Gh} {H H0 H' H1 : Hp} {m m' m1 : Mem} {σ : L2.St} {s : Sl} {vs : List V} {xs : List RV} {As : List Addr} {Q : VK} {E : XK}
theorem wd_enumT {K : PySem.W.Frag} {p : Addr} {ds : List D} : WalkD W (Itet K p) (enumF 0 ds) (fun g H => Rep W g.fz H (.tup ds) (.ref p)) where
  stay := fun g H m g' H' h r e => Rep.eff e r h
  more := fun g g' H h k => Rep.stay k.stay _ _ h
  put := fun g H H' h k => Rep.stay (.of k fun _ f => f) _ _ h
  goes := fun i g H hi h => by
    rw [enumF_length] at hi
    simp only [Rep] at h
    obtain ⟨a, ws, e, h, r⟩ := h
    cases e
    obtain ⟨b, hb⟩ := get_len r.length hi
    exact ⟨ws, b, .of h.1, hb⟩
  stops := fun g H h => by
    simp only [Rep] at h
    obtain ⟨a, ws, e, h, r⟩ := h
    cases e
    exact ⟨ws, .of h.1, by rw [enumF_length, r.length]⟩
  yields := fun i g H x H' m d hd h r y => by
    obtain ⟨T, v, rfl, hT, rfl, y⟩ := y
    obtain ⟨d', e1, rfl⟩ := enumF_get hd
    simp only [Rep] at h
    obtain ⟨a, ws, e, h, rr⟩ := h
    cases e
    obtain ⟨u, e2, e3⟩ := Reps.get rr e1
    have := y ws (.of h.1)
    rw [e2] at this
    cases this
    exact pair_new r hT (by simp only [Rep]; rw [Int.zero_add]) e3
theorem bnm (G : GX X W md nm fa j c Wx) {n : Str} (h : (bootBuiltins n).isSome = true) (h2 : bootMainNames.contains n = false) : X.mg n = none := G.gw.bl n h h2
theorem i_enum {kk : Nat} {tpos : Pos} (G : GX X W md nm fa j c Wx) (hg : c.gl "enumerate" = true) (he : PE X e (tM W x Wx)) (hs : nst e = true) : PI X (.Tuple es kk tpos) (.Call (.Name "enumerate" p) [e] [] pos) (iD W (fun s => oneM .enum_ (x s)) Wx) := by
  have pa : PA X [e] (tCons (tM W x Wx) tNil) := pa_cons he pa_nil (nst_star hs [])
  refine ⟨fun pins s σ H R I ⟨g, sl, m, r, sr, h⟩ => ?_⟩
  have q0 : tCons (tM W x Wx) tNil σ H fun vs H1 => ∃ v, vs = [v] ∧ ∃ g1 m1 d items, Eff g H g1 H1 ∧ MR W g1 H1 m1 ∧ Rep W g1.fz H1 d v ∧ itD IK.enum_ [d] = some items ∧ PostI W g H (Rs.ok items m1) R (WE Wx σ) :=
    (one_step r sr h).mono fun v H1 z => ⟨v, rfl, z⟩
  refine Call_ (ld_blt I (G.gl hg) (bnm G (by decide +kernel) (by decide +kernel)) boot_enumerate (PyProof.Rows.callWith_type1 (thn (pa.run pos pins s σ H _ I q0) fun us s1 ⟨vs, H1, I1, r1, v, ev, g1, m1, d, items, ef, mr, rep, ei, h1⟩ => ?_) (nst_star hs []) rfl))
  subst ev
  obtain ⟨u, rfl, ru⟩ := vals1 r1
  have fpo : ∀ b, b = s1.heap.objs.size + 1 ∨ b = s1.heap.objs.size → FpOk X pins H1 b := fun b hb => by
    have hle : s1.heap.objs.size ≤ b := by omega
    exact I1.fpOk hle (I1.hok.fresh hle)
  cases d <;> first | (cases ei; done) | skip
  · rename_i ds
    cases ei
    have rep2 := rep
    simp only [Rep] at rep2
    obtain ⟨p, ws, rfl, hp, rr⟩ := rep2
    obtain rfl : u = Value.ref p := ru
    obtain ⟨its, _, pl, hz⟩ := I1.tuple (.of hp.1)
    have hlt : p < s1.heap.objs.size := I1.hok.lt hp.1
    refine fw_call_enumT (show s1.heap.IsTuple p its.toArray from pl) fun h' he hit hsz hk => wpAny_pyIter_enum he ?_
    exact ⟨s1.heap.objs.size + 1, [s1.heap.objs.size + 1, s1.heap.objs.size], _, _, H1, rfl, I1.kept (t' := s1.toks) hk, turn_enumT p (s1.heap.objs.size + 1) s1.heap.objs.size,
      ⟨⟨⟨.none, he⟩, hit⟩, by simp, Nat.ne_of_lt hlt, Nat.ne_of_lt (Nat.lt_succ_of_lt hlt)⟩, fun b hb => fpo b (by simpa using hb), h1 (by rw [enumF_length, rr.length]; exact hz) _ _ _ _ ef mr (wd_enumT (K := X.K)) rep⟩
  · rename_i ds
    cases ei
    obtain ⟨p, ws, rfl, hp, rr⟩ := lst_heap rep
    obtain rfl : u = Value.ref p := ru
    obtain ⟨its, _, pl, hz⟩ := I1.list (.of hp)
    refine call_enumerate_list pl.isList fun h' he hit hsz hk => wpAny_pyIter_enum he ?_
    exact ⟨s1.heap.objs.size + 1, [s1.heap.objs.size + 1, s1.heap.objs.size], _, _, H1, rfl, I1.kept (t' := s1.toks) hk, turn_enum p (s1.heap.objs.size + 1) s1.heap.objs.size,
      ⟨⟨.none, he⟩, hit, by simp⟩, fun b hb => fpo b (by simpa using hb), h1 (by rw [enumF_length, rr.length]; exact hz) _ _ _ _ ef mr (wd_enum (K := X.K)) rep⟩
/-- a range of one bound, of two -/
theorem i_rng1 (G : GX X W md nm fa j c Wx) (hg : c.gl "range" = true) (he : PE X e (tM W x Wx)) (hs : nst e = true) : PI X tg (.Call (.Name "range" p) [e] [] pos) (iD W (fun s => oneM .rng (x s)) Wx) := by
  have pa : PA X [e] (tCons (tM W x Wx) tNil) := pa_cons he pa_nil (nst_star hs [])
  have pi := pi_range1 (tg := tg) (p := p) (pos := pos) (G.gl hg) (bnm G (by decide +kernel) (by decide +kernel)) pa (by rw [nst_star hs]; rfl)
  refine ⟨fun pins s σ H R I ⟨g, sl, m, r, sr, h⟩ => pi.run pins s σ H R I ((one_step r sr h).mono fun v H1 ⟨g1, m1, d, items, ef, mr, rep, ei, h1⟩ => ?_)⟩
  cases d <;> first | (cases ei; done) | skip
  rename_i n
  have ei : (if -(2 ^ 62) ≤ n ∧ n ≤ 16777216 then some (rngD 0 n) else none) = some items := ei
  split at ei
  case isFalse => cases ei
  rename_i hn
  cases ei
  have ev : v = .int n := by simpa only [Rep] using rep
  have hl : (rngD 0 n).length ≤ 16777216 := by
    have : (rngD 0 n).length = (n - 0).toNat := by simp [rngD]
    omega
  have q := h1 hl _ _ _ _ ef mr (wd_rng (W := W) (a := 0) (b := n)) trivial
  rw [Int.sub_zero] at q
  exact ⟨n, by rw [ev], hn.1, by omega, q⟩
theorem i_rng2 (G : GX X W md nm fa j c Wx) {e2 : Expr} (hg : c.gl "range" = true) (pa : PA X [e, e2] (tMs W l Wx)) (hl : ∀ s m ys m', l s m = .ok ys m' → ys.length = 2) (hs : nst e = true) (hs2 : nst e2 = true) :
    PI X tg (.Call (.Name "range" p) [e, e2] [] pos) (iD W (fun s => bnd (l s) fun xs => bnd (frzsM xs) fun ds => ofO (itD .rng ds)) Wx) := by
  have pi := pi_range2 (tg := tg) (p := p) (pos := pos) (G.gl hg) (bnm G (by decide +kernel) (by decide +kernel)) pa (by rw [nst_star hs, nst_star hs2]; rfl) (by rw [nst_star hs2]; rfl)
  refine ⟨fun pins s σ H R I ⟨g, sl, m, r, sr, h⟩ => pi.run pins s σ H R I ?_⟩
  refine (tms_startL wish_postI r sr h).mono fun us H1 ⟨g1, m1, ys, Bs, A, el, h1⟩ => ?_
  obtain ⟨ds, g2, m2, k, reps, A2, h2⟩ := A.frzA wish_postI h1
  have hn : ds.length = 2 := by rw [reps.length, A.rv.length]; exact hl _ _ _ _ el
  match ds, hn, reps, h2 with
  | [d1, d2], _, reps, h2 =>
    obtain ⟨v1, w1, rfl, q1, r1⟩ := Reps.cons.mp reps
    obtain ⟨v2, w2, rfl, q2, r2⟩ := Reps.cons.mp r1
    have e3 := Reps.nil.mp r2
    subst e3
    have h2 : PostI W g H (ofO (itD .rng [d1, d2]) m2) R (WE Wx σ) := h2
    cases d1 with
    | int a =>
      cases d2 with
      | int b =>
        have h3 : PostI W g H (ofO (if (0 ≤ a ∧ a ≤ 16777216) ∧ (-(2 ^ 62) ≤ b ∧ b ≤ 16777216) then some (rngD a b) else none) m2) R (WE Wx σ) := h2
        split at h3
        case isFalse => exact h3.elim
        rename_i hb
        have e1 : v1 = .int a := by simpa only [Rep] using q1
        have e2 : v2 = .int b := by simpa only [Rep] using q2
        have hz : (rngD a b).length ≤ 16777216 := by
          have : (rngD a b).length = (b - a).toNat := by simp [rngD]
          omega
        exact ⟨a, b, by rw [e1, e2], ⟨by omega, by omega, by omega, by omega⟩, h3 hz _ _ _ _ A2.eff A2.mr (wd_rng (W := W)) trivial⟩
      | _ => exact h2.elim
    | _ => exact h2.elim
/-! ### targets -/
def mT (c : Ck) : Tg → Expr → Bool
  | .nm i, .Name x _ => (c.N[i]? == some x) && c.loc x
  | .tp is, .Tuple es _ _ => (is.length == es.length) && (is.zip es).all fun q => match q.2 with
    | .Name x _ => (c.N[q.1]? == some x) && c.loc x
    | _ => false
  | _, _ => false
def Tg.ix : Tg → List Nat
  | .nm i => [i]
  | .tp is => is
def setS (s : Sl) : List Nat → List D → Sl
  | i :: is, d :: ds => setS (s.set i (some (.d d))) is ds
  | _, _ => s
theorem setS_fold : ∀ (is : List Nat) (ds : List D) (s : Sl), (is.zip ds).foldl (fun s p => s.set p.1 (some (.d p.2))) s = setS s is ds
  | [], _, _ => rfl
  | _ :: _, [], _ => rfl
  | i :: is, d :: ds, s => setS_fold is ds (s.set i (some (.d d)))
theorem SR.set {i : Nat} {v : V} {x : Val} (h : SR W g H σ s) (hv : VR W g H v x) : SR W g H (σ.set i (some v)) (s.set i (some x)) := ⟨by rw [List.length_set, List.length_set]; exact h.1, fun k y q => by
  by_cases e : i = k
  · subst e
    have hk : i < s.length := by
      have := (List.getElem?_eq_some_iff.mp q).1
      rwa [List.length_set] at this
    rw [List.getElem?_set_self hk] at q
    cases q
    exact ⟨v, List.getElem?_set_self (by rw [← h.1]; exact hk), hv⟩
  · rw [List.getElem?_set_ne e] at q ⊢
    exact h.2 k y q⟩
/-- a target's reading -/
def TgGo (t : Tg) (gr : TG) : Prop := ∀ (W : Wd) (g : Gh) (H : Hp) (σ : L2.St) (s s' : Sl) (v : V) (d : D) (Q : L2.St → Hp → Prop), SR W g H σ s → Rep W g.fz H d v → setT s t d = some s' →
    (∀ σ', SR W g H σ' s' → σ'.length = σ.length → (∀ i, i ∉ t.ix → σ'[i]? = σ[i]?) → Q σ' H) → gr v σ H Q
def tgGs : List Nat → TGs
  | [] => gNil
  | i :: is => gCons (gName i) (tgGs is)
/-- a tuple or a list taken apart -/
def gTL (K : PySem.W.Frag) (n : Nat) (t : TGs) : TG := fun v σ H Q => gTup K n t v σ H Q ∨ gUnl K n t v σ H Q
theorem PG.or {t u : TG} (h : PG X e t) (k : PG X e u) : PG X e (fun v σ H Q => t v σ H Q ∨ u v σ H Q) := ⟨fun pins s σ H v w Q I r hw => hw.elim (fun z => h.run pins s σ H v w Q I r z) fun z => k.run pins s σ H v w Q I r z⟩
def tgG (K : PySem.W.Frag) : Tg → TG
  | .nm i => gName i
  | .tp is => gTL K is.length (tgGs is)
theorem tgs_go : ∀ {is : List Nat} (g : Gh) (H : Hp) (σ : L2.St) (s : Sl) (vs : List V) (ds : List D) (Q : L2.St → Hp → Prop), SR W g H σ s → Reps W g.fz H ds vs → is.length = ds.length →
        (∀ σ', SR W g H σ' (setS s is ds) → σ'.length = σ.length → (∀ i, i ∉ is → σ'[i]? = σ[i]?) → Q σ' H) → tgGs is vs σ H Q
  | [], g, H, σ, s, vs, ds, Q, sr, r, hl, k => by
    cases ds with
    | nil => exact ⟨Reps.nil.mp r, k σ sr rfl fun _ _ => rfl⟩
    | cons _ _ => cases hl
  | i :: is, g, H, σ, s, vs, ds, Q, sr, r, hl, kk => by
    cases ds with
    | nil => cases hl
    | cons d ds =>
      obtain ⟨v, w, rfl, q, r'⟩ := Reps.cons.mp r
      refine ⟨v, w, rfl, ?_⟩
      refine tgs_go g H _ _ w ds Q (sr.set (i := i) (x := .d d) q) r' (by simpa using hl) fun σ' s1 l1 o1 => kk σ' s1 (by rw [l1, List.length_set]) fun z hz => ?_
      rw [o1 z fun m => hz (List.mem_cons_of_mem _ m), List.getElem?_set_ne fun e => hz (by rw [e]; exact List.mem_cons_self)]
theorem tg_go (K : PySem.W.Frag) (t : Tg) : TgGo t (tgG K t) := by
  intro W g H σ s s' v d Q sr r e k
  cases t with
  | nm i =>
    cases e
    exact k _ (sr.set (x := .d d) r) (by rw [List.length_set]) fun z hz => List.getElem?_set_ne fun e => hz (by rw [e]; exact List.mem_cons_self)
  | tp is =>
    cases d <;> first | (cases e; done) | skip
    · rename_i ds
      have e : (if is.length = ds.length then some ((is.zip ds).foldl (fun s p => s.set p.1 (some (.d p.2))) s) else none) = some s' := e
      split at e
      case isFalse => cases e
      rename_i hl
      rw [setS_fold] at e
      cases e
      simp only [Rep] at r
      obtain ⟨a, ws, rfl, hp, rr⟩ := r
      exact .inl ⟨a, ws, rfl, .of hp.1, by rw [← rr.length, hl], tgs_go g H σ s ws ds Q sr rr hl k⟩
    · rename_i ds
      have e : (if is.length = ds.length then some ((is.zip ds).foldl (fun s p => s.set p.1 (some (.d p.2))) s) else none) = some s' := e
      split at e
      case isFalse => cases e
      rename_i hl
      rw [setS_fold] at e
      cases e
      simp only [Rep] at r
      obtain ⟨a, ws, rfl, hp, rr⟩ := r
      exact .inr ⟨a, ws, rfl, .of hp.1, by rw [← rr.length, hl], tgs_go g H σ s ws ds Q sr rr hl k⟩
theorem tgs_ok (G : GX X W md nm fa j c Wx) : ∀ {is : List Nat} {es : List Expr}, is.length = es.length → (is.zip es).all (fun q => match q.2 with
    | .Name x _ => (c.N[q.1]? == some x) && c.loc x
    | _ => false) = true → PGs X es (tgGs is) ∧ (assignEach es X.env).length = is.length ∧ (assignEach es X.env).findIdx? (·.1) = none
  | [], [], _, _ => ⟨pgs_nil, rfl, rfl⟩
  | [], _ :: _, h, _ => by cases h
  | _ :: _, [], h, _ => by cases h
  | i :: is, e :: es, h, k => by
    rw [List.zip_cons_cons, List.all_cons, Bool.and_eq_true] at k
    obtain ⟨p1, p2, p3⟩ := tgs_ok G (is := is) (es := es) (by simpa using h) k.2
    have k1 := k.1
    cases e <;> first | (cases k1; done) | skip
    rename_i x px
    have k1 : ((c.N[i]? == some x) && c.loc x) = true := k1
    rw [Bool.and_eq_true] at k1
    obtain ⟨hL, hf⟩ := G.loc k1.2
    have hN : X.N[i]? = some x := by rw [G.N]; exact eq_of_beq k1.1
    refine ⟨pgs_cons (pg_name (pos := px) (by rw [G.N]; exact G.nd) hN hL hf) p1 rfl, ?_, ?_⟩
    · show (assignEach es X.env).length + 1 = _
      rw [p2]; rfl
    · show List.findIdx? (·.1) ((false, assign (.Name x px) X.env) :: assignEach es X.env) = none
      rw [List.findIdx?_cons]
      simp only [Bool.false_eq_true, if_false, p3]
      rfl
theorem tg_ok (G : GX X W md nm fa j c Wx) {t : Tg} (h : mT c t tg = true) : PG X tg (tgG X.K t) := by
  cases t with
  | nm i =>
    cases tg <;> first | (cases h; done) | skip
    rename_i x px
    have h : ((c.N[i]? == some x) && c.loc x) = true := h
    rw [Bool.and_eq_true] at h
    obtain ⟨hL, hf⟩ := G.loc h.2
    exact pg_name (by rw [G.N]; exact G.nd) (by rw [G.N]; exact eq_of_beq h.1) hL hf
  | tp is =>
    cases tg <;> first | (cases h; done) | skip
    rename_i es kk px
    have h : ((is.length == es.length) && (is.zip es).all fun q => match q.2 with
      | .Name x _ => (c.N[q.1]? == some x) && c.loc x
      | _ => false) = true := h
    rw [Bool.and_eq_true] at h
    obtain ⟨p1, p2, p3⟩ := tgs_ok G (eq_of_beq h.1) h.2
    exact PG.or (pg_tup G.calm p1 p2 p3) (pg_unl G.calm p1 p2 p3)
end
end Fw

/-! T21: list comprehensions. -/
namespace Fw
open PySem PySem.Spec PyProof.Rows L2

/-- the block's names -/
def Ck.blk (c : Ck) (scope : Scope) : Ck := ⟨c.N, relS scope c.sc, fun x => scope.names.lookup x == some .cell⟩
abbrev noX : WX := fun _ _ _ _ => False
section
variable {X : Cx} {W : Wd} {md : Md} {nm : Nm} {fa : Nat → Addr} {j : Nat} {c : Ck} {Wx : WX} {e o tg : Expr} {pos apos p : Pos} {t : TE} {es : List Expr} {l : Sl → Mo (List RV)} {x y z : Sl → Mo RV}
  {g g0 g' g1 : Gh} {H H0 H' H1 : Hp} {m m' m1 : Mem} {σ : L2.St} {s : Sl} {vs : List V} {xs : List RV} {As : List Addr} {Q : VK} {E : XK}
theorem GX.blk (G : GX X W md nm fa j c Wx) (scope : Scope) (s : Shared) (H : Hp) (C : Addr) (cl : List (Str × Addr)) (fp : List Addr) : GX (X.blk s H scope (compEnvC scope cl C X.env) fp) W md nm fa j (c.blk scope) noX where
  K := G.K
  calm := G.calm
  N := G.N
  nd := G.nd
  sc := by
    show relabel scope X.env = relS scope c.sc
    rw [← G.sc]
    rfl
  ck := fun x h => h
  room := G.room
  tk := fun u s' ⟨a, B, sI, pins, σ, H, cls, d, e, I, nb, up, sky, na, os, ag, w⟩ => w.elim
  gd := G.gd
  gw := G.gw
/-! ### slots forgotten -/
theorem wipe_get (σ : L2.St) : ∀ (vs : List Nat) (i : Nat), (wipe σ vs)[i]? = if i ∈ vs then (if i < σ.length then some none else none) else σ[i]?
  | [], i => by simp [wipe]
  | v :: vs, i => by
    unfold wipe
    by_cases e : v = i
    · subst e
      by_cases h : v < σ.length
      · rw [List.getElem?_set_self (by rw [wipe_length]; exact h)]
        simp [h]
      · rw [List.getElem?_eq_none (by rw [List.length_set, wipe_length]; omega)]
        simp [h]
    · rw [List.getElem?_set_ne e, wipe_get σ vs i]
      have : (i ∈ v :: vs) ↔ i ∈ vs := by simp [Ne.symm e]
      simp only [this]
theorem wipe_eq {σ σ' : L2.St} {vs : List Nat} (hl : σ'.length = σ.length) (h : ∀ i, i ∉ vs → σ'[i]? = σ[i]?) : wipe σ' vs = wipe σ vs := by
  apply List.ext_getElem?
  intro i
  rw [wipe_get, wipe_get, hl]
  by_cases e : i ∈ vs
  · rw [if_pos e, if_pos e]
  · rw [if_neg e, if_neg e, h i e]
theorem wipe_wipe {σ σ' : L2.St} {vs : List Nat} (hl : σ'.length = (wipe σ vs).length) (h : ∀ i, i ∉ vs → σ'[i]? = (wipe σ vs)[i]?) : wipe σ' vs = wipe σ vs := by
  apply wipe_eq (by rw [hl, wipe_length])
  intro i hi
  rw [h i hi, wipe_get, if_neg hi]
theorem wipeS_length (s : Sl) : ∀ vs : List Nat, (wipeS s vs).length = s.length
  | [] => rfl
  | v :: vs => by unfold wipeS; rw [List.length_set, wipeS_length s vs]
theorem wipeS_get (s : Sl) : ∀ (vs : List Nat) (i : Nat) (x : Val), (wipeS s vs)[i]? = some (some x) → i ∉ vs ∧ s[i]? = some (some x)
  | [], i, x, h => ⟨by simp, h⟩
  | v :: vs, i, x, h => by
    unfold wipeS at h
    by_cases e : v = i
    · subst e
      by_cases hl : v < (wipeS s vs).length
      · rw [List.getElem?_set_self hl] at h; cases h
      · rw [List.getElem?_eq_none (by rw [List.length_set]; omega)] at h; cases h
    · rw [List.getElem?_set_ne e] at h
      obtain ⟨h1, h2⟩ := wipeS_get s vs i x h
      exact ⟨fun z => (List.mem_cons.mp z).elim (fun q => e q.symm) h1, h2⟩
theorem SR.wipe (h : SR W g H σ s) (vs : List Nat) : SR W g H (L2.wipe σ vs) (wipeS s vs) := ⟨by rw [wipeS_length, wipe_length]; exact h.1, fun i x q => by
  obtain ⟨h1, h2⟩ := wipeS_get s vs i x q
  obtain ⟨v, e1, e2⟩ := h.2 i x h2
  exact ⟨v, by rw [wipe_get, if_neg h1]; exact e1, e2⟩⟩
/-! ### the new list grows -/
/-- an object of ours is written -/
theorem At.put {Dd : Addr} {d d' : D} {u : HO} (A : At W g0 H0 σ s g H m [.ref Dd] [.o d] [Dd]) (mo : MutO u) (ow : Own W g.fz (upd H Dd u) Dd [Dd] d') : At W g0 H0 σ s g (upd H Dd u) m [.ref Dd] [.o d'] [Dd] := by
  have nf : ¬ g.fz Dd := A.tm.fz Dd (List.mem_singleton.mpr rfl)
  have no : ¬ Ow g Dd := A.tm.ow Dd (List.mem_singleton.mpr rfl)
  obtain ⟨o0, h0, m0⟩ := A.tm.mt Dd (List.mem_singleton.mpr rfl)
  have k : ∀ b, b ≠ Dd → upd H Dd u b = H b := fun b hb => upd_ne hb
  have st : Stay g.fz g.fz H (upd H Dd u) := .of (fun a o f e => by rw [k a fun z => nf (by rw [← z]; exact f)]; exact e) fun _ f => f
  refine ⟨⟨fun b o e n => ?_, A.eff.fzm, A.eff.fzn, A.eff.asn, A.eff.rtp, A.eff.frp⟩, ⟨A.mr.l1, A.mr.l2, A.mr.l3, fun n w e => ?_, A.mr.nd, A.mr.dj, A.mr.nf, fun b o => ?_, fun b f => ?_⟩, ⟨A.sr.1, fun i x q => ?_⟩, ?_, ⟨by simp, fun b hb => ?_, fun b hb => ?_, fun b hb => ?_⟩, A.nw⟩
  · by_cases hb : b = Dd
    · subst hb
      rcases A.nw b (List.mem_singleton.mpr rfl) with z | z
      · rw [z] at e; cases e
      · exact (n z).elim
    · rw [k b hb]
      exact A.eff.keep b o e n
  · obtain ⟨a, l, Bs, e1, e2, e3, ok⟩ := A.mr.cell n w e
    exact ⟨a, l, Bs, e1, e2, e3, ok.keep st fun b hb o q => by rw [k b fun z => no (by rw [← z]; exact ⟨n, Bs, e3, hb⟩)]; exact q⟩
  · rw [k b fun z => no (by rw [← z]; exact o)]
    exact A.mr.mt b o
  · rw [k b fun z => nf (by rw [← z]; exact f)]
    exact A.mr.ft b f
  · obtain ⟨v, e1, e2⟩ := A.sr.2 i x q
    refine ⟨v, e1, ?_⟩
    cases x with
    | d d => exact Rep.stay st _ _ e2
    | c n => exact e2
    | x c p => exact e2
    | s ns =>
      obtain ⟨a, e3, e4⟩ := e2
      refine ⟨a, e3, e4.keep fun ob e4 => ?_⟩
      have : a ≠ Dd := fun z => by rw [z, h0] at e4; cases e4; exact m0
      rw [k a this]; exact e4
  · have : RVR W g (upd H Dd u) (.ref Dd) [Dd] (.o d') := ⟨Dd, rfl, ow⟩
    exact .cons this .nil
  · rw [List.mem_singleton.mp hb]; exact nf
  · rw [List.mem_singleton.mp hb]; exact no
  · rw [List.mem_singleton.mp hb]; exact ⟨u, upd_same, mo⟩
/-- the slots are others -/
theorem At.slots {σ' : L2.St} {s' : Sl} (A : At W g0 H0 σ s g H m vs xs As) (h : SR W g H σ' s') : At W g0 H0 σ' s' g H m vs xs As := ⟨A.eff, A.mr, h, A.rv, A.tm, A.nw⟩
def iM (ik : IK) (l : Mo (List RV)) : Mo (List D) := bnd l fun xs => bnd (frzsM xs) fun ds => ofO (itD ik ds)
def lcF (own : List Nat) (t : Tg) (ts : Sl → Mo Bool) (x : Sl → Mo RV) (s : Sl) : D → Mo (Option D) := fun d => nrz (bnd (ofO (setT (wipeS s own) t d)) fun s' => bnd (ts s') fun b => (match b with
        | true => bnd (x s') fun y => bnd (frzM y) fun y => pur (some y)
        | false => pur none))
theorem SR.more (h : SR W g H σ s) (k : More g g') : SR W g' H σ s := ⟨h.1, fun i x q => by
  obtain ⟨v, e1, e2⟩ := h.2 i x q
  exact ⟨v, e1, e2.more k⟩⟩
theorem nrz_ok {α : Type} {x : Mo α} {P : Rs α → Prop} (w : Wish W g0 H0 P E) (h : P (nrz x m)) : ∃ a m1, x m = .ok a m1 ∧ P (.ok a m1) := by
  unfold nrz at h
  cases e : x m with
  | ok a m1 => rw [e] at h; exact ⟨a, m1, rfl, h⟩
  | rz a m1 => rw [e] at h; exact (w.no h).elim
  | no => rw [e] at h; exact (w.no h).elim
theorem bnd_inv {α β : Type} {x : Mo α} {f : α → Mo β} {b : β} {m m' : Mem} (h : bnd x f m = .ok b m') : ∃ a m1, x m = .ok a m1 ∧ f a m1 = .ok b m' := by
  cases e : x m with
  | ok a m1 => rw [bnd_ok e] at h; exact ⟨a, m1, rfl, h⟩
  | rz a m1 => rw [bnd_rzo e] at h; cases h
  | no => rw [bnd_noo e] at h; cases h
theorem ofO_inv {α : Type} {o : Option α} {a : α} (h : ofO o m = .ok a m') : o = some a ∧ m = m' := by
  cases o with
  | none => cases h
  | some b => cases h; exact ⟨rfl, rfl⟩
theorem lc_read {it : Sl → Mo (List D)} {ts : Sl → Mo Bool} {x : Sl → Mo RV} {own : List (Str × Nat)} {t : Tg} {K : PySem.W.Frag} (hown : ∀ i ∈ t.ix, i ∈ own.map (·.2)) {σ : L2.St} {H : Hp} {Q : VK}
    (h : tM W (fun s => bnd (it s) fun items => bnd (lcM (lcF (own.map (·.2)) t ts x s) items) fun ys => pur (.o (.lst ys))) Wx σ H Q) : tLc (iD W it Wx) (tgG K t) (tT W ts noX) (tM W x noX) (own.map (·.2)) σ H Q := by
  obtain ⟨g, s, m, r, sr, h⟩ := h
  refine ⟨g, s, m, r, sr, ?_⟩
  have h : Post W g H (bnd (it s) (fun items => bnd (lcM (lcF (own.map (·.2)) t ts x s) items) fun ys => pur (.o (.lst ys))) m) Q (WE Wx σ) := h
  cases ei : it s m with
  | no => rw [bnd_noo ei] at h; exact h.elim
  | rz a m1 => rw [bnd_rzo ei] at h; exact h
  | ok items m1 =>
    rw [bnd_ok ei] at h
    intro hlen J Gd g1 H1 ef mr wd gd D hD
    refine ⟨fun i k H' => k = items.length - i ∧ i ≤ items.length ∧ ∃ g' m' ys, At W g H σ s g' H' m' [.ref D] [.o (.lst ys)] [D] ∧ Gd g' H' ∧ ys.length ≤ i ∧
      Post W g H (bnd (lcM (lcF (own.map (·.2)) t ts x s) (items.drop i)) (fun zs => pur (.o (.lst (ys ++ zs)))) m') Q (WE Wx σ), ⟨items.length, ?_⟩, ?_⟩
    · have k : Grow H1 (upd H1 D (.lst [])) := .upd hD
      have gr := Eff.grow (g := g1) k
      refine ⟨rfl, Nat.zero_le _, g1, m1, [], ⟨ef.trans gr, mr.grow k, sr.eff r (ef.trans gr), ?_, ⟨by simp, fun b hb z => ?_, fun b hb z => ?_, fun b hb => ?_⟩, fun b hb => ?_⟩, wd.stay _ _ _ _ _ gd mr gr, Nat.zero_le _, h⟩
      · have : RVR W g1 (upd H1 D (.lst [])) (.ref D) [D] (.o (.lst [])) := ⟨D, rfl, [], upd_same, Reps.mk0, rfl⟩
        exact .cons this .nil
      · rw [List.mem_singleton.mp hb] at z
        obtain ⟨u, e⟩ := mr.ft D z
        rw [hD] at e; cases e
      · rw [List.mem_singleton.mp hb] at z
        obtain ⟨u, e, _⟩ := mr.mt D z
        rw [hD] at e; cases e
      · rw [List.mem_singleton.mp hb]
        exact ⟨_, upd_same, trivial⟩
      · rw [List.mem_singleton.mp hb]
        by_cases ow : Ow g D
        · exact .inr ow
        · cases e : H D with
          | none => exact .inl rfl
          | some u => exact (ef.there e ow hD).elim
    · rintro i k H' ⟨ek, hi', g', m', ys, A, gd', hy, hp⟩
      by_cases hlt : i < items.length
      · refine .inr ⟨wd.goes i g' H' hlt gd', _, fun H2 z => ⟨items.length - (i + 1), by omega, z⟩, fun x' H2 hyl => ?_⟩
        have hd : items[i]? = some items[i] := List.getElem?_eq_getElem hlt
        obtain ⟨g2, ef2, mr2, rep⟩ := wd.yields i g' H' x' H2 m' _ hd gd' A.mr hyl
        have A1 := A.step ef2 mr2
        have gd2 := wd.stay _ _ _ _ _ gd' A.mr ef2
        rw [List.drop_eq_getElem_cons hlt] at hp
        have hp : Post W g H (bnd (bnd (lcF (own.map (·.2)) t ts x s items[i]) fun y => bnd (lcM (lcF (own.map (·.2)) t ts x s) (items.drop (i + 1))) fun ys => pur (match y with
          | some y => y :: ys
          | none => ys)) (fun zs => pur (.o (.lst (ys ++ zs)))) m') Q (WE Wx σ) := hp
        rw [bnd_bnd] at hp
        cases ef' : lcF (own.map (·.2)) t ts x s items[i] m' with
        | no => rw [bnd_noo ef'] at hp; exact hp.elim
        | rz a m2 =>
          exfalso
          unfold lcF nrz at ef'
          split at ef' <;> cases ef'
        | ok yo m2 =>
          rw [bnd_ok ef', bnd_bnd] at hp
          have e1 : bnd (ofO (setT (wipeS s (own.map (·.2))) t items[i])) (fun s' => bnd (ts s') fun b => (match b with
            | true => bnd (x s') fun y => bnd (frzM y) fun y => pur (some y)
            | false => pur none)) m' = .ok yo m2 := by
            unfold lcF nrz at ef'
            split at ef'
            · rename_i e; rw [e]; exact ef'
            · cases ef'
          obtain ⟨s', m3, q1, q2⟩ := bnd_inv e1
          obtain ⟨q3, q4⟩ := ofO_inv q1
          subst q4
          obtain ⟨b, m4, q5, q6⟩ := bnd_inv q2
          apply tg_go K t W g2 H2 (wipe σ (own.map (·.2))) _ s' x' items[i] _ (A1.sr.wipe _) rep q3
          intro σ2 sr2 l2 o2
          refine ⟨wipe_wipe l2 fun k hk => o2 k fun z => hk (hown k z), g2, s', m', mr2, sr2, ?_⟩
          rw [q5]
          intro g3 H3 ef3 mr3
          have A3 := (A1.slots sr2).step ef3 mr3
          have srs := A1.sr.eff A1.mr ef3
          have gd3 := wd.stay _ _ _ _ _ gd2 mr2 ef3
          cases b with
          | false =>
            cases q6
            rw [if_neg Bool.false_ne_true]
            exact ⟨rfl, hlt, g3, m2, ys, A3.slots srs, gd3, Nat.le_succ_of_le hy, hp⟩
          | true =>
            rw [if_pos rfl]
            obtain ⟨rv, m5, q7, q8⟩ := bnd_inv q6
            refine ⟨g3, s', m4, mr3, A3.sr, ?_⟩
            rw [q7]
            intro v g4 H4 Bs o4
            have A4 := A3.next o4
            have gd4 := wd.stay _ _ _ _ _ gd3 mr3 o4.eff
            obtain ⟨yd, m6, q9, q10⟩ := bnd_inv q8
            cases q10
            obtain ⟨d, g5, m7, mo, rep5, A5, q11⟩ := At.frzG (P := fun r : Rs (Option Fw.D) => r = .ok (some yd) m2) (f := fun y => pur (some y)) (E := WE noX σ2) ⟨(fun h => nomatch h), (fun _ _ h => nomatch h)⟩ A4 o4.rv (A3.rv.eff A3.mr A3.tm o4.eff) q8
            cases q11
            have gd5 : Gd g5 H4 := wd.more _ _ _ gd4 mo
            have w5 : ∃ acc, H4 D = some (.lst acc) ∧ Reps W g5.fz H4 ys acc := by
              obtain ⟨Cs, a, e, acc, h2, h3, _⟩ := A5.rv1
              cases e
              exact ⟨acc, h2, h3⟩
            obtain ⟨acc, ha, ra⟩ := w5
            have nf : ¬ g5.fz D := A5.tm.fz D (List.mem_singleton.mpr rfl)
            have st : Stay g5.fz g5.fz H4 (upd H4 D (.lst (acc ++ [v]))) := .of (fun a o f e => by rw [upd_ne fun z => nf (by rw [← z]; exact f)]; exact e) fun _ f => f
            have A6 := (A5.slots ((srs.eff A3.mr o4.eff).more mo)).put (d' := .lst (ys ++ [yd])) (u := .lst (acc ++ [v])) trivial ⟨_, upd_same, Reps.stay st _ _ (ra.app (Reps.mk rep5 Reps.mk0)), rfl⟩
            refine ⟨acc, ha, ?_, rfl, hlt, g5, m2, ys ++ [yd], A6, ?_, by rw [List.length_append]; exact Nat.succ_le_succ hy, ?_⟩
            · have := ra.length
              show acc.length < 16777216
              omega
            · exact wd.put _ _ _ gd5 fun b o f e => by rw [upd_ne fun z => nf (by rw [← z]; exact f)]; exact e
            · have e : (fun zs => pur (RV.o (.lst (ys ++ [yd] ++ zs))) : List Fw.D → Mo RV) = fun zs => pur (RV.o (.lst (ys ++ (yd :: zs)))) := by
                funext zs
                rw [List.append_assoc]; rfl
              rw [e]
              exact hp
      · have e : i = items.length := by omega
        subst e
        refine .inl ⟨wd.stops g' H' gd', ?_⟩
        rw [List.drop_length] at hp
        have hp : Post W g H (.ok (.o (.lst (ys ++ []))) m') Q (WE Wx σ) := hp
        rw [List.append_nil] at hp
        exact A.retV hp
theorem m_lc (G : GX X W md nm fa j c Wx) {it : Sl → Mo (List D)} {ts : Sl → Mo Bool} {elt tg iter : Expr} {ifs : List Expr} {scope : Scope} {own : List (Str × Nat)} {t : Tg}
    (hi : PI X tg iter (iD W it Wx)) (ok : BlkOk X.N X.env.scope scope own) (hown : ∀ i ∈ t.ix, i ∈ own.map (·.2)) (ht : mT (c.blk scope) t tg = true)
    (hifs : ∀ (s : Shared) (H : Hp) (C : Addr) (cl : List (Str × Addr)) (fp : List Addr), PTs (X.blk s H scope (compEnvC scope cl C X.env) fp) ifs (tT W ts noX))
    (he : ∀ (s : Shared) (H : Hp) (C : Addr) (cl : List (Str × Addr)) (fp : List Addr), PE (X.blk s H scope (compEnvC scope cl C X.env) fp) elt (tM W x noX))
    (hs : ∀ v, foldedSetIterable iter X.env v = pure v) :
    PE X (.ListComp elt [⟨tg, iter, ifs, 0⟩] scope pos) (tM W (fun s => bnd (it s) fun items => bnd (lcM (lcF (own.map (·.2)) t ts x s) items) fun ys => pur (.o (.lst ys))) Wx) := by
  have tgr : ∀ (s : Shared) (H : Hp) (C : Addr) (cl : List (Str × Addr)) (fp : List Addr), PG (X.blk s H scope (compEnvC scope cl C X.env) fp) tg (tgG X.K t) := fun s H C cl fp => tg_ok (G.blk scope s H C cl fp) ht
  exact PE.of (pe_lc G.calm (by rw [G.N]; exact G.nd) hi ok tgr hifs he hs) fun σ H Q h => lc_read hown h

end
end Fw

/-! T22: the text's expressions taken apart; reversed slices; one-test clauses. -/
namespace Fw
open PySem PySem.Spec PyProof.Rows L2

def vName : Expr → Option (Str × Pos)
  | .Name x p => some (x, p)
  | _ => none
def vConst : Expr → Option (Const × Nat × Pos)
  | .Constant k n p => some (k, n, p)
  | _ => none
def vBin : Expr → Option (Expr × Operator × Expr × Pos)
  | .BinOp a o b p => some (a, o, b, p)
  | _ => none
def vUn : Expr → Option (UnaryOp × Expr × Pos)
  | .UnaryOp o a p => some (o, a, p)
  | _ => none
def vCmp : Expr → Option (Expr × CmpOp × Expr × Pos)
  | .Compare a [o] [b] p => some (a, o, b, p)
  | _ => none
def vBool : Expr → Option (BoolOp × Expr × Expr × List Expr × Pos)
  | .BoolOp o (a :: b :: r) p => some (o, a, b, r, p)
  | _ => none
def vIf : Expr → Option (Expr × Expr × Expr × Pos)
  | .IfExp a b d p => some (a, b, d, p)
  | _ => none
def vCall : Expr → Option (Str × Pos × List Expr × Pos)
  | .Call (.Name x p) as [] q => some (x, p, as, q)
  | _ => none
def vMeth : Expr → Option (Expr × Str × Pos × List Expr × Pos)
  | .Call (.Attribute o n p) as [] q => some (o, n, p, as, q)
  | _ => none
def vAttr : Expr → Option (Expr × Str × Pos)
  | .Attribute o n p => some (o, n, p)
  | _ => none
def vSub : Expr → Option (Expr × Expr × Pos)
  | .Subscript a b p => some (a, b, p)
  | _ => none
def vSl : Expr → Option (Option Expr × Option Expr × Pos)
  | .Slice a b none p => some (a, b, p)
  | _ => none
def vRev : Expr → Option (Nat × Pos × Pos × Pos)
  | .Slice none none (some (.UnaryOp .USub (.Constant (.int 1) k p1) p2)) p3 => some (k, p1, p2, p3)
  | _ => none
def vLst : Expr → Option (List Expr × Pos)
  | .List es p => some (es, p)
  | _ => none
def vTup : Expr → Option (List Expr × Nat × Pos)
  | .Tuple es k p => some (es, k, p)
  | _ => none
def vDct : Expr → Option Pos
  | .Dict [] [] p => some p
  | _ => none
def vLc : Expr → Option (Expr × Expr × Expr × List Expr × Scope × Pos)
  | .ListComp e [⟨tg, it, ifs, 0⟩] sc p => some (e, tg, it, ifs, sc, p)
  | _ => none
theorem vName_ok {e : Expr} {x p} (h : vName e = some (x, p)) : e = .Name x p := by
  unfold vName at h; split at h <;> cases h; rfl
theorem vConst_ok {e : Expr} {k n p} (h : vConst e = some (k, n, p)) : e = .Constant k n p := by
  unfold vConst at h; split at h <;> cases h; rfl
theorem vBin_ok {e : Expr} {a o b p} (h : vBin e = some (a, o, b, p)) : e = .BinOp a o b p := by
  unfold vBin at h; split at h <;> cases h; rfl
theorem vUn_ok {e : Expr} {o a p} (h : vUn e = some (o, a, p)) : e = .UnaryOp o a p := by
  unfold vUn at h; split at h <;> cases h; rfl
theorem vCmp_ok {e : Expr} {a o b p} (h : vCmp e = some (a, o, b, p)) : e = .Compare a [o] [b] p := by
  unfold vCmp at h; split at h <;> cases h; rfl
theorem vBool_ok {e : Expr} {o a b r p} (h : vBool e = some (o, a, b, r, p)) : e = .BoolOp o (a :: b :: r) p := by
  unfold vBool at h; split at h <;> cases h; rfl
theorem vIf_ok {e : Expr} {a b d p} (h : vIf e = some (a, b, d, p)) : e = .IfExp a b d p := by
  unfold vIf at h; split at h <;> cases h; rfl
theorem vCall_ok {e : Expr} {x p as q} (h : vCall e = some (x, p, as, q)) : e = .Call (.Name x p) as [] q := by
  unfold vCall at h; split at h <;> cases h; rfl
theorem vMeth_ok {e : Expr} {o n p as q} (h : vMeth e = some (o, n, p, as, q)) : e = .Call (.Attribute o n p) as [] q := by
  unfold vMeth at h; split at h <;> cases h; rfl
theorem vAttr_ok {e : Expr} {o n p} (h : vAttr e = some (o, n, p)) : e = .Attribute o n p := by
  unfold vAttr at h; split at h <;> cases h; rfl
theorem vSub_ok {e : Expr} {a b p} (h : vSub e = some (a, b, p)) : e = .Subscript a b p := by
  unfold vSub at h; split at h <;> cases h; rfl
theorem vSl_ok {e : Expr} {a b p} (h : vSl e = some (a, b, p)) : e = .Slice a b none p := by
  unfold vSl at h; split at h <;> cases h; rfl
theorem vRev_ok {e : Expr} {k p1 p2 p3} (h : vRev e = some (k, p1, p2, p3)) : e = .Slice none none (some (.UnaryOp .USub (.Constant (.int 1) k p1) p2)) p3 := by
  unfold vRev at h; split at h <;> cases h; rfl
theorem vLst_ok {e : Expr} {es p} (h : vLst e = some (es, p)) : e = .List es p := by
  unfold vLst at h; split at h <;> cases h; rfl
theorem vTup_ok {e : Expr} {es k p} (h : vTup e = some (es, k, p)) : e = .Tuple es k p := by
  unfold vTup at h; split at h <;> cases h; rfl
theorem vDct_ok {e : Expr} {p} (h : vDct e = some p) : e = .Dict [] [] p := by
  unfold vDct at h; split at h <;> cases h; rfl
theorem vLc_ok {e : Expr} {el tg it ifs sc p} (h : vLc e = some (el, tg, it, ifs, sc, p)) : e = .ListComp el [⟨tg, it, ifs, 0⟩] sc p := by
  unfold vLc at h; split at h <;> cases h; rfl
/-- scalars, the same -/
def scB : D → D → Bool
  | .non, .non => true
  | .bl a, .bl b => a == b
  | .int a, .int b => a == b
  | .str a, .str b => a == b
  | _, _ => false
theorem scB_ok {a b : D} (h : scB a b = true) : a = b := by
  cases a <;> cases b <;> first | (cases h; done) | rfl | (have := eq_of_beq h; rw [this])
section
variable {X : Cx} {W : Wd} {md : Md} {nm : Nm} {fa : Nat → Addr} {j : Nat} {c : Ck} {Wx : WX} {e o tg : Expr} {pos apos p p1 p2 p3 : Pos} {es : List Expr} {l : Sl → Mo (List RV)} {x y z : Sl → Mo RV}
  {g : Gh} {H : Hp} {m : Mem} {σ : L2.St} {s : Sl}
theorem m_rev {k : Nat} (ha : PE X e (tM W x Wx)) : PE X (.Subscript e (.Slice none none (some (.UnaryOp .USub (.Constant (.int 1) k p1) p2)) p3) pos) (tM W (fun s => bnd (x s) fun x => bnd (viewM x) fun x => ofO (revD x)) Wx) :=
  PE.of (pe_revL ha) fun σ H Q ⟨g, s, m, r, sr, h⟩ => by
    refine (tm_step (At.start r sr) h).mono fun v H1 ⟨g1, m1, a, As1, A1, h1⟩ => ?_
    obtain ⟨B1, w1⟩ := A1.rv1
    obtain ⟨d, t1, h2⟩ := A1.view w1 h1
    cases d <;> first | exact h2.elim | skip
    rename_i ds
    obtain ⟨p, ws, rfl, hp, rp⟩ := t1
    refine ⟨p, ws, rfl, .of hp, fun q hq => ?_⟩
    have := A1.rR (r := some (.o (.lst ds.reverse))) h2 trivial
    exact this q _ hq rp.rev
end
end Fw

/-! U1: a < b < c. -/
namespace Fw
open PySem PySem.Spec PyProof.Rows L2

section
variable {X : Cx} {W : Wd} {md : Md} {nm : Nm} {fa : Nat → Addr} {j : Nat} {c : Ck} {Wx : WX} {e a b d : Expr} {pos : Pos} {x y z : Sl → Mo RV} {t : TE}
  {g g0 g' : Gh} {H H0 H' : Hp} {m m' : Mem} {σ : L2.St} {s : Sl}
def chM (o1 o2 : COp) (x y z : Mo RV) : Mo RV := bnd x fun x => bnd y fun y => bnd (viewM x) fun x => bnd (viewM y) fun y' => bnd (ofO (cmpD o1 x y')) fun t => (match t with
  | true => bnd z fun z => bnd (viewM y) fun y => bnd (viewM z) fun z => bnd (ofO (cmpD o2 y z)) fun b => pur (.d (.bl b))
  | false => pur (.d (.bl false)))
theorem ch_read (G : GX X W md nm fa j c Wx) (o1 o2 : COp) {H : Hp} {Q : VK} (h : tM W (fun s => chM o1 o2 (x s) (y s) (z s)) Wx σ H Q) : tChain (rCmp W o1) (rCmp W o2) (tM W x Wx) (tM W y Wx) (tM W z Wx) σ H Q := by
  obtain ⟨g, s, m, r, sr, h⟩ := h
  refine (tm_step (At.start r sr) h).mono fun v H1 ⟨g1, m1, a, As1, A1, h1⟩ => ?_
  refine (tm_step A1 h1).mono fun u H2 ⟨g2, m2, b, As2, A2, h2⟩ => ?_
  obtain ⟨Bb, wb⟩ := A2.rv1
  obtain ⟨Ba, wa⟩ := A2.rv2
  obtain ⟨da, ta, h3⟩ := A2.view wa h2
  obtain ⟨db, tb, h4⟩ := A2.view wb h3
  obtain ⟨k, ek, h5⟩ := h4.ofOg
  refine ⟨g2.fz, da, db, k, ta, tb, ek, k, rfl, ?_⟩
  cases k with
  | false => rw [if_neg Bool.false_ne_true]; exact out_bl A2 h5
  | true =>
    rw [if_pos rfl]
    refine (tm_step A2 h5).mono fun w H3 ⟨g3, m3, cc, As3, A3, h6⟩ => ?_
    obtain ⟨B1, w1⟩ := A3.rv1
    obtain ⟨B2, w2⟩ := A3.rv2
    obtain ⟨d1, t1, h7⟩ := A3.view w2 h6
    obtain ⟨d2, t2, h8⟩ := A3.view w1 h7
    obtain ⟨k2, ek2, h9⟩ := h8.ofOg
    exact ⟨g3.fz, d1, d2, k2, t1, t2, ek2, out_bl A3 h9⟩
theorem ch_bl (o1 o2 : COp) {p q r : Mo RV} {v : RV} (h : chM o1 o2 p q r m = .ok v m') : ∃ k, v = .d (.bl k) := by
  have st : ∀ {α : Type} {u : Mo α} {f : α → Mo RV} {m : Mem}, bnd u f m = .ok v m' → ∃ a m1, u m = .ok a m1 ∧ f a m1 = .ok v m' := fun {α u f m} h => by
    cases q : u m with
    | ok a m1 => exact ⟨a, m1, rfl, by rw [bnd_ok q] at h; exact h⟩
    | rz e m1 => rw [bnd_rzo q] at h; cases h
    | no => rw [bnd_noo q] at h; cases h
  obtain ⟨_, _, _, h⟩ := st h
  obtain ⟨_, _, _, h⟩ := st h
  obtain ⟨_, _, _, h⟩ := st h
  obtain ⟨_, _, _, h⟩ := st h
  obtain ⟨t, _, _, h⟩ := st h
  cases t with
  | false => cases h; exact ⟨false, rfl⟩
  | true =>
    obtain ⟨_, _, _, h⟩ := st h
    obtain ⟨_, _, _, h⟩ := st h
    obtain ⟨_, _, _, h⟩ := st h
    obtain ⟨b, _, _, h⟩ := st h
    cases h
    exact ⟨b, rfl⟩
theorem m_chain (G : GX X W md nm fa j c Wx) (o1 o2 : COp) (ha : PE X a (tM W x Wx)) (hb : PE X b (tM W y Wx)) (hc : PE X d (tM W z Wx)) (hm : lastMarks [o1.op, o2.op] [b, d] = false) :
    PE X (.Compare a [o1.op, o2.op] [b, d] pos) (tM W (fun s => chM o1 o2 (x s) (y s) (z s)) Wx) :=
  PE.of (pe_chain (op_cmp G.K G.units o1) (op_cmp G.K G.units o2) ha hb hc hm) fun σ H Q h => ch_read G o1 o2 h
/-- a value that is a truth value, as a test -/
theorem tTest_of {Q : Bool → Hp → Prop} (i : ∀ σ H Q, tM W x Wx σ H Q → t σ H Q) (hb : ∀ s m v m', x s m = .ok v m' → ∃ k, v = .d (.bl k)) (h : tT W (fun s => truM (x s)) Wx σ H Q) : tTest t σ H Q := by
  obtain ⟨g, s, m, r, sr, h⟩ := h
  refine i σ H _ ⟨g, s, m, r, sr, ?_⟩
  have h : PostT W g H (bnd (x s) (fun a => bnd (viewM a) fun d => ofO (truD d)) m) Q (WE Wx σ) := h
  cases q : x s m with
  | no => rw [bnd_noo q] at h; exact h
  | rz e m1 => rw [bnd_rzo q] at h; exact h
  | ok v m1 =>
    rw [bnd_ok q] at h
    obtain ⟨k, rfl⟩ := hb _ _ _ _ q
    intro v g' H' As o
    have e := o.rv.1
    simp only [Rep] at e
    exact ⟨k, e, h g' H' o.eff o.mr⟩
theorem t_chain (G : GX X W md nm fa j c Wx) (o1 o2 : COp) (ha : PE X a (tM W x Wx)) (hb : PE X b (tM W y Wx)) (hc : PE X d (tM W z Wx)) (hm : lastMarks [o1.op, o2.op] [b, d] = false) :
    PT X (.Compare a [o1.op, o2.op] [b, d] pos) (tT W (fun s => truM (chM o1 o2 (x s) (y s) (z s))) Wx) :=
  PT.of (pt_chain (op_cmp G.K G.units o1) (op_cmp G.K G.units o2) ha hb hc hm) fun σ H Q h => tTest_of (fun σ H Q h => ch_read G o1 o2 h) (fun s m v m' h => ch_bl o1 o2 h) h
end
end Fw

/-! U2: a class's constants; the script's first items, is it empty. -/
namespace Fw
open PySem PySem.Spec PyProof.Rows L2

section
variable {X : Cx} {W : Wd} {md : Md} {nm : Nm} {fa : Nat → Addr} {j : Nat} {c : Ck} {Wx : WX} {e a b d : Expr} {pos p p1 p2 : Pos} {x y z : Sl → Mo RV} {t : TE}
  {g g0 g' : Gh} {H H0 H' : Hp} {m m' : Mem} {σ : L2.St} {s : Sl} {Q : VK} {E : XK}
theorem m_ccon (G : GX X W md nm fa j c Wx) {cl f : Nat} {d : Fw.D} {u n : Str} (hc : nm.cl[cl]? = some u) (hf : nm.fld[f]? = some n) (hd : (cl, f, d) ∈ nm.cv) (hl : c.gl u = true) (h1 : (u == ("__debug__" : Str)) = false) :
    PE X (.Attribute (.Name u p) n pos) (tM W (fun _ => pur (.d d)) Wx) := by
  obtain ⟨mc, v, w, e1, e2, e3⟩ := G.gw.cv cl f d hd
  rw [G.gw.fld f n hf] at e3
  refine m_con e1 (PE.of (ClX.pe_cval (pe_glob (v := .ref (W.ca cl)) (u := .ref (W.ca cl)) (pos := p) (G.gl hl) (G.gw.cl cl u hc) rfl h1) rfl) fun σ H Q h => ?_)
  exact ⟨W.ca cl, mc, v, w, rfl, e2, e3, h⟩
/-- what the script's slot holds -/
theorem script_out {i : Nat} {f : RV → Mo RV} (r : MR W g H m) (sr : SR W g H σ s) (h : Post W g H (bnd (slotM s i) (fun x => (match x with
      | .s ns => f (.s ns)
      | _ => no)) m) Q E) : ∃ ns a, σ[i]? = some (some (.ref a)) ∧ ScR W H a ns ∧ Post W g H (f (.s ns) m) Q E := by
  unfold slotM at h
  cases q : s[i]? with
  | none => rw [q] at h; exact h.elim
  | some v =>
    rw [q] at h
    cases v with
    | none => exact h.elim
    | some v =>
      cases v with
      | d x => exact h.elim
      | c n => exact h.elim
      | x c p => exact h.elim
      | s ns =>
        obtain ⟨v, e1, a, rfl, e2⟩ := sr.2 i _ q
        exact ⟨ns, a, e1, e2, h⟩
theorem reps_ints {P : Addr → Prop} : ∀ ns : List Int, Reps W P H (ns.map Fw.D.int) (ns.map V.int)
  | [] => Reps.mk0
  | n :: r => Reps.mk (by simp only [Rep]) (reps_ints r)
theorem m_scut (G : GX X W md nm fa j c Wx) {i k : Nat} {u : Str} {q : Nat} (hN : c.N[i]? = some u) (hv : c.vis u = true) (h1 : (u == ("__debug__" : Str)) = false) (h2 : (u == ("__classdict__" : Str)) = false) :
    PE X (.Subscript (.Name u p) (.Slice none (some (.Constant (.int (k : Int)) q p1)) none p2) pos) (tM W (fun s => bnd (slotM s i) fun x => (match x with
      | .s ns => pur (.o (.lst (cutL (ns.map .int) none (some (k : Int)))))
      | _ => no)) Wx) := by
  have V := pe_var (X := X) (pos := p) (i := i) (by rw [G.N]; exact hN) (G.vis hv) h1 h2
  refine PE.of (pe_slice sl_list V po_none (po_some pe_int)) fun σ H Q ⟨g, s, m, r, sr, h⟩ => ?_
  obtain ⟨ns, a, e1, e2, h⟩ := script_out (f := fun x => (match x with
      | .s ns => pur (.o (.lst (cutL (ns.map .int) none (some (k : Int)))))
      | _ => no)) r sr h
  refine ⟨_, e1, _, rfl, a, _, rfl, (by rw [← G.K]; exact e2.sq), fun p hp => ?_⟩
  refine (At.start r sr).retO h hp trivial ⟨_, upd_same, ?_, rfl⟩
  exact (reps_ints ns).cut none (some (k : Int))
theorem dp_ints {K : PySem.W.Frag} : ∀ ns : List Int, DpAll K H (ns.map V.int) (ns.map PyData.int)
  | [] => .nil
  | n :: r => .cons (.int n) (dp_ints r)
theorem sh_ints (ns : List Int) : SeqAt.shaped (.list (ns.map PyData.int)) = true := by
  have h1 : ∀ ns : List Int, PyData.canLayAll0 (ns.map PyData.int) = true := fun ns => by
    induction ns with
    | nil => rfl
    | cons n r ih => simp only [List.map_cons, PyData.canLayAll0, PyData.canLay0, ih, Bool.and_self]
  have h2 : ∀ ns : List Int, PyData.depthAll (ns.map PyData.int) = 0 := fun ns => by
    induction ns with
    | nil => rfl
    | cons n r ih => simp only [List.map_cons, PyData.depthAll, PyData.depth, ih, Nat.max_self]
  unfold SeqAt.shaped
  simp only [PyData.canLay0, PyData.depth, h1, h2, Bool.true_and]
  decide
theorem m_semp (G : GX X W md nm fa j c Wx) {i : Nat} {u : Str} (hN : c.N[i]? = some u) (hv : c.vis u = true) (h1 : (u == ("__debug__" : Str)) = false) (h2 : (u == ("__classdict__" : Str)) = false) :
    PE X (.Compare (.Name u p) [.Eq] [.List [] p1] pos) (tM W (fun s => bnd (slotM s i) fun x => (match x with
      | .s ns => pur (.d (.bl ns.isEmpty))
      | _ => no)) Wx) := by
  have V := pe_var (X := X) (pos := p) (i := i) (by rw [G.N]; exact hN) (G.vis hv) h1 h2
  refine PE.of (pe_cmpR (op_eqD (by have := G.units; omega)) V (pe_lst pa_nil) (nomark _)) fun σ H Q ⟨g, s, m, r, sr, h⟩ => ?_
  obtain ⟨ns, a, e1, e2, h⟩ := script_out (f := fun x => (match x with
      | .s ns => pur (.d (.bl ns.isEmpty))
      | _ => no)) r sr h
  refine ⟨_, e1, Nat.zero_le _, fun q hq => ?_⟩
  have e3 : ScR W (upd H q (.lst [])) a ns := e2.keep fun o e2 => by
    rw [upd_ne fun z => by rw [← z, e2] at hq; cases hq]
    exact e2
  refine ⟨.list (ns.map PyData.int), .list [], .lst (by rw [← G.K]; exact e3.sq) (dp_ints ns), .lst (.inl (.inl upd_same)) .nil, sh_ints ns, sh_ints [], ?_⟩
  have k : Grow H (upd H q (.lst [])) := Grow.upd hq
  have ev : PyData.eqv (.list (ns.map PyData.int)) (.list []) = ns.isEmpty := by
    cases ns <;> rfl
  rw [ev]
  exact h _ g _ [] ⟨.grow k, r.grow k, ⟨by simp only [Rep], rfl⟩, .nil, fun _ hb => nomatch hb⟩
end
end Fw

/-! U3: len(set(xs)), xs a list or a tuple of texts, a thousand at most. -/
namespace Fw
open PySem PySem.Spec PyProof.Rows L2

/-- a thousand at most, said so that no tactic reckons with it -/
inductive Few (l : List Str) : Prop where
  | mk (h : l.length ≤ 1000)
theorem Few.le {l : List Str} : Few l → l.length ≤ 1000
  | .mk h => h
def cnt (l : List Str) : Nat := l.eraseDups.length
theorem cnt_nil : cnt [] = 0 := rfl
theorem cnt_le (l : List Str) : cnt l ≤ l.length := by
  have : ∀ (n : Nat) (l : List Str), l.length ≤ n → l.eraseDups.length ≤ l.length := by
    intro n
    induction n with
    | zero =>
      intro l h
      have : l = [] := List.length_eq_zero_iff.mp (by omega)
      subst this
      exact Nat.le_refl _
    | succ n ih =>
      intro l h
      cases l with
      | nil => exact Nat.le_refl _
      | cons a r =>
        rw [List.eraseDups_cons]
        have h1 : (r.filter fun b => !b == a).length ≤ r.length := List.length_filter_le _ _
        have h2 := ih (r.filter fun b => !b == a) (by simp only [List.length_cons] at h; omega)
        simp only [List.length_cons]
        omega
  exact this l.length l (Nat.le_refl _)
theorem cnt_snoc (l : List Str) (x : Str) : cnt (l ++ [x]) = if l.any (· == x) = true then cnt l else cnt l + 1 := by
  unfold cnt
  rw [List.eraseDups_append, List.length_append]
  by_cases h : l.any (· == x) = true
  · rw [if_pos h]
    have : List.removeAll [x] l = [] := by
      simp only [List.removeAll, List.filter_cons, List.filter_nil]
      rw [if_neg]
      rw [List.any_eq_true] at h
      obtain ⟨y, hy, e⟩ := h
      have := eq_of_beq e
      subst this
      simp [hy]
    rw [this]
    rfl
  · rw [if_neg h]
    have : List.removeAll [x] l = [x] := by
      simp only [List.removeAll, List.filter_cons, List.filter_nil]
      rw [if_pos]
      simp only [Bool.not_eq_true', List.elem_eq_mem, decide_eq_false_iff_not]
      intro hm
      exact h (List.any_eq_true.mpr ⟨x, hm, beq_self_eq_true x⟩)
    rw [this]
    rfl
section
variable {prog : Program} {w : World} {A : Around} {R : Result → Shared → Prop} {J : Addr} {foot wr : List Addr} {G : Array GenState → Array GenState → Prop} {n : Nat} {P : Nat → Value → Prop} {St : Nat → Shared → Prop}
theorem set_turns (W : WalksS prog w A.in1 J foot wr G n P St) (B : Addr) (out : B ∉ foot) (ys : List Str) (len : ys.length = n) (few : ys.length ≤ 1000) (txt : ∀ i v, P i v → ∃ t, v = .str (ys.getD i Str.empty) t) :
    ∀ (k i : Nat) (t : Shared), n - i = k → i ≤ n → St i t → t.heap.SetOf (PySem.strKind prog w) B (fun z => (ys.take i).any (· == z)) (cnt (ys.take i)) →
      (∀ t', Moved (B :: wr) G t t' → t'.heap.SetOf (PySem.strKind prog w) B (fun z => ys.any (· == z)) (cnt ys) → R (.ok (.ret .none)) t') →
      codeAny (model prog w) A (.builtin "set.update.loop" ⟨[.ref B, .ref J], []⟩) R t := by
  have out2 : B ∉ wr := fun h => out (W.sub _ h)
  have sub2 : ∀ c ∈ wr, c ∈ B :: wr := fun c hc => List.mem_cons_of_mem _ hc
  have same : ∀ {t t' : Shared} {S : Str → Bool} {q : Nat}, Moved wr G t t' → t.heap.SetOf (PySem.strKind prog w) B S q → t'.heap.SetOf (PySem.strKind prog w) B S q := fun mv ⟨o, es, ep, tb, e, rest⟩ => ⟨o, es, ep, tb, mv.heap B _ out2 e, rest⟩
  intro k
  induction k with
  | zero =>
    intro i t hk hi st hS fin
    have e : i = n := by omega
    subst e
    refine codeAny_builtin PyProof.Rows.F.entry_set_update_loop ?_
    rw [Around.under_plainId PyProof.Rows.F.plain_set_update_loop _]
    show wpAny _ A.in1 (pyNext (.ref J) >>= _) _ _ t
    refine wpAny_bind (W.done t _ _ st fun t' mv => ?_)
    show wpAny _ A.in1 (ret Value.none) _ _ t'
    have hS' := same mv hS
    rw [← len, List.take_length] at hS'
    exact wpAny_pure (fin t' (mv.mono sub2) hS')
  | succ k ih =>
    intro i t hk hi st hS fin
    have lt : i < n := by omega
    refine codeAny_builtin PyProof.Rows.F.entry_set_update_loop ?_
    rw [Around.under_plainId PyProof.Rows.F.plain_set_update_loop _]
    show wpAny _ A.in1 (pyNext (.ref J) >>= _) _ _ t
    refine wpAny_bind (W.item i t _ _ lt st fun v t' hP st' mv => ?_)
    obtain ⟨tk, rfl⟩ := txt i v hP
    have hS' := same mv hS
    show wpAny _ A.in1 (holding [Value.str (ys.getD i Str.empty) tk] (setAdd B (.str (ys.getD i Str.empty) tk)) >>= _) _ _ t'
    refine wpAny_bind (wpAny_holding ?_)
    unfold setAdd
    refine wpAny_holding ?_
    refine wpAny_bind ((PySem.strKind prog w).pyHash (k := ys.getD i Str.empty) (strKind_is _ _ _ _) ?_)
    have room : cnt (ys.take i) + 1 < scanBound := by
      have := cnt_le (ys.take i)
      have h2 : (ys.take i).length ≤ ys.length := by rw [List.length_take]; omega
      unfold scanBound
      omega
    refine wpAny_setAddHashed_of (knd := PySem.strKind prog w) (s := { t' with toks := t'.toks + 1 }) (strKind_is _ _ _ _) rfl hS' room fun g sb new => ?_
    have tk1 : ys.take (i + 1) = ys.take i ++ [ys.getD i Str.empty] := by
      have hl : i < ys.length := by omega
      rw [List.take_succ, List.getElem?_eq_getElem hl, List.getD_eq_getElem?_getD, List.getElem?_eq_getElem hl]
      rfl
    have new2 : g.SetOf (PySem.strKind prog w) B (fun z => (ys.take (i + 1)).any (· == z)) (cnt (ys.take (i + 1))) := by
      rw [tk1]
      refine SetOf_congr new (fun z => ?_) (cnt_snoc _ _).symm
      show ((ys.take i).any (· == z) || decide (z = ys.getD i Str.empty)) = (ys.take i ++ [ys.getD i Str.empty]).any (· == z)
      rw [List.any_append]
      congr 1
      simp only [List.any_cons, List.any_nil, Bool.or_false]
      by_cases e : z = ys.getD i Str.empty
      · rw [decide_eq_true e, e, beq_self_eq_true]
      · rw [decide_eq_false e]
        exact (beq_eq_false_iff_ne.mpr (Ne.symm e)).symm
    refine wpAny_pure ⟨plainId_quiet PyProof.Rows.F.plain_set_update_loop _, ih (i + 1) _ (by omega) lt (W.frame _ t' _ _ st' (Nat.le_succ _) fun c hc o e => ?_) new2 fun t2 mv2 hS2 => ?_⟩
    · rw [sb.2 c fun z : c = B => out (by rw [← z]; exact hc)]
      exact e
    · refine fin t2 (Moved.trans W.gtrans ((mv.mono sub2).then_heap (Nat.le_succ _) fun c o hc e => ?_) mv2) hS2
      rw [sb.2 c fun z : c = B => hc (by rw [z]; exact List.mem_cons_self)]
      exact e
end
section
variable {prog : Program} {w : World} {A : Around} {E : Value → Shared → Prop} {s : Shared}

set_option maxHeartbeats 3200000 in
/-- set(a list of texts) -/
theorem set_of_list {b : Addr} {its : Array Value} {ys : List Str} {Z : Value → Shared → Prop} (calm : A.handled = none) (is : s.heap.IsList b its)
    (tx : PyProof.Rows.StrsAre its.toList ys) (few : Few ys)
    (fin : ∀ (g : Heap) (k : Nat), g.SetOf (PySem.strKind prog w) s.heap.objs.size (fun z => ys.any (· == z)) (cnt ys) →
      (∀ c o, c < s.heap.objs.size → s.heap.get? c = some o → g.get? c = some o) → Z (.ref s.heap.objs.size) { s with heap := g, toks := k }) :
    wpAny (model prog w) A (call (.type "set") [.ref b]) Z E s := by
  obtain ⟨cc, ct, cm⟩ := F.called_set.mro
  have c1 := F.called_set.made
  have c2 := F.called_set.sub
  refine wpAny_call (codeAny_of_tree ?_)
  show wpAny _ _ (callAny (.type "set") _) _ _ _
  refine wpAny_pure ⟨Code.quiet_builtin _ (by decide +kernel), codeAny_builtin F.entry_type_call ?_⟩
  rw [Around.under_plain (weight_type_call_type "set" [.ref b] []) rfl]
  have c3 := F.called_set.notType
  have c4 := F.called_set.canCreate
  have c5 := F.typeCall_set_1 (.ref b)
  repeat (any_goals (first | assumption | wp_step))
  refine codeAny_mono (code_set_new_1 (.ref b) (E := E) (Q₁ := fun v t => ∃ led : Bool, v = .ref s.heap.objs.size ∧ t = { s with heap := s.heap.push { cls := .type "set", dict := none, data := .set #[] 0 (.fresh 0 0 led) } }) fun led => ⟨led, rfl, rfl⟩) fun rr t hr => ?_
  cases rr with
  | error e => exact hr
  | ok fl =>
    cases fl <;> first | exact hr.elim | skip
    obtain ⟨led, rfl, rfl⟩ := hr
    have n1 : (s.heap.push { cls := .type "set", dict := none, data := .set #[] 0 (.fresh 0 0 led) }).get? s.heap.objs.size = some { cls := .type "set", dict := none, data := .set #[] 0 (.fresh 0 0 led) } := Heap.get?_push_size _ rfl
    have n2 : Shared.TypeIs { s with heap := s.heap.push { cls := .type "set", dict := none, data := .set #[] 0 (.fresh 0 0 led) } } (.ref s.heap.objs.size) "set" := ⟨_, n1, rfl⟩
    have i1 := F.called_set.init.lookup
    have i2 := F.called_set.init.bind (.ref s.heap.objs.size)
    repeat (any_goals (first | assumption | wp_step))
    refine codeAny_mono (codeAny_call_builtin (R := wants (fun v t => v = .none ∧ ∃ g k, t = { s with heap := g, toks := k } ∧ g.SetOf (PySem.strKind prog w) s.heap.objs.size (fun z => ys.any (· == z)) (cnt ys) ∧
        (∀ c o, c < s.heap.objs.size → s.heap.get? c = some o → g.get? c = some o)) E) F.called_set.init.plain F.entry_set_init (check_set_init_1 n2 ?_)) fun r2 t2 hr2 => ?_
    · obtain ⟨ol, e0, ecl, nl, edl⟩ := is
      obtain ⟨o1, o2, o3, o4⟩ := ol
      simp only at ecl edl
      subst ecl
      subst edl
      have e1 : (s.heap.push { cls := .type "set", dict := none, data := .set #[] 0 (.fresh 0 0 led) }).get? b = some { cls := .type "list", dict := o2, data := .seq its nl, slots := o4 } := Heap.get?_push_of_some _ e0
      have s1 := F.sub_list_set
      have s2 := F.sub_list_frozenset
      have s3 : (Value.type "list" == Value.type "dict") = false := by decide
      have is1 : (s.heap.push { cls := .type "set", dict := none, data := .set #[] 0 (.fresh 0 0 led) }).IsList b its := ⟨_, e1, rfl, nl, rfl⟩
      unfold Builtin.«set.__init__» noKeywords Builtin.Frozenset.updateFrom
      generalize gI : pyIter = IT
      wp_walk
      subst gI
      refine wpAny_pyIter_list is1 ?_
      refine wpAny_bind (wpAny_runValue ?_)
      have lt0 : b < s.heap.objs.size := Heap.lt_size e0
      have calm3 : A.in1.in1.in1.handled = none := by simp [calm]
      have ne1 : b ≠ (s.heap.push { cls := .type "set", dict := none, data := .set #[] 0 (.fresh 0 0 led) }).objs.size := by
        rw [Heap.size_push]
        exact Nat.ne_of_lt (Nat.lt_succ_of_lt lt0)
      have ne2 : s.heap.objs.size ∉ [(s.heap.push { cls := .type "set", dict := none, data := .set #[] 0 (.fresh 0 0 led) }).objs.size, b] := by
        rw [Heap.size_push]
        simp only [List.mem_cons, List.not_mem_nil, or_false, not_or]
        exact ⟨Nat.ne_of_lt (Nat.lt_succ_self _), Nat.ne_of_gt lt0⟩
      have len : ys.length = its.size := by rw [← StrsAre.len_eq tx, Array.length_toList]
      refine set_turns ((Walks.list calm3 _ b ne1 its).toS) s.heap.objs.size ne2 ys len few.le (fun i v hv => SS.strs_at tx i v (by rw [Array.getElem?_toList]; exact hv)) (its.size - 0) 0 _ (by omega) (Nat.zero_le _)
        ⟨⟨_, Heap.get?_push_size _ rfl, rfl, rfl⟩, (is1.push _)⟩ ?first ?last
      case first =>
        have e2 : ((s.heap.push { cls := .type "set", dict := none, data := .set #[] 0 (.fresh 0 0 led) }).push { cls := .type "list_iterator", data := .fields #[.ref b, .int 0 0] }).get? s.heap.objs.size = some { cls := .type "set", dict := none, data := .set #[] 0 (.fresh 0 0 led) } := Heap.get?_push_of_some _ n1
        exact PyProof.Rows.SetOf_congr ((PyProof.Rows.setObjOf_fresh (knd := PySem.strKind prog w) led).setOf e2 (by unfold scanBound; omega)) (fun _ => rfl) rfl
      case last =>
        intro t mv st
        obtain ⟨g, t1, t2, k, t3⟩ := t
        have q1 : t1 = s.gens := mv.gens
        have q2 : t2 = s.drawn := mv.drawn
        have q3 : t3 = s.os := mv.os
        subst q1
        subst q2
        subst q3
        show wpAny _ _ _ _ _ _
        refine wpAny_pure ?_
        show wpAny _ _ (ret Value.none) _ _ _
        refine wpAny_pure ⟨rfl, g, k, rfl, st, fun c o hc e => ?_⟩
        refine mv.heap c o ?_ (Heap.get?_push_of_some _ (Heap.get?_push_of_some _ e))
        have : c ≠ (s.heap.push { cls := .type "set", dict := none, data := .set #[] 0 (.fresh 0 0 led) }).objs.size := by
          rw [Heap.size_push]
          exact Nat.ne_of_lt (Nat.lt_succ_of_lt hc)
        simp only [List.mem_cons, List.not_mem_nil, or_false, not_or]
        exact ⟨Nat.ne_of_lt hc, this⟩
    · cases r2 with
      | error e => exact hr2
      | ok fl2 =>
        cases fl2 <;> first | exact hr2.elim | skip
        obtain ⟨rfl, g, k, rfl, st, kp⟩ := hr2
        repeat (any_goals (first | assumption | wp_step))
        exact fin _ _ st kp

set_option maxHeartbeats 3200000 in
/-- set(a tuple of texts) -/
theorem set_of_tuple {b : Addr} {its : Array Value} {ys : List Str} {Z : Value → Shared → Prop} (calm : A.handled = none) (is : s.heap.IsTuple b its)
    (tx : PyProof.Rows.StrsAre its.toList ys) (few : Few ys)
    (fin : ∀ (g : Heap) (k : Nat), g.SetOf (PySem.strKind prog w) s.heap.objs.size (fun z => ys.any (· == z)) (cnt ys) →
      (∀ c o, c < s.heap.objs.size → s.heap.get? c = some o → g.get? c = some o) → Z (.ref s.heap.objs.size) { s with heap := g, toks := k }) :
    wpAny (model prog w) A (call (.type "set") [.ref b]) Z E s := by
  obtain ⟨cc, ct, cm⟩ := F.called_set.mro
  have c1 := F.called_set.made
  have c2 := F.called_set.sub
  refine wpAny_call (codeAny_of_tree ?_)
  show wpAny _ _ (callAny (.type "set") _) _ _ _
  refine wpAny_pure ⟨Code.quiet_builtin _ (by decide +kernel), codeAny_builtin F.entry_type_call ?_⟩
  rw [Around.under_plain (weight_type_call_type "set" [.ref b] []) rfl]
  have c3 := F.called_set.notType
  have c4 := F.called_set.canCreate
  have c5 := F.typeCall_set_1 (.ref b)
  repeat (any_goals (first | assumption | wp_step))
  refine codeAny_mono (code_set_new_1 (.ref b) (E := E) (Q₁ := fun v t => ∃ led : Bool, v = .ref s.heap.objs.size ∧ t = { s with heap := s.heap.push { cls := .type "set", dict := none, data := .set #[] 0 (.fresh 0 0 led) } }) fun led => ⟨led, rfl, rfl⟩) fun rr t hr => ?_
  cases rr with
  | error e => exact hr
  | ok fl =>
    cases fl <;> first | exact hr.elim | skip
    obtain ⟨led, rfl, rfl⟩ := hr
    have n1 : (s.heap.push { cls := .type "set", dict := none, data := .set #[] 0 (.fresh 0 0 led) }).get? s.heap.objs.size = some { cls := .type "set", dict := none, data := .set #[] 0 (.fresh 0 0 led) } := Heap.get?_push_size _ rfl
    have n2 : Shared.TypeIs { s with heap := s.heap.push { cls := .type "set", dict := none, data := .set #[] 0 (.fresh 0 0 led) } } (.ref s.heap.objs.size) "set" := ⟨_, n1, rfl⟩
    have i1 := F.called_set.init.lookup
    have i2 := F.called_set.init.bind (.ref s.heap.objs.size)
    repeat (any_goals (first | assumption | wp_step))
    refine codeAny_mono (codeAny_call_builtin (R := wants (fun v t => v = .none ∧ ∃ g k, t = { s with heap := g, toks := k } ∧ g.SetOf (PySem.strKind prog w) s.heap.objs.size (fun z => ys.any (· == z)) (cnt ys) ∧
        (∀ c o, c < s.heap.objs.size → s.heap.get? c = some o → g.get? c = some o)) E) F.called_set.init.plain F.entry_set_init (check_set_init_1 n2 ?_)) fun r2 t2 hr2 => ?_
    · obtain ⟨ol, e0, ecl, nl, edl⟩ := is
      obtain ⟨o1, o2, o3, o4⟩ := ol
      simp only at ecl edl
      subst ecl
      subst edl
      have e1 : (s.heap.push { cls := .type "set", dict := none, data := .set #[] 0 (.fresh 0 0 led) }).get? b = some { cls := .type "tuple", dict := o2, data := .seq its nl, slots := o4 } := Heap.get?_push_of_some _ e0
      have s1 := F.sub_tuple_set
      have s2 := F.sub_tuple_frozenset
      have s3 : (Value.type "tuple" == Value.type "dict") = false := by decide
      have is1 : (s.heap.push { cls := .type "set", dict := none, data := .set #[] 0 (.fresh 0 0 led) }).IsTuple b its := ⟨_, e1, rfl, nl, rfl⟩
      unfold Builtin.«set.__init__» noKeywords Builtin.Frozenset.updateFrom
      generalize gI : pyIter = IT
      wp_walk
      subst gI
      refine wpAny_pyIter_tuple is1 ?_
      refine wpAny_bind (wpAny_runValue ?_)
      have lt0 : b < s.heap.objs.size := Heap.lt_size e0
      have calm3 : A.in1.in1.in1.handled = none := by simp [calm]
      have ne1 : b ≠ (s.heap.push { cls := .type "set", dict := none, data := .set #[] 0 (.fresh 0 0 led) }).objs.size := by
        rw [Heap.size_push]
        exact Nat.ne_of_lt (Nat.lt_succ_of_lt lt0)
      have ne2 : s.heap.objs.size ∉ [(s.heap.push { cls := .type "set", dict := none, data := .set #[] 0 (.fresh 0 0 led) }).objs.size, b] := by
        rw [Heap.size_push]
        simp only [List.mem_cons, List.not_mem_nil, or_false, not_or]
        exact ⟨Nat.ne_of_lt (Nat.lt_succ_self _), Nat.ne_of_gt lt0⟩
      have len : ys.length = its.size := by rw [← StrsAre.len_eq tx, Array.length_toList]
      refine set_turns ((Walks.tuple calm3 _ b ne1 its).toS) s.heap.objs.size ne2 ys len few.le (fun i v hv => SS.strs_at tx i v (by rw [Array.getElem?_toList]; exact hv)) (its.size - 0) 0 _ (by omega) (Nat.zero_le _)
        ⟨⟨_, Heap.get?_push_size _ rfl, rfl, rfl⟩, (is1.push _)⟩ ?first ?last
      case first =>
        have e2 : ((s.heap.push { cls := .type "set", dict := none, data := .set #[] 0 (.fresh 0 0 led) }).push { cls := .type "tuple_iterator", data := .fields #[.ref b, .int 0 0] }).get? s.heap.objs.size = some { cls := .type "set", dict := none, data := .set #[] 0 (.fresh 0 0 led) } := Heap.get?_push_of_some _ n1
        exact PyProof.Rows.SetOf_congr ((PyProof.Rows.setObjOf_fresh (knd := PySem.strKind prog w) led).setOf e2 (by unfold scanBound; omega)) (fun _ => rfl) rfl
      case last =>
        intro t mv st
        obtain ⟨g, t1, t2, k, t3⟩ := t
        have q1 : t1 = s.gens := mv.gens
        have q2 : t2 = s.drawn := mv.drawn
        have q3 : t3 = s.os := mv.os
        subst q1
        subst q2
        subst q3
        show wpAny _ _ _ _ _ _
        refine wpAny_pure ?_
        show wpAny _ _ (ret Value.none) _ _ _
        refine wpAny_pure ⟨rfl, g, k, rfl, st, fun c o hc e => ?_⟩
        refine mv.heap c o ?_ (Heap.get?_push_of_some _ (Heap.get?_push_of_some _ e))
        have : c ≠ (s.heap.push { cls := .type "set", dict := none, data := .set #[] 0 (.fresh 0 0 led) }).objs.size := by
          rw [Heap.size_push]
          exact Nat.ne_of_lt (Nat.lt_succ_of_lt hc)
        simp only [List.mem_cons, List.not_mem_nil, or_false, not_or]
        exact ⟨Nat.ne_of_lt hc, this⟩
    · cases r2 with
      | error e => exact hr2
      | ok fl2 =>
        cases fl2 <;> first | exact hr2.elim | skip
        obtain ⟨rfl, g, k, rfl, st, kp⟩ := hr2
        repeat (any_goals (first | assumption | wp_step))
        exact fin _ _ st kp
end
/-- len(set(xs)) -/
def tSetLen (K : PySem.W.Frag) (ta : TE) : TE := fun σ H Q => ta σ H fun x H1 => ∃ b, ∃ ys : List Str, x = .ref b ∧ (SqL K H1 b (ys.map V.str) ∨ SqT K H1 b (ys.map V.str)) ∧ ys.length ≤ 1000 ∧ Q (.int (cnt ys : Nat)) H1
theorem pe_setLen {X : Cx} {a : Expr} {ta : TE} {p p2 q pos : Pos} (hc : X.calm = true) (hg : Gl X "len") (hm : X.mg "len" = none) (hg2 : Gl X "set") (hm2 : X.mg "set" = none) (ha : PE X a ta)
    (na : starEach [a] X.env = (false, eval a X.env) :: starEach [] X.env) : PE X (.Call (.Name "len" p) [.Call (.Name "set" p2) [a] [] q] [] pos) (tSetLen X.K ta) := by
  refine ⟨fun pins s σ H Q I h => ?_⟩
  refine Call_ (ld_blt I hg hm boot_len ?_)
  refine PyProof.Rows.callWith_builtin1 (PyProof.Rows.args_cons ?_ rfl) rfl rfl
  refine Call_ (ld_blt I hg2 hm2 boot_set ?_)
  refine PyProof.Rows.callWith_type1 (PyProof.Rows.args_cons (thn (ha.run pins s σ H _ I h) fun v s1 ⟨x, H1, I1, r1, q1⟩ => PyProof.Rows.args_nil ?_) na) na rfl
  obtain ⟨b, ys, rfl, sq, few, q1⟩ := q1
  cases r1
  have fin : ∀ (g : Heap) (k : Nat), g.SetOf (PySem.strKind X.prog X.w) s1.heap.objs.size (fun z => ys.any (· == z)) (cnt ys) → (∀ c o, c < s1.heap.objs.size → s1.heap.get? c = some o → g.get? c = some o) →
      wpAny (model X.prog X.w) X.A (spliced (backTo pos (starEach [] X.env))) (fun vs t => wpAny (model X.prog X.w) X.A (call (.builtin "len") (Value.ref s1.heap.objs.size :: vs)) (EP X pins σ Q) X.xe t) X.xe { s1 with heap := g, toks := k } := fun g k st kp => by
    refine PyProof.Rows.args_nil ?_
    obtain ⟨o, es, ep, t, e1, e2, e3, _, _, _, e4, e5⟩ := st
    have I2 : Inv X pins σ H1 { s1 with heap := g, toks := k } := I1.kept fun c o e => kp c o (Heap.lt_size e) e
    have := cnt_le ys
    refine call_len_set e1 e2 e3 e4 (by rw [e5] <;> omega) ⟨.int (cnt ys : Nat), H1, I2.tok _, ⟨_, by rw [e5]⟩, q1⟩
  rcases sq with sq | sq
  · obtain ⟨its, r, pl, hz⟩ := I1.list sq
    exact set_of_list (I1.ok.hd hc) pl.isList (by simpa using strsAre_of r) (.mk few) fin
  · obtain ⟨its, r, pl, hz⟩ := I1.tuple sq
    exact set_of_tuple (I1.ok.hd hc) pl (by simpa using strsAre_of r) (.mk few) fin
section
variable {X : Cx} {W : Wd} {md : Md} {nm : Nm} {fa : Nat → Addr} {j : Nat} {c : Ck} {Wx : WX} {a : Expr} {p p2 q pos : Pos} {x : Sl → Mo RV}
theorem m_lenset (G : GX X W md nm fa j c Wx) (h1 : c.gl "len" = true) (h2 : c.gl "set" = true) (ha : PE X a (tM W x Wx)) (hs : nst a = true) :
    PE X (.Call (.Name "len" p) [.Call (.Name "set" p2) [a] [] q] [] pos) (tM W (fun s => bnd (x s) fun x => bnd (viewM x) fun d => bnd (ofO (setLen d)) fun n => pur (.d (.int (n : Nat)))) Wx) := by
  refine PE.of (pe_setLen G.calm (G.gl h1) (G.gw.bl "len" (by decide +kernel) (by decide +kernel)) (G.gl h2) (G.gw.bl "set" (by decide +kernel) (by decide +kernel)) ha (nst_star hs [])) fun σ H Q ⟨g, s, m, r, sr, h⟩ => ?_
  refine (tm_step (At.start r sr) h).mono fun v H1 ⟨g1, m1, b, As1, A1, h1⟩ => ?_
  obtain ⟨B1, w1⟩ := A1.rv1
  obtain ⟨d, t1, h2⟩ := A1.view w1 h1
  obtain ⟨k, ek, h3⟩ := h2.ofOg
  cases d <;> first | (cases ek; done) | skip
  · rename_i ds
    have ek : (if ds.length ≤ 1000 then (strsO ds).map fun ys => ys.eraseDups.length else none) = some k := ek
    split at ek
    case isFalse => cases ek
    rename_i hl
    cases es : strsO ds with
    | none => rw [es] at ek; cases ek
    | some ys =>
      rw [es] at ek
      cases ek
      obtain ⟨b, ws, rfl, hp, rr⟩ := t1
      have := rr.strsO es
      subst this
      exact ⟨b, ys, rfl, .inr (.of hp.1), by rw [rr.length, List.length_map] at hl; exact hl, out_int A1 h3⟩
  · rename_i ds
    have ek : (if ds.length ≤ 1000 then (strsO ds).map fun ys => ys.eraseDups.length else none) = some k := ek
    split at ek
    case isFalse => cases ek
    rename_i hl
    cases es : strsO ds with
    | none => rw [es] at ek; cases ek
    | some ys =>
      rw [es] at ek
      cases ek
      obtain ⟨b, ws, rfl, hp, rr⟩ := t1
      have := rr.strsO es
      subst this
      exact ⟨b, ys, rfl, .inl (.of hp), by rw [rr.length, List.length_map] at hl; exact hl, out_int A1 h3⟩
end
end Fw

/-! U4: dict comprehensions. -/
namespace Fw
open PySem PySem.Spec PyProof.Rows L2

section
variable {X : Cx} {W : Wd} {md : Md} {nm : Nm} {fa : Nat → Addr} {j : Nat} {c : Ck} {Wx : WX} {pos : Pos} {x y : Sl → Mo RV}
  {g g0 g' g1 : Gh} {H H0 H' H1 : Hp} {m m' m1 : Mem} {s : Sl}
def dcF (own : List Nat) (t : Tg) (ts : Sl → Mo Bool) (x y : Sl → Mo RV) (s : Sl) : D → Mo (Option (Key × D)) := fun d => nrz (bnd (ofO (setT (wipeS s own) t d)) fun s' => bnd (ts s') fun b => (match b with
        | true => bnd (x s') fun y' => bnd (y s') fun z => bnd (viewM y') fun y' => bnd (frzM z) fun z => bnd (ofO (asK y')) fun y' => pur (some (y', z))
        | false => pur none))
theorem putA_len {κ β : Type} [DecidableEq κ] (kvs : List (κ × β)) (k : κ) (v : β) : (putA kvs k v).length ≤ kvs.length + 1 := by
  unfold putA
  split
  · rw [List.length_map]; omega
  · rw [List.length_append, List.length_singleton]; omega
theorem dc_read {it : Sl → Mo (List D)} {ts : Sl → Mo Bool} {own : List (Str × Nat)} {t : Tg} {K : PySem.W.Frag} (hown : ∀ i ∈ t.ix, i ∈ own.map (·.2)) {σ : L2.St} {H : Hp} {Q : VK}
    (h : tM W (fun s => bnd (it s) fun items => bnd (dcM (dcF (own.map (·.2)) t ts x y s) items []) fun ys => pur (.o (.dK ys))) Wx σ H Q) : tDc (iD W it Wx) (tgG K t) (tT W ts noX) (tM W x noX) (tM W y noX) (own.map (·.2)) σ H Q := by
  obtain ⟨g, s, m, r, sr, h⟩ := h
  refine ⟨g, s, m, r, sr, ?_⟩
  have h : Post W g H (bnd (it s) (fun items => bnd (dcM (dcF (own.map (·.2)) t ts x y s) items []) fun ys => pur (.o (.dK ys))) m) Q (WE Wx σ) := h
  cases ei : it s m with
  | no => rw [bnd_noo ei] at h; exact h.elim
  | rz a m1 => rw [bnd_rzo ei] at h; exact h
  | ok items m1 =>
    rw [bnd_ok ei] at h
    intro hlen J Gd g1 H1 ef mr wd gd D hD
    refine ⟨fun i k H' => k = items.length - i ∧ i ≤ items.length ∧ ∃ g' m' ys, At W g H σ s g' H' m' [.ref D] [.o (.dK ys)] [D] ∧ Gd g' H' ∧ ys.length ≤ i ∧
      Post W g H (bnd (dcM (dcF (own.map (·.2)) t ts x y s) (items.drop i) ys) (fun zs => pur (.o (.dK zs))) m') Q (WE Wx σ), ⟨items.length, ?_⟩, ?_⟩
    · have k : Grow H1 (upd H1 D (.dK [])) := .upd hD
      have gr := Eff.grow (g := g1) k
      refine ⟨rfl, Nat.zero_le _, g1, m1, [], ⟨ef.trans gr, mr.grow k, sr.eff r (ef.trans gr), ?_, ⟨by simp, fun b hb z => ?_, fun b hb z => ?_, fun b hb => ?_⟩, fun b hb => ?_⟩, wd.stay _ _ _ _ _ gd mr gr, Nat.zero_le _, h⟩
      · have : RVR W g1 (upd H1 D (.dK [])) (.ref D) [D] (.o (.dK [])) := ⟨D, rfl, [], upd_same, .nil, rfl⟩
        exact .cons this .nil
      · rw [List.mem_singleton.mp hb] at z
        obtain ⟨u, e⟩ := mr.ft D z
        rw [hD] at e; cases e
      · rw [List.mem_singleton.mp hb] at z
        obtain ⟨u, e, _⟩ := mr.mt D z
        rw [hD] at e; cases e
      · rw [List.mem_singleton.mp hb]
        exact ⟨_, upd_same, trivial⟩
      · rw [List.mem_singleton.mp hb]
        by_cases ow : Ow g D
        · exact .inr ow
        · cases e : H D with
          | none => exact .inl rfl
          | some u => exact (ef.there e ow hD).elim
    · rintro i k H' ⟨ek, hi', g', m', ys, A, gd', hy, hp⟩
      by_cases hlt : i < items.length
      · refine .inr ⟨wd.goes i g' H' hlt gd', _, fun H2 z => ⟨items.length - (i + 1), by omega, z⟩, fun x' H2 hyl => ?_⟩
        have hd : items[i]? = some items[i] := List.getElem?_eq_getElem hlt
        obtain ⟨g2, ef2, mr2, rep⟩ := wd.yields i g' H' x' H2 m' _ hd gd' A.mr hyl
        have A1 := A.step ef2 mr2
        have gd2 := wd.stay _ _ _ _ _ gd' A.mr ef2
        rw [List.drop_eq_getElem_cons hlt] at hp
        have hp : Post W g H (bnd (bnd (dcF (own.map (·.2)) t ts x y s items[i]) fun z => dcM (dcF (own.map (·.2)) t ts x y s) (items.drop (i + 1)) (match z with
          | some (k, v) => putA ys k v
          | none => ys)) (fun zs => pur (.o (.dK zs))) m') Q (WE Wx σ) := hp
        rw [bnd_bnd] at hp
        cases ef' : dcF (own.map (·.2)) t ts x y s items[i] m' with
        | no => rw [bnd_noo ef'] at hp; exact hp.elim
        | rz a m2 =>
          exfalso
          unfold dcF nrz at ef'
          split at ef' <;> cases ef'
        | ok yo m2 =>
          rw [bnd_ok ef'] at hp
          have e1 : bnd (ofO (setT (wipeS s (own.map (·.2))) t items[i])) (fun s' => bnd (ts s') fun b => (match b with
            | true => bnd (x s') fun y' => bnd (y s') fun z => bnd (viewM y') fun y' => bnd (frzM z) fun z => bnd (ofO (asK y')) fun y' => pur (some (y', z))
            | false => pur none)) m' = .ok yo m2 := by
            unfold dcF nrz at ef'
            split at ef'
            · rename_i e; rw [e]; exact ef'
            · cases ef'
          obtain ⟨s', m3, q1, q2⟩ := bnd_inv e1
          obtain ⟨q3, q4⟩ := ofO_inv q1
          subst q4
          obtain ⟨b, m4, q5, q6⟩ := bnd_inv q2
          apply tg_go K t W g2 H2 (wipe σ (own.map (·.2))) _ s' x' items[i] _ (A1.sr.wipe _) rep q3
          intro σ2 sr2 l2 o2
          refine ⟨wipe_wipe l2 fun k hk => o2 k fun z => hk (hown k z), g2, s', m', mr2, sr2, ?_⟩
          rw [q5]
          intro g3 H3 ef3 mr3
          have A3 := (A1.slots sr2).step ef3 mr3
          have srs := A1.sr.eff A1.mr ef3
          have gd3 := wd.stay _ _ _ _ _ gd2 mr2 ef3
          cases b with
          | false =>
            cases q6
            rw [if_neg Bool.false_ne_true]
            exact ⟨rfl, hlt, g3, m2, ys, A3.slots srs, gd3, Nat.le_succ_of_le hy, hp⟩
          | true =>
            rw [if_pos rfl]
            obtain ⟨rv, m5, q7, q8⟩ := bnd_inv q6
            refine ⟨g3, s', m4, mr3, A3.sr, ?_⟩
            rw [q7]
            intro v g4 H4 Bs o4
            have A4 := A3.next o4
            have gd4 := wd.stay _ _ _ _ _ gd3 mr3 o4.eff
            obtain ⟨rz, m6, q9, q10⟩ := bnd_inv q8
            refine ⟨g4, s', m5, A4.mr, A4.sr, ?_⟩
            rw [q9]
            intro u g5 H5 Bu o5
            have A5 := A4.next o5
            have gd5 := wd.stay _ _ _ _ _ gd4 A4.mr o5.eff
            obtain ⟨kd, m7, q11, q12⟩ := bnd_inv q10
            have wk : RVR W g5 H5 v Bs rv := o4.rv.eff A4.mr o4.tm o5.eff
            obtain ⟨em, tk⟩ := view_ok wk A5.mr q11
            subst em
            obtain ⟨zd, m8, q13, q14⟩ := bnd_inv q12
            obtain ⟨kk, m9, q15, q16⟩ := bnd_inv q14
            obtain ⟨q17, q18⟩ := ofO_inv q15
            subst q18
            cases q16
            obtain ⟨d, g6, m10, mo, rep6, A6, q19⟩ := At.frzG (P := fun r : Rs Fw.D => r = .ok zd m2) (f := fun y => pur y) (E := WE noX σ2) ⟨(fun h => nomatch h), (fun _ _ h => nomatch h)⟩ A5 o5.rv (A4.rv.eff A4.mr A4.tm o5.eff) (by rw [pur_bnd]; exact q13)
            cases q19
            have gd6 : Gd g6 H5 := wd.more _ _ _ gd5 mo
            have A7 : At W g H σ2 s' g6 H5 m2 [.ref D] [.o (.dK ys)] [D] := by
              have rv7 : RVs W g6 H5 [.ref D] [.o (.dK ys)] [D] := ((A3.rv.eff A3.mr A3.tm o4.eff).eff A4.mr (A4.tm.right) o5.eff).more mo
              exact ⟨A6.eff, A6.mr, A6.sr, rv7, A6.tm.right, fun b hb => A6.nw b (List.mem_append_right _ hb)⟩
            have w5 : ∃ acc, H5 D = some (.dK acc) ∧ RepA W g6.fz H5 ys acc := by
              obtain ⟨Cs, a, e, acc, h2, h3, _⟩ := A7.rv1
              cases e
              exact ⟨acc, h2, h3⟩
            obtain ⟨acc, ha, ra⟩ := w5
            have nf : ¬ g6.fz D := A7.tm.fz D (List.mem_singleton.mpr rfl)
            have st : Stay g6.fz g6.fz H5 (upd H5 D (.dK (putK acc kk u))) := .of (fun a o f e => by rw [upd_ne fun z => nf (by rw [← z]; exact f)]; exact e) fun _ f => f
            have A8 := (A7.slots (((srs.eff A3.mr o4.eff).eff A4.mr o5.eff).more mo)).put (d' := .dK (putA ys kk zd)) (u := .dK (putK acc kk u)) trivial ⟨_, upd_same, (ra.put kk rep6).stay st, rfl⟩
            have lp := putA_len ys kk zd
            refine ⟨acc, kk, tk.any.asK q17, ha, ?_, rfl, hlt, g6, m2, putA ys kk zd, A8, ?_, by omega, hp⟩
            · have := ra.length
              show acc.length < 16777216
              omega
            · exact wd.put _ _ _ gd6 fun b o f e => by rw [upd_ne fun z => nf (by rw [← z]; exact f)]; exact e
      · have e : i = items.length := by omega
        subst e
        refine .inl ⟨wd.stops g' H' gd', ?_⟩
        rw [List.drop_length] at hp
        have hp : Post W g H (.ok (.o (.dK ys)) m') Q (WE Wx σ) := hp
        exact A.retV hp
theorem m_dc (G : GX X W md nm fa j c Wx) {it : Sl → Mo (List D)} {ts : Sl → Mo Bool} {kx vx tg iter : Expr} {ifs : List Expr} {scope : Scope} {own : List (Str × Nat)} {t : Tg}
    (hi : PI X tg iter (iD W it Wx)) (ok : BlkOk X.N X.env.scope scope own) (hown : ∀ i ∈ t.ix, i ∈ own.map (·.2)) (ht : mT (c.blk scope) t tg = true)
    (hifs : ∀ (s : Shared) (H : Hp) (C : Addr) (cl : List (Str × Addr)) (fp : List Addr), PTs (X.blk s H scope (compEnvC scope cl C X.env) fp) ifs (tT W ts noX))
    (hk : ∀ (s : Shared) (H : Hp) (C : Addr) (cl : List (Str × Addr)) (fp : List Addr), PE (X.blk s H scope (compEnvC scope cl C X.env) fp) kx (tM W x noX))
    (he : ∀ (s : Shared) (H : Hp) (C : Addr) (cl : List (Str × Addr)) (fp : List Addr), PE (X.blk s H scope (compEnvC scope cl C X.env) fp) vx (tM W y noX))
    (hs : ∀ v, foldedSetIterable iter X.env v = pure v) :
    PE X (.DictComp kx vx [⟨tg, iter, ifs, 0⟩] scope pos) (tM W (fun s => bnd (it s) fun items => bnd (dcM (dcF (own.map (·.2)) t ts x y s) items []) fun ys => pur (.o (.dK ys))) Wx) := by
  have tgr : ∀ (s : Shared) (H : Hp) (C : Addr) (cl : List (Str × Addr)) (fp : List Addr), PG (X.blk s H scope (compEnvC scope cl C X.env) fp) tg (tgG X.K t) := fun s H C cl fp => tg_ok (G.blk scope s H C cl fp) ht
  exact PE.of (pe_dc G.calm (by rw [G.N]; exact G.nd) hi ok tgr hifs hk he hs) fun σ H Q h => dc_read hown h
end
end Fw

/-! T23: the compact text against the text's own. -/
namespace Fw
open PySem PySem.Spec PyProof.Rows L2

def nset : Expr → Bool
  | .Set _ _ _ => false
  | _ => true
theorem nset_ok {e : Expr} {env : Env} (h : nset e = true) : ∀ v, foldedSetIterable e env v = pure v := by
  intro v
  cases e <;> first | rfl | cases h
def tOk : Ep → Bool
  | .ife _ _ _ => false
  | .semp _ => false
  | .not_ a => tOk a
  | .and_ a b => tOk a && tOk b
  | .or_ a b => tOk a && tOk b
  | _ => true
def vCmp2 : Expr → Option (Expr × CmpOp × Expr × CmpOp × Expr × Pos)
  | .Compare a [o1, o2] [b, d] p => some (a, o1, b, o2, d, p)
  | _ => none
theorem vCmp2_ok {e : Expr} {a o1 b o2 d p} (h : vCmp2 e = some (a, o1, b, o2, d, p)) : e = .Compare a [o1, o2] [b, d] p := by
  unfold vCmp2 at h; split at h <;> cases h; rfl
def vDc : Expr → Option (Expr × Expr × Expr × Expr × List Expr × Scope × Pos)
  | .DictComp k v [⟨tg, it, ifs, 0⟩] sc p => some (k, v, tg, it, ifs, sc, p)
  | _ => none
theorem vDc_ok {e : Expr} {k v tg it ifs sc p} (h : vDc e = some (k, v, tg, it, ifs, sc, p)) : e = .DictComp k v [⟨tg, it, ifs, 0⟩] sc p := by
  unfold vDc at h; split at h <;> cases h; rfl
def vCcon : Expr → Option (Str × Pos × Str × Pos)
  | .Attribute (.Name u p) n q => some (u, p, n, q)
  | _ => none
theorem vCcon_ok {e : Expr} {u p n q} (h : vCcon e = some (u, p, n, q)) : e = .Attribute (.Name u p) n q := by
  unfold vCcon at h; split at h <;> cases h; rfl
def vLenSet : Expr → Option ((Pos × Pos) × Expr × Pos × Pos)
  | .Call (.Name x p) [.Call (.Name y p2) [a] [] q] [] pos => if x = "len" ∧ y = "set" then some ((p, p2), a, q, pos) else none
  | _ => none
theorem vLenSet_ok {e : Expr} {p a q pos} (h : vLenSet e = some (p, a, q, pos)) : e = .Call (.Name "len" p.1) [.Call (.Name "set" p.2) [a] [] q] [] pos := by
  unfold vLenSet at h
  split at h <;> first | (cases h; done) | skip
  split at h <;> cases h
  rename_i h
  rw [h.1, h.2]
def vScut : Expr → Option (Str × Pos × Int × Nat × Pos × Pos × Pos)
  | .Subscript (.Name u p) (.Slice none (some (.Constant (.int k) q p1)) none p2) pos => some (u, p, k, q, p1, p2, pos)
  | _ => none
theorem vScut_ok {e : Expr} {u p k q p1 p2 pos} (h : vScut e = some (u, p, k, q, p1, p2, pos)) : e = .Subscript (.Name u p) (.Slice none (some (.Constant (.int k) q p1)) none p2) pos := by
  unfold vScut at h; split at h <;> cases h; rfl
def vSemp : Expr → Option (Str × Pos × Pos × Pos)
  | .Compare (.Name u p) [.Eq] [.List [] p1] pos => some (u, p, p1, pos)
  | _ => none
theorem vSemp_ok {e : Expr} {u p p1 pos} (h : vSemp e = some (u, p, p1, pos)) : e = .Compare (.Name u p) [.Eq] [.List [] p1] pos := by
  unfold vSemp at h; split at h <;> cases h; rfl
section
variable (md : Md) (nm : Nm)
def okName (x : Str) : Bool := !(x == ("__debug__" : Str)) && !(x == ("__classdict__" : Str))
def okFn (c : Ck) (f : Nat) (x : Str) : Bool := decide (f < md.fns.length) && (nm.fn[f]? == some x) && !(x.length == 0) && c.gl x && okName x
def okMk (c : Ck) (cl f : Nat) (x : Str) : Bool := decide (f < md.fns.length) && (nm.cl[cl]? == some x) && decide ((cl, f) ∈ nm.mks) && c.gl x && okName x
def okIsi (c : Ck) (ts : List Ty) (te : Expr) : Bool := (ts.all (Ty.ok md.ncl)) && (match ts, te with
  | [T], te => tyEx nm c T te || (match vTup te with
    | some (tes, _, _) => ([T].length == tes.length) && ([T].zip tes).all (fun p => tyEx nm c p.1 p.2)
    | none => false)
  | ts, te => decide (ts.length < 1000) && (match vTup te with
    | some (tes, _, _) => (ts.length == tes.length) && (ts.zip tes).all (fun p => tyEx nm c p.1 p.2)
    | none => false))
mutual
def mE (c : Ck) : Ep → Expr → Bool
  | .v i, e => (match vName e with
    | some (x, _) => (c.N[i]? == some x) && c.vis x && okName x
    | none => false)
  | .k d, e => (match vConst e with
    | some (k, _, _) => conB d k
    | none => false)
  | .gc g d, e => (match vName e with
    | some (x, _) => c.gl x && okName x && (match nm.gc[g]? with
      | some (y, d') => (y == x) && scB d d'
      | none => false)
    | none => false)
  | .bin o a b, e => (match vBin e with
    | some (x, op, y, _) => (op == o.op) && mE c a x && mE c b y
    | none => false)
  | .neg a, e => (match vUn e with
    | some (.USub, x, _) => mE c a x
    | _ => false)
  | .not_ a, e => (match vUn e with
    | some (.Not, x, _) => mE c a x
    | _ => false)
  | .cmp o a b, e => (match vCmp e with
    | some (x, op, y, _) => (op == o.op) && mE c a x && mE c b y && !(behindInMarks op y)
    | none => false)
  | .chain o1 o2 a b d, e => (match vCmp2 e with
    | some (x, p1, y, p2, z, _) => (p1 == o1.op) && (p2 == o2.op) && mE c a x && mE c b y && mE c d z && !(lastMarks [p1, p2] [y, z])
    | none => false)
  | .and_ a b, e => (match vBool e with
    | some (.And, x, y, r, p) => mE c a x && (match r with
      | [] => mE c b y
      | r => mE c b (.BoolOp .And (y :: r) p))
    | _ => false)
  | .or_ a b, e => (match vBool e with
    | some (.Or, x, y, r, p) => mE c a x && (match r with
      | [] => mE c b y
      | r => mE c b (.BoolOp .Or (y :: r) p))
    | _ => false)
  | .ife t a b, e => (match vIf e with
    | some (x, y, z, _) => tOk t && mE c t x && mE c a y && mE c b z
    | none => false)
  | .call f as, e => (match vCall e with
    | some (x, _, es, _) => okFn md nm c f x && mEs c as es && es.all nst
    | none => false)
  | .mk cl f as, e => (match vCall e with
    | some (x, _, es, _) => okMk md nm c cl f x && mEs c as es && es.all nst
    | none => false)
  | .mkM cl f as, e => (match vCall e with
    | some (x, _, es, _) => okMk md nm c cl f x && mEs c as es && es.all nst
    | none => false)
  | .meth mn o as, e => (match vMeth e with
    | some (o', n, ap, es, q) => (nm.fld[mn]? == some n) && mE c o o' && nsup o' && (ap.endLine == q.line) && mEs c as es && es.all nst && decide (es.length < 30)
    | none => false)
  | .attr f o, e => (match vAttr e with
    | some (o', n, _) => (nm.fld[f]? == some n) && mE c o o' && nsup o'
    | none => false)
  | .prop f o, e => (match vAttr e with
    | some (o', n, _) => (nm.fld[f]? == some n) && mE c o o' && nsup o'
    | none => false)
  | .ccon cl f d, e => (match vCcon e with
    | some (u, _, n, _) => (nm.cl[cl]? == some u) && (nm.fld[f]? == some n) && nm.cv.any (fun p => p.1 == cl && p.2.1 == f && scB p.2.2 d) && c.gl u && okName u
    | none => false)
  | .bi b as, e => (match vCall e with
    | some (x, _, es, _) => b.ok && (x == b.nm) && c.gl x && !es.isEmpty && mEs c as es && es.all nst
    | none => false)
  | .lenset a, e => (match vLenSet e with
    | some (_, x, _, _) => c.gl "len" && c.gl "set" && mE c a x && nst x
    | none => false)
  | .isi a ts, e => (match vCall e with
    | some (x, _, [u, te], _) => (x == ("isinstance" : Str)) && c.gl x && mE c a u && nst u && okIsi md nm c ts te
    | _ => false)
  | .bm b o as, e => (match vMeth e with
    | some (o', n, ap, es, q) => (match b, es with
      | .get1, [u] => (n == ("get" : Str)) && mE c o o' && nsup o' && (ap.endLine == q.line) && mEs c as [u] && nst u
      | .get2, [u, w] => (n == ("get" : Str)) && mE c o o' && nsup o' && (ap.endLine == q.line) && mEs c as [u, w] && nst u && nst w
      | _, _ => false)
    | none => false)
  | .sub a i, e => (match vSub e with
    | some (x, y, _) => mE c a x && mE c i y && plIx y
    | none => false)
  | .sl a lo hi, e => (match vSub e with
    | some (x, y, _) => mE c a x && (match vSl y with
      | some (l, h, _) => (match l with
        | none => isNonE lo
        | some l => !isNonE lo && mE c lo l) && (match h with
        | none => isNonE hi
        | some h => !isNonE hi && mE c hi h)
      | none => false)
    | none => false)
  | .rev a, e => (match vSub e with
    | some (x, y, _) => mE c a x && (vRev y).isSome
    | none => false)
  | .lst as, e => (match vLst e with
    | some (es, _) => mEs c as es && es.all nst && decide (as.length < 1000)
    | none => false)
  | .tup as, e => (match vTup e with
    | some (es, _, _) => mEs c as es && es.all nst && decide (as.length < 1000)
    | none => false)
  | .dct _ ks vs, e => ks.isEmpty && vs.isEmpty && (vDct e).isSome
  | .lc own t ik as ifs el, e => (match vLc e with
    | some (el', tg, it, ifs', sc, _) => blkC c.N c.sc sc (own.map fun i => (c.N.getD i Str.empty, i)) && t.ix.all (fun i => own.contains i) && mT (c.blk sc) t tg && nset it && mI c ik as it tg &&
      decide (ifs.length ≤ 1) && ifs.all tOk && mEs (c.blk sc) ifs ifs' && mE (c.blk sc) el el'
    | none => false)
  | .dc own t ik as ifs k v, e => (match vDc e with
    | some (k', v', tg, it, ifs', sc, _) => blkC c.N c.sc sc (own.map fun i => (c.N.getD i Str.empty, i)) && t.ix.all (fun i => own.contains i) && mT (c.blk sc) t tg && nset it && mI c ik as it tg &&
      decide (ifs.length ≤ 1) && ifs.all tOk && mEs (c.blk sc) ifs ifs' && mE (c.blk sc) k k' && mE (c.blk sc) v v'
    | none => false)
  | .fz _, _ => false
  | .scut i k, e => (match vScut e with
    | some (u, _, n, _, _, _, _) => (n == (k : Int)) && (c.N[i]? == some u) && c.vis u && okName u
    | none => false)
  | .semp i, e => (match vSemp e with
    | some (u, _, _, _) => (c.N[i]? == some u) && c.vis u && okName u
    | none => false)
  | .lit _ _, _ => false
  | .fst _, _ => false
def mEs (c : Ck) : List Ep → List Expr → Bool
  | [], [] => true
  | a :: as, e :: es => mE c a e && mEs c as es
  | _, _ => false
def mI (c : Ck) : IK → List Ep → Expr → Expr → Bool
  | .seq, [a], it, _ => mE c a it
  | .keys, [a], it, _ => mE c a it
  | .enum_, [a], it, tg => (vTup tg).isSome && (match vCall it with
    | some (x, _, [u], _) => (x == ("enumerate" : Str)) && c.gl x && mE c a u && nst u
    | _ => false)
  | .rng, [a], it, _ => (match vCall it with
    | some (x, _, [u], _) => (x == ("range" : Str)) && c.gl x && mE c a u && nst u
    | _ => false)
  | .rng, [a, b], it, _ => (match vCall it with
    | some (x, _, [u, w], _) => (x == ("range" : Str)) && c.gl x && mE c a u && mE c b w && nst u && nst w
    | _ => false)
  | _, _, _, _ => false
end
end
end Fw

/-! T24: expressions that match are read by the interpreter. -/
namespace Fw
open PySem PySem.Spec PyProof.Rows L2

structure MdK (md : Md) : Prop where
  ms : ∀ c m f, md.ms.lookup (c, m) = some f → ∃ fd, md.fns[f]? = some fd
  pr : ∀ c m f, md.pr.lookup (c, m) = some f → ∃ fd, md.fns[f]? = some fd
section
variable {X : Cx} {W : Wd} {md : Md} {nm : Nm} {fa : Nat → Addr} {j : Nat} {c : Ck} {Wx : WX} {e o tg : Expr} {pos : Pos} {es : List Expr}
  {g : Gh} {H : Hp} {m m' : Mem} {σ : L2.St} {s : Sl}
structure RE (X : Cx) (W : Wd) (Wx : WX) (md : Md) (j : Nat) (ep : Ep) (e : Expr) : Prop where
  pe : PE X e (tM W (ev md (callI md j) ep) Wx)
  pt : tOk ep = true → PT X e (tT W (fun s => truM (ev md (callI md j) ep s)) Wx)
  pw : tOk ep = true → ∀ o vs p, e = .BoolOp o vs p → PW X e (tT W (fun s => truM (ev md (callI md j) ep s)) Wx)
theorem RE.of {ep : Ep} (h : PE X e (tM W (ev md (callI md j) ep) Wx)) (hp : plT e = true) : RE X W Wx md j ep e :=
  ⟨h, fun _ => t_val h hp, fun _ o vs p q => by subst q; cases hp⟩
theorem view_same {x : RV} {d : D} (h : viewM x m = .ok d m') : m' = m := by
  cases x with
  | d d => cases h; rfl
  | o d => cases h; rfl
  | x c p => cases h
  | s ns => cases h
  | c n =>
    have h : (match m[n]? with
      | some w => Rs.ok w.view m
      | none => .no) = .ok d m' := h
    cases q : m[n]? with
    | none => rw [q] at h; cases h
    | some w => rw [q] at h; cases h; rfl
  | f n k =>
    have h : (match (m[n]?).bind (fldW · k) with
      | some d => Rs.ok d m
      | none => .no) = .ok d m' := h
    cases q : (m[n]?).bind (fldW · k) with
    | none => rw [q] at h; cases h
    | some w => rw [q] at h; cases h; rfl
theorem and_eq (A B : Mo RV) : truM (bnd A fun x => bnd (viewM x) fun d => bnd (ofO (truD d)) fun t => (match t with | true => B | false => pur x)) = andM (truM A) (truM B) := by
  funext m
  unfold andM truM
  simp only [bnd_bnd]
  cases e : A m with
  | no => rw [bnd_noo e, bnd_noo e]
  | rz a m1 => rw [bnd_rzo e, bnd_rzo e]
  | ok x m1 =>
    rw [bnd_ok e, bnd_ok e]
    cases e1 : viewM x m1 with
    | no => rw [bnd_noo e1, bnd_noo e1]
    | rz a m2 => rw [bnd_rzo e1, bnd_rzo e1]
    | ok d m2 =>
      rw [bnd_ok e1, bnd_ok e1]
      have em := view_same e1
      subst em
      cases q : truD d with
      | none => rfl
      | some t =>
        cases t with
        | true => rfl
        | false =>
          show bnd (viewM x) (fun d => ofO (truD d)) m2 = .ok false m2
          rw [bnd_ok e1, q]
          rfl
theorem or_eq (A B : Mo RV) : truM (bnd A fun x => bnd (viewM x) fun d => bnd (ofO (truD d)) fun t => (match t with | true => pur x | false => B)) = orM (truM A) (truM B) := by
  funext m
  unfold orM truM
  simp only [bnd_bnd]
  cases e : A m with
  | no => rw [bnd_noo e, bnd_noo e]
  | rz a m1 => rw [bnd_rzo e, bnd_rzo e]
  | ok x m1 =>
    rw [bnd_ok e, bnd_ok e]
    cases e1 : viewM x m1 with
    | no => rw [bnd_noo e1, bnd_noo e1]
    | rz a m2 => rw [bnd_rzo e1, bnd_rzo e1]
    | ok d m2 =>
      rw [bnd_ok e1, bnd_ok e1]
      have em := view_same e1
      subst em
      cases q : truD d with
      | none => rfl
      | some t =>
        cases t with
        | false => rfl
        | true =>
          show bnd (viewM x) (fun d => ofO (truD d)) m2 = .ok true m2
          rw [bnd_ok e1, q]
          rfl
theorem ofO_bl {o : Option Bool} (f : Bool → Bool) : (bnd (ofO o) fun b => bnd (pur (RV.d (.bl (f b)))) fun a => bnd (viewM a) fun d => ofO (truD d)) = bnd (ofO o) fun b => pur (f b) := by
  cases o <;> rfl
theorem not_eq (A : Mo RV) : truM (bnd A fun x => bnd (viewM x) fun d => bnd (ofO (truD d)) fun b => pur (.d (.bl (!b)))) = bnd (truM A) fun k => pur (!k) := by
  unfold truM
  simp only [bnd_bnd, ofO_bl (fun b => !b)]
theorem cmp_eq (o : COp) (A B : Mo RV) : truM (bnd A fun x => bnd B fun y => bnd (viewM x) fun x => bnd (viewM y) fun y => bnd (ofO (cmpD o x y)) fun b => pur (.d (.bl b))) = bnd A fun x => bnd B fun y => bnd (viewM x) fun x => bnd (viewM y) fun y => ofO (cmpD o x y) := by
  unfold truM
  simp only [bnd_bnd, ofO_bl (fun b => b)]
  have e : ∀ o : Option Bool, (bnd (ofO o) fun b => pur b) = ofO o := fun o => by cases o <;> rfl
  simp only [e]
theorem ife_eq (T A B : Mo RV) : (bnd T fun x => bnd (viewM x) fun d => bnd (ofO (truD d)) fun t => (match t with | true => A | false => B)) = bnd (truM T) fun t => (match t with | true => A | false => B) := by
  unfold truM
  simp only [bnd_bnd]
theorem evs_len (cf : Nat → List Val → Mo RV) : ∀ (as : List Ep) (s : Sl) (m : Mem) (ys : List RV) (m' : Mem), evs md cf as s m = .ok ys m' → ys.length = as.length
  | [], s, m, ys, m', h => by cases h; rfl
  | a :: as, s, m, ys, m', h => by
    have h : bnd (ev md cf a s) (fun x => bnd (evs md cf as s) fun xs => pur (x :: xs)) m = .ok ys m' := h
    obtain ⟨x, m1, h1, h2⟩ := bnd_inv h
    obtain ⟨xs, m2, h3, h4⟩ := bnd_inv h2
    cases h4
    rw [List.length_cons, List.length_cons, evs_len cf as s _ xs _ h3]
theorem okName_ok {x : Str} (h : okName x = true) : (x == ("__debug__" : Str)) = false ∧ (x == ("__classdict__" : Str)) = false := by
  unfold okName at h
  rw [Bool.and_eq_true] at h
  exact ⟨by simpa using h.1, by simpa using h.2⟩
theorem ands {a b : Bool} (h : (a && b) = true) : a = true ∧ b = true := by rwa [Bool.and_eq_true] at h
theorem gk {A B : Prop} (h : A ∧ B) : A ∧ B := h
theorem one_eq (ik : IK) (a : Ep) (cf : Nat → List Val → Mo RV) (s : Sl) : iM ik (evs md cf [a] s) = oneM ik (ev md cf a s) := by
  show bnd (bnd (ev md cf a s) fun x => bnd (pur []) fun xs => pur (x :: xs)) _ = _
  rw [bnd_bnd]
  rfl
/-- what a call's name gives -/
theorem okFn_ok {f : Nat} {x : Str} (h : okFn md nm c f x = true) : (∃ fd, md.fns[f]? = some fd) ∧ nm.fn[f]? = some x ∧ (x.length == 0) = false ∧ c.gl x = true ∧ (x == ("__debug__" : Str)) = false := by
  unfold okFn at h
  obtain ⟨h, h5⟩ := ands h
  obtain ⟨h, h4⟩ := ands h
  obtain ⟨h, h3⟩ := ands h
  obtain ⟨h1, h2⟩ := ands h
  exact ⟨⟨_, List.getElem?_eq_getElem (of_decide_eq_true h1)⟩, eq_of_beq h2, by simpa using h3, h4, (okName_ok h5).1⟩
theorem okMk_ok {cl f : Nat} {x : Str} (h : okMk md nm c cl f x = true) : (∃ fd, md.fns[f]? = some fd) ∧ nm.cl[cl]? = some x ∧ (cl, f) ∈ nm.mks ∧ c.gl x = true ∧ (x == ("__debug__" : Str)) = false := by
  unfold okMk at h
  obtain ⟨h, h5⟩ := ands h
  obtain ⟨h, h4⟩ := ands h
  obtain ⟨h, h3⟩ := ands h
  obtain ⟨h1, h2⟩ := ands h
  exact ⟨⟨_, List.getElem?_eq_getElem (of_decide_eq_true h1)⟩, eq_of_beq h2, of_decide_eq_true h3, h4, (okName_ok h5).1⟩
theorem mEs_nil {es : List Expr} (h : mEs md nm c [] es = true) : es = [] := by
  cases es with
  | nil => rfl
  | cons _ _ => cases h
end
end Fw

/-! T25: expressions that match are read by the interpreter: the theorem. -/
namespace Fw
open PySem PySem.Spec PyProof.Rows L2

section
variable {md : Md} {nm : Nm} {fa : Nat → Addr} {j : Nat} {W : Wd}
theorem PT.eqv {X : Cx} {e : Expr} {Wx : WX} {a b : Sl → Mo Bool} (h : PT X e (tT W a Wx)) (q : ∀ s, b s = a s) : PT X e (tT W b Wx) := by
  have : b = a := funext q
  rw [this]; exact h
theorem PW.eqv {X : Cx} {e : Expr} {Wx : WX} {a b : Sl → Mo Bool} (h : PW X e (tT W a Wx)) (q : ∀ s, b s = a s) : PW X e (tT W b Wx) := by
  have : b = a := funext q
  rw [this]; exact h
mutual
theorem sE (K : MdK md) : ∀ (ep : Ep) (X : Cx) (c : Ck) (Wx : WX) (e : Expr), GX X W md nm fa j c Wx → mE md nm c ep e = true → RE X W Wx md j ep e
  | .v i, X, c, Wx, e, G, h => by
    unfold mE at h
    split at h
    case h_2 => cases h
    rename_i x p q
    have := vName_ok q
    subst this
    obtain ⟨h, h3⟩ := ands h
    obtain ⟨h1, h2⟩ := ands h
    obtain ⟨n1, n2⟩ := okName_ok h3
    exact .of (m_var G (eq_of_beq h1) h2 n1 n2) rfl
  | .k d, X, c, Wx, e, G, h => by
    unfold mE at h
    split at h
    case h_2 => cases h
    rename_i k n p q
    have := vConst_ok q
    subst this
    exact .of (m_k h) rfl
  | .gc g d, X, c, Wx, e, G, h => by
    unfold mE at h
    split at h
    case h_2 => cases h
    rename_i x p q
    have := vName_ok q
    subst this
    obtain ⟨h, h3⟩ := ands h
    obtain ⟨h1, h2⟩ := ands h
    split at h3
    case h_2 => cases h3
    rename_i y d' q2
    obtain ⟨h4, h5⟩ := ands h3
    have e1 := eq_of_beq h4
    have e2 := scB_ok h5
    subst e1 e2
    exact .of (m_gc G q2 h1 (okName_ok h2).1) rfl
  | .bin o a b, X, c, Wx, e, G, h => by
    unfold mE at h
    split at h
    case h_2 => cases h
    rename_i x op y p q
    have := vBin_ok q
    subst this
    obtain ⟨h, h3⟩ := ands h
    obtain ⟨h1, h2⟩ := ands h
    have e1 := eq_of_beq h1
    subst e1
    exact .of (m_bin o (sE K a X c Wx x G h2).pe (sE K b X c Wx y G h3).pe) rfl
  | .neg a, X, c, Wx, e, G, h => by
    unfold mE at h
    split at h
    case h_2 => cases h
    rename_i x p q
    have := vUn_ok q
    subst this
    exact .of (m_neg (sE K a X c Wx x G h).pe) rfl
  | .not_ a, X, c, Wx, e, G, h => by
    unfold mE at h
    split at h
    case h_2 => cases h
    rename_i x p q
    have := vUn_ok q
    subst this
    have A := sE K a X c Wx x G h
    exact ⟨m_not A.pe, fun t => PT.eqv (t_not (A.pt t)) fun s => not_eq _, fun t o vs p q => by cases q⟩
  | .cmp o a b, X, c, Wx, e, G, h => by
    unfold mE at h
    split at h
    case h_2 => cases h
    rename_i x op y p q
    have := vCmp_ok q
    subst this
    obtain ⟨h, h4⟩ := ands h
    obtain ⟨h, h3⟩ := ands h
    obtain ⟨h1, h2⟩ := ands h
    have e1 := eq_of_beq h1
    subst e1
    have h4 : behindInMarks o.op y = false := by simpa using h4
    have A := sE K a X c Wx x G h2
    have B := sE K b X c Wx y G h3
    exact ⟨m_cmp G o A.pe B.pe h4, fun t => PT.eqv (t_cmp G o A.pe B.pe h4) fun s => cmp_eq o _ _, fun t o vs p q => by cases q⟩
  | .chain o1 o2 a b d, X, c, Wx, e, G, h => by
    unfold mE at h
    split at h
    case h_2 => cases h
    rename_i x p1 y p2 z p q
    have := vCmp2_ok q
    subst this
    obtain ⟨h, h6⟩ := ands h
    obtain ⟨h, h5⟩ := ands h
    obtain ⟨h, h4⟩ := ands h
    obtain ⟨h, h3⟩ := ands h
    obtain ⟨h1, h2⟩ := ands h
    have e1 := eq_of_beq h1
    have e2 := eq_of_beq h2
    subst e1 e2
    have h6 : lastMarks [o1.op, o2.op] [y, z] = false := by simpa using h6
    have A := sE K a X c Wx x G h3
    have B := sE K b X c Wx y G h4
    have C := sE K d X c Wx z G h5
    exact ⟨m_chain G o1 o2 A.pe B.pe C.pe h6, fun t => t_chain G o1 o2 A.pe B.pe C.pe h6, fun t o vs p q => by cases q⟩
  | .and_ a b, X, c, Wx, e, G, h => by
    unfold mE at h
    split at h
    case h_2 => cases h
    rename_i x y r p q
    have := vBool_ok q
    subst this
    obtain ⟨h1, h2⟩ := ands h
    have A := sE K a X c Wx x G h1
    cases r with
    | nil =>
      have B := sE K b X c Wx y G h2
      have T : tOk (.and_ a b) = true → PW X (.BoolOp .And [x, y] p) (tT W (fun s => truM (ev md (callI md j) (.and_ a b) s)) Wx) := fun t => by
        obtain ⟨t1, t2⟩ := ands t
        exact PW.eqv (PW.of (pw_and (A.pt t1) (pw_and1 (B.pt t2))) fun σ H Q z => tAnd_of z) fun s => and_eq _ _
      exact ⟨m_and A.pe (pe_one B.pe), fun t => (T t).pt, fun t o vs p q => by cases q; exact T t⟩
    | cons z r =>
      have B := sE K b X c Wx (.BoolOp .And (y :: z :: r) p) G h2
      have T : tOk (.and_ a b) = true → PW X (.BoolOp .And (x :: y :: z :: r) p) (tT W (fun s => truM (ev md (callI md j) (.and_ a b) s)) Wx) := fun t => by
        obtain ⟨t1, t2⟩ := ands t
        exact PW.eqv (PW.of (pw_and (A.pt t1) (B.pw t2 _ _ _ rfl)) fun σ H Q z => tAnd_of z) fun s => and_eq _ _
      exact ⟨m_and A.pe B.pe, fun t => (T t).pt, fun t o vs p q => by cases q; exact T t⟩
  | .or_ a b, X, c, Wx, e, G, h => by
    unfold mE at h
    split at h
    case h_2 => cases h
    rename_i x y r p q
    have := vBool_ok q
    subst this
    obtain ⟨h1, h2⟩ := ands h
    have A := sE K a X c Wx x G h1
    cases r with
    | nil =>
      have B := sE K b X c Wx y G h2
      have T : tOk (.or_ a b) = true → PW X (.BoolOp .Or [x, y] p) (tT W (fun s => truM (ev md (callI md j) (.or_ a b) s)) Wx) := fun t => by
        obtain ⟨t1, t2⟩ := ands t
        exact PW.eqv (PW.of (pw_or (A.pt t1) (pw_or1 (B.pt t2))) fun σ H Q z => tOr_of z) fun s => or_eq _ _
      exact ⟨m_or A.pe (pe_one B.pe), fun t => (T t).pt, fun t o vs p q => by cases q; exact T t⟩
    | cons z r =>
      have B := sE K b X c Wx (.BoolOp .Or (y :: z :: r) p) G h2
      have T : tOk (.or_ a b) = true → PW X (.BoolOp .Or (x :: y :: z :: r) p) (tT W (fun s => truM (ev md (callI md j) (.or_ a b) s)) Wx) := fun t => by
        obtain ⟨t1, t2⟩ := ands t
        exact PW.eqv (PW.of (pw_or (A.pt t1) (B.pw t2 _ _ _ rfl)) fun σ H Q z => tOr_of z) fun s => or_eq _ _
      exact ⟨m_or A.pe B.pe, fun t => (T t).pt, fun t o vs p q => by cases q; exact T t⟩
  | .ife t a b, X, c, Wx, e, G, h => by
    unfold mE at h
    split at h
    case h_2 => cases h
    rename_i x y z p q
    have := vIf_ok q
    subst this
    obtain ⟨h, h4⟩ := ands h
    obtain ⟨h, h3⟩ := ands h
    obtain ⟨h1, h2⟩ := ands h
    have T := sE K t X c Wx x G h2
    have P := m_ife (pos := p) (T.pt h1) (sE K a X c Wx y G h3).pe (sE K b X c Wx z G h4).pe
    have e2 : (fun s => ev md (callI md j) (.ife t a b) s) = fun s => bnd (truM (ev md (callI md j) t s)) fun k => (match k with | true => ev md (callI md j) a s | false => ev md (callI md j) b s) := funext fun s => ife_eq _ _ _
    refine ⟨?_, fun q => (by cases q), fun q => (by cases q)⟩
    show PE X _ (tM W (fun s => ev md (callI md j) (.ife t a b) s) Wx)
    rw [e2]
    exact P
  | .call f as, X, c, Wx, e, G, h => by
    unfold mE at h
    split at h
    case h_2 => cases h
    rename_i x p es pp q
    have := vCall_ok q
    subst this
    obtain ⟨h, h3⟩ := ands h
    obtain ⟨h1, h2⟩ := ands h
    obtain ⟨⟨fd, k1⟩, k2, k3, k4, k5⟩ := okFn_ok h1
    exact .of (m_call G k1 k2 k3 k4 k5 (sEs K as X c Wx es G h2 h3) (fun z => (by subst z; cases as with | nil => exact fun s => rfl | cons _ _ => cases h2)) h3) rfl
  | .mk cl f as, X, c, Wx, e, G, h => by
    unfold mE at h
    split at h
    case h_2 => cases h
    rename_i x p es pp q
    have := vCall_ok q
    subst this
    obtain ⟨h, h3⟩ := ands h
    obtain ⟨h1, h2⟩ := ands h
    obtain ⟨⟨fd, k1⟩, k2, k3, k4, k5⟩ := okMk_ok h1
    have P := m_make (mu := false) (p := p) (pos := pp) G k1 k2 k3 k4 k5 (sEs K as X c Wx es G h2 h3) (fun z => (by subst z; cases as with | nil => exact fun s => rfl | cons _ _ => cases h2)) h3
    exact .of P rfl
  | .mkM cl f as, X, c, Wx, e, G, h => by
    unfold mE at h
    split at h
    case h_2 => cases h
    rename_i x p es pp q
    have := vCall_ok q
    subst this
    obtain ⟨h, h3⟩ := ands h
    obtain ⟨h1, h2⟩ := ands h
    obtain ⟨⟨fd, k1⟩, k2, k3, k4, k5⟩ := okMk_ok h1
    have P := m_make (mu := true) (p := p) (pos := pp) G k1 k2 k3 k4 k5 (sEs K as X c Wx es G h2 h3) (fun z => (by subst z; cases as with | nil => exact fun s => rfl | cons _ _ => cases h2)) h3
    exact .of P rfl
  | .meth mn o as, X, c, Wx, e, G, h => by
    unfold mE at h
    split at h
    case h_2 => cases h
    rename_i o' n ap es pp q
    have := vMeth_ok q
    subst this
    obtain ⟨h, h7⟩ := ands h
    obtain ⟨h, h6⟩ := ands h
    obtain ⟨h, h5⟩ := ands h
    obtain ⟨h, h4⟩ := ands h
    obtain ⟨h, h3⟩ := ands h
    obtain ⟨h1, h2⟩ := ands h
    exact .of (m_meth G K.ms (eq_of_beq h1) (sE K o X c Wx o' G h2).pe h3 h4 (sEs K as X c Wx es G h5 h6) (fun z => (by subst z; cases as with | nil => exact fun s => rfl | cons _ _ => cases h5)) h6 h7) rfl
  | .attr f o, X, c, Wx, e, G, h => by
    unfold mE at h
    split at h
    case h_2 => cases h
    rename_i o' n p q
    have := vAttr_ok q
    subst this
    obtain ⟨h, h3⟩ := ands h
    obtain ⟨h1, h2⟩ := ands h
    exact .of (m_attr G (eq_of_beq h1) (sE K o X c Wx o' G h2).pe h3) rfl
  | .prop f o, X, c, Wx, e, G, h => by
    unfold mE at h
    split at h
    case h_2 => cases h
    rename_i o' n p q
    have := vAttr_ok q
    subst this
    obtain ⟨h, h3⟩ := ands h
    obtain ⟨h1, h2⟩ := ands h
    exact .of (m_prop G K.pr (eq_of_beq h1) (sE K o X c Wx o' G h2).pe h3) rfl
  | .ccon cl f d, X, c, Wx, e, G, h => by
    unfold mE at h
    split at h
    case h_2 => cases h
    rename_i u p n q1 q
    have := vCcon_ok q
    subst this
    obtain ⟨h, h5⟩ := ands h
    obtain ⟨h, h4⟩ := ands h
    obtain ⟨h, h3⟩ := ands h
    obtain ⟨h1, h2⟩ := ands h
    rw [List.any_eq_true] at h3
    obtain ⟨⟨c', f', d'⟩, hm, h3⟩ := h3
    obtain ⟨h3, h6⟩ := ands h3
    obtain ⟨h7, h8⟩ := ands h3
    have e1 := eq_of_beq h7
    have e2 := eq_of_beq h8
    have e3 := scB_ok h6
    subst e1 e2 e3
    exact .of (m_ccon G (eq_of_beq h1) (eq_of_beq h2) hm h4 (okName_ok h5).1) rfl
  | .bi b as, X, c, Wx, e, G, h => by
    unfold mE at h
    split at h
    case h_2 => cases h
    rename_i x p es pp q
    have := vCall_ok q
    subst this
    obtain ⟨h, h6⟩ := ands h
    obtain ⟨h, h5⟩ := ands h
    obtain ⟨h, h4⟩ := ands h
    obtain ⟨h, h3⟩ := ands h
    obtain ⟨h1, h2⟩ := ands h
    have e1 := eq_of_beq h2
    subst e1
    cases es with
    | nil => cases h4
    | cons u es => exact .of (m_bi G b h1 h3 (sEs K as X c Wx (u :: es) G h5 h6) h6) rfl
  | .lenset a, X, c, Wx, e, G, h => by
    unfold mE at h
    split at h
    case h_2 => cases h
    rename_i p x q1 pos q
    have := vLenSet_ok q
    subst this
    obtain ⟨h, h4⟩ := ands h
    obtain ⟨h, h3⟩ := ands h
    obtain ⟨h1, h2⟩ := ands h
    exact .of (m_lenset G h1 h2 (sE K a X c Wx x G h3).pe h4) rfl
  | .isi a ts, X, c, Wx, e, G, h => by
    unfold mE at h
    split at h
    case h_2 => cases h
    rename_i x p u te pp q
    have := vCall_ok q
    subst this
    obtain ⟨h, h5⟩ := ands h
    obtain ⟨h, h4⟩ := ands h
    obtain ⟨h, h3⟩ := ands h
    obtain ⟨h1, h2⟩ := ands h
    have e1 := eq_of_beq h1
    subst e1
    have A := (sE K a X c Wx u G h3).pe
    unfold okIsi at h5
    obtain ⟨h6, h7⟩ := ands h5
    have tup : (match vTup te with
      | some (tes, _, _) => (ts.length == tes.length) && (ts.zip tes).all (fun p => tyEx nm c p.1 p.2)
      | none => false) = true → decide (ts.length < 1000) = true → RE X W Wx md j (.isi a ts) (.Call (.Name "isinstance" p) [u, te] [] pp) := fun hb hlt => by
      split at hb
      case h_2 => cases hb
      rename_i tes k2 p2 q2
      have := vTup_ok q2
      subst this
      obtain ⟨g1, g2⟩ := ands hb
      exact .of (m_isiT G A h4 h2 g1 g2 h6 hlt) rfl
    split at h7
    · rename_i T te' 
      rw [Bool.or_eq_true] at h7
      rcases h7 with h7 | h7
      · have := h6
        rw [List.all_cons] at this
        exact .of (m_isi1 G A h4 h2 h7 (ands this).1) rfl
      · exact tup h7 rfl
    · obtain ⟨h8, h9⟩ := ands h7
      exact tup h9 h8
  | .bm b o as, X, c, Wx, e, G, h => by
    unfold mE at h
    split at h
    case h_2 => cases h
    rename_i o' n ap es pp q
    have := vMeth_ok q
    subst this
    split at h
    · rename_i u
      obtain ⟨h, h6⟩ := ands h
      obtain ⟨h, h5⟩ := ands h
      obtain ⟨h, h4⟩ := ands h
      obtain ⟨h, h3⟩ := ands h
      obtain ⟨h1, h2⟩ := ands h
      have e1 := eq_of_beq h1
      subst e1
      cases as with
      | nil => cases h5
      | cons a as =>
        cases as with
        | cons _ _ => have h5 : (mE md nm c a u && false) = true := h5; rw [Bool.and_false] at h5; cases h5
        | nil =>
          have h5 : (mE md nm c a u && true) = true := h5
          exact .of (m_get1 G (sE K o X c Wx o' G h2).pe (sE K a X c Wx u G (ands h5).1).pe h3 h4 h6) rfl
    · rename_i u w
      obtain ⟨h, h7⟩ := ands h
      obtain ⟨h, h6⟩ := ands h
      obtain ⟨h, h5⟩ := ands h
      obtain ⟨h, h4⟩ := ands h
      obtain ⟨h, h3⟩ := ands h
      obtain ⟨h1, h2⟩ := ands h
      have e1 := eq_of_beq h1
      subst e1
      cases as with
      | nil => cases h5
      | cons a as =>
       cases as with
       | nil => exact absurd (ands (show (mE md nm c a u && false) = true from h5)).2 Bool.false_ne_true
       | cons b as =>
        cases as with
        | cons _ _ => exact absurd (ands (ands (show (mE md nm c a u && (mE md nm c b w && false)) = true from h5)).2).2 Bool.false_ne_true
        | nil =>
        have h5 : (mE md nm c a u && (mE md nm c b w && true)) = true := h5
        obtain ⟨g1, g2⟩ := ands h5
        exact .of (m_get2 G (sE K o X c Wx o' G h2).pe (sE K a X c Wx u G g1).pe (sE K b X c Wx w G (ands g2).1).pe h3 h4 h6 h7) rfl
    · cases h
  | .sub a i, X, c, Wx, e, G, h => by
    unfold mE at h
    split at h
    case h_2 => cases h
    rename_i x y p q
    have := vSub_ok q
    subst this
    obtain ⟨h, h3⟩ := ands h
    obtain ⟨h1, h2⟩ := ands h
    exact .of (m_sub G (sE K a X c Wx x G h1).pe (sE K i X c Wx y G h2).pe h3) rfl
  | .sl a lo hi, X, c, Wx, e, G, h => by
    unfold mE at h
    split at h
    case h_2 => cases h
    rename_i x y p q
    have := vSub_ok q
    subst this
    obtain ⟨h1, h2⟩ := ands h
    split at h2
    case h_2 => cases h2
    rename_i l hh p2 q2
    have := vSl_ok q2
    subst this
    obtain ⟨h3, h4⟩ := ands h2
    have none : ∀ u : Ep, isNonE u = true → POs X W Wx none (fun s => (match isNonE u with
      | true => pur none
      | false => intM (ev md (callI md j) u s))) := fun u hu => by rw [hu]; exact pos_none
    have some' : ∀ (u : Ep) (z : Expr), isNonE u = false → PE X z (tM W (ev md (callI md j) u) Wx) → POs X W Wx (some z) (fun s => (match isNonE u with
      | true => pur Option.none
      | false => intM (ev md (callI md j) u s))) := fun u z hu hz => by rw [hu]; exact pos_some hz
    have A := (sE K a X c Wx x G h1).pe
    have L : POs X W Wx l (fun s => (match isNonE lo with
      | true => pur Option.none
      | false => intM (ev md (callI md j) lo s))) := by
      cases l with
      | none => exact none lo h3
      | some z =>
        obtain ⟨g1, g2⟩ := ands h3
        exact some' lo z (by simpa using g1) (sE K lo X c Wx z G g2).pe
    have R : POs X W Wx hh (fun s => (match isNonE hi with
      | true => pur Option.none
      | false => intM (ev md (callI md j) hi s))) := by
      cases hh with
      | none => exact none hi h4
      | some z =>
        obtain ⟨g1, g2⟩ := ands h4
        exact some' hi z (by simpa using g1) (sE K hi X c Wx z G g2).pe
    exact .of (m_sl A L R) rfl
  | .rev a, X, c, Wx, e, G, h => by
    unfold mE at h
    split at h
    case h_2 => cases h
    rename_i x y p q
    have := vSub_ok q
    subst this
    obtain ⟨h1, h2⟩ := ands h
    cases q : vRev y with
    | none => rw [q] at h2; cases h2
    | some w =>
      obtain ⟨k, p1, p2, p3⟩ := w
      have := vRev_ok q
      subst this
      exact .of (m_rev (sE K a X c Wx x G h1).pe) rfl
  | .lst as, X, c, Wx, e, G, h => by
    unfold mE at h
    split at h
    case h_2 => cases h
    rename_i es p q
    have := vLst_ok q
    subst this
    obtain ⟨h, h3⟩ := ands h
    obtain ⟨h1, h2⟩ := ands h
    exact .of (m_lst (sEs K as X c Wx es G h1 h2) fun s m ys m' z => (by rw [evs_len _ as s m ys m' z]; have := of_decide_eq_true h3; omega)) rfl
  | .tup as, X, c, Wx, e, G, h => by
    unfold mE at h
    split at h
    case h_2 => cases h
    rename_i es k p q
    have := vTup_ok q
    subst this
    obtain ⟨h, h3⟩ := ands h
    obtain ⟨h1, h2⟩ := ands h
    exact .of (m_tup (sEs K as X c Wx es G h1 h2) fun s m ys m' z => (by rw [evs_len _ as s m ys m' z]; have := of_decide_eq_true h3; omega)) rfl
  | .dct t ks vs, X, c, Wx, e, G, h => by
    unfold mE at h
    obtain ⟨h, h3⟩ := ands h
    obtain ⟨h1, h2⟩ := ands h
    cases ks with
    | cons _ _ => cases h1
    | nil =>
      cases vs with
      | cons _ _ => cases h2
      | nil =>
        cases q : vDct e with
        | none => rw [q] at h3; cases h3
        | some p =>
          have := vDct_ok q
          subst this
          exact .of m_dct0 rfl
  | .lc own t ik as ifs el, X, c, Wx, e, G, h => by
    unfold mE at h
    split at h
    case h_2 => cases h
    rename_i el' tg it ifs' sc p q
    have := vLc_ok q
    subst this
    obtain ⟨h, h9⟩ := ands h
    obtain ⟨h, h8⟩ := ands h
    obtain ⟨h, h7⟩ := ands h
    obtain ⟨h, h6⟩ := ands h
    obtain ⟨h, h5⟩ := ands h
    obtain ⟨h, h4⟩ := ands h
    obtain ⟨h, h3⟩ := ands h
    obtain ⟨h1, h2⟩ := ands h
    have eo : (own.map fun i => (c.N.getD i Str.empty, i)).map (·.2) = own := by
      rw [List.map_map]
      exact List.map_id own
    have ok : BlkOk X.N X.env.scope sc (own.map fun i => (c.N.getD i Str.empty, i)) := by
      rw [G.N, G.sc]
      exact blkOk_by h1
    have hx : ∀ i ∈ t.ix, i ∈ (own.map fun i => (c.N.getD i Str.empty, i)).map (·.2) := fun i hi => by
      rw [eo]
      have := (List.all_eq_true.mp h2) i hi
      simpa using this
    have P := m_lc (pos := p) G (sI K as ik X c Wx it tg G h5) ok hx h3 (fun s H C cl fp => sTs K ifs _ _ _ ifs' (G.blk sc s H C cl fp) (of_decide_eq_true h6) h7 h8) (fun s H C cl fp => (sE K el _ _ _ el' (G.blk sc s H C cl fp) h9).pe) (nset_ok h4)
    rw [eo] at P
    have e2 : (fun s => ev md (callI md j) (.lc own t ik as ifs el) s) = fun s => bnd (iM ik (evs md (callI md j) as s)) fun items => bnd (lcM (lcF own t (evTs md (callI md j) ifs) (ev md (callI md j) el) s) items) fun ys => pur (.o (.lst ys)) := funext fun s => by
      unfold iM
      rw [bnd_bnd]
      simp only [bnd_bnd]
      rfl
    refine .of ?_ rfl
    show PE X _ (tM W (fun s => ev md (callI md j) (.lc own t ik as ifs el) s) Wx)
    rw [e2]
    exact P
  | .dc own t ik as ifs k v, X, c, Wx, e, G, h => by
    unfold mE at h
    split at h
    case h_2 => cases h
    rename_i k' v' tg it ifs' sc p q
    have := vDc_ok q
    subst this
    obtain ⟨h, h10⟩ := ands h
    obtain ⟨h, h9⟩ := ands h
    obtain ⟨h, h8⟩ := ands h
    obtain ⟨h, h7⟩ := ands h
    obtain ⟨h, h6⟩ := ands h
    obtain ⟨h, h5⟩ := ands h
    obtain ⟨h, h4⟩ := ands h
    obtain ⟨h, h3⟩ := ands h
    obtain ⟨h1, h2⟩ := ands h
    have eo : (own.map fun i => (c.N.getD i Str.empty, i)).map (·.2) = own := by
      rw [List.map_map]
      exact List.map_id own
    have ok : BlkOk X.N X.env.scope sc (own.map fun i => (c.N.getD i Str.empty, i)) := by
      rw [G.N, G.sc]
      exact blkOk_by h1
    have hx : ∀ i ∈ t.ix, i ∈ (own.map fun i => (c.N.getD i Str.empty, i)).map (·.2) := fun i hi => by
      rw [eo]
      have := (List.all_eq_true.mp h2) i hi
      simpa using this
    have P := m_dc (pos := p) G (sI K as ik X c Wx it tg G h5) ok hx h3 (fun s H C cl fp => sTs K ifs _ _ _ ifs' (G.blk sc s H C cl fp) (of_decide_eq_true h6) h7 h8) (fun s H C cl fp => (sE K k _ _ _ k' (G.blk sc s H C cl fp) h9).pe) (fun s H C cl fp => (sE K v _ _ _ v' (G.blk sc s H C cl fp) h10).pe) (nset_ok h4)
    rw [eo] at P
    have e2 : (fun s => ev md (callI md j) (.dc own t ik as ifs k v) s) = fun s => bnd (iM ik (evs md (callI md j) as s)) fun items => bnd (dcM (dcF own t (evTs md (callI md j) ifs) (ev md (callI md j) k) (ev md (callI md j) v) s) items []) fun ys => pur (.o (.dK ys)) := funext fun s => by
      unfold iM
      rw [bnd_bnd]
      simp only [bnd_bnd]
      rfl
    refine .of ?_ rfl
    show PE X _ (tM W (fun s => ev md (callI md j) (.dc own t ik as ifs k v) s) Wx)
    rw [e2]
    exact P
  | .fz _, X, c, Wx, e, G, h => by cases h
  | .scut i k, X, c, Wx, e, G, h => by
    unfold mE at h
    split at h
    case h_2 => cases h
    rename_i u p n q1 p1 p2 pos q
    have := vScut_ok q
    subst this
    obtain ⟨h, h4⟩ := ands h
    obtain ⟨h, h3⟩ := ands h
    obtain ⟨h1, h2⟩ := ands h
    have e1 := eq_of_beq h1
    subst e1
    obtain ⟨n1, n2⟩ := okName_ok h4
    exact .of (m_scut G (eq_of_beq h2) h3 n1 n2) rfl
  | .semp i, X, c, Wx, e, G, h => by
    unfold mE at h
    split at h
    case h_2 => cases h
    rename_i u p p1 pos q
    have := vSemp_ok q
    subst this
    obtain ⟨h, h3⟩ := ands h
    obtain ⟨h1, h2⟩ := ands h
    obtain ⟨n1, n2⟩ := okName_ok h3
    exact ⟨m_semp G (eq_of_beq h1) h2 n1 n2, (fun t => nomatch t), (fun t => nomatch t)⟩
  | .lit _ _, X, c, Wx, e, G, h => by cases h
  | .fst _, X, c, Wx, e, G, h => by cases h
theorem sEs (K : MdK md) : ∀ (as : List Ep) (X : Cx) (c : Ck) (Wx : WX) (es : List Expr), GX X W md nm fa j c Wx → mEs md nm c as es = true → es.all nst = true → PA X es (tMs W (evs md (callI md j) as) Wx)
  | [], X, c, Wx, es, G, h, hs => by
    have := mEs_nil h
    subst this
    exact ma_nil
  | a :: as, X, c, Wx, es, G, h, hs => by
    cases es with
    | nil => cases h
    | cons e es =>
      have h : (mE md nm c a e && mEs md nm c as es) = true := h
      obtain ⟨h1, h2⟩ := ands h
      rw [List.all_cons] at hs
      obtain ⟨h3, h4⟩ := ands hs
      exact ma_cons (sE K a X c Wx e G h1).pe (sEs K as X c Wx es G h2 h4) h3
theorem sTs (K : MdK md) : ∀ (as : List Ep) (X : Cx) (c : Ck) (Wx : WX) (es : List Expr), GX X W md nm fa j c Wx → as.length ≤ 1 → as.all tOk = true → mEs md nm c as es = true → PTs X es (tT W (evTs md (callI md j) as) Wx)
  | [], X, c, Wx, es, G, hl, ht, h => by
    have := mEs_nil h
    subst this
    exact ⟨fun pins s σ H Q I ⟨g, sl, m, r, sr, hq⟩ => pts_nil.run pins s σ H Q I (hq g H .refl r)⟩
  | [a], X, c, Wx, es, G, hl, ht, h => by
    cases es with
    | nil => cases h
    | cons e es =>
      have h : (mE md nm c a e && mEs md nm c [] es) = true := h
      obtain ⟨h1, h2⟩ := ands h
      have := mEs_nil h2
      subst this
      rw [List.all_cons] at ht
      have T := (sE K a X c Wx e G h1).pt (ands ht).1
      refine pts_one (PT.eqv T fun s => ?_)
      show bnd (ev md (callI md j) a s) _ = bnd (ev md (callI md j) a s) _
      congr 1
      funext x
      congr 1
      funext d
      cases truD d with
      | none => rfl
      | some b => cases b <;> rfl
  | _ :: _ :: _, X, c, Wx, es, G, hl, ht, h => by
    simp only [List.length_cons] at hl
    omega
theorem sI (K : MdK md) : ∀ (as : List Ep) (ik : IK) (X : Cx) (c : Ck) (Wx : WX) (it tg : Expr), GX X W md nm fa j c Wx → mI md nm c ik as it tg = true → PI X tg it (iD W (fun s => iM ik (evs md (callI md j) as s)) Wx)
  | [a], ik, X, c, Wx, it, tg, G, h => by
    have e2 : (fun s => iM ik (evs md (callI md j) [a] s)) = fun s => oneM ik (ev md (callI md j) a s) := funext fun s => one_eq ik a _ s
    rw [e2]
    cases ik with
    | seq => exact i_seq (sE K a X c Wx it G h).pe
    | keys => exact i_keys (sE K a X c Wx it G h).pe
    | vals => cases h
    | zip_ => cases h
    | items => cases h
    | zips_ => cases h
    | enum_ =>
      unfold mI at h
      obtain ⟨h0, k0⟩ := ands h
      clear h
      split at k0
      case h_2 => cases k0
      rename_i x p u pp q
      have := vCall_ok q
      subst this
      obtain ⟨h, h4⟩ := ands k0
      obtain ⟨h, h3⟩ := ands h
      obtain ⟨h1, h2⟩ := ands h
      have e1 := eq_of_beq h1
      subst e1
      cases q2 : vTup tg with
      | none => rw [q2] at h0; cases h0
      | some w =>
        obtain ⟨es, kk, tp⟩ := w
        have := vTup_ok q2
        subst this
        exact i_enum G h2 (sE K a X c Wx u G h3).pe h4
    | rng =>
      unfold mI at h
      split at h
      case h_2 => cases h
      rename_i x p u pp q
      have := vCall_ok q
      subst this
      obtain ⟨h, h4⟩ := ands h
      obtain ⟨h, h3⟩ := ands h
      obtain ⟨h1, h2⟩ := ands h
      have e1 := eq_of_beq h1
      subst e1
      exact i_rng1 G h2 (sE K a X c Wx u G h3).pe h4
  | [a, b], ik, X, c, Wx, it, tg, G, h => by
    cases ik with
    | rng =>
      unfold mI at h
      split at h
      case h_2 => cases h
      rename_i x p u w pp q
      have := vCall_ok q
      subst this
      obtain ⟨h, h6⟩ := ands h
      obtain ⟨h, h5⟩ := ands h
      obtain ⟨h, h4⟩ := ands h
      obtain ⟨h, h3⟩ := ands h
      obtain ⟨h1, h2⟩ := ands h
      have e1 := eq_of_beq h1
      subst e1
      have pa : PA X [u, w] (tMs W (evs md (callI md j) [a, b]) Wx) := ma_cons (sE K a X c Wx u G h3).pe (ma_cons (sE K b X c Wx w G h4).pe ma_nil h6) h5
      exact i_rng2 G h2 pa (fun s m ys m' z => evs_len _ [a, b] s m ys m' z) h5 h6
    | _ => cases h
  | [], ik, X, c, Wx, it, tg, G, h => by cases ik <;> cases h
  | _ :: _ :: _ :: _, ik, X, c, Wx, it, tg, G, h => by cases ik <;> cases h
end
end
end Fw

/-! T26: statements: readings; rows, if, return, names stored. -/
namespace Fw
open PySem PySem.Spec PyProof.Rows L2

def PostS (W : Wd) (g : Gh) (H : Hp) (r : Rs Fl) (D : Ends) (Wx : WX) : Prop := match r with
  | .ok (.nx s) m => ∀ σ' g' H', Eff g H g' H' → MR W g' H' m → SR W g' H' σ' s → D.nx σ' H'
  | .ok (.bk s) m => ∀ σ' g' H', Eff g H g' H' → MR W g' H' m → SR W g' H' σ' s → D.bk σ' H'
  | .ok (.ct s) m => ∀ σ' g' H', Eff g H g' H' → MR W g' H' m → SR W g' H' σ' s → D.ct σ' H'
  | .ok (.rt x) m => ∀ v g' H' As, Out W g H g' H' m v As x → D.rt v H'
  | .ok (.rs x s) m => ∀ cls d σ' g' H', Eff g H g' H' → MR W g' H' m → SR W g' H' σ' s → ExR W g' H' cls d x → Wx cls d σ' H'
  | _ => False
def tS (W : Wd) (x : Sl → Mo Fl) (Wx : WX) : TS := fun D σ H => ∃ g s m, MR W g H m ∧ SR W g H σ s ∧ PostS W g H (x s m) D Wx
/-- an expression's answer within a statement -/
def sMr {α : Type} (s : Sl) (r : Rs α) (f : α → Mo Fl) : Rs Fl := match r with
  | .ok a m => f a m
  | .rz e m => .ok (.rs e s) m
  | .no => .no
theorem sM_r {α : Type} (s : Sl) (x : Mo α) (f : α → Mo Fl) (m : Mem) : sM s x f m = sMr s (x m) f := rfl
section
variable {X : Cx} {W : Wd} {md : Md} {nm : Nm} {fa : Nat → Addr} {j : Nat} {c : Ck} {Wx : WX} {e o tg : Expr} {pos : Pos} {es : List Expr} {x : Sl → Mo RV}
  {g g0 g' : Gh} {H H0 H' : Hp} {m m' : Mem} {σ : L2.St} {s : Sl} {D : Ends} {st : Stmt} {sts : List Stmt}
theorem PS.of {t t' : TS} (h : PS X st t) (i : ∀ D σ H, t' D σ H → t D σ H) : PS X st t' := ⟨fun pins s σ H D I q => h.run pins s σ H D I (i _ _ _ q)⟩
theorem PSs.of {t t' : TS} (h : PSs X sts t) (i : ∀ D σ H, t' D σ H → t D σ H) : PSs X sts t' := ⟨fun pins s σ H D I q => h.run pins s σ H D I (i _ _ _ q)⟩
theorem wish_s {α : Type} {f : α → Mo Fl} (r : MR W g H m) (sr : SR W g H σ s) : Wish W g H (fun r : Rs α => PostS W g H (sMr s r f) D Wx) (WE Wx σ) :=
  ⟨fun h => h, fun x m h cls d g' H' e r' ex => h cls d σ g' H' e r' (sr.eff r e) ex⟩
theorem PostS.go {r : Rs Fl} {g1 : Gh} {H1 : Hp} (e : Eff g H g1 H1) (h : PostS W g H r D Wx) : PostS W g1 H1 r D Wx := by
  cases r with
  | no => exact h
  | rz _ _ => exact h
  | ok f m =>
    cases f with
    | nx s => exact fun σ' g' H' e' r' sr => h σ' g' H' (e.trans e') r' sr
    | bk s => exact fun σ' g' H' e' r' sr => h σ' g' H' (e.trans e') r' sr
    | ct s => exact fun σ' g' H' e' r' sr => h σ' g' H' (e.trans e') r' sr
    | rs x s => exact fun cls d σ' g' H' e' r' sr ex => h cls d σ' g' H' (e.trans e') r' sr ex
    | rt x => exact fun v g' H' As o => h v g' H' As ⟨e.trans o.eff, o.mr, o.rv, o.tm, fun a ha => by
        rcases o.nw a ha with z | z
        · by_cases ow : Ow g a
          · exact .inr ow
          · cases q : H a with
            | none => exact .inl rfl
            | some u => exact (e.there q ow z).elim
        · exact (e.asn a z).symm⟩
/-! ### small statements -/
theorem s_pass : PS X (.Pass pos) (tS W (fun s => pur (.nx s)) Wx) := PS.of ps_pass fun D σ H ⟨g, s, m, r, sr, h⟩ => h σ g H .refl r sr
theorem s_brk : PS X (.Break pos) (tS W (fun s => pur (.bk s)) Wx) := PS.of ps_break fun D σ H ⟨g, s, m, r, sr, h⟩ => h σ g H .refl r sr
theorem s_cnt : PS X (.Continue pos) (tS W (fun s => pur (.ct s)) Wx) := PS.of ps_continue fun D σ H ⟨g, s, m, r, sr, h⟩ => h σ g H .refl r sr
theorem s_retN : PS X (.Return none pos) (tS W (fun _ => pur (.rt (.d .non))) Wx) := PS.of ps_retN fun D σ H ⟨g, s, m, r, sr, h⟩ => h .non g H [] (.d r (by simp only [Rep]))
theorem s_never : PS X st (tS W (fun _ => no) Wx) := PS.of ps_never fun D σ H ⟨g, s, m, r, sr, h⟩ => h
theorem s_ret (he : PE X e (tM W x Wx)) : PS X (.Return (some e) pos) (tS W (fun s => sM s (x s) fun a => pur (.rt a)) Wx) :=
  PS.of (ps_ret he) fun D σ H ⟨g, s, m, r, sr, h⟩ => by
    refine ⟨g, s, m, r, sr, ?_⟩
    have h : PostS W g H (sMr s (x s m) fun a => pur (.rt a)) D Wx := h
    cases q : x s m with
    | ok a m1 => rw [q] at h; exact h
    | rz a m1 => rw [q] at h; exact fun cls d g' H' e r' ex => h cls d σ g' H' e r' (sr.eff r e) ex
    | no => rw [q] at h; exact h
def nswap : Expr → Bool
  | .ListComp _ _ _ _ => false
  | .SetComp _ _ _ _ => false
  | .DictComp _ _ _ _ _ => false
  | _ => true
theorem nswap_ok {t : Option Expr} {n : Nat} {env : Env} (h : nswap e = true) : swapsWith e t n env = pure false := by
  cases e <;> first | rfl | cases h
theorem s_ex (he : PE X e (tM W x Wx)) (hs : nswap e = true) : PS X (.Expr e pos) (tS W (fun s => sM s (x s) fun _ => pur (.nx s)) Wx) :=
  PS.of (ps_expr he (nswap_ok hs)) fun D σ H ⟨g, s, m, r, sr, h⟩ => by
    have w := wish_s (D := D) (Wx := Wx) (f := fun _ : RV => pur (.nx s)) r sr
    refine (tm_stepG (f := pur) w (At.start r sr) (by rw [pur_bnd]; exact h)).mono fun v H1 ⟨g1, m1, a, As, A, h1⟩ => ?_
    exact h1 σ g1 H1 A.eff A.mr A.sr
/-- a value frozen to a name -/
theorem s_asg (G : GX X W md nm fa j c Wx) {i : Nat} {z : Str} {p2 : Pos} (hN : c.N[i]? = some z) (hl : c.loc z = true) (he : PE X e (tM W x Wx)) (hs : nswap e = true) :
    PS X (.Assign [.Name z p2] e pos) (tS W (fun s => sM s (bnd (x s) frzM) fun d => pur (.nx (s.set i (some (.d d))))) Wx) := by
  obtain ⟨hL, hf⟩ := G.loc hl
  refine PS.of (ps_set (by rw [G.N]; exact G.nd) (by rw [G.N]; exact hN) hL he (nswap_ok hs) hf) fun D σ H ⟨g, s, m, r, sr, h⟩ => ?_
  have w := wish_s (D := D) (Wx := Wx) (f := fun d => pur (.nx (s.set i (some (Val.d d))))) r sr
  refine (tm_step2 w (At.start r sr) h).mono fun v H1 ⟨g1, m1, a, Bs, A1, w1, A2, h1⟩ => ?_
  obtain ⟨d, g2, m2, k, rep, A3, h3⟩ := At.frzG (f := pur) w A1 w1 .nil (by rw [pur_bnd]; exact h1)
  exact h3 _ g2 H1 A3.eff A3.mr (A3.sr.set rep)
/-! ### rows, if -/
theorem ss_nil : PSs X [] (tS W (fun s => pur (.nx s)) Wx) := PSs.of pss_nil fun D σ H ⟨g, s, m, r, sr, h⟩ => h σ g H .refl r sr
theorem ss_cons {a b : Sl → Mo Fl} (h1 : PS X st (tS W a Wx)) (h2 : PSs X sts (tS W b Wx)) : PSs X (st :: sts) (tS W (fun s => bnd (a s) fun fl => (match fl with
      | .nx s' => b s'
      | fl => pur fl)) Wx) :=
  PSs.of (pss_cons h1 h2) fun D σ H ⟨g, s, m, r, sr, h⟩ => by
    refine ⟨g, s, m, r, sr, ?_⟩
    have h : PostS W g H (bnd (a s) (fun fl => (match fl with
      | .nx s' => b s'
      | fl => pur fl)) m) D Wx := h
    cases q : a s m with
    | no => rw [bnd_noo q] at h; exact h
    | rz z m1 => rw [bnd_rzo q] at h; exact h
    | ok fl m1 =>
      rw [bnd_ok q] at h
      cases fl with
      | nx s' => exact fun σ' g' H' e r' sr' => ⟨g', s', m1, r', sr', PostS.go e h⟩
      | bk s' => exact h
      | ct s' => exact h
      | rt v => exact h
      | rs v s' => exact h
theorem s_if {d : Expr} {as bs : List Stmt} {p : Sl → Mo Bool} {a b : Sl → Mo Fl} (hc : PT X d (tT W p Wx)) (ha : PSs X as (tS W a Wx)) (hb : PSs X bs (tS W b Wx)) : PS X (.If d as bs pos) (tS W (fun s => sM s (p s) fun t => (match t with
      | true => a s
      | false => b s)) Wx) :=
  PS.of (ps_if hc ha hb) fun D σ H ⟨g, s, m, r, sr, h⟩ => by
    have w := wish_s (D := D) (Wx := Wx) (f := fun t => (match t with
      | true => a s
      | false => b s)) r sr
    refine (tt_step (f := pur) w (At.start r sr) (by rw [pur_bnd]; exact h)).mono fun k H1 ⟨g1, m1, A, h1⟩ => ?_
    cases k with
    | true => rw [if_pos rfl]; exact ⟨g1, s, m1, A.mr, A.sr, PostS.go A.eff h1⟩
    | false => rw [if_neg Bool.false_ne_true]; exact ⟨g1, s, m1, A.mr, A.sr, PostS.go A.eff h1⟩
end
end Fw

/-! T27: for. -/
namespace Fw
open PySem PySem.Spec PyProof.Rows L2

section
variable {X : Cx} {W : Wd} {md : Md} {nm : Nm} {fa : Nat → Addr} {j : Nat} {c : Ck} {Wx : WX} {e o tg : Expr} {pos : Pos} {es : List Expr} {x : Sl → Mo RV}
  {g g0 g' : Gh} {H H0 H' : Hp} {m m' : Mem} {σ : L2.St} {s : Sl} {D : Ends} {st : Stmt} {sts : List Stmt}
def forF (t : Tg) (b : Sl → Mo Fl) : Fw.D → Sl → Mo Fl := fun x s => bnd (ofO (setT s t x)) fun s' => b s'
theorem s_for (G : GX X W md nm fa j c Wx) (hp : PassesOwn (model X.prog X.w) X.A X.env X.xe) {it : Sl → Mo (List Fw.D)} {b : Sl → Mo Fl} {t : Tg} {iter : Expr} {body : List Stmt}
    (hi : PI X tg iter (iD W it Wx)) (ht : mT c t tg = true) (hb : PSs X body (tS W b Wx)) (hs : nset iter = true) :
    PS X (.For tg iter body [] pos) (tS W (fun s => sM s (it s) fun items => forM' (forF t b) items s) Wx) := by
  refine PS.of (ps_for hp G.calm hi (tg_ok G ht) hb (nset_ok hs)) fun D σ H ⟨g, s, m, r, sr, h⟩ => ?_
  refine ⟨g, s, m, r, sr, ?_⟩
  have h : PostS W g H (sMr s (it s m) fun items => forM' (forF t b) items s) D Wx := h
  cases ei : it s m with
  | no => rw [ei] at h; exact h
  | rz a m1 => rw [ei] at h; exact fun cls d g' H' e r' ex => h cls d σ g' H' e r' (sr.eff r e) ex
  | ok items m1 =>
    rw [ei] at h
    intro hlen J Gd g1 H1 ef mr wd gd
    refine ⟨fun i k σ' H' => k = items.length - i ∧ i ≤ items.length ∧ ∃ g' s' m', Eff g H g' H' ∧ MR W g' H' m' ∧ SR W g' H' σ' s' ∧ Gd g' H' ∧ PostS W g H (forM' (forF t b) (items.drop i) s' m') D Wx,
      ⟨items.length, rfl, Nat.zero_le _, g1, s, m1, ef, mr, sr.eff r ef, gd, h⟩, ?_⟩
    rintro i k σ' H' ⟨ek, hi', g', s', m', e1, mr1, sr1, gd1, hq⟩
    by_cases hlt : i < items.length
    · refine .inr ⟨wd.goes i g' H' hlt gd1, _, fun σ2 H2 z => ⟨items.length - (i + 1), by omega, z⟩, fun x' H2 hyl => ?_⟩
      have hd : items[i]? = some items[i] := List.getElem?_eq_getElem hlt
      obtain ⟨g2, ef2, mr2, rep⟩ := wd.yields i g' H' x' H2 m' _ hd gd1 mr1 hyl
      rw [List.drop_eq_getElem_cons hlt] at hq
      have hq : PostS W g H (bnd (bnd (ofO (setT s' t items[i])) fun s' => b s') (fun fl => (match fl with
        | .nx s' => forM' (forF t b) (items.drop (i + 1)) s'
        | .ct s' => forM' (forF t b) (items.drop (i + 1)) s'
        | .bk s' => pur (.nx s')
        | fl => pur fl)) m') D Wx := hq
      cases q3 : setT s' t items[i] with
      | none => rw [q3] at hq; exact hq.elim
      | some s2 =>
        rw [q3] at hq
        have hq : PostS W g H (bnd (b s2) (fun fl => (match fl with
          | .nx s' => forM' (forF t b) (items.drop (i + 1)) s'
          | .ct s' => forM' (forF t b) (items.drop (i + 1)) s'
          | .bk s' => pur (.nx s')
          | fl => pur fl)) m') D Wx := hq
        apply tg_go X.K t W g2 H2 σ' s' s2 x' items[i] _ (sr1.eff mr1 ef2) rep q3
        intro σ2 sr2 l2 o2
        refine ⟨g2, s2, m', mr2, sr2, ?_⟩
        have e2 := e1.trans ef2
        cases q : b s2 m' with
        | no => rw [bnd_noo q] at hq; exact hq
        | rz z m2 => rw [bnd_rzo q] at hq; exact hq
        | ok fl m2 =>
          rw [bnd_ok q] at hq
          cases fl with
          | nx s3 => exact fun σ3 g3 H3 e3 r3 s3' => ⟨rfl, hlt, g3, s3, m2, e2.trans e3, r3, s3', wd.stay _ _ _ _ _ (wd.stay _ _ _ _ _ gd1 mr1 ef2) mr2 e3, hq⟩
          | ct s3 => exact fun σ3 g3 H3 e3 r3 s3' => ⟨rfl, hlt, g3, s3, m2, e2.trans e3, r3, s3', wd.stay _ _ _ _ _ (wd.stay _ _ _ _ _ gd1 mr1 ef2) mr2 e3, hq⟩
          | bk s3 => exact fun σ3 g3 H3 e3 r3 s3' => hq σ3 g3 H3 (e2.trans e3) r3 s3'
          | rt v =>
            have hq : PostS W g H (.ok (.rt v) m2) D Wx := hq
            exact PostS.go (r := .ok (.rt v) m2) (D := D) e2 hq
          | rs v s3 =>
            have hq : PostS W g H (.ok (.rs v s3) m2) D Wx := hq
            exact PostS.go (r := .ok (.rs v s3) m2) (D := D) e2 hq
    · have e : i = items.length := by omega
      subst e
      rw [List.drop_length] at hq
      exact .inl ⟨wd.stops g' H' gd1, hq σ' g' H' e1 mr1 sr1⟩
end
end Fw

/-! T28: cells written: a list or a dict. -/
namespace Fw
open PySem PySem.Spec PyProof.Rows L2

section
variable {W : Wd} {g g' : Gh} {H H' : Hp} {m m' : Mem} {σ : L2.St} {s : Sl}
/-- a flat cell's object is written anew -/
theorem put_cell {n : Nat} {a : Addr} {d d' : D} {u : HO} (r : MR W g H m) (e : m[n]? = some (.fl d)) (e1 : g.rt[n]? = some a) (o : Own W g.fz H a [a] d) (mu : MutO u) (o' : Own W g.fz (upd H a u) a [a] d') (hw : g.as[n]? = some [a]) :
    ∃ g', Eff g H g' (upd H a u) ∧ MR W g' (upd H a u) (m.set n (.fl d')) := by
  obtain ⟨a2, l, As, q1, q2, q3, ok⟩ := r.cell n _ e
  rw [e1] at q1
  cases q1
  rw [hw] at q3
  cases q3
  have k : ∀ b v, H b = some v → b ∉ [a] → upd H a u b = some v := fun b v hv hb => by rw [upd_ne fun z => hb (List.mem_singleton.mpr z)]; exact hv
  have nfa : ¬ g.fz a := r.nf a ⟨n, [a], hw, List.mem_singleton.mpr rfl⟩
  refine ⟨⟨fun b => g.fz b ∨ False, g.rt, g.fr.set n l, g.as.set n [a]⟩, Eff.refl.setC (a := a) q2 hw k (fun _ _ h => h) (fun b hb => .inl hb) (fun b z => z.elim), r.setC e e1 q2 hw k (fun b hb => ?_) ?_ (by simp) (fun b hb => ?_) (fun b z => z.elim)⟩
  · rw [List.mem_singleton.mp hb]; exact ⟨u, upd_same⟩
  · exact Own.keep o' (.of (fun _ _ _ h => h) fun _ p => .inl p) fun _ _ _ h => h
  · rw [List.mem_singleton.mp hb]
    exact ⟨nfa, fun z => z, fun i li hi ei hm => hi (r.dj i n li [a] a ei hw hm (List.mem_singleton.mpr rfl)), u, upd_same, mu⟩
/-- what stands behind a cell of a list or a dict -/
theorem cell_own {n : Nat} {d : D} (r : MR W g H m) (e : m[n]? = some (.fl d)) (hs : (match d with
    | .lst _ => true
    | .dK _ => true
    | .dT _ => true
    | _ => false) = true) : ∃ a, g.rt[n]? = some a ∧ Own W g.fz H a [a] d ∧ g.as[n]? = some [a] := by
  obtain ⟨a, l, As, q1, q2, q3, ok⟩ := r.cell n _ e
  have ok : Own W g.fz H a As d := ok
  cases d <;> first | (cases hs; done) | skip
  · obtain ⟨vs, h1, h2, rfl⟩ := ok; exact ⟨a, q1, ⟨vs, h1, h2, rfl⟩, q3⟩
  · obtain ⟨vs, h1, h2, rfl⟩ := ok; exact ⟨a, q1, ⟨vs, h1, h2, rfl⟩, q3⟩
  · obtain ⟨vs, h1, h2, rfl⟩ := ok; exact ⟨a, q1, ⟨vs, h1, h2, rfl⟩, q3⟩
end
end Fw

/-! T29: a place written: a cell, or a field of an instance cell. -/
namespace Fw
open PySem PySem.Spec PyProof.Rows L2

def shal : D → Bool
  | .lst _ => true
  | .dK _ => true
  | .dT _ => true
  | _ => false
section
variable {W : Wd} {g g' : Gh} {H H' : Hp} {m m' : Mem} {σ : L2.St} {s : Sl}
theorem Own.one {P : Addr → Prop} {a : Addr} {As : List Addr} {d : D} (h : Own W P H a As d) (sh : shal d = true) : As = [a] := by
  cases d <;> first | (cases sh; done) | skip
  · obtain ⟨vs, h1, h2, rfl⟩ := h; rfl
  · obtain ⟨vs, h1, h2, rfl⟩ := h; rfl
  · obtain ⟨vs, h1, h2, rfl⟩ := h; rfl
theorem IvF.put {P : Addr → Prop} {fr : List (Nat × Addr)} {fs : List (Nat × FV)} {vs : List (Str × V)} {As : List Addr} {k : Nat} {b : Addr} {d d' : D} {u : HO} (h : IvF W P H fr fs vs As) (nP : ¬ P b) (sh : shal d = true) (hb : fr.lookup k = some b) (o' : Own W P (upd H b u) b [b] d') :
    As.Nodup → fs.lookup k = some (.w d) → IvF W P (upd H b u) fr (putFd fs k (.w d')) vs As ∧ b ∈ As ∧ Own W P H b [b] d := by
  have st : Stay P P H (upd H b u) := .of (fun a o p e => by rw [upd_ne fun z => nP (by rw [← z]; exact p)]; exact e) fun _ p => p
  induction h with
  | nil => exact fun _ h => by cases h
  | @d f x v fs vs As h r ih =>
    intro nd hl
    rw [lookup_nat] at hl
    by_cases e : k = f
    · rw [if_pos e] at hl; cases hl
    · rw [if_neg e] at hl
      obtain ⟨i1, i2, i3⟩ := ih nd hl
      refine ⟨?_, i2, i3⟩
      show IvF W P _ fr (if f = k then (f, .w d') :: fs else (f, .d x) :: putFd fs k (.w d')) _ As
      rw [if_neg (Ne.symm e)]
      exact .d (Rep.stay st _ _ h) i1
  | @w f x a fs vs A1 As ea h r ih =>
    intro nd hl
    rw [lookup_nat] at hl
    obtain ⟨n1, n2, n3⟩ := List.nodup_append.mp nd
    by_cases e : k = f
    · rw [if_pos e] at hl
      cases hl
      subst e
      rw [hb] at ea
      cases ea
      have e1 := h.one sh
      subst e1
      have ni : b ∉ As := fun z => n3 b (List.mem_singleton.mpr rfl) b z rfl
      refine ⟨?_, List.mem_append_left _ (List.mem_singleton.mpr rfl), h⟩
      show IvF W P _ fr (if k = k then (k, .w d') :: fs else (k, .w d) :: putFd fs k (.w d')) _ _
      rw [if_pos rfl]
      exact .w hb o' (r.keep st (fun c hc o q => by rw [upd_ne fun z => ni (by rw [← z]; exact hc)]; exact q) fun _ _ q => q)
    · rw [if_neg e] at hl
      obtain ⟨i1, i2, i3⟩ := ih n2 hl
      refine ⟨?_, List.mem_append_right _ i2, i3⟩
      show IvF W P _ fr (if f = k then (f, .w d') :: fs else (f, .w x) :: putFd fs k (.w d')) _ _
      rw [if_neg (Ne.symm e)]
      exact .w ea (h.keep st fun c hc o q => by rw [upd_ne fun z => n3 c hc b i2 z]; exact q) i1
end
end Fw

/-! T30: putM is what the heap does. -/
namespace Fw
open PySem PySem.Spec PyProof.Rows L2

section
variable {W : Wd} {g g' : Gh} {H H' : Hp} {m m' : Mem} {σ : L2.St} {s : Sl}
theorem putFd_none {k f : Nat} {v : FV} : ∀ {fs : List (Nat × FV)}, (putFd fs k v).lookup f = none → fs.lookup f = none
  | [], _ => rfl
  | (g, x) :: r, h => by
    have h : ((if g = k then (g, v) :: r else (g, x) :: putFd r k v) : List (Nat × FV)).lookup f = none := h
    rw [lookup_nat]
    split at h
    · rw [lookup_nat] at h
      split at h
      · cases h
      · rename_i e; rw [if_neg e]; exact h
    · rw [lookup_nat] at h
      split at h
      · cases h
      · rename_i e; rw [if_neg e]; exact putFd_none h
/-- the place's object is written: what is then there -/
theorem put_ok {v : V} {y : RV} {Bs : List Addr} {f : D → Option D} {x : Unit} (r : MR W g H m) (h : RVR W g H v Bs y) (e : putM y f m = .ok x m') (hf : ∀ d d', f d = some d' → shal d = true) :
    ∃ a d d', v = .ref a ∧ ¬ g.fz a ∧ Own W g.fz H a [a] d ∧ f d = some d' ∧ ∀ u, MutO u → Own W g.fz (upd H a u) a [a] d' → ∃ g', Eff g H g' (upd H a u) ∧ MR W g' (upd H a u) m' := by
  cases y with
  | d d => cases e
  | o d => cases e
  | x c p => cases e
  | s ns => cases e
  | c n =>
    obtain ⟨⟨a, ha, rfl⟩, _⟩ := h
    have e : (match m[n]? with
      | some (.fl d) => (match f d with
        | some d' => Rs.ok () (m.set n (.fl d'))
        | none => .no)
      | _ => .no) = .ok x m' := e
    split at e
    case h_2 => cases e
    rename_i d q
    split at e
    case h_2 => cases e
    rename_i d' q2
    cases e
    obtain ⟨a2, l, As, q3, q4, q5, ok⟩ := r.cell n _ q
    rw [ha] at q3
    cases q3
    have ok : Own W g.fz H a As d := ok
    have e1 := ok.one (hf d d' q2)
    subst e1
    exact ⟨a, d, d', rfl, r.nf a ⟨n, _, q5, List.mem_singleton.mpr rfl⟩, ok, q2, fun u mu o' => put_cell r q ha ok mu o' q5⟩
  | f n k =>
    obtain ⟨⟨l, a, h1, h2, rfl⟩, _⟩ := h
    have e : (match m[n]? with
      | some (.iv c fs) => (match fs.lookup k with
        | some (.w d) => (match f d with
          | some d' => Rs.ok () (m.set n (.iv c (putFd fs k (.w d'))))
          | none => .no)
        | _ => .no)
      | _ => .no) = .ok x m' := e
    split at e
    case h_2 => cases e
    rename_i c fs q
    split at e
    case h_2 => cases e
    rename_i d q1
    split at e
    case h_2 => cases e
    rename_i d' q2
    cases e
    obtain ⟨a0, l0, As, q3, q4, q5, ok⟩ := r.cell n _ q
    rw [h1] at q4
    cases q4
    obtain ⟨dx, vs, A', k1, k2, k3, k4, k5⟩ := ok
    subst k4
    have nd := r.nd n _ q5
    have nd' : A'.Nodup := (List.nodup_cons.mp (List.nodup_cons.mp nd).2).2
    have sh := hf d d' q2
    obtain ⟨j1, j2, j3⟩ := k3.look k
    obtain ⟨b, A1, z1, z2, z3, z4⟩ := j2 d q1
    rw [h2] at z2
    cases z2
    have e1 := z3.one sh
    subst e1
    have ma : a ∈ A' := z4 a (List.mem_singleton.mpr rfl)
    have owa : Ow g a := ⟨n, _, q5, by simp [ma]⟩
    have nf : ¬ g.fz a := r.nf a owa
    refine ⟨a, d, d', rfl, nf, z3, q2, fun u mu o' => ?_⟩
    obtain ⟨i1, _, _⟩ := k3.put nf sh h2 o' nd' q1
    have ne0 : a ≠ a0 := fun z => (List.nodup_cons.mp nd).1 (by rw [← z]; simp [ma])
    have ned : a ≠ dx := fun z => (List.nodup_cons.mp (List.nodup_cons.mp nd).2).1 (by rw [← z]; exact ma)
    have kk : ∀ b v, H b = some v → b ∉ a0 :: dx :: A' → upd H a u b = some v := fun b v hv hb => by rw [upd_ne fun z => hb (by rw [z]; simp [ma])]; exact hv
    refine ⟨⟨fun b => g.fz b ∨ False, g.rt, g.fr.set n l, g.as.set n (a0 :: dx :: A')⟩, Eff.refl.setC (a := a0) h1 q5 kk (fun _ _ h => h) (fun b hb => .inl hb) (fun b z => z.elim), r.setC q q3 h1 q5 kk (fun b hb => ?_) ?_ nd (fun b hb => ?_) (fun b z => z.elim)⟩
    · by_cases z : b = a
      · rw [z]; exact ⟨u, upd_same⟩
      · rw [upd_ne z]
        obtain ⟨o, ho, _⟩ := r.mt b ⟨n, _, q5, hb⟩
        exact ⟨o, ho⟩
    · refine ⟨dx, vs, A', by rw [upd_ne ne0.symm]; exact k1, by rw [upd_ne ned.symm]; exact k2, ?_, rfl, fun f hf => k5 f (putFd_none hf)⟩
      exact i1.keep (.of (fun _ _ _ h => h) fun _ p => .inl p) (fun _ _ _ h => h) fun _ _ h => h
    · refine ⟨r.nf b ⟨n, _, q5, hb⟩, fun z => z, fun i li hi ei hm => hi (r.dj i n li _ b ei q5 hm hb), ?_⟩
      by_cases z : b = a
      · rw [z]; exact ⟨u, upd_same, mu⟩
      · rw [upd_ne z]; exact r.mt b ⟨n, _, q5, hb⟩
theorem putM_rz {y : RV} {f : D → Option D} {e : Ex} : putM y f m ≠ .rz e m' := fun h => by
  cases y with
  | d d => cases h
  | o d => cases h
  | x c p => cases h
  | s ns => cases h
  | c n =>
    have h : (match m[n]? with
      | some (.fl d) => (match f d with
        | some d' => Rs.ok () (m.set n (.fl d'))
        | none => .no)
      | _ => .no) = .rz e m' := h
    split at h
    · split at h <;> cases h
    · cases h
  | f n k =>
    have h : (match m[n]? with
      | some (.iv c fs) => (match fs.lookup k with
        | some (.w d) => (match f d with
          | some d' => Rs.ok () (m.set n (.iv c (putFd fs k (.w d'))))
          | none => .no)
        | _ => .no)
      | _ => .no) = .rz e m' := h
    split at h
    · split at h
      · split at h <;> cases h
      · cases h
    · cases h
end
end Fw

/-! T31: o[k] = v. -/
namespace Fw
open PySem PySem.Spec PyProof.Rows L2

def rSetB : TSet := fun o i v H Q => rSetL o i v H Q ∨ ∃ a H', o = .ref a ∧ DPut H a i v H' ∧ Q H'
section
variable {X : Cx} {W : Wd} {md : Md} {nm : Nm} {fa : Nat → Addr} {j : Nat} {c : Ck} {Wx : WX} {e o tg k : Expr} {pos p2 : Pos} {es : List Expr} {x y z : Sl → Mo RV}
  {g g0 g' : Gh} {H H0 H' : Hp} {m m' : Mem} {σ : L2.St} {s : Sl} {D : Ends}
theorem set_b (hu : X.A.units + 1 < cLine) : PSet X rSetB := by
  intro pins s σ H o i v ov iv u Q I ro ri rv h
  rcases h with h | ⟨a, H', rfl, dp, q⟩
  · exact set_list pins s σ H o i v ov iv u Q I ro ri rv h
  · obtain rfl : ov = Value.ref a := ro
    exact d_setItem hu I dp ri rv fun s' I' => ⟨H', I', q⟩
theorem setD_shal (z w : Fw.D) : ∀ d d', setD d z w = some d' → shal d = true := fun d d' h => by
  cases d <;> first | rfl | cases h
theorem RVs.uncons {v : V} {r : RV} {vs : List V} {xs : List RV} {As : List Addr} (h : RVs W g H (v :: vs) (r :: xs) As) : ∃ B1 B2, As = B1 ++ B2 ∧ RVR W g H v B1 r ∧ RVs W g H vs xs B2 := by
  cases h with
  | cons h r => exact ⟨_, _, rfl, h, r⟩
/-- the written item, at the heap -/
theorem set_fin {a : Addr} {d d' z w : Fw.D} {i v : V} {Q : Hp → Prop} (ow : Own W g.fz H a [a] d) (tz : Top W g.fz H i z) (rw_ : Rep W g.fz H w v) (e : setD d z w = some d') (nf : ¬ g.fz a)
    (q : ∀ u, MutO u → Own W g.fz (upd H a u) a [a] d' → Q (upd H a u)) : rSetB (.ref a) i v H Q := by
  have st : ∀ u, Stay g.fz g.fz H (upd H a u) := fun u => .of (fun b o p e => by rw [upd_ne fun z => nf (by rw [← z]; exact p)]; exact e) fun _ p => p
  cases d with
  | lst xs =>
    cases z with
    | int n =>
      have e : (ixN xs.length n).map (fun j => Fw.D.lst (xs.set j w)) = some d' := e
      cases qn : ixN xs.length n with
      | none => rw [qn] at e; cases e
      | some j =>
        rw [qn] at e
        cases e
        obtain ⟨vs, h1, h2, _⟩ := ow
        refine .inl ⟨a, vs, n, j, rfl, tz.int_, h1, by rw [← h2.length]; exact qn, q _ trivial ⟨_, upd_same, ?_, rfl⟩⟩
        exact Reps.set j (Reps.stay (st _) _ _ h2) (Rep.stay (st _) _ _ rw_)
    | _ => cases e
  | dK kvs =>
    have e : (asK z).bind (fun k => if kvs.length < 16777216 then some (Fw.D.dK (putA kvs k w)) else none) = some d' := e
    cases qk : asK z with
    | none => rw [qk] at e; cases e
    | some kk =>
      rw [qk] at e
      have e : (if kvs.length < 16777216 then some (Fw.D.dK (putA kvs kk w)) else none) = some d' := e
      split at e
      case isFalse => cases e
      rename_i hl
      cases e
      obtain ⟨vs, h1, h2, _⟩ := ow
      have ei := tz.any.asK qk
      subst ei
      refine .inr ⟨a, _, rfl, .k h1 (by rw [← h2.length]; exact hl), q _ trivial ⟨_, upd_same, ?_, rfl⟩⟩
      exact (h2.stay (st _)).put _ (Rep.stay (st _) _ _ rw_)
  | dT kvs =>
    cases z with
    | tup ks =>
      have e : (asKs ks).bind (fun k => if kvs.length < 16777216 then some (Fw.D.dT (putA kvs k w)) else none) = some d' := e
      cases qk : asKs ks with
      | none => rw [qk] at e; cases e
      | some kk =>
        rw [qk] at e
        have e : (if kvs.length < 16777216 then some (Fw.D.dT (putA kvs kk w)) else none) = some d' := e
        split at e
        case isFalse => cases e
        rename_i hl
        cases e
        obtain ⟨vs, h1, h2, _⟩ := ow
        obtain ⟨b, zs, rfl, h3, r2⟩ := tz
        have ez := r2.asKs qk
        subst ez
        refine .inr ⟨a, _, rfl, .t h1 h3.1 (by rw [← h2.length]; exact hl), q _ trivial ⟨_, upd_same, ?_, rfl⟩⟩
        exact (h2.stay (st _)).put _ (Rep.stay (st _) _ _ rw_)
    | _ => cases e
  | _ => cases e
end
end Fw

/-! T32: the statement o[k] = v. -/
namespace Fw
open PySem PySem.Spec PyProof.Rows L2
section
variable {X : Cx} {W : Wd} {md : Md} {nm : Nm} {fa : Nat → Addr} {j : Nat} {c : Ck} {Wx : WX} {e o k : Expr} {pos p2 : Pos} {x y z : Sl → Mo RV}
theorem s_setI (G : GX X W md nm fa j c Wx) (hv : PE X e (tM W x Wx)) (ho : PE X o (tM W y Wx)) (hk : PE X k (tM W z Wx)) (hs : nswap e = true) (hp : plIx k = true) :
    PS X (.Assign [.Subscript o k p2] e pos) (tS W (fun s => sM s (bnd (x s) fun x => bnd (y s) fun y => bnd (z s) fun z => bnd (frzM x) fun x => bnd (viewM z) fun z => putM y fun d => setD d z x) fun _ => pur (.nx s)) Wx) := by
  have ha : ∀ v, assign (.Subscript o k p2) X.env v = (do
      let ov ← holding [v] (eval o X.env)
      let iv ← holding [v, ov] (eval k X.env)
      standAt p2
      holding [v, ov, iv] (setItem ov iv v)
      release [v, ov, iv] []) := by
    intro v
    cases k <;> first | rfl | cases hp
  have hq : swapsWithSole [.Subscript o k p2] e pos.line X.env = pure false := by
    show swapsWith e (some (.Subscript o k p2)) pos.line X.env = pure false
    exact nswap_ok hs
  refine PS.of (ps_asg hv (pg_sub (pos := p2) ho hk (set_b G.units1) ha) hq rfl) fun D σ H ⟨g, s, m, r, sr, h⟩ => ?_
  have w := wish_s (D := D) (Wx := Wx) (f := fun _ : Unit => pur (.nx s)) r sr
  refine (tm_stepG w (At.start r sr) h).mono fun xv H1 ⟨g1, m1, a, As1, A1, h1⟩ => ?_
  refine (tm_stepG w A1 h1).mono fun yv H2 ⟨g2, m2, b, As2, A2, h2⟩ => ?_
  refine (tm_step2 w A2 h2).mono fun zv H3 ⟨g3, m3, d, Bz, _, wz, A3, h3⟩ => ?_
  obtain ⟨By, B2, e1, wy, r1⟩ := A3.rv.uncons
  obtain ⟨Bx, B3, e2, wx, r2⟩ := r1.uncons
  have tmx : Tmp g3 H3 Bx := by
    have := A3.tm
    rw [e1, e2] at this
    exact this.right.left
  have nwx : ∀ q ∈ Bx, H q = none ∨ Ow g q := fun q hq => A3.nw q (by rw [e1, e2]; simp [hq])
  have h4 : PostS W g H (sMr s (bnd (frzM a) (fun x => bnd (viewM d) fun z => putM b fun d => setD d z x) m3) fun _ => pur (.nx s)) D Wx := h3
  cases q1 : frzM a m3 with
  | no => rw [bnd_noo q1] at h4; exact h4.elim
  | rz _ _ =>
    cases a with
    | d _ => cases q1
    | o _ => cases q1
    | x _ _ => cases q1
    | s _ => cases q1
    | f _ _ => cases q1
    | c n =>
      have q1 : (match m3[n]? with
        | some (.fl d) => Rs.ok d (m3.set n (.fz d))
        | some (.fz d) => .ok d m3
        | _ => .no) = .rz _ _ := q1
      split at q1 <;> cases q1
  | ok xd m4 =>
    rw [bnd_ok q1] at h4
    obtain ⟨g4, ef4, mr4, mo, rep, _⟩ := frz_ok A3.eff A3.mr wx tmx nwx q1
    have sr4 := A3.sr.more mo
    cases q2 : viewM d m4 with
    | no => rw [bnd_noo q2] at h4; exact h4.elim
    | rz _ _ =>
      cases d with
      | d _ => cases q2
      | o _ => cases q2
      | x _ _ => cases q2
      | s _ => cases q2
      | c n =>
        have q2 : (match m4[n]? with
          | some w => Rs.ok w.view m4
          | none => .no) = .rz _ _ := q2
        split at q2 <;> cases q2
      | f n kk =>
        have q2 : (match (m4[n]?).bind (fldW · kk) with
          | some d => Rs.ok d m4
          | none => .no) = .rz _ _ := q2
        split at q2 <;> cases q2
    | ok zd m5 =>
      rw [bnd_ok q2] at h4
      obtain ⟨em, tz⟩ := view_ok (wz.more mo) mr4 q2
      subst em
      cases q3 : putM b (fun d => setD d zd xd) m5 with
      | no => rw [q3] at h4; exact h4.elim
      | rz _ _ => exact (putM_rz q3).elim
      | ok un m6 =>
        rw [q3] at h4
        obtain ⟨ad, dd, d', rfl, nf, ow, es, fin⟩ := put_ok mr4 (wy.more mo) q3 (setD_shal zd xd)
        refine set_fin ow tz rep es nf fun u mu o' => ?_
        obtain ⟨g6, ef6, mr6⟩ := fin u mu o'
        exact h4 σ g6 _ (ef4.trans ef6) mr6 (sr4.eff mr4 ef6)
end
end Fw

/-! T33: a tuple taken apart into names. -/
namespace Fw
open PySem PySem.Spec PyProof.Rows L2
def nTup : Expr → Bool
  | .Tuple _ _ _ => false
  | _ => true
theorem nTup_ok {e tg : Expr} {env : Env} (h : nTup e = true) : swappedStores [tg] e env = pure none := by
  cases e <;> first | (cases h; done) | (cases tg <;> rfl)
section
variable {X : Cx} {W : Wd} {md : Md} {nm : Nm} {fa : Nat → Addr} {j : Nat} {c : Ck} {Wx : WX} {e tg : Expr} {pos : Pos} {x : Sl → Mo RV}
theorem s_asgT (G : GX X W md nm fa j c Wx) {is : List Nat} {ts : List Expr} {k : Nat} {p : Pos} (hv : PE X e (tM W x Wx)) (ht : mT c (.tp is) (.Tuple ts k p) = true) (hs : nswap e = true) (hn : nTup e = true) :
    PS X (.Assign [.Tuple ts k p] e pos) (tS W (fun s => sM s (bnd (x s) frzM) fun d => sM s (ofO (setT s (.tp is) d)) fun s' => pur (.nx s')) Wx) := by
  have hq : swapsWithSole [.Tuple ts k p] e pos.line X.env = pure false := by
    show swapsWith e (some (.Tuple ts k p)) pos.line X.env = pure false
    exact nswap_ok hs
  refine PS.of (ps_asg hv (tg_ok G ht) hq (nTup_ok hn) rfl) fun D σ H ⟨g, s, m, r, sr, h⟩ => ?_
  have w := wish_s (D := D) (Wx := Wx) (f := fun d => sM s (ofO (setT s (.tp is) d)) fun s' => pur (.nx s')) r sr
  refine (tm_step2 w (At.start r sr) h).mono fun v H1 ⟨g1, m1, a, Bs, A1, w1, A2, h1⟩ => ?_
  obtain ⟨d, g2, m2, k2, rep, A3, h3⟩ := At.frzG (f := pur) w A1 w1 .nil (by rw [pur_bnd]; exact h1)
  have h3 : PostS W g H (sMr s (ofO (setT s (.tp is) d) m2) fun s' => pur (.nx s')) D Wx := h3
  cases q : setT s (.tp is) d with
  | none => rw [q] at h3; exact h3.elim
  | some s' =>
    rw [q] at h3
    exact tg_go X.K (.tp is) W g2 H1 σ s s' v d _ A3.sr rep q fun σ' sr' _ _ => h3 σ' g2 H1 A3.eff A3.mr sr'
end
end Fw

/-! T34: a name that keeps a cell. -/
namespace Fw
open PySem PySem.Spec PyProof.Rows L2
section
variable {X : Cx} {W : Wd} {md : Md} {nm : Nm} {fa : Nat → Addr} {j : Nat} {c : Ck} {Wx : WX} {e tg : Expr} {pos : Pos} {x : Sl → Mo RV}
  {g g0 : Gh} {H H0 : Hp} {m m' : Mem} {σ : L2.St} {s : Sl} {vs : List V} {xs : List RV} {As : List Addr} {E : XK}
/-- a value in hand becomes a slot's -/
theorem At.cell {β : Type} {P : Rs β → Prop} {f : Val → Mo β} {y : RV} {v : V} {Bs : List Addr} (w : Wish W g0 H0 P E) (A : At W g0 H0 σ s g H m [v] [y] (Bs ++ [])) (hx : RVR W g H v Bs y) (h : P (bnd (cellM y) f m)) :
    ∃ u g' m', At W g0 H0 σ s g' H m' [] [] [] ∧ VR W g' H v u ∧ P (f u m') := by
  cases y with
  | d d => exact ⟨.d d, g, m, ⟨A.eff, A.mr, A.sr, .nil, .nil, fun _ h => by simp at h⟩, hx.1, h⟩
  | c n => exact ⟨.c n, g, m, ⟨A.eff, A.mr, A.sr, .nil, .nil, fun _ h => by simp at h⟩, hx.1, h⟩
  | f n k => exact (w.no h).elim
  | x a b => exact hx.elim
  | s ns => exact (w.no h).elim
  | o d =>
    obtain ⟨a, rfl, ow⟩ := hx
    have tm := A.tm
    rw [List.append_nil] at tm
    have nw : ∀ b ∈ Bs, H0 b = none ∨ Ow g0 b := fun b hb => A.nw b (by simp [hb])
    have k := More.snoc g a Bs
    have mr := A.mr.snoc (a := a) (w := .fl d) tm ow
    have h' : P (f (Val.c m.length) (m ++ [CV.fl d])) := h
    refine ⟨Val.c m.length, g.snoc a Bs, m ++ [CV.fl d], ⟨A.eff.snoc nw, mr, ⟨A.sr.1, fun i x q => ?_⟩, .nil, .nil, fun _ h => by simp at h⟩, ⟨a, app_end A.mr.l1, rfl⟩, h'⟩
    obtain ⟨v, e1, e2⟩ := A.sr.2 i x q
    exact ⟨v, e1, e2.more k⟩
theorem s_asgM (G : GX X W md nm fa j c Wx) {i : Nat} {z : Str} {p2 : Pos} (hN : c.N[i]? = some z) (hl : c.loc z = true) (he : PE X e (tM W x Wx)) (hs : nswap e = true) :
    PS X (.Assign [.Name z p2] e pos) (tS W (fun s => sM s (bnd (x s) cellM) fun v => pur (.nx (s.set i (some v)))) Wx) := by
  obtain ⟨hL, hf⟩ := G.loc hl
  refine PS.of (ps_set (by rw [G.N]; exact G.nd) (by rw [G.N]; exact hN) hL he (nswap_ok hs) hf) fun D σ H ⟨g, s, m, r, sr, h⟩ => ?_
  have w := wish_s (D := D) (Wx := Wx) (f := fun v => pur (.nx (s.set i (some v)))) r sr
  refine (tm_step2 w (At.start r sr) h).mono fun v H1 ⟨g1, m1, a, Bs, A1, w1, A2, h1⟩ => ?_
  obtain ⟨u, g2, m2, A3, vr, h3⟩ := At.cell (f := pur) w A1 w1 (by rw [pur_bnd]; exact h1)
  exact h3 _ g2 H1 A3.eff A3.mr (A3.sr.set vr)
end
end Fw

/-! T36: methods that change a list: append, extend, reverse. -/
namespace Fw
open PySem PySem.Spec PyProof.Rows L2

/-- what the method asks of the heap -/
def rMM : MM → V → List V → Hp → VK → Prop
  | .append => rAppend
  | .extend => rExtend
  | .reverse => rReverse
  | _ => fun _ _ _ _ => False
def MM.isL : MM → Bool
  | .append => true
  | .extend => true
  | .reverse => true
  | _ => false
section
variable {X : Cx} {W : Wd} {md : Md} {nm : Nm} {fa : Nat → Addr} {j : Nat} {c : Ck} {Wx : WX} {e o : Expr} {pos apos p : Pos} {es : List Expr} {x : Sl → Mo RV} {l : Sl → Mo (List RV)}
  {g g0 g' g1 : Gh} {H H0 H' H1 : Hp} {m m' m1 : Mem} {σ : L2.St} {s : Sl} {vs : List V} {xs : List RV} {As : List Addr} {E : XK}
theorem mmD_shal (mt : MM) (ds : List Fw.D) : ∀ d d', mmD mt d ds = some d' → shal d = true := fun d d' h => by
  cases mt <;> cases d <;> first | rfl | cases h
theorem mm_fin {mt : MM} {a : Addr} {d d' : Fw.D} {ds : List Fw.D} {us : List V} {Q : VK} (hm : mt.isL = true) (ow : Own W g.fz H a [a] d) (rs : Reps W g.fz H ds us) (e : mmD mt d ds = some d') (nf : ¬ g.fz a)
    (q : ∀ u, MutO u → Own W g.fz (upd H a u) a [a] d' → Q .non (upd H a u)) : rMM mt (.ref a) us H Q := by
  have st : ∀ u, Stay g.fz g.fz H (upd H a u) := fun u => .of (fun b o p e => by rw [upd_ne fun z => nf (by rw [← z]; exact p)]; exact e) fun _ p => p
  cases mt <;> first | (cases hm; done) | skip
  · -- append
    cases d <;> first | (cases e; done) | skip
    rename_i ys
    rcases ds with _ | ⟨z, _ | ⟨_, _⟩⟩ <;> first | (cases e; done) | skip
    obtain ⟨v, w, rfl, rz, rn⟩ := Reps.cons.mp rs
    rw [Reps.nil.mp rn]
    have e : (if ys.length < 16777216 then some (Fw.D.lst (ys ++ [z])) else none) = some d' := e
    split at e
    case isFalse => cases e
    rename_i hl
    cases e
    obtain ⟨ws, h1, h2, _⟩ := ow
    exact ⟨a, ws, v, rfl, rfl, h1, by rw [← h2.length]; exact hl, q _ trivial ⟨_, upd_same, (Reps.stay (st _) _ _ h2).app (Reps.mk (Rep.stay (st _) _ _ rz) Reps.mk0), rfl⟩⟩
  · -- extend
    cases d <;> first | (cases e; done) | skip
    rename_i ys
    rcases ds with _ | ⟨z, _ | ⟨_, _⟩⟩ <;> first | (cases e; done) | skip
    · cases z <;> first | (cases e; done) | skip
      rename_i zs
      obtain ⟨v, w, rfl, rz, rn⟩ := Reps.cons.mp rs
      rw [Reps.nil.mp rn]
      have e : (if ys.length + zs.length ≤ 16777216 then some (Fw.D.lst (ys ++ zs)) else none) = some d' := e
      split at e
      case isFalse => cases e
      rename_i hl
      cases e
      obtain ⟨ws, h1, h2, _⟩ := ow
      simp only [Rep] at rz
      obtain ⟨b, us, rfl, h3, h4⟩ := rz
      exact ⟨a, b, ws, us, rfl, rfl, h1, h3.1, by rw [← h2.length, ← h4.length]; exact hl, q _ trivial ⟨_, upd_same, (Reps.stay (st _) _ _ h2).app (Reps.stay (st _) _ _ h4), rfl⟩⟩
    · cases z <;> cases e
  · -- reverse
    cases d <;> first | (cases e; done) | skip
    rename_i ys
    rcases ds with _ | ⟨z, r⟩ <;> first | (cases e; done) | skip
    rw [Reps.nil.mp rs]
    cases e
    obtain ⟨ws, h1, h2, _⟩ := ow
    exact ⟨a, ws, rfl, rfl, h1, q _ trivial ⟨_, upd_same, (Reps.stay (st _) _ _ h2).rev, rfl⟩⟩
theorem mmK_list {mt : MM} {P : Addr → Prop} {K : PySem.W.Frag} {v : V} {d : Fw.D} (hm : mt.isL = true) (h : mmK mt d = true) (t : Top W P H v d) : tyV K "list" v H := by
  cases mt <;> first | (cases hm; done) | skip
  all_goals
    cases d <;> first | (cases h; done) | skip
    obtain ⟨a, ws, rfl, h1, r⟩ := t
    exact .inl ⟨rfl, ws, .of h1⟩
/-- a row of values, those in hand kept -/
theorem tms_stepH {β : Type} {P : Rs β → Prop} {x : Sl → Mo (List RV)} {f : List RV → Mo β} (w : Wish W g0 H0 P (WE Wx σ)) (A : At W g0 H0 σ s g H m vs xs As) (h : P (bnd (x s) f m)) :
    tMs W x Wx σ H fun us H1 => ∃ g1 m1 ys Bs, At W g0 H0 σ s g1 H1 m1 (us ++ vs) (ys ++ xs) (Bs ++ As) ∧ RVs W g1 H1 us ys Bs ∧ RVs W g1 H1 vs xs As ∧ P (f ys m1) := by
  refine ⟨g, s, m, A.mr, A.sr, ?_⟩
  cases e : x s m with
  | ok ys m1 =>
    rw [bnd_ok e] at h
    exact fun us g1 H1 Bs o => ⟨g1, m1, ys, Bs, A.nextL o, o.rv, A.rv.eff A.mr A.tm o.eff, h⟩
  | rz a m1 =>
    rw [bnd_rzo e] at h
    exact fun cls d g' H' e r x => w.rz _ _ h cls d g' H' (A.eff.trans e) r x
  | no =>
    rw [bnd_noo e] at h
    exact w.no h
/-- the statement's reading -/
theorem mm_read {mt : MM} {D : Ends} {pos : Pos} (hm : mt.isL = true) (h : tS W (fun s => sM s (bnd (x s) fun x => bnd (viewM x) fun d => grd (mmK mt d) (bnd (l s) fun xs => bnd (frzsM xs) fun ds => putM x fun d => mmD mt d ds)) fun _ => pur (.nx s)) Wx D σ H) :
    (tM W x Wx) σ H fun v H1 => tyV X.K "list" v H1 ∧ (tMs W l Wx) σ H1 fun us H2 => rMM mt v us H2 fun _ H3 => D.nx σ H3 := by
  obtain ⟨g, s, m, r, sr, h⟩ := h
  have w := wish_s (D := D) (Wx := Wx) (f := fun _ : Unit => pur (.nx s)) r sr
  refine (tm_stepG w (At.start r sr) h).mono fun v H1 ⟨g1, m1, a, As1, A1, h1⟩ => ?_
  obtain ⟨B1, w1⟩ := A1.rv1
  obtain ⟨d, t1, h2⟩ := A1.viewG w w1 h1
  cases hk : mmK mt d with
  | false => rw [hk] at h2; exact (w.no h2).elim
  | true =>
    rw [hk, grd_t] at h2
    refine ⟨mmK_list hm hk t1, ?_⟩
    refine (tms_stepH w A1 h2).mono fun us H2 ⟨g2, m2, ys, Bs, A2, ru, rc, h3⟩ => ?_
    · obtain ⟨ds, g3, m3, k3, rps, A4, h4⟩ := At.frzsG w ru A2 rc h3
      obtain ⟨C1, w4⟩ := A4.rv1
      have h5 : PostS W g H (sMr s (putM a (fun d => mmD mt d ds) m3) fun _ => pur (.nx s)) D Wx := h4
      cases q3 : putM a (fun d => mmD mt d ds) m3 with
      | no => rw [q3] at h5; exact h5.elim
      | rz _ _ => exact (putM_rz q3).elim
      | ok un m6 =>
        rw [q3] at h5
        obtain ⟨ad, dd, d', rfl, nf, ow, es, fin⟩ := put_ok A4.mr w4 q3 (mmD_shal mt ds)
        refine mm_fin hm ow rps es nf fun u mu o' => ?_
        obtain ⟨g6, ef6, mr6⟩ := fin u mu o'
        exact h5 σ g6 _ (A4.eff.trans ef6) mr6 (A4.sr.eff A4.mr ef6)
theorem s_append (hv : PE X o (tM W x Wx)) (ha : PA X (e :: es) (tMs W l Wx)) (hb : nsup o = true) (hl : (apos.endLine == p.line) = true) (hs : (e :: es).all nst = true) (h2 : decide ((e :: es).length < 30) = true) :
    PS X (.Expr (.Call (.Attribute o "append" apos) (e :: es) [] p) pos) (tS W (fun s => sM s (bnd (x s) fun x => bnd (viewM x) fun d => grd (mmK .append d) (bnd (l s) fun xs => bnd (frzsM xs) fun ds => putM x fun d => mmD .append d ds)) fun _ => pur (.nx s)) Wx) := by
  have h3 := hs
  rw [List.all_cons, Bool.and_eq_true] at h3
  exact PS.of (ps_expr (pe_bm PySem.F.plainAttrs_list PySem.F.slot_list_append PySem.F.type_list_append mt_append hv ha (nsup_base hb) (few_of hs h2) hl (nst_star h3.1 es) (nst_any h3.2)) rfl) fun D σ H h => mm_read (mt := .append) (pos := pos) rfl h
theorem s_extend (hv : PE X o (tM W x Wx)) (ha : PA X (e :: es) (tMs W l Wx)) (hb : nsup o = true) (hl : (apos.endLine == p.line) = true) (hs : (e :: es).all nst = true) (h2 : decide ((e :: es).length < 30) = true) :
    PS X (.Expr (.Call (.Attribute o "extend" apos) (e :: es) [] p) pos) (tS W (fun s => sM s (bnd (x s) fun x => bnd (viewM x) fun d => grd (mmK .extend d) (bnd (l s) fun xs => bnd (frzsM xs) fun ds => putM x fun d => mmD .extend d ds)) fun _ => pur (.nx s)) Wx) := by
  have h3 := hs
  rw [List.all_cons, Bool.and_eq_true] at h3
  exact PS.of (ps_expr (pe_bm PySem.F.plainAttrs_list PySem.F.slot_list_extend PySem.F.type_list_extend mt_extend hv ha (nsup_base hb) (few_of hs h2) hl (nst_star h3.1 es) (nst_any h3.2)) rfl) fun D σ H h => mm_read (mt := .extend) (pos := pos) rfl h
theorem s_reverse (hv : PE X o (tM W x Wx)) (hb : nsup o = true) (hl : (apos.endLine == p.line) = true) :
    PS X (.Expr (.Call (.Attribute o "reverse" apos) [] [] p) pos) (tS W (fun s => sM s (bnd (x s) fun x => bnd (viewM x) fun d => grd (mmK .reverse d) (bnd (pur []) fun xs => bnd (frzsM xs) fun ds => putM x fun d => mmD .reverse d ds)) fun _ => pur (.nx s)) Wx) :=
  PS.of (ps_expr (pe_bm0 PySem.F.plainAttrs_list PySem.F.slot_list_reverse PySem.F.type_list_reverse mt_reverse hv (nsup_base hb) hl) rfl) fun D σ H h => by
    refine (mm_read (mt := .reverse) (l := fun _ => pur []) (pos := pos) (X := X) rfl h).mono fun v H1 ⟨h1, h2⟩ => ⟨h1, tms_nil h2⟩
end
end Fw

/-! T37: o.f = v: a field that holds a frozen tree. -/
namespace Fw
open PySem PySem.Spec PyProof.Rows L2

section
variable {X : Cx} {W : Wd} {md : Md} {nm : Nm} {fa : Nat → Addr} {j : Nat} {c : Ck} {Wx : WX} {e o : Expr} {pos p2 : Pos} {x y : Sl → Mo RV}
  {g g0 g' : Gh} {H H0 H' : Hp} {m m' : Mem} {σ : L2.St} {s : Sl}
theorem putF_len (f : Str) (v : V) : ∀ fs : List (Str × V), (putF f v fs).length ≤ fs.length + 1
  | [] => by show 1 ≤ 0 + 1; omega
  | (g, x) :: r => by
    unfold putF
    split
    · simp
    · have := putF_len f v r
      simp only [List.length_cons]
      omega
theorem IvF.putD {P : Addr → Prop} {fr : List (Nat × Addr)} {fs : List (Nat × FV)} {vs : List (Str × V)} {As : List Addr} {k : Nat} {d : D} {v : V} (h : IvF W P H fr fs vs As) (hv : Rep W P H d v) :
    (∀ z, fs.lookup k ≠ some (.w z)) → IvF W P H fr (putFd fs k (.d d)) (putF (W.fn k) v vs) As := by
  induction h with
  | nil => exact fun _ => .d hv .nil
  | @d f x u fs vs As h r ih =>
    intro nw
    show IvF W P H fr (if f = k then (f, .d d) :: fs else (f, .d x) :: putFd fs k (.d d)) (if W.fn f = W.fn k then (W.fn f, v) :: vs else (W.fn f, u) :: putF (W.fn k) v vs) As
    by_cases e : f = k
    · rw [if_pos e, if_pos (by rw [e])]
      exact .d hv r
    · rw [if_neg e, if_neg fun z => e (W.fi _ _ z)]
      refine .d h (ih fun z q => nw z ?_)
      rw [lookup_nat, if_neg (Ne.symm e)]
      exact q
  | @w f x a fs vs A1 As ea h r ih =>
    intro nw
    show IvF W P H fr (if f = k then (f, .d d) :: fs else (f, .w x) :: putFd fs k (.d d)) (if W.fn f = W.fn k then (W.fn f, v) :: vs else (W.fn f, .ref a) :: putF (W.fn k) v vs) (A1 ++ As)
    by_cases e : f = k
    · exact (nw x (by rw [lookup_nat, if_pos e.symm])).elim
    · rw [if_neg e, if_neg fun z => e (W.fi _ _ z)]
      refine .w ea h (ih fun z q => nw z ?_)
      rw [lookup_nat, if_neg (Ne.symm e)]
      exact q
theorem setFM_rz {y : RV} {f : Nat} {d : D} {e : Ex} : setFM md y f d m ≠ .rz e m' := fun h => by
  cases y <;> first | (cases h; done) | skip
  rename_i n
  have h : (match m[n]? with
    | some (.iv c fs) => if (c, f) ∈ md.at_ then (match fs.lookup f with
      | some (.w _) => Rs.no
      | _ => if fs.length < 900 then .ok () (m.set n (.iv c (putFd fs f (.d d)))) else .no) else .no
    | _ => .no) = .rz e m' := h
  split at h <;> first | (cases h; done) | skip
  split at h <;> first | (cases h; done) | skip
  split at h <;> first | (cases h; done) | skip
  split at h <;> cases h
theorem frzM_rz {y : RV} {e : Ex} : frzM y m ≠ .rz e m' := fun h => by
  cases y <;> first | (cases h; done) | skip
  rename_i n
  have h : (match m[n]? with
    | some (.fl d) => Rs.ok d (m.set n (.fz d))
    | some (.fz d) => .ok d m
    | _ => .no) = .rz e m' := h
  split at h <;> cases h
/-- the field written: the heap behind it -/
theorem setF_ok {v : V} {yv : V} {z : RV} {Bs : List Addr} {f : Nat} {d : D} {un : Unit} (GW : ∀ cl f, (cl, f) ∈ md.at_ → Cls W.K (W.ca cl) ∧ NoAttr W.K (W.ca cl) (W.fn f)) (r : MR W g H m) (h : RVR W g H yv Bs z) (hv : Rep W g.fz H d v) (e : setFM md z f d m = .ok un m') :
    ∃ a cl dx vs, yv = .ref a ∧ H a = some (.ins (W.ca cl) dx vs) ∧ Cls W.K (W.ca cl) ∧ NoAttr W.K (W.ca cl) (W.fn f) ∧ vs.length < 1000 ∧
      ∃ g', Eff g H g' (upd H a (.ins (W.ca cl) dx (putF (W.fn f) v vs))) ∧ MR W g' (upd H a (.ins (W.ca cl) dx (putF (W.fn f) v vs))) m' := by
  cases z <;> first | (cases e; done) | skip
  rename_i n
  obtain ⟨⟨a, ha, rfl⟩, _⟩ := h
  have e : (match m[n]? with
    | some (.iv c fs) => if (c, f) ∈ md.at_ then (match fs.lookup f with
      | some (.w _) => Rs.no
      | _ => if fs.length < 900 then .ok () (m.set n (.iv c (putFd fs f (.d d)))) else .no) else .no
    | _ => .no) = .ok un m' := e
  split at e
  case h_2 => cases e
  rename_i cl fs q
  split at e
  case isFalse => cases e
  rename_i hat
  split at e
  case h_1 => cases e
  rename_i hnw
  split at e
  case isFalse => cases e
  rename_i hl
  cases e
  obtain ⟨k1, k2⟩ := GW cl f hat
  obtain ⟨a0, l, As, q1, q2, q3, ok⟩ := r.cell n _ q
  rw [ha] at q1
  cases q1
  obtain ⟨dx, vs, A', z1, z2, z3, z4, z5⟩ := ok
  subst z4
  have nd := r.nd n _ q3
  have hlen := z3.length
  refine ⟨a, cl, dx, vs, rfl, z1, k1, k2, by omega, ?_⟩
  have nfa : ¬ g.fz a := r.nf a ⟨n, _, q3, by simp⟩
  have st : ∀ u, Stay g.fz g.fz H (upd H a u) := fun u => .of (fun b o p e => by rw [upd_ne fun z => nfa (by rw [← z]; exact p)]; exact e) fun _ p => p
  have na : a ∉ A' := fun z => (List.nodup_cons.mp nd).1 (by simp [z])
  have nad : dx ≠ a := fun z => (List.nodup_cons.mp nd).1 (by simp [z])
  have kk : ∀ b u, H b = some u → b ∉ a :: dx :: A' → upd H a (.ins (W.ca cl) dx (putF (W.fn f) v vs)) b = some u := fun b u hu hb => by rw [upd_ne fun z => hb (by simp [z])]; exact hu
  refine ⟨⟨fun b => g.fz b ∨ False, g.rt, g.fr.set n l, g.as.set n (a :: dx :: A')⟩, Eff.refl.setC (a := a) q2 q3 kk (fun _ _ h => h) (fun b hb => .inl hb) (fun b z => z.elim), r.setC q ha q2 q3 kk (fun b hb => ?_) ?_ nd (fun b hb => ?_) (fun b z => z.elim)⟩
  · by_cases z : b = a
    · rw [z]; exact ⟨_, upd_same⟩
    · rw [upd_ne z]
      obtain ⟨o, ho, _⟩ := r.mt b ⟨n, _, q3, hb⟩
      exact ⟨o, ho⟩
  · refine ⟨dx, _, A', upd_same, by rw [upd_ne nad]; exact z2, ?_, rfl, fun f hf => z5 f (putFd_none hf)⟩
    have i1 : IvF W g.fz (upd H a (.ins (W.ca cl) dx (putF (W.fn f) v vs))) l fs vs A' := z3.keep (st _) (fun b hb u hu => by rw [upd_ne fun z => na (by rw [← z]; exact hb)]; exact hu) fun _ _ h => h
    have i2 := i1.putD (k := f) (Rep.stay (st _) _ _ hv) fun z hz => hnw z hz
    exact i2.keep (.of (fun _ _ _ h => h) fun _ p => .inl p) (fun _ _ _ h => h) fun _ _ h => h
  · refine ⟨r.nf b ⟨n, _, q3, hb⟩, fun z => z, fun i li hi ei hm => hi (r.dj i n li _ b ei q3 hm hb), ?_⟩
    by_cases z : b = a
    · rw [z]; exact ⟨_, upd_same, trivial⟩
    · rw [upd_ne z]; exact r.mt b ⟨n, _, q3, hb⟩
theorem s_setF (G : GX X W md nm fa j c Wx) {f : Nat} {n : Str} (hn : nm.fld[f]? = some n) (hv : PE X e (tM W x Wx)) (ho : PE X o (tM W y Wx)) (hs : nswap e = true) :
    PS X (.Assign [.Attribute o n p2] e pos) (tS W (fun s => sM s (bnd (x s) fun x => bnd (y s) fun y => bnd (frzM x) fun x => setFM md y f x) fun _ => pur (.nx s)) Wx) := by
  refine PS.of (ps_fld ho hv (nswap_ok hs)) fun D σ H ⟨g, s, m, r, sr, h⟩ => ?_
  have w := wish_s (D := D) (Wx := Wx) (f := fun _ : Unit => pur (.nx s)) r sr
  refine (tm_stepG w (At.start r sr) h).mono fun xv H1 ⟨g1, m1, a, As1, A1, h1⟩ => ?_
  refine (tm_stepG w A1 h1).mono fun yv H2 ⟨g2, m2, b, As2, A2, h2⟩ => ?_
  obtain ⟨By, B2, e1, wy, r1⟩ := A2.rv.uncons
  obtain ⟨Bx, B3, e2, wx, r2⟩ := r1.uncons
  have tmx : Tmp g2 H2 Bx := by
    have := A2.tm
    rw [e1, e2] at this
    exact this.right.left
  have nwx : ∀ q ∈ Bx, H q = none ∨ Ow g q := fun q hq => A2.nw q (by rw [e1, e2]; simp [hq])
  have h4 : PostS W g H (sMr s (bnd (frzM a) (fun x => setFM md b f x) m2) fun _ => pur (.nx s)) D Wx := h2
  cases q1 : frzM a m2 with
  | no => rw [bnd_noo q1] at h4; exact h4.elim
  | rz _ _ => exact (frzM_rz q1).elim
  | ok xd m4 =>
    rw [bnd_ok q1] at h4
    obtain ⟨g4, ef4, mr4, mo, rep, _⟩ := frz_ok A2.eff A2.mr wx tmx nwx q1
    have sr4 := A2.sr.more mo
    cases q3 : setFM md b f xd m4 with
    | no => rw [q3] at h4; exact h4.elim
    | rz _ _ => exact (setFM_rz q3).elim
    | ok un m6 =>
      rw [q3] at h4
      have gw : ∀ cl f, (cl, f) ∈ md.at_ → Cls W.K (W.ca cl) ∧ NoAttr W.K (W.ca cl) (W.fn f) := fun cl f h => by rw [G.K]; exact G.gw.at_ cl f h
      obtain ⟨ad, cl, dx, vs, rfl, k1, k2, k3, k4, g6, ef6, mr6⟩ := setF_ok gw mr4 (wy.more mo) rep q3
      have en := G.gw.fld f n hn
      rw [en] at k3 ef6 mr6
      exact ⟨ad, _, dx, vs, rfl, k1, by rw [← G.K]; exact k2, by rw [← G.K]; exact k3, k4, h4 σ g6 _ (ef4.trans ef6) mr6 (sr4.eff mr4 ef6)⟩
end
end Fw

/-! T38: o.f = a new list or dict, kept as the instance's own. -/
namespace Fw
open PySem PySem.Spec PyProof.Rows L2

section
variable {X : Cx} {W : Wd} {md : Md} {nm : Nm} {fa : Nat → Addr} {j : Nat} {c : Ck} {Wx : WX} {e o : Expr} {pos p2 : Pos} {x y : Sl → Mo RV}
  {g g0 g' : Gh} {H H0 H' : Hp} {m m' : Mem} {σ : L2.St} {s : Sl}
theorem look_snoc {β : Type} {l : List (Nat × β)} {f k : Nat} {b : β} : (l ++ [(f, b)]).lookup k = (l.lookup k).or (if k = f then some b else none) := by
  rw [List.lookup_append]
  congr 1
  rw [lookup_nat]
  rfl
theorem IvF.snocW {P : Addr → Prop} {fr : List (Nat × Addr)} {fs : List (Nat × FV)} {vs : List (Str × V)} {As A1 : List Addr} {k : Nat} {b : Addr} {d : D} (hb : fr.lookup k = some b) (ow : Own W P H b A1 d) (h : IvF W P H fr fs vs As) :
    fs.lookup k = none → IvF W P H fr (fs ++ [(k, .w d)]) (putF (W.fn k) (.ref b) vs) (As ++ A1) := by
  induction h with
  | nil =>
    intro _
    have := IvF.w hb ow (IvF.nil (W := W) (P := P) (H := H) (fr := fr))
    rw [List.append_nil] at this
    exact this
  | @d f x u fs vs As h r ih =>
    intro hn
    rw [lookup_nat] at hn
    split at hn
    · cases hn
    · rename_i e
      show IvF W P H fr ((f, .d x) :: (fs ++ [(k, .w d)])) (if W.fn f = W.fn k then (W.fn f, .ref b) :: vs else (W.fn f, u) :: putF (W.fn k) (.ref b) vs) (As ++ A1)
      rw [if_neg fun z => e (W.fi _ _ z).symm]
      exact .d h (ih hn)
  | @w f x a fs vs B1 As ea h r ih =>
    intro hn
    rw [lookup_nat] at hn
    split at hn
    · cases hn
    · rename_i e
      show IvF W P H fr ((f, .w x) :: (fs ++ [(k, .w d)])) (if W.fn f = W.fn k then (W.fn f, .ref b) :: vs else (W.fn f, .ref a) :: putF (W.fn k) (.ref b) vs) ((B1 ++ As) ++ A1)
      rw [if_neg fun z => e (W.fi _ _ z).symm, List.append_assoc]
      exact .w ea h (ih hn)
theorem setWM_rz {y x : RV} {f : Nat} {e : Ex} : setWM md y f x m ≠ .rz e m' := fun h => by
  cases y <;> first | (cases h; done) | skip
  cases x <;> first | (cases h; done) | skip
  rename_i n d
  have h : (match m[n]? with
    | some (.iv c fs) => if (c, f) ∈ md.at_ then (match fs.lookup f with
      | none => if fs.length < 900 then Rs.ok () (m.set n (.iv c (fs ++ [(f, FV.w d)]))) else .no
      | _ => .no) else .no
    | _ => .no) = .rz e m' := h
  split at h <;> first | (cases h; done) | skip
  split at h <;> first | (cases h; done) | skip
  split at h <;> first | (cases h; done) | skip
  split at h <;> cases h
theorem setW_ok {v : V} {yv : V} {z x : RV} {Bs Cs : List Addr} {f : Nat} {un : Unit} (GW : ∀ cl f, (cl, f) ∈ md.at_ → Cls W.K (W.ca cl) ∧ NoAttr W.K (W.ca cl) (W.fn f)) (ef : Eff g0 H0 g H) (r : MR W g H m) (h : RVR W g H yv Cs z) (hx : RVR W g H v Bs x) (tm : Tmp g H Bs) (nw : ∀ a ∈ Bs, H0 a = none ∨ Ow g0 a) (e : setWM md z f x m = .ok un m') :
    ∃ a cl dx vs, yv = .ref a ∧ H a = some (.ins (W.ca cl) dx vs) ∧ Cls W.K (W.ca cl) ∧ NoAttr W.K (W.ca cl) (W.fn f) ∧ vs.length < 1000 ∧
      ∃ g', Eff g0 H0 g' (upd H a (.ins (W.ca cl) dx (putF (W.fn f) v vs))) ∧ MR W g' (upd H a (.ins (W.ca cl) dx (putF (W.fn f) v vs))) m' ∧ More g g' := by
  cases z <;> first | (cases e; done) | skip
  cases x <;> first | (cases e; done) | skip
  rename_i n d
  obtain ⟨⟨a, ha, rfl⟩, _⟩ := h
  obtain ⟨b, rfl, ob⟩ := hx
  have e : (match m[n]? with
    | some (.iv c fs) => if (c, f) ∈ md.at_ then (match fs.lookup f with
      | none => if fs.length < 900 then Rs.ok () (m.set n (.iv c (fs ++ [(f, FV.w d)]))) else .no
      | _ => .no) else .no
    | _ => .no) = .ok un m' := e
  split at e
  case h_2 => cases e
  rename_i cl fs q
  split at e
  case isFalse => cases e
  rename_i hat
  split at e
  case h_2 => cases e
  rename_i hnone
  split at e
  case isFalse => cases e
  rename_i hl
  cases e
  obtain ⟨k1, k2⟩ := GW cl f hat
  obtain ⟨a0, l, As, q1, q2, q3, ok⟩ := r.cell n _ q
  rw [ha] at q1
  cases q1
  obtain ⟨dx, vs, A', z1, z2, z3, z4, z5⟩ := ok
  subst z4
  have nd := r.nd n _ q3
  have hlen := z3.length
  refine ⟨a, cl, dx, vs, rfl, z1, k1, k2, by omega, ?_⟩
  have nfa : ¬ g.fz a := r.nf a ⟨n, _, q3, by simp⟩
  have owd : ∀ c ∈ a :: dx :: A', Ow g c := fun c hc => ⟨n, _, q3, hc⟩
  have dj : ∀ c ∈ Bs, c ∉ a :: dx :: A' := fun c hc z => tm.ow c hc (owd c z)
  have st : ∀ u, Stay g.fz g.fz H (upd H a u) := fun u => .of (fun b o p e => by rw [upd_ne fun z => nfa (by rw [← z]; exact p)]; exact e) fun _ p => p
  have na : a ∉ A' := fun z => (List.nodup_cons.mp nd).1 (by simp [z])
  have nad : dx ≠ a := fun z => (List.nodup_cons.mp nd).1 (by simp [z])
  have kk : ∀ b u, H b = some u → b ∉ a :: dx :: A' → upd H a (.ins (W.ca cl) dx (putF (W.fn f) (.ref b) vs)) b = some u := fun b u hu hb => by rw [upd_ne fun z => hb (by simp [z])]; exact hu
  have kb : ∀ c ∈ Bs, ∀ u w, H c = some u → upd H a w c = some u := fun c hc u w hu => by rw [upd_ne fun z => dj c hc (by simp [z])]; exact hu
  have hfr : l.lookup f = none := z5 f hnone
  have hl2 : (l ++ [(f, b)]).lookup f = some b := by rw [look_snoc, hfr]; simp
  have hl3 : ∀ k c, l.lookup k = some c → (l ++ [(f, b)]).lookup k = some c := fun k c hk => by rw [look_snoc, hk]; rfl
  have kk2 : ∀ c u, H c = some u → c ∉ a :: dx :: A' → upd H a (.ins (W.ca cl) dx (putF (W.fn f) (.ref b) vs)) c = some u := fun c u hu hc => by rw [upd_ne fun z => hc (by simp [z])]; exact hu
  have ndn : (a :: dx :: (A' ++ Bs)).Nodup := by
    have e : a :: dx :: (A' ++ Bs) = (a :: dx :: A') ++ Bs := rfl
    rw [e]
    exact List.nodup_append.mpr ⟨nd, tm.nd, fun c hc z hz ez => dj z hz (by rw [← ez]; exact hc)⟩
  have mem2 : ∀ c, c ∈ a :: dx :: (A' ++ Bs) → c ∈ a :: dx :: A' ∨ c ∈ Bs := fun c hc => by
    have e : a :: dx :: (A' ++ Bs) = (a :: dx :: A') ++ Bs := rfl
    rw [e] at hc
    exact List.mem_append.mp hc
  refine ⟨⟨fun b => g.fz b ∨ False, g.rt, g.fr.set n (l ++ [(f, b)]), g.as.set n (a :: dx :: (A' ++ Bs))⟩, ef.setC (a := a) q2 q3 kk2 hl3 (fun c hc => ?_) (fun b z => z.elim), r.setC q ha q2 q3 kk2 (fun c hc => ?_) ?_ ndn (fun c hc => ?_) (fun b z => z.elim), ?_⟩
  · rcases mem2 c hc with h | h
    · exact .inl h
    · exact .inr (nw c h)
  · by_cases z : c = a
    · rw [z]; exact ⟨_, upd_same⟩
    · rw [upd_ne z]
      obtain ⟨o, ho, _⟩ := r.mt c ⟨n, _, q3, hc⟩
      exact ⟨o, ho⟩
  · refine ⟨dx, _, A' ++ Bs, upd_same, by rw [upd_ne nad]; exact z2, ?_, rfl, fun k hk => ?_⟩
    · have i1 : IvF W g.fz (upd H a (.ins (W.ca cl) dx (putF (W.fn f) (.ref b) vs))) (l ++ [(f, b)]) fs vs A' := z3.keep (st _) (fun b hb u hu => by rw [upd_ne fun z => na (by rw [← z]; exact hb)]; exact hu) hl3
      have i2 := i1.snocW (k := f) hl2 (ob.keep (st _) fun c hc u hu => kb c hc u _ hu) hnone
      exact i2.keep (.of (fun _ _ _ h => h) fun _ p => .inl p) (fun _ _ _ h => h) fun _ _ h => h
    · rw [look_snoc] at hk ⊢
      cases e1 : fs.lookup k with
      | some u => rw [e1] at hk; cases hk
      | none =>
        rw [e1] at hk
        rw [z5 k e1]
        split at hk
        · cases hk
        · rename_i e2
          rw [if_neg e2]
          rfl
  · rcases mem2 c hc with h | h
    · refine ⟨r.nf c ⟨n, _, q3, h⟩, fun z => z, fun i li hi ei hm => hi (r.dj i n li _ c ei q3 hm h), ?_⟩
      by_cases z : c = a
      · rw [z]; exact ⟨_, upd_same, trivial⟩
      · rw [upd_ne z]; exact r.mt c ⟨n, _, q3, h⟩
    · obtain ⟨o, ho, mo⟩ := tm.mt c h
      exact ⟨tm.fz c h, fun z => z, fun i li hi ei hm => tm.ow c h ⟨i, li, ei, hm⟩, o, kb c h _ _ ho, mo⟩
  · refine ⟨fun c h => Or.inl h, fun _ _ h => h, fun i l2 k c h1 h2 => ?_⟩
    by_cases ei : i = n
    · subst ei
      rw [q2] at h1
      cases h1
      exact ⟨_, set_at q2, hl3 k c h2⟩
    · exact ⟨l2, by rw [List.getElem?_set_ne (Ne.symm ei)]; exact h1, h2⟩
theorem s_setW (G : GX X W md nm fa j c Wx) {f : Nat} {n : Str} (hn : nm.fld[f]? = some n) (hv : PE X e (tM W x Wx)) (ho : PE X o (tM W y Wx)) (hs : nswap e = true) :
    PS X (.Assign [.Attribute o n p2] e pos) (tS W (fun s => sM s (bnd (x s) fun x => bnd (y s) fun y => setWM md y f x) fun _ => pur (.nx s)) Wx) := by
  refine PS.of (ps_fld ho hv (nswap_ok hs)) fun D σ H ⟨g, s, m, r, sr, h⟩ => ?_
  have w := wish_s (D := D) (Wx := Wx) (f := fun _ : Unit => pur (.nx s)) r sr
  refine (tm_stepG w (At.start r sr) h).mono fun xv H1 ⟨g1, m1, a, As1, A1, h1⟩ => ?_
  refine (tm_stepG w A1 h1).mono fun yv H2 ⟨g2, m2, b, As2, A2, h2⟩ => ?_
  obtain ⟨By, B2, e1, wy, r1⟩ := A2.rv.uncons
  obtain ⟨Bx, B3, e2, wx, r2⟩ := r1.uncons
  have tmx : Tmp g2 H2 Bx := by
    have := A2.tm
    rw [e1, e2] at this
    exact this.right.left
  have nwx : ∀ q ∈ Bx, H q = none ∨ Ow g q := fun q hq => A2.nw q (by rw [e1, e2]; simp [hq])
  have h4 : PostS W g H (sMr s (setWM md b f a m2) fun _ => pur (.nx s)) D Wx := h2
  cases q3 : setWM md b f a m2 with
  | no => rw [q3] at h4; exact h4.elim
  | rz _ _ => exact (setWM_rz q3).elim
  | ok un m6 =>
    rw [q3] at h4
    have gw : ∀ cl f, (cl, f) ∈ md.at_ → Cls W.K (W.ca cl) ∧ NoAttr W.K (W.ca cl) (W.fn f) := fun cl f h => by rw [G.K]; exact G.gw.at_ cl f h
    obtain ⟨ad, cl, dx, vs, rfl, k1, k2, k3, k4, g6, ef6, mr6, mo⟩ := setW_ok gw A2.eff A2.mr wy wx tmx nwx q3
    have en := G.gw.fld f n hn
    rw [en] at k3 ef6 mr6
    exact ⟨ad, _, dx, vs, rfl, k1, by rw [← G.K]; exact k2, by rw [← G.K]; exact k3, k4, h4 σ g6 _ ef6 mr6 (sr.eff r ef6)⟩
end
end Fw

/-! T39: x, y = a, b: both names stored; a name stored from a display. -/
namespace Fw
open PySem PySem.Spec PyProof.Rows L2

section
variable {X : Cx} {W : Wd} {md : Md} {nm : Nm} {fa : Nat → Addr} {j : Nat} {c : Ck} {Wx : WX} {e a b tg : Expr} {pos px py pt p2 : Pos} {x y : Sl → Mo RV}
  {g g0 : Gh} {H H0 : Hp} {m m' : Mem} {σ : L2.St} {s : Sl} {vs : List V} {xs : List RV} {Cs : List Addr} {E : XK}
theorem tmp_snoc {a : Addr} {As Cs : List Addr} (t : Tmp g H Cs) (d : ∀ b ∈ As, b ∉ Cs) : Tmp (g.snoc a As) H Cs where
  nd := t.nd
  fz := t.fz
  ow := fun b hb z => (ow_snoc z).elim (fun q => d b q hb) (t.ow b hb)
  mt := t.mt
/-- a value in hand becomes a slot's, the others stay in hand -/
theorem At.cellG {β : Type} {P : Rs β → Prop} {f : Val → Mo β} {y : RV} {v : V} {Bs : List Addr} (w : Wish W g0 H0 P E) (A : At W g0 H0 σ s g H m (v :: vs) (y :: xs) (Bs ++ Cs)) (hx : RVR W g H v Bs y) (hr : RVs W g H vs xs Cs) (h : P (bnd (cellM y) f m)) :
    ∃ u g' m', More g g' ∧ At W g0 H0 σ s g' H m' vs xs Cs ∧ VR W g' H v u ∧ P (f u m') := by
  have nwC : ∀ a ∈ Cs, H0 a = none ∨ Ow g0 a := fun a ha => A.nw a (List.mem_append_right _ ha)
  cases y with
  | d d => exact ⟨.d d, g, m, .refl g, ⟨A.eff, A.mr, A.sr, hr, A.tm.right, nwC⟩, hx.1, h⟩
  | c n => exact ⟨.c n, g, m, .refl g, ⟨A.eff, A.mr, A.sr, hr, A.tm.right, nwC⟩, hx.1, h⟩
  | f n k => exact (w.no h).elim
  | x a b => exact hx.elim
  | s ns => exact (w.no h).elim
  | o d =>
    obtain ⟨a, rfl, ow⟩ := hx
    have nw : ∀ b ∈ Bs, H0 b = none ∨ Ow g0 b := fun b hb => A.nw b (by simp [hb])
    have k := More.snoc g a Bs
    have mr := A.mr.snoc (a := a) (w := .fl d) A.tm.left ow
    have dj : ∀ b ∈ Bs, b ∉ Cs := fun b hb z => by
      have := A.tm.nd
      exact (List.nodup_append.mp this).2.2 b hb b z rfl
    have h' : P (f (Val.c m.length) (m ++ [CV.fl d])) := h
    refine ⟨Val.c m.length, g.snoc a Bs, m ++ [CV.fl d], k, ⟨A.eff.snoc nw, mr, A.sr.more k, hr.more k, tmp_snoc A.tm.right dj, nwC⟩, ⟨a, app_end A.mr.l1, rfl⟩, h'⟩
theorem At.slG {β : Type} {P : Rs β → Prop} {f : Val → Mo β} {y : RV} {v : V} {Bs : List Addr} (k : Bool) (w : Wish W g0 H0 P E) (A : At W g0 H0 σ s g H m (v :: vs) (y :: xs) (Bs ++ Cs)) (hx : RVR W g H v Bs y) (hr : RVs W g H vs xs Cs) (h : P (bnd (slM k y) f m)) :
    ∃ u g' m', More g g' ∧ At W g0 H0 σ s g' H m' vs xs Cs ∧ VR W g' H v u ∧ P (f u m') := by
  cases k with
  | true => exact At.cellG w A hx hr h
  | false =>
    have h : P (bnd (frzM y) (fun d => f (.d d)) m) := by
      have e : bnd (slM false y) f = bnd (frzM y) fun d => f (.d d) := by
        show bnd (bnd (frzM y) fun d => pur (Val.d d)) f = _
        rw [bnd_bnd]
        rfl
      rw [e] at h
      exact h
    obtain ⟨d, g', m', mo, rep, A', h'⟩ := At.frzG w A hx hr h
    exact ⟨.d d, g', m', mo, A', rep, h'⟩
def swOk : Expr → Expr → Str → Str → Bool
  | .Tuple [.Name x _, .Name y _] _ _, .Tuple [_, _] _ _, u, v => x == u && y == v && u != v
  | _, _, _, _ => false
theorem s_par (G : GX X W md nm fa j c Wx) {i k : Nat} {u v : Str} {kt k2 : Nat} {pt2 : Pos} (mi mj : Bool) (hi : c.N[i]? = some u) (hj : c.N[k]? = some v) (hij : i ≠ k) (hu : c.sc.names.lookup u = some .local) (hv : c.sc.names.lookup v = some .local)
    (ha : PE X a (tM W x Wx)) (hb : PE X b (tM W y Wx)) (na : nst a = true) (nb : nst b = true)
    (hw : swappedStores [.Tuple [.Name u px, .Name v py] kt pt] (.Tuple [a, b] k2 pt2) X.env = pure (some [u, v])) :
    PS X (.Assign [.Tuple [.Name u px, .Name v py] kt pt] (.Tuple [a, b] k2 pt2) pos) (tS W (fun s => sM s (bnd (x s) fun x => bnd (y s) fun y => bnd (slM mj y) fun w => bnd (slM mi x) fun v => pur (v, w)) fun p => pur (.nx ((s.set i (some p.1)).set k (some p.2)))) Wx) := by
  refine PS.of (ps_par G.calm (by rw [G.N]; exact G.nd) (by rw [G.N]; exact hi) (by rw [G.N]; exact hj) hij (by rw [G.sc]; exact hu) (by rw [G.sc]; exact hv) (pa_cons ha (pa_cons hb pa_nil (nst_star nb [])) (nst_star na [b])) hw) fun D σ H ⟨g, s, m, r, sr, h⟩ => ?_
  have w := wish_s (D := D) (Wx := Wx) (f := fun p : Val × Val => pur (.nx ((s.set i (some p.1)).set k (some p.2)))) r sr
  refine (tm_stepG w (At.start r sr) h).mono fun v1 H1 ⟨g1, m1, a1, As1, A1, h1⟩ => ?_
  refine (tm_stepG w A1 h1).mono fun v2 H2 ⟨g2, m2, a2, As2, A2, h2⟩ => ?_
  obtain ⟨By, B2, e1, wy, r1⟩ := A2.rv.uncons
  subst e1
  obtain ⟨v3, g3, m3, mo3, A3, vr3, h3⟩ := At.slG mj w A2 wy r1 h2
  obtain ⟨Bx, B3, e2, wx, r2⟩ := A3.rv.uncons
  subst e2
  obtain ⟨v4, g4, m4, mo4, A4, vr4, h4⟩ := At.slG (f := fun v => pur (v, v3)) mi w A3 wx r2 h3
  refine ⟨v1, v2, rfl, ?_⟩
  exact h4 _ g4 H2 A4.eff A4.mr ((A4.sr.set vr4).set (vr3.more mo4))
end
end Fw

/-! T40: a comprehension stored in a name on one line. -/
namespace Fw
open PySem PySem.Spec PyProof.Rows L2

def lcV (it : Sl → Mo (List D)) (own : List Nat) (t : Tg) (ts : Sl → Mo Bool) (x : Sl → Mo RV) (s : Sl) : Mo RV := bnd (it s) fun items => bnd (lcM (lcF own t ts x s) items) fun ys => pur (.o (.lst ys))
def dcV (it : Sl → Mo (List D)) (own : List Nat) (t : Tg) (ts : Sl → Mo Bool) (x y : Sl → Mo RV) (s : Sl) : Mo RV := bnd (it s) fun items => bnd (dcM (dcF own t ts x y s) items []) fun ys => pur (.o (.dK ys))
section
variable {X : Cx} {W : Wd} {md : Md} {nm : Nm} {fa : Nat → Addr} {j : Nat} {c : Ck} {Wx : WX} {pos py spos : Pos} {x y : Sl → Mo RV} {e tg iter kx vx elt : Expr} {ifs : List Expr} {scope : Scope} {own : List (Str × Nat)} {σ : L2.St} {H : Hp} {D : Ends} {t : Tg}
/-- does the statement take the store into the comprehension -/
def swB (c : Ck) (scope : Scope) (u : Str) (py p : Pos) : Bool := (match c.sc.kind with | .function => true | _ => false) && (c.sc.names.lookup u == some .local) && (py.line == p.line) && !(scope.names.any fun (n, k) => n == u && (k == .local || k == .cell))
theorem swB_lc {env : Env} {u : Str} {gs : List Comprehension} {l : Nat} (hs : env.scope = c.sc) (h : swB c scope u py pos = true) : swapsWith (.ListComp elt gs scope pos) (some (.Name u py)) l env = pure true := by
  unfold swB at h
  simp only [Bool.and_eq_true] at h
  obtain ⟨⟨⟨h1, h2⟩, h3⟩, h4⟩ := h
  refine sw_true ?_ (by rw [hs]; simpa using h2) h3 (by simpa using h4)
  rw [hs]
  split at h1
  · assumption
  · cases h1
theorem swB_dc {env : Env} {u : Str} {gs : List Comprehension} {l : Nat} (hs : env.scope = c.sc) (h : swB c scope u py pos = true) : swapsWith (.DictComp kx vx gs scope pos) (some (.Name u py)) l env = pure true := by
  unfold swB at h
  simp only [Bool.and_eq_true] at h
  obtain ⟨⟨⟨h1, h2⟩, h3⟩, h4⟩ := h
  have kd : env.scope.kind = .function := by
    rw [hs]
    split at h1
    · assumption
    · cases h1
  have ky : env.kindOf u = some .local := by
    show env.scope.names.lookup u = _
    rw [hs]
    simpa using h2
  have hb : env.blockKind = .function := by unfold Env.blockKind; rw [kd]; rfl
  have h4 : (scope.names.any fun (n, k) => n == u && (k == .local || k == .cell)) = false := by simpa using h4
  unfold swapsWith
  simp only [hb, ky, h4, Expr.pos, h3]
  rfl
theorem ps_setDc {i : Nat} {u : Str} {wi : TI} {g : TG} {tt : TT} {tk tv : TE} (hc : X.calm = true) (hN : X.N.Nodup) (hy : X.N[i]? = some u) (hl : X.env.scope.names.lookup u = some .local)
    (hsw : swapsWith (.DictComp kx vx [⟨tg, iter, ifs, 0⟩] scope pos) (some (.Name u py)) spos.line X.env = pure true) (hi : PI X tg iter wi) (ok : BlkOk X.N X.env.scope scope own)
    (hg : ∀ (s : Shared) (H : Hp) (C : Addr) (cl : List (Str × Addr)) (fp : List Addr), PG (X.blk s H scope (compEnvC scope cl C X.env) fp) tg g) (ht : ∀ (s : Shared) (H : Hp) (C : Addr) (cl : List (Str × Addr)) (fp : List Addr), PTs (X.blk s H scope (compEnvC scope cl C X.env) fp) ifs tt)
    (hk : ∀ (s : Shared) (H : Hp) (C : Addr) (cl : List (Str × Addr)) (fp : List Addr), PE (X.blk s H scope (compEnvC scope cl C X.env) fp) kx tk)
    (he : ∀ (s : Shared) (H : Hp) (C : Addr) (cl : List (Str × Addr)) (fp : List Addr), PE (X.blk s H scope (compEnvC scope cl C X.env) fp) vx tv) (hs : ∀ x, foldedSetIterable iter X.env x = pure x) :
    PS X (.Assign [.Name u py] (.DictComp kx vx [⟨tg, iter, ifs, 0⟩] scope pos) spos) (tAsg (tDc wi g tt tk tv (own.map (·.2))) (gName i)) := by
  refine ⟨fun pins s σ H D I h => ?_⟩
  rw [exec_Assign_Name_used _ _ _ _ hsw]
  refine wpAny_bind (wpAny_standAt (wpAny_bind ?_))
  show wpAny _ X.A (do let _ ← comprehension (.DictComp kx vx [⟨tg, iter, ifs, 0⟩] scope pos) scope X.env (firstIterPos [⟨tg, iter, ifs, 0⟩] pos) newDict false (eval iter X.env) (some (assign (.Name u py) X.env))) _ _ s
  have h : tDc wi g tt tk tv (own.map (·.2)) σ H (fun x H1 => gName i x σ H1 D.nx) := h
  refine wpAny_bind (thn (dc_core (Qf := fun _ s' => SP X pins D .next s') hc hN I hi ok hg ht hk he hs h fun L C s' m H' I' q hn f => ?_) fun _ s' hq => wpAny_pure (wpAny_pure hq))
  show wpAny _ _ (assign (.Name u py) X.env (.ref L)) _ _ _
  refine wpAny_assign_Name (store_ok2 (v := V.ref L) I' hN hy (.inl hl) rfl (fun s2 I2 ⟨a, sb, ha⟩ => ?_) (.inr hl))
  obtain ⟨f0, f1, f2, f3, f4, f5⟩ := f
  have haC : C ≠ a := by
    rcases ha with z | z
    · rw [z]; exact f1
    · exact fun e => f4 u a z e.symm
  refine ⟨m, hn.sameBut sb haC, fun h3 sb3 => ?_⟩
  exact ⟨_, H', I2.turned (t' := s2.toks) (fun b o hb e => (sb3.2 b hb).trans e) f0 f1 f3 f4 f5, q⟩
/-- the stored value: frozen, or a cell -/
theorem set_read {mu : Bool} {i : Nat} (h : tS W (fun s => sM s (bnd (x s) (slM mu)) fun v => pur (.nx (s.set i (some v)))) Wx D σ H) : (tM W x Wx) σ H fun v H1 => gName i v σ H1 D.nx := by
  obtain ⟨g, s, m, r, sr, h⟩ := h
  have w := wish_s (D := D) (Wx := Wx) (f := fun v => pur (.nx (s.set i (some v)))) r sr
  refine (tm_step2 w (At.start r sr) h).mono fun v H1 ⟨g1, m1, a, Bs, A1, w1, A2, h1⟩ => ?_
  obtain ⟨u, g2, m2, mo, A3, vr, h3⟩ := At.slG (f := pur) mu w A1 w1 .nil (by rw [pur_bnd]; exact h1)
  exact h3 _ g2 H1 A3.eff A3.mr (A3.sr.set vr)
theorem setLc_read {it : Sl → Mo (List Fw.D)} {ts : Sl → Mo Bool} {mu : Bool} {i : Nat} {K : PySem.W.Frag} (hown : ∀ i ∈ t.ix, i ∈ own.map (·.2)) (h : tS W (fun s => sM s (bnd (lcV it (own.map (·.2)) t ts x s) (slM mu)) fun v => pur (.nx (s.set i (some v)))) Wx D σ H) :
    tAsg (tLc (iD W it Wx) (tgG K t) (tT W ts noX) (tM W x noX) (own.map (·.2))) (gName i) D σ H :=
  lc_read hown (set_read h)
theorem setDc_read {it : Sl → Mo (List Fw.D)} {ts : Sl → Mo Bool} {mu : Bool} {i : Nat} {K : PySem.W.Frag} (hown : ∀ i ∈ t.ix, i ∈ own.map (·.2)) (h : tS W (fun s => sM s (bnd (dcV it (own.map (·.2)) t ts x y s) (slM mu)) fun v => pur (.nx (s.set i (some v)))) Wx D σ H) :
    tAsg (tDc (iD W it Wx) (tgG K t) (tT W ts noX) (tM W x noX) (tM W y noX) (own.map (·.2))) (gName i) D σ H :=
  dc_read hown (set_read h)
theorem s_setLc (G : GX X W md nm fa j c Wx) {i : Nat} {u : Str} {mu : Bool} {it : Sl → Mo (List Fw.D)} {ts : Sl → Mo Bool} (hN : c.N[i]? = some u) (hsw : swB c scope u py pos = true)
    (hi : PI X tg iter (iD W it Wx)) (ok : BlkOk X.N X.env.scope scope own) (hown : ∀ i ∈ t.ix, i ∈ own.map (·.2)) (ht : mT (c.blk scope) t tg = true)
    (hifs : ∀ (s : Shared) (H : Hp) (C : Addr) (cl : List (Str × Addr)) (fp : List Addr), PTs (X.blk s H scope (compEnvC scope cl C X.env) fp) ifs (tT W ts noX))
    (he : ∀ (s : Shared) (H : Hp) (C : Addr) (cl : List (Str × Addr)) (fp : List Addr), PE (X.blk s H scope (compEnvC scope cl C X.env) fp) elt (tM W x noX))
    (hs : ∀ v, foldedSetIterable iter X.env v = pure v) :
    PS X (.Assign [.Name u py] (.ListComp elt [⟨tg, iter, ifs, 0⟩] scope pos) spos) (tS W (fun s => sM s (bnd (lcV it (own.map (·.2)) t ts x s) (slM mu)) fun v => pur (.nx (s.set i (some v)))) Wx) := by
  have tgr : ∀ (s : Shared) (H : Hp) (C : Addr) (cl : List (Str × Addr)) (fp : List Addr), PG (X.blk s H scope (compEnvC scope cl C X.env) fp) tg (tgG X.K t) := fun s H C cl fp => tg_ok (G.blk scope s H C cl fp) ht
  have hl : X.env.scope.names.lookup u = some .local := by
    unfold swB at hsw
    simp only [Bool.and_eq_true] at hsw
    rw [G.sc]
    simpa using hsw.1.1.2
  refine PS.of (ps_setLc G.calm (by rw [G.N]; exact G.nd) (by rw [G.N]; exact hN) hl (swB_lc G.sc hsw) hi ok tgr hifs he hs) fun D σ H h => ?_
  exact setLc_read hown h
theorem s_setDc (G : GX X W md nm fa j c Wx) {i : Nat} {u : Str} {mu : Bool} {it : Sl → Mo (List Fw.D)} {ts : Sl → Mo Bool} (hN : c.N[i]? = some u) (hsw : swB c scope u py pos = true)
    (hi : PI X tg iter (iD W it Wx)) (ok : BlkOk X.N X.env.scope scope own) (hown : ∀ i ∈ t.ix, i ∈ own.map (·.2)) (ht : mT (c.blk scope) t tg = true)
    (hifs : ∀ (s : Shared) (H : Hp) (C : Addr) (cl : List (Str × Addr)) (fp : List Addr), PTs (X.blk s H scope (compEnvC scope cl C X.env) fp) ifs (tT W ts noX))
    (hk : ∀ (s : Shared) (H : Hp) (C : Addr) (cl : List (Str × Addr)) (fp : List Addr), PE (X.blk s H scope (compEnvC scope cl C X.env) fp) kx (tM W x noX))
    (he : ∀ (s : Shared) (H : Hp) (C : Addr) (cl : List (Str × Addr)) (fp : List Addr), PE (X.blk s H scope (compEnvC scope cl C X.env) fp) vx (tM W y noX))
    (hs : ∀ v, foldedSetIterable iter X.env v = pure v) :
    PS X (.Assign [.Name u py] (.DictComp kx vx [⟨tg, iter, ifs, 0⟩] scope pos) spos) (tS W (fun s => sM s (bnd (dcV it (own.map (·.2)) t ts x y s) (slM mu)) fun v => pur (.nx (s.set i (some v)))) Wx) := by
  have tgr : ∀ (s : Shared) (H : Hp) (C : Addr) (cl : List (Str × Addr)) (fp : List Addr), PG (X.blk s H scope (compEnvC scope cl C X.env) fp) tg (tgG X.K t) := fun s H C cl fp => tg_ok (G.blk scope s H C cl fp) ht
  have hl : X.env.scope.names.lookup u = some .local := by
    unfold swB at hsw
    simp only [Bool.and_eq_true] at hsw
    rw [G.sc]
    simpa using hsw.1.1.2
  refine PS.of (ps_setDc G.calm (by rw [G.N]; exact G.nd) (by rw [G.N]; exact hN) hl (swB_dc G.sc hsw) hi ok tgr hifs hk he hs) fun D σ H h => ?_
  exact setDc_read hown h
end
end Fw

/-! T41: while. -/
namespace Fw
open PySem PySem.Spec PyProof.Rows L2

section
variable {X : Cx} {W : Wd} {md : Md} {nm : Nm} {fa : Nat → Addr} {j : Nat} {c : Ck} {Wx : WX} {e : Expr} {pos : Pos} {p : Sl → Mo Bool} {b : Sl → Mo Fl} {body : List Stmt}
theorem s_while (hp : PassesOwn (model X.prog X.w) X.A X.env X.xe) (hc : PT X e (tT W p Wx)) (hb : PSs X body (tS W b Wx)) (N : Nat) :
    PS X (.While e body [] pos) (tS W (fun s => whM p b N s) Wx) := by
  refine PS.of (ps_while hp hc hb) fun D σ H ⟨g, s, m, r, sr, h⟩ => ?_
  refine ⟨fun k σ' H' => ∃ g' s' m', Eff g H g' H' ∧ MR W g' H' m' ∧ SR W g' H' σ' s' ∧ PostS W g H (whM p b k s' m') D Wx, ⟨N, g, s, m, .refl, r, sr, h⟩, ?_⟩
  rintro k σ' H' ⟨g', s', m', ef, mr, sr', hq⟩
  cases k with
  | zero => exact hq.elim
  | succ k =>
    have hq : PostS W g H (sMr s' (p s' m') fun t => (match t with
      | false => pur (.nx s')
      | true => bnd (b s') fun fl => (match fl with
        | .nx s' => whM p b k s'
        | .ct s' => whM p b k s'
        | .bk s' => pur (.nx s')
        | fl => pur fl))) D Wx := hq
    refine ⟨g', s', m', mr, sr', ?_⟩
    cases q1 : p s' m' with
    | no => rw [q1] at hq; exact hq.elim
    | rz a m1 =>
      rw [q1] at hq
      exact fun cls d g2 H2 e2 r2 ex => hq cls d σ' g2 H2 (ef.trans e2) r2 (sr'.eff mr e2) ex
    | ok t m1 =>
      rw [q1] at hq
      intro g2 H2 e2 r2
      have sr2 := sr'.eff mr e2
      have ef2 := ef.trans e2
      cases t with
      | false =>
        rw [if_neg Bool.false_ne_true]
        exact hq σ' g2 H2 ef2 r2 sr2
      | true =>
        rw [if_pos rfl]
        refine ⟨fun σ3 H3 => ∃ g3 s3 m3, Eff g H g3 H3 ∧ MR W g3 H3 m3 ∧ SR W g3 H3 σ3 s3 ∧ PostS W g H (whM p b k s3 m3) D Wx, fun σ3 H3 z => ⟨k, Nat.lt_succ_self k, z⟩, ?_⟩
        have hq : PostS W g H (bnd (b s') (fun fl => (match fl with
          | .nx s' => whM p b k s'
          | .ct s' => whM p b k s'
          | .bk s' => pur (.nx s')
          | fl => pur fl)) m1) D Wx := hq
        refine ⟨g2, s', m1, r2, sr2, ?_⟩
        cases q2 : b s' m1 with
        | no => rw [bnd_noo q2] at hq; exact hq
        | rz z m2 => rw [bnd_rzo q2] at hq; exact hq
        | ok fl m2 =>
          rw [bnd_ok q2] at hq
          cases fl with
          | nx s3 => exact fun σ3 g3 H3 e3 r3 s3' => ⟨g3, s3, m2, ef2.trans e3, r3, s3', hq⟩
          | ct s3 => exact fun σ3 g3 H3 e3 r3 s3' => ⟨g3, s3, m2, ef2.trans e3, r3, s3', hq⟩
          | bk s3 => exact fun σ3 g3 H3 e3 r3 s3' => hq σ3 g3 H3 (ef2.trans e3) r3 s3'
          | rt v =>
            have hq : PostS W g H (.ok (.rt v) m2) D Wx := hq
            exact PostS.go (r := .ok (.rt v) m2) (D := D) ef2 hq
          | rs v s3 =>
            have hq : PostS W g H (.ok (.rs v s3) m2) D Wx := hq
            exact PostS.go (r := .ok (.rs v s3) m2) (D := D) ef2 hq
end
end Fw

/-! T42: statements against the text's. -/
namespace Fw
open PySem PySem.Spec PyProof.Rows L2

def vAsgN : Stmt → Option (Str × Pos × Expr × Pos)
  | .Assign [.Name z p] e q => some (z, p, e, q)
  | _ => none
def vAsgT : Stmt → Option (List Expr × Nat × Pos × Expr × Pos)
  | .Assign [.Tuple ts k p] e q => some (ts, k, p, e, q)
  | _ => none
def vAsgS : Stmt → Option (Expr × Expr × Pos × Expr × Pos)
  | .Assign [.Subscript o k p] e q => some (o, k, p, e, q)
  | _ => none
def vAsgA : Stmt → Option (Expr × Str × Pos × Expr × Pos)
  | .Assign [.Attribute o n p] e q => some (o, n, p, e, q)
  | _ => none
def vPar : Stmt → Option (Str × Str × Pos × Pos × Nat × Pos × Expr × Expr × Nat × Pos × Pos)
  | .Assign [.Tuple [.Name u px, .Name v py] kt pt] (.Tuple [a, b] k2 pt2) pos => some (u, v, px, py, kt, pt, a, b, k2, pt2, pos)
  | _ => none
def vExS : Stmt → Option (Expr × Pos)
  | .Expr e p => some (e, p)
  | _ => none
def vRet : Stmt → Option (Expr × Pos)
  | .Return (some e) p => some (e, p)
  | _ => none
def vRetN : Stmt → Option Pos
  | .Return none p => some p
  | _ => none
def vIfS : Stmt → Option (Expr × List Stmt × List Stmt × Pos)
  | .If e a b p => some (e, a, b, p)
  | _ => none
def vFor : Stmt → Option (Expr × Expr × List Stmt × Pos)
  | .For tg it b [] p => some (tg, it, b, p)
  | _ => none
def vWhile : Stmt → Option (Expr × List Stmt × Pos)
  | .While e b [] p => some (e, b, p)
  | _ => none
def isPass : Stmt → Option Pos
  | .Pass p => some p
  | _ => none
def isBrk : Stmt → Option Pos
  | .Break p => some p
  | _ => none
def isCnt : Stmt → Option Pos
  | .Continue p => some p
  | _ => none
theorem vAsgN_ok {st : Stmt} {z p e q} (h : vAsgN st = some (z, p, e, q)) : st = .Assign [.Name z p] e q := by
  unfold vAsgN at h; split at h <;> cases h; rfl
theorem vAsgT_ok {st : Stmt} {ts k p e q} (h : vAsgT st = some (ts, k, p, e, q)) : st = .Assign [.Tuple ts k p] e q := by
  unfold vAsgT at h; split at h <;> cases h; rfl
theorem vAsgS_ok {st : Stmt} {o k p e q} (h : vAsgS st = some (o, k, p, e, q)) : st = .Assign [.Subscript o k p] e q := by
  unfold vAsgS at h; split at h <;> cases h; rfl
theorem vAsgA_ok {st : Stmt} {o n p e q} (h : vAsgA st = some (o, n, p, e, q)) : st = .Assign [.Attribute o n p] e q := by
  unfold vAsgA at h; split at h <;> cases h; rfl
theorem vPar_ok {st : Stmt} {u v px py kt pt a b k2 pt2 pos} (h : vPar st = some (u, v, px, py, kt, pt, a, b, k2, pt2, pos)) : st = .Assign [.Tuple [.Name u px, .Name v py] kt pt] (.Tuple [a, b] k2 pt2) pos := by
  unfold vPar at h; split at h <;> cases h; rfl
theorem vExS_ok {st : Stmt} {e p} (h : vExS st = some (e, p)) : st = .Expr e p := by
  unfold vExS at h; split at h <;> cases h; rfl
theorem vRet_ok {st : Stmt} {e p} (h : vRet st = some (e, p)) : st = .Return (some e) p := by
  unfold vRet at h; split at h <;> cases h; rfl
theorem vRetN_ok {st : Stmt} {p} (h : vRetN st = some p) : st = .Return none p := by
  unfold vRetN at h; split at h <;> cases h; rfl
theorem vIfS_ok {st : Stmt} {e a b p} (h : vIfS st = some (e, a, b, p)) : st = .If e a b p := by
  unfold vIfS at h; split at h <;> cases h; rfl
theorem vFor_ok {st : Stmt} {tg it b p} (h : vFor st = some (tg, it, b, p)) : st = .For tg it b [] p := by
  unfold vFor at h; split at h <;> cases h; rfl
theorem vWhile_ok {st : Stmt} {e b p} (h : vWhile st = some (e, b, p)) : st = .While e b [] p := by
  unfold vWhile at h; split at h <;> cases h; rfl
theorem isPass_ok {st : Stmt} {p} (h : isPass st = some p) : st = .Pass p := by
  unfold isPass at h; split at h <;> cases h; rfl
theorem isBrk_ok {st : Stmt} {p} (h : isBrk st = some p) : st = .Break p := by
  unfold isBrk at h; split at h <;> cases h; rfl
theorem isCnt_ok {st : Stmt} {p} (h : isCnt st = some p) : st = .Continue p := by
  unfold isCnt at h; split at h <;> cases h; rfl
/-- both sides in one row, the names two local ones -/
def parB (sc : Scope) (u v : Str) (px py : Pos) (a b : Expr) : Bool := (match sc.kind with | .function => true | _ => false) && (sc.names.lookup u == some .local) && (sc.names.lookup v == some .local) && (py.line == px.line) && (u != v) &&
  nst a && nst b && !([a, b].all (foldedForSure 8)) && !([a, b].all (constantsAlone 8))
theorem nst_m {e : Expr} : nst e = true → ¬ (match e with | .Starred .. => true | _ => false) = true := by
  intro h
  cases e <;> first | (intro z; cases z; done) | cases h
theorem par_ok {sc : Scope} {env : Env} {u v : Str} {px py pt pt2 : Pos} {kt k2 : Nat} {a b : Expr} (hs : env.scope = sc) (h : parB sc u v px py a b = true) : swappedStores [.Tuple [.Name u px, .Name v py] kt pt] (.Tuple [a, b] k2 pt2) env = pure (some [u, v]) := by
  unfold parB at h
  rw [Bool.and_eq_true, Bool.and_eq_true, Bool.and_eq_true, Bool.and_eq_true, Bool.and_eq_true, Bool.and_eq_true, Bool.and_eq_true, Bool.and_eq_true] at h
  obtain ⟨⟨⟨⟨⟨⟨⟨⟨h1, h2⟩, h3⟩, h4⟩, h5⟩, h6⟩, h7⟩, h8⟩, h9⟩ := h
  have h8 : ([a, b].all (foldedForSure 8)) = false := by
    cases q : [a, b].all (foldedForSure 8) with
    | false => rfl
    | true => rw [q] at h8; cases h8
  have h9 : ([a, b].all (constantsAlone 8)) = false := by
    cases q : [a, b].all (constantsAlone 8) with
    | false => rfl
    | true => rw [q] at h9; cases h9
  have kd : env.scope.kind = .function := by
    rw [hs]
    split at h1
    · assumption
    · cases h1
  have hb : env.blockKind = .function := by unfold Env.blockKind; rw [kd]; rfl
  have ku : env.kindOf u = some .local := by
    show env.scope.names.lookup u = _
    rw [hs]
    exact eq_of_beq h2
  have kv : env.kindOf v = some .local := by
    show env.scope.names.lookup v = _
    rw [hs]
    exact eq_of_beq h3
  have ne : ¬ u = v := by
    intro z
    rw [z] at h5
    simp at h5
  have nm : ([Expr.Name u px, Expr.Name v py].filterMap fun
    | .Name id pos => if (env.kindOf id == some .local && pos.line == px.line) = true then some id else none
    | _ => none) = [u, v] := by
    refine (List.filterMap_cons_some (b := u) ?_).trans ?_
    · exact if_pos (by rw [ku]; simp)
    · refine congrArg (u :: ·) ((List.filterMap_cons_some (b := v) ?_).trans ?_)
      · exact if_pos (by rw [kv, h4]; rfl)
      · rfl
  have ed : [u, v].eraseDups = [u, v] := by
    have ne' : (v == u) = false := beq_eq_false_iff_ne.mpr (Ne.symm ne)
    rw [List.eraseDups_cons]
    simp only [List.filter_cons, List.filter_nil, ne']
    rfl
  unfold swappedStores
  simp only [hb]
  have c1 : ¬ ((!([Expr.Name u px, Expr.Name v py].length == 2 || [Expr.Name u px, Expr.Name v py].length == 3) || [a, b].length != [Expr.Name u px, Expr.Name v py].length || ScopeKind.function != ScopeKind.function) = true) := fun z => nomatch (show false = true from z)
  rw [if_neg c1]
  rw [if_neg (by
    intro z
    rw [List.any_cons, List.any_cons, List.any_nil, Bool.or_false, Bool.or_eq_true] at z
    exact z.elim (nst_m h6) (nst_m h7))]
  rw [if_neg (by
    intro z
    have e1 : (!(([u, v] : List Str).length == 2) || [u, v].eraseDups.length != ([u, v] : List Str).length) = true := by
      rw [← nm]
      exact z
    rw [ed] at e1
    cases e1)]
  rw [if_neg (by rw [h8]; decide), if_neg (by rw [h9]; decide)]
  exact congrArg (fun l => pure (some l)) nm
end Fw

/-! T43: statements that match are read by the interpreter. -/
namespace Fw
open PySem PySem.Spec PyProof.Rows L2

section
variable (md : Md) (nm : Nm)
/-- a stored comprehension on one line -/
def swE (c : Ck) (z : Str) (p : Pos) : Ep → Expr → Bool
  | .lc _ _ _ _ _ _, .ListComp _ [⟨_, _, _, 0⟩] sc q => swB c sc z p q
  | .dc _ _ _ _ _ _ _, .DictComp _ _ [⟨_, _, _, 0⟩] sc q => swB c sc z p q
  | _, _ => false
def mmNm : MM → Option Str
  | .append => some "append"
  | .extend => some "extend"
  | .reverse => some "reverse"
  | _ => none
mutual
def mS (c : Ck) : Sm → Stmt → Bool
  | .asg i e, st => (match vAsgN st with
    | some (z, p, v, _) => (c.N[i]? == some z) && c.loc z && mE md nm c e v && (nswap v || swE c z p e v)
    | none => false)
  | .asgM i e, st => (match vAsgN st with
    | some (z, p, v, _) => (c.N[i]? == some z) && c.loc z && mE md nm c e v && (nswap v || swE c z p e v)
    | none => false)
  | .asgT is e, st => (match vAsgT st with
    | some (ts, k, p, v, _) => mT c (.tp is) (.Tuple ts k p) && mE md nm c e v && nswap v && nTup v
    | none => false)
  | .par i k mi mj a b, st => (match vPar st with
    | some (u, v, px, py, _, _, x, y, _, _, _) => (c.N[i]? == some u) && (c.N[k]? == some v) && decide (i ≠ k) && parB c.sc u v px py x y && mE md nm c a x && mE md nm c b y
    | none => false)
  | .setI o k v, st => (match vAsgS st with
    | some (x, y, _, z, _) => mE md nm c v z && mE md nm c o x && mE md nm c k y && nswap z && plIx y
    | none => false)
  | .setF f o v, st => (match vAsgA st with
    | some (x, n, _, z, _) => (nm.fld[f]? == some n) && mE md nm c v z && mE md nm c o x && nswap z
    | none => false)
  | .setW f o v, st => (match vAsgA st with
    | some (x, n, _, z, _) => (nm.fld[f]? == some n) && mE md nm c v z && mE md nm c o x && nswap z
    | none => false)
  | .mm m o as, st => (match vExS st with
    | some (e, _) => (match vMeth e with
      | some (o', n, ap, es, q) => (mmNm m == some n) && mE md nm c o o' && nsup o' && (ap.endLine == q.line) && mEs md nm c as es && es.all nst && decide (es.length < 30) && (match m, es with
        | .append, _ :: _ => true
        | .extend, _ :: _ => true
        | .reverse, [] => true
        | _, _ => false)
      | none => false)
    | none => false)
  | .ex e, st => (match vExS st with
    | some (v, _) => mE md nm c e v && nswap v
    | none => false)
  | .ret e, st => (match vRet st with
    | some (v, _) => mE md nm c e v
    | none => false)
  | .retN, st => (vRetN st).isSome
  | .if_ t a b, st => (match vIfS st with
    | some (e, x, y, _) => tOk t && mE md nm c t e && mSs c a x && mSs c b y
    | none => false)
  | .for_ t ik as b, st => (match vFor st with
    | some (tg, it, x, _) => mT c t tg && mI md nm c ik as it tg && nset it && mSs c b x
    | none => false)
  | .while_ t b, st => (match vWhile st with
    | some (e, x, _) => tOk t && mE md nm c t e && mSs c b x
    | none => false)
  | .raise_ _ _, _ => false
  | .raiseF _ _, _ => false
  | .try_ _ _, _ => false
  | .aug _ _ _, _ => false
  | .binit, _ => false
  | .pass_, st => (isPass st).isSome
  | .brk, st => (isBrk st).isSome
  | .cnt, st => (isCnt st).isSome
  | .nv, _ => true
def mSs (c : Ck) : List Sm → List Stmt → Bool
  | [], [] => true
  | a :: as, e :: es => mS c a e && mSs c as es
  | _, _ => false
end
end
theorem slM_f {s : Sl} {A : Mo RV} {f : Val → Mo Fl} : sM s (bnd A (slM false)) f = sM s (bnd A frzM) fun d => f (.d d) := by
  funext m
  show sMr s (bnd A (slM false) m) f = sMr s (bnd A frzM m) fun d => f (.d d)
  cases q : A m with
  | no => rw [bnd_noo q, bnd_noo q]; rfl
  | rz e m1 => rw [bnd_rzo q, bnd_rzo q]; rfl
  | ok x m1 =>
    rw [bnd_ok q, bnd_ok q]
    show sMr s (bnd (frzM x) (fun d => pur (Val.d d)) m1) f = _
    cases q2 : frzM x m1 with
    | no => rw [bnd_noo q2]; rfl
    | rz e m2 => rw [bnd_rzo q2]; rfl
    | ok d m2 => rw [bnd_ok q2]; rfl
section
variable {W : Wd} {md : Md} {nm : Nm} {fa : Nat → Addr} {j : Nat}
theorem PS.eqv {X : Cx} {st : Stmt} {Wx : WX} {a b : Sl → Mo Fl} (h : PS X st (tS W a Wx)) (q : ∀ s, b s = a s) : PS X st (tS W b Wx) := by
  have : b = a := funext q
  rw [this]; exact h
theorem lcV_ev {own : List Nat} {t : Tg} {ik : IK} {as ifs : List Ep} {el : Ep} : ev md (callI md j) (.lc own t ik as ifs el) = lcV (fun s => iM ik (evs md (callI md j) as s)) own t (evTs md (callI md j) ifs) (ev md (callI md j) el) := funext fun s => by
  unfold lcV iM
  simp only [bnd_bnd]
  rfl
theorem dcV_ev {own : List Nat} {t : Tg} {ik : IK} {as ifs : List Ep} {k v : Ep} : ev md (callI md j) (.dc own t ik as ifs k v) = dcV (fun s => iM ik (evs md (callI md j) as s)) own t (evTs md (callI md j) ifs) (ev md (callI md j) k) (ev md (callI md j) v) := funext fun s => by
  unfold dcV iM
  simp only [bnd_bnd]
  rfl
/-- a comprehension stored on one line -/
theorem s_comp (K : MdK md) {X : Cx} {c : Ck} {Wx : WX} {e : Ep} {v : Expr} {z : Str} {p q : Pos} {i : Nat} (mu : Bool) (G : GX X W md nm fa j c Wx) (hN : c.N[i]? = some z) (h : mE md nm c e v = true) (hs : swE c z p e v = true) :
    PS X (.Assign [.Name z p] v q) (tS W (fun s => sM s (bnd (ev md (callI md j) e s) (slM mu)) fun v => pur (.nx (s.set i (some v)))) Wx) := by
  cases e <;> first | (cases hs; done) | skip
  · rename_i own t ik as ifs el
    unfold mE at h
    split at h
    case h_2 => cases h
    rename_i el' tg it ifs' sc p2 q2
    have := vLc_ok q2
    subst this
    obtain ⟨h, h9⟩ := ands h
    obtain ⟨h, h8⟩ := ands h
    obtain ⟨h, h7⟩ := ands h
    obtain ⟨h, h6⟩ := ands h
    obtain ⟨h, h5⟩ := ands h
    obtain ⟨h, h4⟩ := ands h
    obtain ⟨h, h3⟩ := ands h
    obtain ⟨h1, h2⟩ := ands h
    have eo : (own.map fun i => (c.N.getD i Str.empty, i)).map (·.2) = own := by
      rw [List.map_map]
      exact List.map_id own
    have ok : BlkOk X.N X.env.scope sc (own.map fun i => (c.N.getD i Str.empty, i)) := by
      rw [G.N, G.sc]
      exact blkOk_by h1
    have hx : ∀ i ∈ t.ix, i ∈ (own.map fun i => (c.N.getD i Str.empty, i)).map (·.2) := fun i hi => by
      rw [eo]
      have := (List.all_eq_true.mp h2) i hi
      simpa using this
    have P := s_setLc (mu := mu) (spos := q) (py := p) G hN hs (sI K as ik X c Wx it tg G h5) ok hx h3 (fun s H C cl fp => sTs K ifs _ _ _ ifs' (G.blk sc s H C cl fp) (of_decide_eq_true h6) h7 h8) (fun s H C cl fp => (sE K el _ _ _ el' (G.blk sc s H C cl fp) h9).pe) (nset_ok h4)
    rw [eo] at P
    rw [lcV_ev]
    exact P
  · rename_i own t ik as ifs k' v'
    unfold mE at h
    split at h
    case h_2 => cases h
    rename_i k2 v2 tg it ifs' sc p2 q2
    have := vDc_ok q2
    subst this
    obtain ⟨h, h10⟩ := ands h
    obtain ⟨h, h9⟩ := ands h
    obtain ⟨h, h8⟩ := ands h
    obtain ⟨h, h7⟩ := ands h
    obtain ⟨h, h6⟩ := ands h
    obtain ⟨h, h5⟩ := ands h
    obtain ⟨h, h4⟩ := ands h
    obtain ⟨h, h3⟩ := ands h
    obtain ⟨h1, h2⟩ := ands h
    have eo : (own.map fun i => (c.N.getD i Str.empty, i)).map (·.2) = own := by
      rw [List.map_map]
      exact List.map_id own
    have ok : BlkOk X.N X.env.scope sc (own.map fun i => (c.N.getD i Str.empty, i)) := by
      rw [G.N, G.sc]
      exact blkOk_by h1
    have hx : ∀ i ∈ t.ix, i ∈ (own.map fun i => (c.N.getD i Str.empty, i)).map (·.2) := fun i hi => by
      rw [eo]
      have := (List.all_eq_true.mp h2) i hi
      simpa using this
    have P := s_setDc (mu := mu) (spos := q) (py := p) G hN hs (sI K as ik X c Wx it tg G h5) ok hx h3 (fun s H C cl fp => sTs K ifs _ _ _ ifs' (G.blk sc s H C cl fp) (of_decide_eq_true h6) h7 h8) (fun s H C cl fp => (sE K k' _ _ _ k2 (G.blk sc s H C cl fp) h9).pe) (fun s H C cl fp => (sE K v' _ _ _ v2 (G.blk sc s H C cl fp) h10).pe) (nset_ok h4)
    rw [eo] at P
    rw [dcV_ev]
    exact P
mutual
theorem sS (K : MdK md) : ∀ (sm : Sm) (X : Cx) (c : Ck) (Wx : WX) (st : Stmt), GX X W md nm fa j c Wx → PassesOwn (model X.prog X.w) X.A X.env X.xe → mS md nm c sm st = true → PS X st (tS W (ex md (callI md j) sm) Wx)
  | .asg i e, X, c, Wx, st, G, hp, h => by
    unfold mS at h
    split at h
    case h_2 => cases h
    rename_i z p v q q1
    have := vAsgN_ok q1
    subst this
    obtain ⟨h, h4⟩ := ands h
    obtain ⟨h, h3⟩ := ands h
    obtain ⟨h1, h2⟩ := ands h
    cases hs : nswap v with
    | true => exact s_asg G (eq_of_beq h1) h2 (sE K e X c Wx v G h3).pe hs
    | false =>
      rw [hs, Bool.false_or] at h4
      exact Fw.PS.eqv (s_comp K false G (eq_of_beq h1) h3 h4) fun s => (slM_f (s := s) (A := ev md (callI md j) e s) (f := fun v => pur (.nx (s.set i (some v))))).symm
  | .asgM i e, X, c, Wx, st, G, hp, h => by
    unfold mS at h
    split at h
    case h_2 => cases h
    rename_i z p v q q1
    have := vAsgN_ok q1
    subst this
    obtain ⟨h, h4⟩ := ands h
    obtain ⟨h, h3⟩ := ands h
    obtain ⟨h1, h2⟩ := ands h
    cases hs : nswap v with
    | true => exact s_asgM G (eq_of_beq h1) h2 (sE K e X c Wx v G h3).pe hs
    | false =>
      rw [hs, Bool.false_or] at h4
      exact s_comp K true G (eq_of_beq h1) h3 h4
  | .asgT is e, X, c, Wx, st, G, hp, h => by
    unfold mS at h
    split at h
    case h_2 => cases h
    rename_i ts k p v q q1
    have := vAsgT_ok q1
    subst this
    obtain ⟨h, h4⟩ := ands h
    obtain ⟨h, h3⟩ := ands h
    obtain ⟨h1, h2⟩ := ands h
    exact s_asgT G (sE K e X c Wx v G h2).pe h1 h3 h4
  | .par i k mi mj a b, X, c, Wx, st, G, hp, h => by
    unfold mS at h
    split at h
    case h_2 => cases h
    rename_i u v px py kt pt x y k2 pt2 pos q1
    have := vPar_ok q1
    subst this
    obtain ⟨h, h6⟩ := ands h
    obtain ⟨h, h5⟩ := ands h
    obtain ⟨h, h4⟩ := ands h
    obtain ⟨h, h3⟩ := ands h
    obtain ⟨h1, h2⟩ := ands h
    have hp2 := par_ok (pt := pt) (pt2 := pt2) (kt := kt) (k2 := k2) G.sc h4
    unfold parB at h4
    rw [Bool.and_eq_true, Bool.and_eq_true, Bool.and_eq_true, Bool.and_eq_true, Bool.and_eq_true, Bool.and_eq_true, Bool.and_eq_true, Bool.and_eq_true] at h4
    obtain ⟨⟨⟨⟨⟨⟨⟨⟨_, k2'⟩, k3⟩, _⟩, _⟩, k6⟩, k7⟩, _⟩, _⟩ := h4
    exact s_par G mi mj (eq_of_beq h1) (eq_of_beq h2) (of_decide_eq_true h3) (eq_of_beq k2') (eq_of_beq k3) (sE K a X c Wx x G h5).pe (sE K b X c Wx y G h6).pe k6 k7 hp2
  | .setI o k v, X, c, Wx, st, G, hp, h => by
    unfold mS at h
    split at h
    case h_2 => cases h
    rename_i x y p2 z pos q1
    have := vAsgS_ok q1
    subst this
    obtain ⟨h, h5⟩ := ands h
    obtain ⟨h, h4⟩ := ands h
    obtain ⟨h, h3⟩ := ands h
    obtain ⟨h1, h2⟩ := ands h
    exact s_setI G (sE K v X c Wx z G h1).pe (sE K o X c Wx x G h2).pe (sE K k X c Wx y G h3).pe h4 h5
  | .setF f o v, X, c, Wx, st, G, hp, h => by
    unfold mS at h
    split at h
    case h_2 => cases h
    rename_i x n p2 z pos q1
    have := vAsgA_ok q1
    subst this
    obtain ⟨h, h4⟩ := ands h
    obtain ⟨h, h3⟩ := ands h
    obtain ⟨h1, h2⟩ := ands h
    exact s_setF G (eq_of_beq h1) (sE K v X c Wx z G h2).pe (sE K o X c Wx x G h3).pe h4
  | .setW f o v, X, c, Wx, st, G, hp, h => by
    unfold mS at h
    split at h
    case h_2 => cases h
    rename_i x n p2 z pos q1
    have := vAsgA_ok q1
    subst this
    obtain ⟨h, h4⟩ := ands h
    obtain ⟨h, h3⟩ := ands h
    obtain ⟨h1, h2⟩ := ands h
    exact s_setW G (eq_of_beq h1) (sE K v X c Wx z G h2).pe (sE K o X c Wx x G h3).pe h4
  | .mm m o as, X, c, Wx, st, G, hp, h => by
    unfold mS at h
    split at h
    case h_2 => cases h
    rename_i e pos q1
    have := vExS_ok q1
    subst this
    split at h
    case h_2 => cases h
    rename_i o' n ap es q q2
    have := vMeth_ok q2
    subst this
    obtain ⟨h, h8⟩ := ands h
    obtain ⟨h, h7⟩ := ands h
    obtain ⟨h, h6⟩ := ands h
    obtain ⟨h, h5⟩ := ands h
    obtain ⟨h, h4⟩ := ands h
    obtain ⟨h, h3⟩ := ands h
    obtain ⟨h1, h2⟩ := ands h
    have h1 := eq_of_beq h1
    have O := (sE K o X c Wx o' G h2).pe
    have A := sEs K as X c Wx es G h5 h6
    cases m <;> first | (cases h8; done) | skip
    · cases h1
      cases es with
      | nil => cases h8
      | cons e es => exact s_append O A h3 h4 h6 h7
    · cases h1
      cases es with
      | nil => cases h8
      | cons e es => exact s_extend O A h3 h4 h6 h7
    · cases h1
      cases es with
      | nil =>
        cases as with
        | nil => exact s_reverse O h3 h4
        | cons _ _ => cases h5
      | cons e es => cases h8
  | .ex e, X, c, Wx, st, G, hp, h => by
    unfold mS at h
    split at h
    case h_2 => cases h
    rename_i v p q1
    have := vExS_ok q1
    subst this
    obtain ⟨h1, h2⟩ := ands h
    exact s_ex (sE K e X c Wx v G h1).pe h2
  | .ret e, X, c, Wx, st, G, hp, h => by
    unfold mS at h
    split at h
    case h_2 => cases h
    rename_i v p q1
    have := vRet_ok q1
    subst this
    exact s_ret (sE K e X c Wx v G h).pe
  | .retN, X, c, Wx, st, G, hp, h => by
    unfold mS at h
    cases q1 : vRetN st with
    | none => rw [q1] at h; cases h
    | some p =>
      have := vRetN_ok q1
      subst this
      exact s_retN
  | .if_ t a b, X, c, Wx, st, G, hp, h => by
    unfold mS at h
    split at h
    case h_2 => cases h
    rename_i e x y p q1
    have := vIfS_ok q1
    subst this
    obtain ⟨h, h4⟩ := ands h
    obtain ⟨h, h3⟩ := ands h
    obtain ⟨h1, h2⟩ := ands h
    exact s_if ((sE K t X c Wx e G h2).pt h1) (sSs K a X c Wx x G hp h3) (sSs K b X c Wx y G hp h4)
  | .for_ t ik as b, X, c, Wx, st, G, hp, h => by
    unfold mS at h
    split at h
    case h_2 => cases h
    rename_i tg it x p q1
    have := vFor_ok q1
    subst this
    obtain ⟨h, h4⟩ := ands h
    obtain ⟨h, h3⟩ := ands h
    obtain ⟨h1, h2⟩ := ands h
    exact s_for G hp (sI K as ik X c Wx it tg G h2) h1 (sSs K b X c Wx x G hp h4) h3
  | .while_ t b, X, c, Wx, st, G, hp, h => by
    unfold mS at h
    split at h
    case h_2 => cases h
    rename_i e x p q1
    have := vWhile_ok q1
    subst this
    obtain ⟨h, h3⟩ := ands h
    obtain ⟨h1, h2⟩ := ands h
    exact s_while hp ((sE K t X c Wx e G h2).pt h1) (sSs K b X c Wx x G hp h3) whFuel
  | .raise_ _ _, X, c, Wx, st, G, hp, h => by cases h
  | .raiseF _ _, X, c, Wx, st, G, hp, h => by cases h
  | .try_ _ _, X, c, Wx, st, G, hp, h => by cases h
  | .aug _ _ _, X, c, Wx, st, G, hp, h => by cases h
  | .binit, X, c, Wx, st, G, hp, h => by cases h
  | .pass_, X, c, Wx, st, G, hp, h => by
    unfold mS at h
    cases q1 : isPass st with
    | none => rw [q1] at h; cases h
    | some p =>
      have := isPass_ok q1
      subst this
      exact s_pass
  | .brk, X, c, Wx, st, G, hp, h => by
    unfold mS at h
    cases q1 : isBrk st with
    | none => rw [q1] at h; cases h
    | some p =>
      have := isBrk_ok q1
      subst this
      exact s_brk
  | .cnt, X, c, Wx, st, G, hp, h => by
    unfold mS at h
    cases q1 : isCnt st with
    | none => rw [q1] at h; cases h
    | some p =>
      have := isCnt_ok q1
      subst this
      exact s_cnt
  | .nv, X, c, Wx, st, G, hp, h => s_never
theorem sSs (K : MdK md) : ∀ (sms : List Sm) (X : Cx) (c : Ck) (Wx : WX) (sts : List Stmt), GX X W md nm fa j c Wx → PassesOwn (model X.prog X.w) X.A X.env X.xe → mSs md nm c sms sts = true → PSs X sts (tS W (exs md (callI md j) sms) Wx)
  | [], X, c, Wx, [], G, hp, h => ss_nil
  | [], X, c, Wx, _ :: _, G, hp, h => by cases h
  | _ :: _, X, c, Wx, [], G, hp, h => by cases h
  | a :: as, X, c, Wx, st :: sts, G, hp, h => by
    unfold mSs at h
    obtain ⟨h1, h2⟩ := ands h
    exact ss_cons (sS K a X c Wx st G hp h1) (sSs K as X c Wx sts G hp h2)
end
end
end Fw

/-! T2b: a call is its body, run; the cells of the call are dropped. -/
namespace Fw
open PySem L2

def cutR {α : Type} (n0 : Nat) : Rs α → Rs α
  | .ok a m' => .ok a (m'.take n0)
  | .rz e m' => .rz e (m'.take n0)
  | .no => .no
theorem cutM_r {α : Type} (n0 : Nat) (x : Mo α) (m : Mem) : cutM n0 x m = cutR n0 (x m) := by
  show (match x m with
    | .ok a m' => Rs.ok a (m'.take n0)
    | .rz e m' => .rz e (m'.take n0)
    | .no => .no) = _
  cases x m <;> rfl
def cellR (n : Nat) (m : Mem) : Option CV → Rs RV
  | some (.fl d) => .ok (.o d) m
  | some (.fz d) => .ok (.d d) m
  | _ => .no
theorem outM_c (n0 n : Nat) (m : Mem) : outM n0 (.rt (.c n)) m = if n < n0 then .ok (.c n) m else cellR n m m[n]? := by
  show (if n < n0 then Rs.ok (RV.c n) m else (match m[n]? with
    | some (.fl d) => .ok (.o d) m
    | some (.fz d) => .ok (.d d) m
    | _ => .no)) = _
  split
  · rfl
  · cases m[n]? with
    | none => rfl
    | some c => cases c <;> rfl
section
variable {md : Md}
/-- a function's body, run -/
def bodyM (md : Md) (k : Nat) (fd : Fd) (vs : List Val) (m : Mem) : Rs RV := cutR m.length (bnd (exs md (callI md k) fd.body (startS vs fd.n)) (outM m.length) m)
def bodyC (md : Md) (k : Nat) (fd : Fd) (vs : List Val) : Mo RV := fun m => cutM m.length (bnd (exs md (callI md k) fd.body (startS vs fd.n)) (outM m.length)) m
theorem callI_at {k f : Nat} {vs : List Val} {fd : Fd} (hf : md.fns[f]? = some fd) : callI md (k + 1) f vs = if vs.length = fd.ps then bodyC md k fd vs else no := by
  show (match md.fns[f]? with
    | some fd => if vs.length = fd.ps then bodyC md k fd vs else no
    | none => no) = _
  rw [hf]
theorem callI_some {k f : Nat} {vs : List Val} {m : Mem} {fd : Fd} (hf : md.fns[f]? = some fd) (hl : vs.length = fd.ps) : callI md (k + 1) f vs m = bodyM md k fd vs m := by
  rw [callI_at hf, if_pos hl]
  exact cutM_r _ _ _
theorem callI_len {k f : Nat} {vs : List Val} {m : Mem} {fd : Fd} (hf : md.fns[f]? = some fd) (h : callI md k f vs m ≠ .no) : ∃ j, k = j + 1 ∧ vs.length = fd.ps ∧ callI md k f vs m = bodyM md j fd vs m := by
  cases k with
  | zero => exact (h rfl).elim
  | succ k =>
    by_cases q : vs.length = fd.ps
    · exact ⟨k, rfl, q, callI_some hf q⟩
    · exfalso
      apply h
      rw [callI_at hf, if_neg q]
      rfl
end
abbrev S (x : String) : PySem.Str := PySem.Str.ofString x
end Fw

/-! T44: a function of the text, by its body. -/
namespace Fw
open PySem PySem.Spec PyProof.Rows L2

section
variable {P : Program} {w : World} {K : PySem.W.Frag} {mg : Str → Option Value} {base : Heap}
theorem FnG.mono {j k : Nat} {f : Addr} {fd : FuncData} {ps : List Str} {sp : Sp} (F : FnG P w K mg base j f fd ps sp) (h : j ≤ k) : FnG P w K mg base k f fd ps sp :=
  ⟨F.len, fun A outer s H args us vs Q E hr gd => F.go A outer s H args us vs Q E (hr.mono h) gd⟩
theorem fn_ofG {k : Nat} {f : Addr} {name qual : Str} {params : Arguments} {body : List Stmt} {scope : Scope} {dV kV doc pm cdv ct oc : Value} {an od : Option Addr} {osl : Array (Option Value)} {N ps : List Str} {sp : Sp}
    (at_ : K.lookup f = some ⟨oc, od, .func (PySem.W.fnOf name qual params body scope dV kV doc pm an cdv ct), osl⟩) (code : PySem.W.codeIn K cdv qual = true) (S : FnScope N ps scope) (len : ∀ vs H Q E, sp vs H Q E → vs.length = ps.length)
    (walk : ∀ (A : Around) (outer : List Env) (s : Shared) (H : Hp) (vs : List V) (Q : VK) (E : XK), Room k (A.deeper (envOfC qual scope s.heap.objs.size f cdv)) → (A.deeper (envOfC qual scope s.heap.objs.size f cdv)).guards = some [] → sp vs H Q E →
      ∃ t, PSs (cxOf (L2.CX P w) P w K mg base N qual scope f cdv A outer s H E) body t ∧ t { nx := fun _ H' => Q .non H', rt := Q } (start N vs) H) :
    FnG P w K mg base (k + 1) f (PySem.W.fnOf name qual params body scope dV kV doc pm an cdv ct) ps sp where
  len := len
  go := fun A outer s H args us vs Q E room gd e0 bt rel want => by
    have inn : K.In s.heap := e0.mod.kin.keeps fun b o e => (e0.bs b o e).1
    have nol : s.heap.NoLimit := e0.mod.nolimit.keeps fun b o e => (e0.bs b o e).1
    have kinds : ∀ y ∈ ps.zip us, scope.names.lookup y.1 = some .local ∨ (scope.names.lookup y.1 = some .cell ∧ ((cellsFrom (s.heap.objs.size + 1) scope.names []).lookup y.1).isSome = true) := fun y hy =>
      (S.par y.1 (List.of_mem_zip (a := y.1) (b := y.2) hy).1).imp id fun q => ⟨q, PySem.W.cellsFrom_some _ _ _ (.inl q)⟩
    refine codeAny_call_function room.depth (inn _ _ at_) rfl S.co S.gen rfl (PySem.W.codeRec_of inn code) (bt _ _ _ _ ?_)
    refine wpAny_newFunctionEnv_cells S.kind kinds fun env he t1 ic => ?_
    subst he
    refine ⟨nol.keeps ic.toInCall.keep, codeAny_func ?_⟩
    obtain ⟨t, pt, tq⟩ := walk A outer s H vs Q E (room.deeper _) gd want
    have I := inv_start (CX := L2.CX P w) (E := E) (qual := qual) (f := f) (cd := cdv) (outer := outer) (K := K) (mg := mg) (P := P) (w := w) S room.hd e0 (len _ _ _ _ want) rel ic
    refine wpAny_mono (pt.run [] t1 (start N vs) H _ I tq) (fun fl t2 hs => ?_) fun e t2 hs => hs
    cases fl with
    | ret u => exact let ⟨v, _, H', J, rv, q⟩ := hs; ⟨v, H', J.os, J.bare, J.base, J.hok, rv, q⟩
    | next => exact let ⟨_, H', J, q⟩ := hs; ⟨V.non, H', J.os, J.bare, J.base, J.hok, rfl, q⟩
    | brk => exact let ⟨_, _, _, q⟩ := hs; q.elim
    | cont => exact let ⟨_, _, _, q⟩ := hs; q.elim
end
section
variable {W : Wd} {md : Md} {g g0 g' : Gh} {H H0 H' : Hp} {m m' : Mem} {s : Sl}
theorem sr_start {N : List Str} {n : Nat} {vs : List V} {ws : List Val} (r : VRs W g H vs ws) (hn : n = N.length) : SR W g H (start N vs) (startS ws n) := by
  unfold L2.start startS
  have hl := r.length
  refine ⟨by simp only [List.length_append, List.length_map, List.length_replicate]; rw [hl, hn], fun i x q => ?_⟩
  by_cases hi : i < ws.length
  · rw [List.getElem?_append_left (by simpa using hi), List.getElem?_map] at q
    have : ∃ v, vs[i]? = some v ∧ VR W g H v x := by
      clear hl
      induction r generalizing i with
      | nil => simp at hi
      | cons h r ih =>
        cases i with
        | zero =>
          simp only [List.getElem?_cons_zero, Option.map_some, Option.some.injEq] at q
          exact ⟨_, List.getElem?_cons_zero, by rw [← q]; exact h⟩
        | succ i =>
          simp only [List.getElem?_cons_succ] at q
          obtain ⟨v, e1, e2⟩ := ih i q (by simpa using hi)
          exact ⟨v, by rw [List.getElem?_cons_succ]; exact e1, e2⟩
    obtain ⟨v, e1, e2⟩ := this
    exact ⟨v, by rw [List.getElem?_append_left (by rw [List.length_map, hl]; exact hi), List.getElem?_map, e1]; rfl, e2⟩
  · rw [List.getElem?_append_right (by simpa using hi), List.getElem?_replicate] at q
    split at q <;> cases q
/-- the cells of the call are dropped -/
theorem cut_out {v : V} {As : List Addr} {x : RV} (e : Eff g0 H0 g H) (r : MR W g H m') (l1 : g0.rt.length ≤ m.length) (l2 : g0.fr.length ≤ m.length) (h : RVR W (g.cut m.length) H v As x) (tm : Tmp (g.cut m.length) H As) (nw : ∀ a ∈ As, H0 a = none ∨ Ow g0 a) :
    Out W g0 H0 (g.cut m.length) H (m'.take m.length) v As x := ⟨e.cut l1 l2, r.cut, h, tm, nw⟩
theorem ow_of_cut {n : Nat} {b : Addr} (h : Ow (g.cut n) b) : Ow g b := by
  obtain ⟨i, li, _, e, hb⟩ := ow_cut h
  exact ⟨i, li, e, hb⟩
theorem tmp_cut {n : Nat} {As : List Addr} (t : Tmp g H As) : Tmp (g.cut n) H As := ⟨t.nd, t.fz, fun a ha z => t.ow a ha (ow_of_cut z), t.mt⟩
/-- what a body hands out, from its end -/
theorem out_ok {fl : Fl} {Q : VK} {E : XK} (r0 : MR W g H m) (h : Post W g H (cutM m.length (outM m.length fl) m') Q E) :
    PostS W g H (.ok fl m') { nx := fun _ H' => Q .non H', rt := Q } (fun cls d _ H => E cls d H) := by
  have l1 : g.rt.length ≤ m.length := Nat.le_of_eq r0.l1
  have l2 : g.fr.length ≤ m.length := Nat.le_of_eq r0.l2
  cases fl with
  | nx s =>
    intro σ' g' H' e r sr
    exact h .non _ _ [] (cut_out e r l1 l2 ⟨by simp only [Rep], rfl⟩ .nil fun _ hb => nomatch hb)
  | bk s => exact h.elim
  | ct s => exact h.elim
  | rs x s =>
    intro cls d σ' g' H' e r sr ex
    exact h cls d _ _ (e.cut l1 l2) r.cut ex.cut
  | rt x =>
    intro v g' H' As o
    cases x with
    | d d => exact h v _ _ As (cut_out o.eff o.mr l1 l2 o.rv (tmp_cut o.tm) o.nw)
    | o d => exact h v _ _ As (cut_out o.eff o.mr l1 l2 o.rv (tmp_cut o.tm) o.nw)
    | f n k => exact h.elim
    | x c p => exact h.elim
    | s ns => exact h.elim
    | c n =>
      obtain ⟨⟨a, ha, rfl⟩, rfl⟩ := o.rv
      rw [cutM_r, outM_c] at h
      by_cases hn : n < m.length
      · rw [if_pos hn] at h
        exact h _ _ _ [] (cut_out o.eff o.mr l1 l2 ⟨⟨a, take_at ha hn, rfl⟩, rfl⟩ .nil fun _ hb => nomatch hb)
      · rw [if_neg hn] at h
        cases q : m'[n]? with
        | none => rw [q] at h; exact h.elim
        | some c =>
          rw [q] at h
          obtain ⟨a2, l, Bs, e1, e2, e3, ok⟩ := o.mr.cell n c q
          rw [ha] at e1
          cases e1
          cases c with
          | iv cl fs => exact h.elim
          | fz d => exact h _ _ _ [] (cut_out o.eff o.mr l1 l2 ⟨ok.1, rfl⟩ .nil fun _ hb => nomatch hb)
          | fl d =>
            refine h _ _ _ Bs (cut_out o.eff o.mr l1 l2 ⟨a, rfl, ok⟩ ⟨o.mr.nd n _ e3, fun b hb => o.mr.nf b ⟨n, Bs, e3, hb⟩, fun b hb z => ?_, fun b hb => o.mr.mt b ⟨n, Bs, e3, hb⟩⟩ fun b hb => ?_)
            · obtain ⟨i, li, hi, e4, hb2⟩ := ow_cut z
              have := o.mr.dj i n li Bs b e4 e3 hb2 hb
              omega
            · exact (o.eff.asn b ⟨n, Bs, e3, hb⟩).symm
end
end Fw

/-! T45: the law's call, from its promise where no repr is under way. -/
namespace Fw
open PySem PySem.Spec PyProof.Rows L2

/-- the goal of a law's call -/
def LawEnds (P : Program) (w : World) (fa a : Addr) (t : Shared) : Prop := codeAny (model P w) callerA (.call (.ref fa) ⟨[.ref a], []⟩) (fun r u => r = .ok (.ret (.bool true)) ∧ OldK t.heap u.heap ∧ u.os = t.os ∧ AllBare u.gens) t
section
variable {P : Program} {w : World} {K : PySem.W.Frag} {mg mb : Str → Option Value} {k : Nat} {fa a : Addr} {fd : FuncData} {x : Str} {sp : Sp} {t : Shared} {vs : List Value} {ns : List Int}
/-- from a heap in which the script alone may be tracked -/
theorem law_from (inn : K.In t.heap) (gl : t.heap.Ns mainGlobals mg) (bt : t.heap.Ns builtinsNs mb) (boot : ∀ x : Str, x ≠ "__name__" → mb x = bootBuiltins x) (nol : t.heap.NoLimit) (nog : t.gens = #[])
    (sc : t.heap.get? a = some { cls := .type "list", data := .seq vs.toArray }) (room : Room k callerA)
    (F : ∀ base : Heap, K.In base → base.Ns mainGlobals mg → FnG P w K mg base k fa fd [x] sp) (bind : ∀ (s : Shared) (u : Value), BindsTo s fd ⟨[u], []⟩ [(x, u)])
    (quiet : ∀ H e u, L2.CX P w [] H t (fun _ _ _ => False) e u → False) (H : Hp) (only : Only H) (want : sp [.ref a] H (fun v _ => v = .bl true) fun _ _ _ => False) (hok : HOk P w H t.heap) (just : ∀ b, H b ≠ none → b = a) (apart : H a ≠ none → K.lookup a = none) : LawEnds P w fa a t := by
  have dicts : ∀ {b : Addr} {o : Obj} {es : Array DictEntry} {ep : Nat}, t.heap.get? b = some o → o.data = .dict es ep → H b = none := fun {b o es ep} e d => by
    by_cases z : H b = none
    · exact z
    · rw [just b z, sc] at e
      cases e
      exact nomatch (show Data.seq vs.toArray _ = Data.dict es ep from d)
  have names : ∀ {b : Addr} {f : Str → Option Value}, t.heap.Ns b f → (hidT t.heap H).Ns b f := fun {b f} ⟨o, es, ep, e, d, r⟩ => ⟨o, es, ep, hidT_get e (dicts e d), d, r⟩
  have kin : K.In (hidT t.heap H) := fun b o e => hidT_get (inn b o e) (by
    by_cases z : H b = none
    · exact z
    · have eb := just b z
      subst eb
      rw [apart z] at e
      cases e)
  have md : Mod K mg (hidT t.heap H) := ⟨kin, names gl, ⟨mb, names bt, boot⟩, let ⟨mc, h1, h2⟩ := nol; ⟨mc, names h1, h2⟩⟩
  have e0 : Env0 P w K mg (hidT t.heap H) callerA [] t H := ⟨rfl, md, fun b o e => of_hidT e, Nat.le_of_eq (hidT_size _ _), trivial, (fun b hb => absurd (show b ∈ ([] : List Addr) from hb) (by simp)), hok, .of_eq nog⟩
  refine codeAny_mono ((F _ kin (names gl)).go callerA [] t H ⟨[.ref a], []⟩ [.ref a] [.ref a] _ _ room rfl e0 (bind t (.ref a)) (.cons rfl .nil) want) fun r u h => ?_
  cases r with
  | error e => exact (quiet H e u h).elim
  | ok fl =>
    cases fl <;> first | exact False.elim h | skip
    obtain ⟨v, H', os, bare, un, hok', r', q⟩ := h
    cases (show v = .bl true from q)
    cases (show _ = Value.bool true from r')
    refine ⟨rfl, OldK.of_keep fun b o e => ?_, os, bare⟩
    rcases only b with z | ⟨ob, xs, z⟩
    · exact un.keep b o e z (fun y => absurd (show b ∈ ([] : List Addr) from y) (by simp)) (by simp)
    · obtain ⟨e1, _⟩ := hok b _ z
      obtain ⟨e2, _⟩ := hok' b _ (un.frzs b ob _ z)
      rw [e] at e1
      cases e1
      exact e2
theorem law_callG (inn : K.In t.heap) (gl : t.heap.Ns mainGlobals mg) (bt : t.heap.Ns builtinsNs mb) (boot : ∀ x : Str, x ≠ "__name__" → mb x = bootBuiltins x) (nol : t.heap.NoLimit) (nog : t.gens = #[])
    (sc : t.heap.get? a = some { cls := .type "list", data := .seq vs.toArray }) (isI : IntsAre vs ns) (short : ns.length ≤ sizeLine) (room : Room k callerA)
    (F : ∀ base : Heap, K.In base → base.Ns mainGlobals mg → FnG P w K mg base k fa fd [x] sp) (bind : ∀ (s : Shared) (u : Value), BindsTo s fd ⟨[u], []⟩ [(x, u)])
    (want : ∀ H : Hp, ((∃ o, H a = some (.frz o (.lst (ns.map V.int)))) ∨ ∃ (o : Obj) (its : Array Value) (n : Nat), K.lookup a = some o ∧ o.cls = .type "list" ∧ o.dict = none ∧ o.data = .seq its n ∧ its.size ≤ sizeLine ∧ Vals (ns.map V.int) its.toList) → sp [.ref a] H (fun v _ => v = .bl true) fun _ _ _ => False)
    (quiet : ∀ H e u, L2.CX P w [] H t (fun _ _ _ => False) e u → False) : LawEnds P w fa a t := by
  let S : HO := .frz { cls := .type "list", data := .seq vs.toArray } (.lst (ns.map V.int))
  let H : Hp := fun b => if b = a then some S else none
  have at_a : H a = some S := if_pos rfl
  have off : ∀ b, b ≠ a → H b = none := fun b hb => if_neg hb
  cases free : K.lookup a with
  | some o =>
    have e := inn a o free
    rw [sc] at e
    cases e
    refine law_from inn gl bt boot nol nog sc room F bind quiet (fun _ => none) (fun _ => .inl rfl) (want _ (.inr ⟨_, vs.toArray, _, free, rfl, rfl, rfl, ?_, ?_⟩)) (fun b u z => nomatch z) (fun b z => (z rfl).elim) fun z => (z rfl).elim
    · rw [List.size_toArray, isI.length]
      exact short
    · exact vals_ints isI
  | none =>
  refine law_from inn gl bt boot nol nog sc room F bind quiet H (fun b => ?_) (want H (.inl ⟨_, at_a⟩)) (fun b u z => ?_) (fun b z => ?_) fun _ => free
  · by_cases hb : b = a
    · rw [hb]; exact .inr ⟨_, _, at_a⟩
    · exact .inl (off b hb)
  · by_cases hb : b = a
    · subst hb
      rw [at_a] at z
      cases z
      exact ⟨sc, by rw [List.length_map]; exact short, vs, _, vals_ints isI, sc⟩
    · rw [off b hb] at z
      cases z
  · by_cases hb : b = a
    · exact hb
    · exact (z (off b hb)).elim
end
end Fw

/-! T44r: a statement's answer is never raised itself: it is told as such. -/
namespace Fw
open PySem L2

def Nrz {α : Type} (x : Mo α) : Prop := ∀ m e m', x m ≠ .rz e m'
section
variable {α β : Type}
theorem nrz_pure (a : α) : Nrz (pur a) := fun m e m' h => nomatch (show Rs.ok a m = .rz e m' from h)
theorem nrz_none : Nrz (no : Mo α) := fun m e m' h => nomatch (show Rs.no = .rz e m' from h)
theorem nrz_ofO (o : Option α) : Nrz (ofO o) := by
  cases o with
  | none => exact nrz_none
  | some a => exact nrz_pure a
theorem nrz_bnd {x : Mo α} {f : α → Mo β} (hx : Nrz x) (hf : ∀ a, Nrz (f a)) : Nrz (bnd x f) := fun m e m' h => by
  cases q : x m with
  | ok a m1 => rw [bnd_ok q] at h; exact hf a _ _ _ h
  | rz a m1 => exact hx _ _ _ q
  | no => rw [bnd_noo q] at h; cases h
theorem nrz_sM {s : Sl} {x : Mo α} {f : α → Mo Fl} (hf : ∀ a, Nrz (f a)) : Nrz (sM s x f) := fun m e m' h => by
  have h : (match x m with
    | .ok a m' => f a m'
    | .rz e m' => .ok (.rs e s) m'
    | .no => .no) = Rs.rz e m' := h
  cases q : x m with
  | ok a m1 => rw [q] at h; exact hf a _ _ _ h
  | rz a m1 => rw [q] at h; cases h
  | no => rw [q] at h; cases h
theorem nrz_for {f : D → Sl → Mo Fl} (hf : ∀ x s, Nrz (f x s)) : ∀ (l : List D) (s : Sl), Nrz (forM' f l s)
  | [], s => nrz_pure _
  | x :: r, s => by
    refine nrz_bnd (hf x s) fun fl => ?_
    cases fl with
    | nx s' => exact nrz_for hf r s'
    | ct s' => exact nrz_for hf r s'
    | bk s' => exact nrz_pure _
    | rt v => exact nrz_pure _
    | rs e s' => exact nrz_pure _
theorem nrz_wh {c : Sl → Mo Bool} {f : Sl → Mo Fl} (hf : ∀ s, Nrz (f s)) : ∀ (n : Nat) (s : Sl), Nrz (whM c f n s)
  | 0, s => nrz_none
  | n + 1, s => by
    refine nrz_sM (x := c s) (f := fun b => (match b with
      | false => pur (.nx s)
      | true => bnd (f s) fun fl => (match fl with
        | .nx s' => whM c f n s'
        | .ct s' => whM c f n s'
        | .bk s' => pur (.nx s')
        | fl => pur fl))) fun b => ?_
    cases b with
    | false => exact nrz_pure _
    | true =>
      refine nrz_bnd (hf s) fun fl => ?_
      cases fl with
      | nx s' => exact nrz_wh hf n s'
      | ct s' => exact nrz_wh hf n s'
      | bk s' => exact nrz_pure _
      | rt v => exact nrz_pure _
      | rs e s' => exact nrz_pure _
end
section
variable (md : Md) (cf : Nat → List Val → Mo RV)
mutual
theorem ex_rz : ∀ (sm : Sm) (s : Sl), Nrz (ex md cf sm s)
  | .asg i e, s => nrz_sM fun _ => nrz_pure _
  | .asgM i e, s => nrz_sM fun _ => nrz_pure _
  | .asgT is e, s => nrz_sM fun _ => nrz_sM fun _ => nrz_pure _
  | .par i j mi mj a b, s => nrz_sM fun _ => nrz_pure _
  | .setI o k v, s => nrz_sM fun _ => nrz_pure _
  | .setF f o v, s => nrz_sM fun _ => nrz_pure _
  | .setW f o v, s => nrz_sM fun _ => nrz_pure _
  | .mm m o as, s => nrz_sM fun _ => nrz_pure _
  | .ex e, s => nrz_sM fun _ => nrz_pure _
  | .ret e, s => nrz_sM fun _ => nrz_pure _
  | .retN, s => nrz_pure _
  | .if_ c a b, s => nrz_sM fun t => by
      cases t with
      | true => exact exs_rz' a s
      | false => exact exs_rz' b s
  | .for_ t ik as b, s => nrz_sM fun items => nrz_for (fun x s => nrz_bnd (nrz_ofO _) fun s' => exs_rz' b s') items s
  | .while_ c b, s => nrz_wh (fun s => exs_rz' b s) _ s
  | .raise_ c e, s => nrz_sM fun _ => nrz_pure _
  | .raiseF c e, s => nrz_sM fun _ => nrz_pure _
  | .try_ b hs, s => nrz_bnd (exs_rz' b s) fun fl => by
      cases fl with
      | rs x s' => exact exh_rz hs x s'
      | nx s' => exact nrz_pure _
      | ct s' => exact nrz_pure _
      | bk s' => exact nrz_pure _
      | rt v => exact nrz_pure _
  | .aug i o e, s => nrz_sM fun _ => nrz_pure _
  | .binit, s => nrz_pure _
  | .nv, s => nrz_none
  | .pass_, s => nrz_pure _
  | .brk, s => nrz_pure _
  | .cnt, s => nrz_pure _
theorem exs_rz' : ∀ (l : List Sm) (s : Sl), Nrz (exs md cf l s)
  | [], s => nrz_pure _
  | a :: r, s => nrz_bnd (ex_rz a s) fun fl => by
      cases fl with
      | nx s' => exact exs_rz' r s'
      | ct s' => exact nrz_pure _
      | bk s' => exact nrz_pure _
      | rt v => exact nrz_pure _
      | rs e s' => exact nrz_pure _
theorem exh_rz : ∀ (hs : List (Nat × Option Nat × List Sm)) (x : Ex) (s : Sl), Nrz (exh md cf hs x s)
  | [], x, s => nrz_pure _
  | (c, o, b) :: r, x, s => by
    show Nrz (if md.isA x.c c then (match o with
      | some i => bnd (exs md cf b (s.set i (some (.x x.c x.p)))) fun fl => (match fl with
        | .nx s' => pur (.nx (s'.set i none))
        | .bk s' => pur (.bk (s'.set i none))
        | .ct s' => pur (.ct (s'.set i none))
        | .rs e s' => pur (.rs e (s'.set i none))
        | fl => pur fl)
      | none => exs md cf b s) else exh md cf r x s)
    split
    · cases o with
      | none => exact exs_rz' b s
      | some i =>
        refine nrz_bnd (exs_rz' b _) fun fl => ?_
        cases fl <;> exact nrz_pure _
    · exact exh_rz r x s
end
theorem exs_rz {l : List Sm} {s : Sl} {m m' : Mem} {x : Ex} : exs md cf l s m ≠ .rz x m' := exs_rz' md cf l s m x m'
end
end Fw

/-! T46: the facts of a module, read off its written part; all functions keep their promises. -/
namespace Fw
open PySem PySem.Spec PyProof.Rows L2

/-- where a function stands: a global, a class's method, the getter of a class's property, the function of a classmethod or staticmethod -/
inductive Pth where
  | g (x : Str)
  | m (c x : Str)
  | p (c x : Str)
  | k (c x : Str)
  | s (c x : Str)
def recF (K : PySem.W.Frag) (p : Addr) (T : String) : Addr := match PySem.W.recIn K p T with
  | some (.ref a :: _) => a
  | _ => 0
def Pth.ad (K : PySem.W.Frag) : Pth → Addr
  | .g x => He.ga K x
  | .m c x => He.ma K (He.ga K c) x
  | .p c x => recF K (He.ma K (He.ga K c) x) "property"
  | .k c x => recF K (He.ma K (He.ga K c) x) "classmethod"
  | .s c x => recF K (He.ma K (He.ga K c) x) "staticmethod"
/-- a function's text -/
structure FnT where
  pth : Pth
  name : Str
  qual : Str
  params : Arguments
  body : List Stmt
  sc : Scope
  N : List Str
  ps : List Str
def fnV (K : PySem.W.Frag) (a : Addr) : He.FnV := match K.lookup a with
  | some ⟨_, _, .func fd, _⟩ => some (fd.name, fd.qualname, fd.params, fd.body, fd.scope, fd.globals, fd.closure, fd.defaults, fd.builtins)
  | _ => none
def FnT.val (t : FnT) : He.FnV := some (t.name, t.qual, t.params, .stmts t.body, t.sc, mainGlobals, [], .none, builtinsNs)
def codeB (K : PySem.W.Frag) (a : Addr) (q : Str) : Bool := match K.lookup a with
  | some ⟨_, _, .func fd, _⟩ => PySem.W.codeIn K fd.code q
  | _ => false
theorem fnV_ok {K : PySem.W.Frag} {a : Addr} {t : FnT} (e : fnV K a = t.val) (c : codeB K a t.qual = true) :
    ∃ oc od osl kV doc pm an cdv ct, K.lookup a = some ⟨oc, od, .func (PySem.W.fnOf t.name t.qual t.params t.body t.sc .none kV doc pm an cdv ct), osl⟩ ∧ PySem.W.codeIn K cdv t.qual = true := by
  unfold fnV at e
  unfold codeB at c
  cases q : K.lookup a with
  | none => rw [q] at c; cases c
  | some o =>
    obtain ⟨oc, od, dt, osl⟩ := o
    rw [q] at c e
    cases dt with
    | func fd =>
      obtain ⟨n1, n2, n3, n4, n5, n6, n7, n8, n9, n10, n11, n12, n13, n14, n15⟩ := fd
      have e2 : (some (n1, n2, n3, n4, n5, n6, n7, n8, n15) : He.FnV) = some (t.name, t.qual, t.params, .stmts t.body, t.sc, mainGlobals, [], .none, builtinsNs) := e
      simp only [Option.some.injEq, Prod.mk.injEq] at e2
      obtain ⟨h1, h2, h3, h4, h5, h6, h7, h8, h9⟩ := e2
      subst h1 h2 h3 h4 h5 h6 h7 h8 h9
      exact ⟨oc, od, osl, n9, n10, n11, n12, n13, n14, rfl, c⟩
    | _ => cases c
/-- the arguments come to the parameters in order -/
def Plain (t : FnT) : Prop := ∀ (kV doc pm : Value) (an : Option Addr) (cdv ct : Value) (us : List Value), us.length = t.ps.length → bindArgs (PySem.W.fnOf t.name t.qual t.params t.body t.sc .none kV doc pm an cdv ct) ⟨us, []⟩ = pure (t.ps.zip us)
def nvB : List Sm → Bool
  | [.nv] => true
  | _ => false
section
variable (md : Md) (nm : Nm)
/-- the compact body is the text's -/
def fnB (fd : Fd) (t : FnT) : Bool := nvB fd.body || (decide (fd.ps = t.ps.length) && decide (fd.n = t.N.length) && mSs md nm ⟨t.N, t.sc, fun _ => true⟩ fd.body t.body)
end
structure FnsOk (md : Md) (nm : Nm) (ts : List FnT) : Prop where
  all : ∀ (f : Nat) (fd : Fd), md.fns[f]? = some fd → ∃ t, ts[f]? = some t ∧ fnB md nm fd t = true ∧ FnScope t.N t.ps t.sc ∧ Plain t
/-- the functions in the heap -/
structure FnsAt (K : PySem.W.Frag) (ts : List FnT) : Prop where
  all : ∀ (f : Nat) (t : FnT), ts[f]? = some t → fnV K (t.pth.ad K) = t.val ∧ codeB K (t.pth.ad K) t.qual = true
section
variable {P : Program} {w : World} {K : PySem.W.Frag} {mg : Str → Option Value} {base : Heap} {W : Wd} {md : Md} {nm : Nm} {fa : Nat → Addr} {ts : List FnT}
theorem post_no {g : Gh} {H : Hp} {r : Rs RV} {Q : VK} {E : XK} (h : Post W g H r Q E) : r ≠ .no := fun z => by rw [z] at h; exact h
theorem nv_no {k f : Nat} {vs : List Val} {m : Mem} {fd : Fd} (hf : md.fns[f]? = some fd) (hb : nvB fd.body = true) : callI md k f vs m = .no := by
  by_cases z : callI md k f vs m = .no
  · exact z
  · obtain ⟨j, _, _, e⟩ := callI_len hf z
    have : fd.body = [.nv] := by
      cases q : fd.body with
      | nil => rw [q] at hb; cases hb
      | cons a r =>
        rw [q] at hb
        cases r with
        | cons _ _ => cases a <;> cases hb
        | nil => cases a <;> first | rfl | cases hb
    rw [e]
    unfold bodyM
    rw [this]
    rfl
/-- a function's promise at the next level, from all promises at this one -/
theorem fn_nextG (hK : W.K = K) (MK : MdK md) (G : GW W md nm fa j P w K mg base) {f : Nat} {fd : Fd} {t : FnT} {oc kV doc pm cdv ct : Value} {od an : Option Addr} {osl : Array (Option Value)} (hf : md.fns[f]? = some fd) (hb : fnB md nm fd t = true) (S : FnScope t.N t.ps t.sc)
    (lk : K.lookup (fa f) = some ⟨oc, od, .func (PySem.W.fnOf t.name t.qual t.params t.body t.sc .none kV doc pm an cdv ct), osl⟩) (hc : PySem.W.codeIn K cdv t.qual = true) :
    FnG P w K mg base (2 * (j + 1)) (fa f) (PySem.W.fnOf t.name t.qual t.params t.body t.sc .none kV doc pm an cdv ct) t.ps (spF W md (j + 1) f) := by
  unfold fnB at hb
  rw [Bool.or_eq_true] at hb
  refine fn_ofG (k := 2 * j + 1) lk hc S (fun vs H Q E ⟨g, m, ws, r, rv, h⟩ => ?_) fun A outer s H vs Q E room gd ⟨g, m, ws, r, rv, h⟩ => ?_
  · rcases hb with hb | hb
    · exact (post_no h (nv_no hf hb)).elim
    · obtain ⟨k, ek, el, _⟩ := callI_len hf (post_no h)
      rw [Bool.and_eq_true, Bool.and_eq_true] at hb
      rw [rv.length, el, of_decide_eq_true hb.1.1]
  · rcases hb with hb | hb
    · exact (post_no h (nv_no hf hb)).elim
    · obtain ⟨k, ek, el, e⟩ := callI_len hf (post_no h)
      cases ek
      rw [Bool.and_eq_true, Bool.and_eq_true] at hb
      obtain ⟨⟨h1, h2⟩, h3⟩ := hb
      have h1 := of_decide_eq_true h1
      have h2 := of_decide_eq_true h2
      let X := cxOf (L2.CX P w) P w K mg base t.N t.qual t.sc (fa f) cdv A outer s H E
      have GXx : GX X W md nm fa j ⟨t.N, t.sc, fun _ => true⟩ (fun cls d _ H => E cls d H) :=
        { K := hK, calm := rfl, N := rfl, nd := S.nd, sc := rfl, ck := fun _ _ => rfl, room := room, tk := takes_of rfl rfl rfl rfl, gd := gd, gw := G }
      refine ⟨_, sSs MK fd.body X _ _ t.body GXx (passes_of rfl) h3, ?_⟩
      refine ⟨g, startS ws fd.n, m, r, sr_start rv (by rw [h2]), ?_⟩
      rw [e] at h
      unfold bodyM at h
      cases q : exs md (callI md j) fd.body (startS ws fd.n) m with
      | no => rw [bnd_noo q] at h; exact h.elim
      | rz x m1 => exact (exs_rz _ _ q).elim
      | ok fl m1 =>
        rw [bnd_ok q] at h
        exact out_ok r (by rw [cutM_r]; exact h)
theorem fn_next (hK : W.K = K) (MK : MdK md) (G : GW W md nm fa j P w K mg base) {f : Nat} {fd : Fd} {t : FnT} (hf : md.fns[f]? = some fd) (hb : fnB md nm fd t = true) (S : FnScope t.N t.ps t.sc) (pl : Plain t) (e : fnV K (fa f) = t.val) (c : codeB K (fa f) t.qual = true) :
    ∃ (dat : FuncData) (ps : List Str), FnG P w K mg base (2 * (j + 1)) (fa f) dat ps (spF W md (j + 1) f) ∧ Binds K dat ps [] := by
  obtain ⟨oc, od, osl, kV, doc, pm, an, cdv, ct, lk, hc⟩ := fnV_ok e c
  exact ⟨_, t.ps, fn_nextG hK MK G hf hb S lk hc, .all (pl kV doc pm an cdv ct)⟩
end
end Fw

/-! T47: a module's facts as one Bool, the hook that reads them. -/
namespace Fw
open PySem PySem.Spec PyProof.Rows L2

/-! ### names of fields -/
def fnName (l : List Str) (f : Nat) : Str := match l[f]? with
  | some x => x
  | none => ⟨Array.replicate (f + 100) 0⟩
def fldB (l : List Str) : Bool := decide l.Nodup && l.all fun x => decide (x.cps.size < 100)
theorem fnName_inj {l : List Str} (h : fldB l = true) (f g : Nat) (e : fnName l f = fnName l g) : f = g := by
  unfold fldB at h
  rw [Bool.and_eq_true] at h
  obtain ⟨h1, h2⟩ := h
  have h1 := of_decide_eq_true h1
  have sz : ∀ {i : Nat} {x : Str}, l[i]? = some x → x.cps.size < 100 := fun {i x} q => of_decide_eq_true (List.all_eq_true.mp h2 x (List.mem_of_getElem? q))
  unfold fnName at e
  cases qf : l[f]? with
  | some x =>
    cases qg : l[g]? with
    | some y =>
      rw [qf, qg] at e
      have e : x = y := e
      subst e
      exact (List.getElem?_inj (List.getElem?_eq_some_iff.mp qf).1 h1).mp (qf.trans qg.symm)
    | none =>
      rw [qf, qg] at e
      have e : x = ⟨Array.replicate (g + 100) 0⟩ := e
      have := sz qf
      rw [e] at this
      simp at this
      omega
  | none =>
    cases qg : l[g]? with
    | some y =>
      rw [qf, qg] at e
      have e : ⟨Array.replicate (f + 100) 0⟩ = y := e
      have := sz qg
      rw [← e] at this
      simp at this
      omega
    | none =>
      rw [qf, qg] at e
      have e : (⟨Array.replicate (f + 100) 0⟩ : Str) = ⟨Array.replicate (g + 100) 0⟩ := e
      have := congrArg (fun s : Str => s.cps.size) e
      simp at this
      omega
/-! ### what the end is asked of the written part -/
def eqV (a b : Option (Option Value)) : Bool := decide (a = b)
theorem eqV_ok {a b : Option (Option Value)} (h : eqV a b = true) : a = b := of_decide_eq_true h
def clsB (K : PySem.W.Frag) (C : Addr) : Bool := PySem.W.plainGet K C Str.empty && PySem.W.hasDictIn K C && PySem.W.plainOver K C && eqV (PySem.W.findIn K (.ref C) "__setattr__") (some (some (.builtin "object.__setattr__")))
theorem clsB_ok {K : PySem.W.Frag} {C : Addr} (h : clsB K C = true) : Cls K C := by
  unfold clsB at h
  simp only [Bool.and_eq_true] at h
  exact ⟨h.1.1.1, h.1.1.2, h.1.2, eqV_ok h.2⟩
def iscB (K : PySem.W.Frag) (C : Addr) : Bool := eqV (PySem.W.findIn K (.ref C) "__class__") (some (some (.builtin "object.__class__"))) && eqV (PySem.W.specialIn K (.builtin "object.__class__") "__get__") (some (some (.builtin "getset_descriptor.__get__"))) &&
  decide (PySem.W.takesIn K (.builtin "object.__class__") = some true) && decide (PySem.W.mroIn K C (.type "object") = some true)
theorem iscB_ok {K : PySem.W.Frag} {C : Addr} (h : iscB K C = true) : IsiC K C := by
  unfold iscB at h
  simp only [Bool.and_eq_true] at h
  exact ⟨eqV_ok h.1.1.1, eqV_ok h.1.1.2, of_decide_eq_true h.1.2, of_decide_eq_true h.2⟩
def methB (K : PySem.W.Frag) (C : Addr) (m : Str) (f : Addr) : Bool := eqV (PySem.W.findIn K (.ref C) m) (some (some (.ref f))) && PySem.W.isFn K (.ref f) && PySem.W.keepIn K (.ref f)
theorem methB_ok {K : PySem.W.Frag} {C : Addr} {m : Str} {f : Addr} (h : methB K C m f = true) : Meth K C m f := by
  unfold methB at h
  simp only [Bool.and_eq_true] at h
  exact ⟨eqV_ok h.1.1, h.1.2, h.2⟩
def mkB (K : PySem.W.Frag) (C f : Addr) : Bool := PySem.W.makesIn K C && eqV (PySem.W.findIn K (.ref C) "__init__") (some (some (.ref f))) && PySem.W.isFn K (.ref f) && PySem.W.keepIn K (.ref C)
theorem mkB_ok {K : PySem.W.Frag} {C f : Addr} (h : mkB K C f = true) : Mk K C f := by
  unfold mkB at h
  simp only [Bool.and_eq_true] at h
  exact ⟨h.1.1.1, eqV_ok h.1.1.2, h.1.2, h.2⟩
def propB (K : PySem.W.Frag) (C : Addr) (m : Str) (f : Addr) : Bool := eqV (PySem.W.findIn K (.ref C) m) (some (some (.ref (He.ma K C m)))) && eqV (PySem.W.specialIn K (.ref (He.ma K C m)) "__get__") (some (some (.builtin "property.__get__"))) &&
  decide (PySem.W.takesIn K (.ref (He.ma K C m)) = some true) && (match PySem.W.recIn K (He.ma K C m) "property" with
    | some (.ref a :: _) => a == f
    | _ => false)
theorem propB_ok {K : PySem.W.Frag} {C : Addr} {m : Str} {f : Addr} (h : propB K C m f = true) : ∃ p, PropOf K C m p f := by
  unfold propB at h
  simp only [Bool.and_eq_true] at h
  refine ⟨He.ma K C m, eqV_ok h.1.1.1, eqV_ok h.1.1.2, of_decide_eq_true h.1.2, ?_⟩
  have h4 := h.2
  split at h4
  · rename_i a rest q
    have e := eq_of_beq h4
    subst e
    exact ⟨rest, q⟩
  · cases h4
def cvB (K : PySem.W.Frag) (C : Addr) (f : Str) (d : D) : Bool := PySem.W.readsIn K C (.type "type") && eqV (PySem.W.specialIn K (.ref C) "__getattribute__") (some (some (.builtin "type.__getattribute__"))) && (match scV d, PySem.W.findCls K (.ref C) (.type "type") f with
  | some v, some (.val u) => He.relB v u
  | _, _ => false)
theorem cvB_ok {K : PySem.W.Frag} {C : Addr} {f : Str} {d : D} (h : cvB K C f d = true) : ∃ mc v u, scV d = some v ∧ ClX.CRead K C mc ∧ ClX.CVal K C mc f v u := by
  unfold cvB at h
  simp only [Bool.and_eq_true] at h
  have h3 := h.2
  split at h3
  · rename_i v u q1 q2
    exact ⟨_, v, u, q1, ⟨h.1.1, eqV_ok h.1.2⟩, ⟨q2, He.relB_ok h3⟩⟩
  · cases h3
def gcB (K : PySem.W.Frag) (x : Str) (d : D) : Bool := match scV d, PySem.W.nsIn K mainGlobals x with
  | some v, some (some u) => He.relB v u
  | _, _ => false
/-- one tree of each kind -/
def reps (n : Nat) : List D := [.non, .bl true, .int 0, .str Str.empty, .tup [], .lst [], .dK []] ++ (List.range n).map fun c => .ins c []
def tys (n : Nat) : List Ty := [.tstr, .tint, .tbool, .tlist, .ttuple, .tdict] ++ (List.range n).map .tcls
section
variable (md : Md) (nm : Nm) (ts : List FnT)
def cNm (c : Nat) : Str := (nm.cl ++ nm.xc).getD c Str.empty
def fAd (K : PySem.W.Frag) (f : Nat) : Addr := match ts[f]? with
  | some t => t.pth.ad K
  | none => 0
/-- the world of a written part -/
def wOf (h : fldB nm.fld = true) (K : PySem.W.Frag) : Wd where
  K := K
  ca := fun c => He.ga K (cNm nm c)
  fn := fnName nm.fld
  fi := fnName_inj h
  en := fun c => fnName nm.fld ((md.ef.lookup c).getD 0)
def isiB (K : PySem.W.Frag) (ca : Nat → Addr) : Bool := (reps md.ncl).all fun d => (tys md.ncl).all fun t => decide (PySem.W.kitOne K (match d with
  | .non => .type "NoneType"
  | .bl _ => .type "bool"
  | .int _ => .type "int"
  | .str _ => .type "str"
  | .tup _ => .type "tuple"
  | .lst _ => .type "list"
  | .dK _ => .type "dict"
  | .dT _ => .type "dict"
  | .ins c _ => .ref (ca c)) (match t with
  | .tstr => .type "str"
  | .tint => .type "int"
  | .tbool => .type "bool"
  | .tlist => .type "list"
  | .ttuple => .type "tuple"
  | .tdict => .type "dict"
  | .tcls c => .ref (ca c)
  | .tblt n => .type n) = some (tyB md d t))
def chk (K : PySem.W.Frag) : Bool :=
  let ca := fun c => He.ga K (cNm nm c)
  let fn := fnName nm.fld
  let fa := fAd ts K
  ((List.range nm.fn.length).all fun f => match nm.fn[f]? with
    | some x => x.length == 0 || (eqV (PySem.W.nsIn K mainGlobals x) (some (some (.ref (fa f)))) && PySem.W.keepIn K (.ref (fa f)))
    | none => true) &&
  (nm.cl.all fun x => eqV (PySem.W.nsIn K mainGlobals x) (some (some (.ref (He.ga K x)))) && clsB K (He.ga K x) && iscB K (He.ga K x)) &&
  (nm.gc.all fun p => gcB K p.1 p.2) && (nm.mks.all fun p => mkB K (ca p.1) (fa p.2)) && (md.ms.all fun p => clsB K (ca p.1.1) && methB K (ca p.1.1) (fn p.1.2) (fa p.2)) &&
  (md.pr.all fun p => clsB K (ca p.1.1) && propB K (ca p.1.1) (fn p.1.2) (fa p.2)) && (md.at_.all fun p => clsB K (ca p.1) && eqV (PySem.W.findIn K (.ref (ca p.1)) (fn p.2)) (some none)) &&
  (nm.cv.all fun p => cvB K (ca p.1) (fn p.2.1) p.2.2) && isiB md K ca && (Manifest.builtinsNames.all fun y => bootMainNames.contains (Str.ofString y.1) || eqV (PySem.W.nsIn K mainGlobals (Str.ofString y.1)) (some none))
end
/-! ### the hook -/
abbrev Al : Type := Bool × List He.FnV
section
variable (md : Md) (nm : Nm) (ts : List FnT)
def obs (K : PySem.W.Frag) : Al := (chk md nm ts K && ts.all fun t => codeB K (t.pth.ad K) t.qual, ts.map fun t => fnV K (t.pth.ad K))
def val : Al := (true, ts.map FnT.val)
def Says (K : PySem.W.Frag) : Prop := obs md nm ts K = val ts
def obsOf (g : Addr → Option Obj) : Al := obs md nm ts (He.frG g (cStatics :: He.asD g 5))
def hook : PySem.W.Hook where
  α := Al
  obs := fun s => obsOf md nm ts s.heap.get?
  val := fun _ => val ts
  says := fun _ h => ∃ K : PySem.W.Frag, K.In h ∧ Says md nm ts K
  of := fun _ _ e => ⟨_, He.frG_in, e⟩
  keeps := fun _ _ _ ⟨K, hK, c⟩ k => ⟨K, PySem.W.Frag.In.keeps hK k, c⟩
theorem obs_eq {g : Addr → Option Obj} {s : Shared} (h : ∀ a, g a = s.heap.get? a) : obsOf md nm ts g = (hook md nm ts).obs s := by
  have : g = s.heap.get? := funext h
  subst this
  rfl
end
end Fw

/-! T48: from the facts to every function's promise; a law's end. -/
namespace Fw
open PySem PySem.Spec PyProof.Rows L2

section
variable {P : Program} {w : World} {K : PySem.W.Frag} {mg : Str → Option Value} {base : Heap} {md : Md} {nm : Nm} {ts : List FnT}
theorem isi_ok {h : fldB nm.fld = true} (hb : isiB md K (fun c => He.ga K (cNm nm c)) = true) (d : D) (t : Ty) (hd : noT md.ncl d = true) (ht : t.ok md.ncl = true) : PySem.W.kitOne K (tyD (wOf md nm h K) d) (t.val (wOf md nm h K)) = some (tyB md d t) := by
  unfold isiB at hb
  rw [List.all_eq_true] at hb
  have tm : t ∈ tys md.ncl := by
    unfold tys
    cases t with
    | tcls c => exact List.mem_append_right _ (List.mem_map.mpr ⟨c, List.mem_range.mpr (of_decide_eq_true ht), rfl⟩)
    | tblt n => cases ht
    | _ => exact List.mem_append_left _ (by simp)
  have key : ∀ d' ∈ reps md.ncl, tyD (wOf md nm h K) d = tyD (wOf md nm h K) d' → tyB md d t = tyB md d' t → PySem.W.kitOne K (tyD (wOf md nm h K) d) (t.val (wOf md nm h K)) = some (tyB md d t) := fun d' hm e1 e2 => by
    have := of_decide_eq_true (List.all_eq_true.mp (hb d' hm) t tm)
    rw [e1, e2, ← this]
    cases d' <;> cases t <;> rfl
  have left : ∀ {x : D}, x ∈ [D.non, .bl true, .int 0, .str Str.empty, .tup [], .lst [], .dK []] → x ∈ reps md.ncl := fun hm => List.mem_append_left _ hm
  cases d with
  | non => exact key .non (left (by simp)) rfl rfl
  | bl b => exact key (.bl true) (left (by simp)) rfl (by cases t <;> rfl)
  | int i => exact key (.int 0) (left (by simp)) rfl (by cases t <;> rfl)
  | str x => exact key (.str Str.empty) (left (by simp)) rfl (by cases t <;> rfl)
  | tup xs => exact key (.tup []) (left (by simp)) rfl (by cases t <;> rfl)
  | lst xs => exact key (.lst []) (left (by simp)) rfl (by cases t <;> rfl)
  | dK kvs => exact key (.dK []) (left (by simp)) rfl (by cases t <;> rfl)
  | dT kvs => cases hd
  | ins c fs => exact key (.ins c []) (List.mem_append_right _ (List.mem_map.mpr ⟨c, List.mem_range.mpr (of_decide_eq_true hd), rfl⟩)) rfl (by cases t <;> rfl)
theorem look_mem {κ β : Type} [BEq κ] [LawfulBEq κ] {l : List (κ × β)} {k : κ} {v : β} (h : l.lookup k = some v) : (k, v) ∈ l := by
  induction l with
  | nil => cases h
  | cons p r ih =>
    rw [List.lookup_cons] at h
    split at h
    · rename_i e
      cases h
      have := eq_of_beq e
      subst this
      exact List.mem_cons_self
    · exact List.mem_cons_of_mem _ (ih h)
/-- what of a module's facts asks no level -/
theorem gw_of (h : fldB nm.fld = true) (X : K.In base) (G : base.Ns mainGlobals mg) (hc : chk md nm ts K = true) (hn : md.ncl = nm.cl.length) {j : Nat}
    (fns : ∀ (f : Nat) (fd : Fd), md.fns[f]? = some fd → ∃ (dat : FuncData) (ps : List Str), FnG P w K mg base (2 * j) (fAd ts K f) dat ps (spF (wOf md nm h K) md j f) ∧ Binds K dat ps []) : GW (wOf md nm h K) md nm (fAd ts K) j P w K mg base := by
  unfold chk at hc
  simp only [Bool.and_eq_true] at hc
  obtain ⟨⟨⟨⟨⟨⟨⟨⟨⟨h1, h2⟩, h3⟩, h4⟩, h5⟩, h6⟩, h7⟩, h8⟩, h9⟩, h10⟩ := hc
  rw [List.all_eq_true] at h1 h2 h3 h4 h5 h6 h7 h8 h10
  have clx : ∀ (c : Nat) (x : Str), nm.cl[c]? = some x → cNm nm c = x := fun c x e => by
    unfold cNm
    rw [List.getD_eq_getElem?_getD, List.getElem?_append_left (List.getElem?_eq_some_iff.mp e).1, e]
    rfl
  have cl2 : ∀ (c : Nat) (x : Str), nm.cl[c]? = some x → (eqV (PySem.W.nsIn K mainGlobals x) (some (some (.ref (He.ga K x)))) = true ∧ clsB K (He.ga K x) = true) ∧ iscB K (He.ga K x) = true := fun c x e => by
    have := h2 x (List.mem_of_getElem? e)
    simpa only [Bool.and_eq_true] using this
  refine
    { fn := fns, gf := fun f x e hx => ?_, cl := fun c x e => ?_, cls := fun c x e => ?_, fld := fun f x e => ?_, gc := fun g x d e => ?_, mks := fun c f e => ?_, ms := fun c m f e => ?_, pr := fun c m f e => ?_, at_ := fun c f e => ?_,
      isc := fun c x e => ?_, ncl := hn, isi := fun d t hd ht => isi_ok h9 d t hd ht, cv := fun cl f d e => ?_, bl := fun x hx hne => ?_ }
  · have := h1 f (List.mem_range.mpr (List.getElem?_eq_some_iff.mp e).1)
    rw [e] at this
    have this : (x.length == 0 || (eqV (PySem.W.nsIn K mainGlobals x) (some (some (.ref (fAd ts K f)))) && PySem.W.keepIn K (.ref (fAd ts K f)))) = true := this
    rw [hx, Bool.false_or, Bool.and_eq_true] at this
    exact ⟨PySem.W.mg_of X G (eqV_ok this.1), this.2⟩
  · show mg x = some (.ref (He.ga K (cNm nm c)))
    rw [clx c x e]
    exact PySem.W.mg_of X G (eqV_ok (cl2 c x e).1.1)
  · show Cls K (He.ga K (cNm nm c))
    rw [clx c x e]
    exact clsB_ok (cl2 c x e).1.2
  · show fnName nm.fld f = x
    unfold fnName
    rw [e]
  · have := h3 (x, d) (List.mem_of_getElem? e)
    have this : (match scV d, PySem.W.nsIn K mainGlobals x with
      | some v, some (some u) => He.relB v u
      | _, _ => false) = true := this
    split at this
    · rename_i v u q1 q2
      exact ⟨v, u, q1, PySem.W.mg_of X G q2, He.relB_ok this⟩
    · cases this
  · exact mkB_ok (h4 (c, f) e)
  · have := h5 ((c, m), f) (look_mem e)
    simp only [Bool.and_eq_true] at this
    exact ⟨clsB_ok this.1, methB_ok this.2⟩
  · have := h6 ((c, m), f) (look_mem e)
    simp only [Bool.and_eq_true] at this
    exact ⟨clsB_ok this.1, propB_ok this.2⟩
  · have := h7 (c, f) e
    simp only [Bool.and_eq_true] at this
    exact ⟨clsB_ok this.1, eqV_ok this.2⟩
  · show IsiC K (He.ga K (cNm nm c))
    rw [clx c x e]
    exact iscB_ok (cl2 c x e).2
  · exact cvB_ok (h8 (cl, f, d) e)
  · unfold bootBuiltins at hx
    obtain ⟨v, hv⟩ := Option.isSome_iff_exists.mp hx
    have := look_mem hv
    rw [List.mem_reverse] at this
    obtain ⟨y, hy, e⟩ := List.mem_map.mp this
    have e1 : Str.ofString y.1 = x := congrArg Prod.fst e
    have := h10 y hy
    rw [e1, Bool.or_eq_true] at this
    rcases this with z | z
    · rw [hne] at z; cases z
    · exact PySem.W.mg_none_of X G (eqV_ok z)
/-- every function keeps its promise, at every level -/
theorem gw_all (h : fldB nm.fld = true) (X : K.In base) (G : base.Ns mainGlobals mg) (hc : chk md nm ts K = true) (hn : md.ncl = nm.cl.length) (MK : MdK md) (FO : FnsOk md nm ts) (FA : FnsAt K ts) :
    ∀ j, GW (wOf md nm h K) md nm (fAd ts K) j P w K mg base
  | 0 => gw_of h X G hc hn fun f fd hf => by
      obtain ⟨t, ht, hb, S, pl⟩ := FO.all f fd hf
      have ea : fAd ts K f = t.pth.ad K := by unfold fAd; rw [ht]
      obtain ⟨e, c⟩ := FA.all f t ht
      obtain ⟨oc, od, osl, kV, doc, pm, an, cdv, ct, lk, hcd⟩ := fnV_ok e c
      refine ⟨_, t.ps, ⟨fun vs H Q E ⟨g, m, ws, r, rv, z⟩ => z.elim, fun A outer s H args us vs Q E _ _ _ _ _ ⟨g, m, ws, r, rv, z⟩ => z.elim⟩, .all (pl kV doc pm an cdv ct)⟩
  | j + 1 => gw_of h X G hc hn fun f fd hf => by
      obtain ⟨t, ht, hb, S, pl⟩ := FO.all f fd hf
      have ea : fAd ts K f = t.pth.ad K := by unfold fAd; rw [ht]
      obtain ⟨e, c⟩ := FA.all f t ht
      exact fn_next (W := wOf md nm h K) rfl MK (gw_all h X G hc hn MK FO FA j) hf hb S pl (by rw [ea]; exact e) (by rw [ea]; exact c)
theorem says_ok (c : Says md nm ts K) : chk md nm ts K = true ∧ FnsAt K ts := by
  have c : (chk md nm ts K && ts.all (fun t => codeB K (t.pth.ad K) t.qual), ts.map fun t => fnV K (t.pth.ad K)) = (true, ts.map FnT.val) := c
  rw [Prod.mk.injEq, Bool.and_eq_true] at c
  obtain ⟨⟨c1, c2⟩, c3⟩ := c
  refine ⟨c1, ⟨fun f t ht => ⟨?_, List.all_eq_true.mp c2 t (List.mem_of_getElem? ht)⟩⟩⟩
  have := congrArg (fun l => l[f]?) c3
  simp only [List.getElem?_map, ht, Option.map_some, Option.some.injEq] at this
  exact this
/-- the law's function, from what the interpreter tells of it at every script -/
theorem law_spF {j f : Nat} {W : Wd} (n : Nat) (plain : ∀ ns : List Int, ns.length ≤ n → ∃ m, callI md j f [.s ns] [] = .ok (.d (.bl true)) m) {H : Hp} {a : Addr} {ns : List Int} (hl : ns.length ≤ n) (hs : ScR W H a ns) :
    spF W md j f [.ref a] H (fun v _ => v = .bl true) fun _ _ _ => False := by
  obtain ⟨m, e⟩ := plain ns hl
  refine ⟨⟨fun _ => False, [], [], []⟩, [], [.s ns], ⟨rfl, rfl, rfl, fun n w e => by simp at e, fun n l e => by simp at e, fun i k li lj a e => by simp at e, fun a ⟨n, l, e, _⟩ => by simp at e, fun a ⟨n, l, e, _⟩ => by simp at e, fun a z => z.elim⟩, .cons ⟨a, rfl, hs⟩ .nil, ?_⟩
  rw [e]
  intro v g' H' As o
  have := o.rv.1
  simp only [Rep] at this
  exact this
end
end Fw

/-! T49: a law's end. -/
namespace Fw
open PySem PySem.Spec PyProof.Rows L2

theorem quiet_top {P : Program} {w : World} {H : Hp} {t : Shared} {e : Value} {u : Shared} (h : L2.CX P w [] H t (fun _ _ _ => False) e u) : False := by
  obtain ⟨_, _, _, _, _, _, _, _, _, _, _, _, z⟩ := h
  exact z.elim
theorem walk_G {l : PySem.W.OpenLaw} {n j f : Nat} {q : Program} {loose : List Str} {XP : (Str → Option Value) → Heap → Prop} {d : DefRec} {x : Str} {md : Md} {nm : Nm} {ts : List FnT} {fd : Fd} {t : FnT}
    (hn : l.most = some n) (hn2 : n ≤ sizeLine) (hdf : d.params.defaults = []) (hr : Room (2 * (j + 1)) callerA) (hfld : fldB nm.fld = true) (hcl : md.ncl = nm.cl.length) (MK : MdK md) (FO : FnsOk md nm ts)
    (hf : md.fns[f]? = some fd) (ht : ts[f]? = some t) (hb : fnB md nm fd t = true) (S : FnScope t.N t.ps t.sc) (pl : Plain t) (hx : t.ps = [x]) (hnm : nm.fn[f]? = some d.name) (hne : (d.name.length == 0) = false)
    (plain : ∀ ns : List Int, ns.length ≤ n → ∃ m, callI md (j + 1) f [.s ns] [] = .ok (.d (.bl true)) m) :
    PySem.W.WalkO q loose XP (fun _ h => ∃ K : PySem.W.Frag, K.In h ∧ Says md nm ts K) l.row.toRowW d [] (fun f vs => PySem.call f vs) := by
  refine Att.attach_call hn hdf fun w s₀ s₁ mg mb fa o pm cd doc a vs ns G Y ho hd hcd hmg hobj hints hlen hg => ?_
  obtain ⟨K, KX, says⟩ := Y
  obtain ⟨hc, FA⟩ := says_ok says
  have ea : fAd ts K f = t.pth.ad K := by unfold fAd; rw [ht]
  obtain ⟨e, c⟩ := FA.all f t ht
  obtain ⟨oc, od, osl, kV, doc', pm', an, cdv, ct, lk, hcode⟩ := fnV_ok e c
  have g0 : ∀ base : Heap, K.In base → base.Ns mainGlobals mg → ∀ j, GW (wOf md nm hfld K) md nm (fAd ts K) j l.prog w K mg base := fun base KB GB => gw_all hfld KB GB hc hcl MK FO FA
  have efa : fAd ts K f = fa := by
    have h1 := ((g0 _ KX G.T.g 0).gf f d.name hnm hne).1
    rw [hmg] at h1
    exact (Value.ref.inj (Option.some.inj h1)).symm
  refine law_callG (fd := PySem.W.fnOf t.name t.qual t.params t.body t.sc .none kV doc' pm' an cdv ct) (x := x) (sp := spF (wOf md nm hfld K) md (j + 1) f) KX G.T.g G.T.b G.T.builtins G.T.nolimit hg hobj hints (Nat.le_trans hlen hn2) hr (fun base KB GB => ?_) (fun s u => ?_) (fun H hs => ?_) fun H e u => quiet_top
  · have := fn_nextG (W := wOf md nm hfld K) rfl MK (g0 base KB GB j) hf hb S (by rw [ea]; exact lk) hcode
    rw [hx, efa] at this
    exact this
  · have := pl kV doc' pm' an cdv ct [u] (by rw [hx]; rfl)
    rw [hx] at this
    exact BindsTo.of_eq this
  · exact law_spF n plain hlen hs
end Fw

/-! T50: tables of functions told row by row. -/
namespace Fw
open PySem PySem.Spec PyProof.Rows L2

inductive FnsL (md : Md) (nm : Nm) : List Fd → List FnT → Prop
  | nil : FnsL md nm [] []
  | cons {fd : Fd} {t : FnT} {fds : List Fd} {ts : List FnT} (h : fnB md nm fd t = true) (S : FnScope t.N t.ps t.sc) (pl : Plain t) (r : FnsL md nm fds ts) : FnsL md nm (fd :: fds) (t :: ts)
theorem FnsL.get {md : Md} {nm : Nm} {fds : List Fd} {ts : List FnT} (h : FnsL md nm fds ts) : ∀ (f : Nat) (fd : Fd), fds[f]? = some fd → ∃ t, ts[f]? = some t ∧ fnB md nm fd t = true ∧ FnScope t.N t.ps t.sc ∧ Plain t := by
  induction h with
  | nil => intro f fd e; simp at e
  | cons h S pl r ih =>
    intro f fd e
    cases f with
    | zero => cases e; exact ⟨_, rfl, h, S, pl⟩
    | succ f => exact ih f fd e
theorem FnsL.ok {md : Md} {nm : Nm} {ts : List FnT} (h : FnsL md nm md.fns ts) : FnsOk md nm ts := ⟨h.get⟩
theorem mdK_of {md : Md} (h : (md.ms.all fun p => decide (p.2 < md.fns.length)) = true) (k : (md.pr.all fun p => decide (p.2 < md.fns.length)) = true) : MdK md where
  ms := fun c m f e => by
    have := of_decide_eq_true (List.all_eq_true.mp h _ (look_mem e))
    exact ⟨_, List.getElem?_eq_getElem this⟩
  pr := fun c m f e => by
    have := of_decide_eq_true (List.all_eq_true.mp k _ (look_mem e))
    exact ⟨_, List.getElem?_eq_getElem this⟩
/-- a statement of a class's body -/
def subS (s : Stmt) (i : Nat) : Stmt := match s with
  | .ClassDef (body := b) .. => b.getD i (.Pass ⟨0, 0, 0, 0⟩)
  | _ => .Pass ⟨0, 0, 0, 0⟩
end Fw

/-! L0: the interpreter's equations. -/
namespace Fw
open PySem L2

section
variable (md : Md) (cf : Nat → List Val → Mo RV) (s : Sl)
theorem e_v (i : Nat) : ev md cf (.v i) s = slotM s i := rfl
theorem e_k (d : D) : ev md cf (.k d) s = pur (.d d) := rfl
theorem e_gc (g : Nat) (d : D) : ev md cf (.gc g d) s = pur (.d d) := rfl
theorem e_ccon (c f : Nat) (d : D) : ev md cf (.ccon c f d) s = pur (.d d) := rfl
theorem e_bin (o : BOp) (a b : Ep) : ev md cf (.bin o a b) s = bnd (ev md cf a s) fun x => bnd (ev md cf b s) fun y => bnd (viewM x) fun x => bnd (viewM y) fun y => ofO (binD o x y) := rfl
theorem e_neg (a : Ep) : ev md cf (.neg a) s = bnd (ev md cf a s) fun x => bnd (viewM x) fun x => (match x with | .int i => pur (.d (.int (-i))) | _ => no) := rfl
theorem e_not (a : Ep) : ev md cf (.not_ a) s = bnd (ev md cf a s) fun x => bnd (viewM x) fun d => bnd (ofO (truD d)) fun b => pur (.d (.bl (!b))) := rfl
theorem e_cmp (o : COp) (a b : Ep) : ev md cf (.cmp o a b) s = bnd (ev md cf a s) fun x => bnd (ev md cf b s) fun y => bnd (viewM x) fun x => bnd (viewM y) fun y => bnd (ofO (cmpD o x y)) fun b => pur (.d (.bl b)) := rfl
theorem e_chain (o1 o2 : COp) (a b c : Ep) : ev md cf (.chain o1 o2 a b c) s = bnd (ev md cf a s) fun x => bnd (ev md cf b s) fun y => bnd (viewM x) fun x => bnd (viewM y) fun y' => bnd (ofO (cmpD o1 x y')) fun t =>
      (match t with
      | true => bnd (ev md cf c s) fun z => bnd (viewM y) fun y => bnd (viewM z) fun z => bnd (ofO (cmpD o2 y z)) fun b => pur (.d (.bl b))
      | false => pur (.d (.bl false))) := rfl
theorem e_and (a b : Ep) : ev md cf (.and_ a b) s = bnd (ev md cf a s) fun x => bnd (viewM x) fun d => bnd (ofO (truD d)) fun t => (match t with | true => ev md cf b s | false => pur x) := rfl
theorem e_or (a b : Ep) : ev md cf (.or_ a b) s = bnd (ev md cf a s) fun x => bnd (viewM x) fun d => bnd (ofO (truD d)) fun t => (match t with | true => pur x | false => ev md cf b s) := rfl
theorem e_ife (c a b : Ep) : ev md cf (.ife c a b) s = bnd (ev md cf c s) fun x => bnd (viewM x) fun d => bnd (ofO (truD d)) fun t => (match t with | true => ev md cf a s | false => ev md cf b s) := rfl
theorem e_call (f : Nat) (as : List Ep) : ev md cf (.call f as) s = bnd (evs md cf as s) fun xs => bnd (argsM xs) fun vs => cf f vs := rfl
theorem e_mk (c f : Nat) (as : List Ep) : ev md cf (.mk c f as) s = bnd (evs md cf as s) fun xs => bnd (argsM xs) fun vs => mkM false c (cf f) vs := rfl
theorem e_mkM (c f : Nat) (as : List Ep) : ev md cf (.mkM c f as) s = bnd (evs md cf as s) fun xs => bnd (argsM xs) fun vs => mkM true c (cf f) vs := rfl
theorem e_meth (mn : Nat) (o : Ep) (as : List Ep) : ev md cf (.meth mn o as) s = bnd (ev md cf o s) fun x => bnd (clsM mn x) fun c => bnd (ofO (md.ms.lookup (c, mn))) fun f => bnd (evs md cf as s) fun xs => bnd (argsM xs) fun vs => bnd (argM x) fun v => cf f (v :: vs) := rfl
theorem e_attr (f : Nat) (o : Ep) : ev md cf (.attr f o) s = bnd (ev md cf o s) (attrM md f) := rfl
theorem e_prop (p : Nat) (o : Ep) : ev md cf (.prop p o) s = bnd (ev md cf o s) fun x => bnd (clsM p x) fun c => bnd (ofO (md.pr.lookup (c, p))) fun f => bnd (argM x) fun v => nrz (cf f [v]) := rfl
theorem e_bi (b : BI) (as : List Ep) : ev md cf (.bi b as) s = bnd (evs md cf as s) fun xs => bnd (viewsM xs) fun ds => ofO (biD b ds) := rfl
theorem e_lenset (a : Ep) : ev md cf (.lenset a) s = bnd (ev md cf a s) fun x => bnd (viewM x) fun d => bnd (ofO (setLen d)) fun n => pur (.d (.int (n : Nat))) := rfl
theorem e_isi (a : Ep) (ts : List Ty) : ev md cf (.isi a ts) s = bnd (ev md cf a s) fun x => isiM md ts x := rfl
theorem e_bm (b : BM) (o : Ep) (as : List Ep) : ev md cf (.bm b o as) s = bnd (ev md cf o s) fun x => bnd (viewM x) fun d => grd (bmK b d) (bnd (evs md cf as s) fun xs => bnd (viewM x) fun d => bnd (viewsM xs) fun ds => ofO (bmD b d ds)) := rfl
theorem e_sub (a i : Ep) : ev md cf (.sub a i) s = bnd (ev md cf a s) fun x => bnd (ev md cf i s) fun y => bnd (viewM x) fun x => bnd (viewM y) fun y => rD (subD x y) := rfl
theorem e_sl (a lo hi : Ep) : ev md cf (.sl a lo hi) s = bnd (ev md cf a s) fun x => bnd (match isNonE lo with
      | true => pur none
      | false => intM (ev md cf lo s)) fun l => bnd (match isNonE hi with
      | true => pur none
      | false => intM (ev md cf hi s)) fun h => bnd (viewM x) fun x => ofO (cutD x l h) := rfl
theorem e_rev (a : Ep) : ev md cf (.rev a) s = bnd (ev md cf a s) fun x => bnd (viewM x) fun x => ofO (revD x) := rfl
theorem e_lst (es : List Ep) : ev md cf (.lst es) s = bnd (evs md cf es s) fun xs => bnd (frzsM xs) fun ds => pur (.o (.lst ds)) := rfl
theorem e_tup (es : List Ep) : ev md cf (.tup es) s = bnd (evs md cf es s) fun xs => bnd (frzsM xs) fun ds => pur (.d (.tup ds)) := rfl
theorem e_dct0 (t : Bool) : ev md cf (.dct t [] []) s = pur (.o (if t then .dT [] else .dK [])) := rfl
/-- one turn of a comprehension -/
def lcB (own : List Nat) (t : Tg) (ifs : List Ep) (e : Ep) (x : D) : Mo (Option D) := nrz (bnd (ofO (setT (wipeS s own) t x)) fun s' => bnd (evTs md cf ifs s') fun b => (match b with
        | true => bnd (ev md cf e s') fun y => bnd (frzM y) fun y => pur (some y)
        | false => pur none))
theorem lc_b (own : List Nat) (t : Tg) (ifs : List Ep) (e : Ep) (x : D) : lcB md cf s own t ifs e x = nrz (bnd (ofO (setT (wipeS s own) t x)) fun s' => bnd (evTs md cf ifs s') fun b => (match b with
        | true => bnd (ev md cf e s') fun y => bnd (frzM y) fun y => pur (some y)
        | false => pur none)) := rfl
def dcB (own : List Nat) (t : Tg) (ifs : List Ep) (k v : Ep) (x : D) : Mo (Option (Key × D)) := nrz (bnd (ofO (setT (wipeS s own) t x)) fun s' => bnd (evTs md cf ifs s') fun b => (match b with
        | true => bnd (ev md cf k s') fun y => bnd (ev md cf v s') fun z => bnd (viewM y) fun y => bnd (frzM z) fun z => bnd (ofO (asK y)) fun y => pur (some (y, z))
        | false => pur none))
theorem dc_b (own : List Nat) (t : Tg) (ifs : List Ep) (k v : Ep) (x : D) : dcB md cf s own t ifs k v x = nrz (bnd (ofO (setT (wipeS s own) t x)) fun s' => bnd (evTs md cf ifs s') fun b => (match b with
        | true => bnd (ev md cf k s') fun y => bnd (ev md cf v s') fun z => bnd (viewM y) fun y => bnd (frzM z) fun z => bnd (ofO (asK y)) fun y => pur (some (y, z))
        | false => pur none)) := rfl
theorem e_lc (own : List Nat) (t : Tg) (ik : IK) (as ifs : List Ep) (e : Ep) : ev md cf (.lc own t ik as ifs e) s = bnd (evs md cf as s) fun xs => bnd (frzsM xs) fun ds => bnd (ofO (itD ik ds)) fun items =>
      bnd (lcM (lcB md cf s own t ifs e) items) fun ys => pur (.o (.lst ys)) := rfl
theorem e_dc (own : List Nat) (t : Tg) (ik : IK) (as ifs : List Ep) (k v : Ep) : ev md cf (.dc own t ik as ifs k v) s = bnd (evs md cf as s) fun xs => bnd (frzsM xs) fun ds => bnd (ofO (itD ik ds)) fun items =>
      bnd (dcM (dcB md cf s own t ifs k v) items []) fun ys => pur (.o (.dK ys)) := rfl
theorem e_scut (i n : Nat) : ev md cf (.scut i n) s = bnd (slotM s i) fun x => (match x with
      | .s ns => pur (.o (.lst (cutL (ns.map .int) none (some (n : Int)))))
      | _ => no) := rfl
theorem e_semp (i : Nat) : ev md cf (.semp i) s = bnd (slotM s i) fun x => (match x with
      | .s ns => pur (.d (.bl ns.isEmpty))
      | _ => no) := rfl
theorem es_nil : evs md cf [] s = pur [] := rfl
theorem es_cons (e : Ep) (r : List Ep) : evs md cf (e :: r) s = bnd (ev md cf e s) fun x => bnd (evs md cf r s) fun xs => pur (x :: xs) := rfl
theorem et_nil : evTs md cf [] s = pur true := rfl
theorem et_cons (e : Ep) (r : List Ep) : evTs md cf (e :: r) s = bnd (ev md cf e s) fun x => bnd (viewM x) fun d => bnd (ofO (truD d)) fun t => (match t with | true => evTs md cf r s | false => pur false) := rfl
theorem x_asg (i : Nat) (e : Ep) : ex md cf (.asg i e) s = sM s (bnd (ev md cf e s) frzM) fun d => pur (.nx (s.set i (some (.d d)))) := rfl
theorem x_asgM (i : Nat) (e : Ep) : ex md cf (.asgM i e) s = sM s (bnd (ev md cf e s) cellM) fun v => pur (.nx (s.set i (some v))) := rfl
theorem x_asgT (is : List Nat) (e : Ep) : ex md cf (.asgT is e) s = sM s (bnd (ev md cf e s) frzM) fun d => sM s (ofO (setT s (.tp is) d)) fun s' => pur (.nx s') := rfl
theorem x_par (i j : Nat) (mi mj : Bool) (a b : Ep) : ex md cf (.par i j mi mj a b) s = sM s (bnd (ev md cf a s) fun x => bnd (ev md cf b s) fun y => bnd (slM mj y) fun w => bnd (slM mi x) fun v => pur (v, w)) fun p => pur (.nx ((s.set i (some p.1)).set j (some p.2))) := rfl
theorem x_setI (o k v : Ep) : ex md cf (.setI o k v) s = sM s (bnd (ev md cf v s) fun x => bnd (ev md cf o s) fun y => bnd (ev md cf k s) fun z => bnd (frzM x) fun x => bnd (viewM z) fun z => putM y fun d => setD d z x) fun _ => pur (.nx s) := rfl
theorem x_setF (f : Nat) (o v : Ep) : ex md cf (.setF f o v) s = sM s (bnd (ev md cf v s) fun x => bnd (ev md cf o s) fun y => bnd (frzM x) fun x => setFM md y f x) fun _ => pur (.nx s) := rfl
theorem x_setW (f : Nat) (o v : Ep) : ex md cf (.setW f o v) s = sM s (bnd (ev md cf v s) fun x => bnd (ev md cf o s) fun y => setWM md y f x) fun _ => pur (.nx s) := rfl
theorem x_mm (m : MM) (o : Ep) (as : List Ep) : ex md cf (.mm m o as) s = sM s (bnd (ev md cf o s) fun x => bnd (viewM x) fun d => grd (mmK m d) (bnd (evs md cf as s) fun xs => bnd (frzsM xs) fun ds => putM x fun d => mmD m d ds)) fun _ => pur (.nx s) := rfl
theorem x_ex (e : Ep) : ex md cf (.ex e) s = sM s (ev md cf e s) fun _ => pur (.nx s) := rfl
theorem x_ret (e : Ep) : ex md cf (.ret e) s = sM s (ev md cf e s) fun x => pur (.rt x) := rfl
theorem x_retN : ex md cf .retN s = pur (.rt (.d .non)) := rfl
theorem x_if (c : Ep) (a b : List Sm) : ex md cf (.if_ c a b) s = sM s (evT md cf c s) fun t => (match t with
      | true => exs md cf a s
      | false => exs md cf b s) := rfl
/-- one turn of a loop -/
def turnM (t : Tg) (b : List Sm) (x : D) (s : Sl) : Mo Fl := bnd (ofO (setT s t x)) fun s' => exs md cf b s'
theorem tn_ (t : Tg) (b : List Sm) (x : D) : turnM md cf t b x s = bnd (ofO (setT s t x)) fun s' => exs md cf b s' := rfl
theorem x_for (t : Tg) (ik : IK) (as : List Ep) (b : List Sm) : ex md cf (.for_ t ik as b) s = sM s (bnd (evs md cf as s) fun xs => bnd (frzsM xs) fun ds => ofO (itD ik ds)) fun items =>
      forM' (turnM md cf t b) items s := rfl
theorem x_while (c : Ep) (b : List Sm) : ex md cf (.while_ c b) s = whM (evT md cf c) (exs md cf b) whFuel s := rfl
theorem x_aug (i : Nat) (o : BOp) (e : Ep) : ex md cf (.aug i o e) s = sM s (bnd (slotM s i) fun x => bnd (ev md cf e s) fun y => bnd (viewM x) fun x => bnd (viewM y) fun y => bnd (ofO (augD o x y)) fun d => pur d) fun d => pur (.nx (s.set i (some (.d d)))) := rfl
theorem x_pass : ex md cf .pass_ s = pur (.nx s) := rfl
theorem x_brk : ex md cf .brk s = pur (.bk s) := rfl
theorem x_cnt : ex md cf .cnt s = pur (.ct s) := rfl
theorem x_nv : ex md cf .nv s = no := rfl
theorem x_nil : exs md cf [] s = pur (.nx s) := rfl
theorem x_cons (a : Sm) (r : List Sm) : exs md cf (a :: r) s = bnd (ex md cf a s) fun fl => (match fl with
      | .nx s' => exs md cf r s'
      | fl => pur fl) := rfl
theorem t_ev (e : Ep) : evT md cf e s = bnd (ev md cf e s) fun x => bnd (viewM x) fun d => ofO (truD d) := rfl
end
/-! ### from given cells on -/
/-- a dummy that keeps what comes later as it is until the first is known -/
structure Du {γ : Type} (f : γ) : Type where
def bR {α β : Type} (r : Rs α) (f : α → Mo β) (_ : Du f := ⟨⟩) : Rs β := match r with
  | .ok a m => f a m
  | .rz e m => .rz e m
  | .no => .no
def sR {α : Type} (s : Sl) (r : Rs α) (f : α → Mo Fl) (_ : Du f := ⟨⟩) : Rs Fl := match r with
  | .ok a m => f a m
  | .rz e m => .ok (.rs e s) m
  | .no => .no
theorem bnd_r {α β : Type} (x : Mo α) (f : α → Mo β) (m : Mem) : bnd x f m = bR (x m) f := rfl
theorem sM_r' {α : Type} (s : Sl) (x : Mo α) (f : α → Mo Fl) (m : Mem) : sM s x f m = sR s (x m) f := rfl
theorem bR_ok {α β : Type} (a : α) (m : Mem) (f : α → Mo β) (d : Du f) : bR (.ok a m) f d = f a m := rfl
theorem sR_ok {α : Type} (s : Sl) (a : α) (m : Mem) (f : α → Mo Fl) (d : Du f) : sR s (.ok a m) f d = f a m := rfl
theorem pur_r {α : Type} (a : α) (m : Mem) : pur a m = .ok a m := rfl
theorem newM_r (d : D) (m : Mem) : newM d m = .ok m.length (m ++ [.fl d]) := rfl
theorem c_o (d : D) : cellM (.o d) = bnd (newM d) fun n => pur (.c n) := rfl
theorem viewM_c {n : Nat} {m : Mem} {w : CV} (h : m[n]? = some w) : viewM (.c n) m = .ok w.view m := by
  show (match m[n]? with
    | some w => Rs.ok w.view m
    | none => .no) = _
  rw [h]
theorem putM_c {n : Nat} {m : Mem} {d d' : D} {f : D → Option D} (h : m[n]? = some (.fl d)) (e : f d = some d') : putM (.c n) f m = .ok () (m.set n (.fl d')) := by
  show (match m[n]? with
    | some (.fl d) => (match f d with
      | some d' => Rs.ok () (m.set n (.fl d'))
      | none => .no)
    | _ => .no) = _
  rw [h]
  show (match f d with
      | some d' => Rs.ok () (m.set n (.fl d'))
      | none => .no) = _
  rw [e]
/-! ### slots, values -/
theorem sl_0 (v : Val) (s : Sl) : slotM (some v :: s) 0 = valR v := rfl
theorem sl_s (x : Option Val) (s : Sl) (i : Nat) : slotM (x :: s) (i + 1) = slotM s i := rfl
def rvOf : Val → RV
  | .d x => .d x
  | .c n => .c n
  | .x c p => .x c p
  | .s ns => .s ns
theorem v_rv (v : Val) : valR v = pur (rvOf v) := by cases v <;> rfl
theorem rv_d (x : D) : rvOf (.d x) = .d x := rfl
theorem rv_c (n : Nat) : rvOf (.c n) = .c n := rfl
theorem rv_s (ns : List Int) : rvOf (.s ns) = .s ns := rfl
theorem v_d (x : D) : valR (.d x) = pur (.d x) := rfl
theorem v_c (n : Nat) : valR (.c n) = pur (.c n) := rfl
theorem v_s (ns : List Int) : valR (.s ns) = pur (.s ns) := rfl
theorem w_d (x : D) : viewM (.d x) = pur x := rfl
theorem w_o (x : D) : viewM (.o x) = pur x := rfl
theorem ws_nil : viewsM [] = pur [] := rfl
theorem ws_cons (x : RV) (r : List RV) : viewsM (x :: r) = bnd (viewM x) fun v => bnd (viewsM r) fun vs => pur (v :: vs) := rfl
theorem f_d (x : D) : frzM (.d x) = pur x := rfl
theorem f_o (x : D) : frzM (.o x) = pur x := rfl
theorem fs_nil : frzsM [] = pur [] := rfl
theorem fs_cons (x : RV) (r : List RV) : frzsM (x :: r) = bnd (frzM x) fun v => bnd (frzsM r) fun vs => pur (v :: vs) := rfl
theorem a_d (x : D) : argM (.d x) = pur (.d x) := rfl
theorem a_o (x : D) : argM (.o x) = pur (.d x) := rfl
theorem a_c (n : Nat) : argM (.c n) = pur (.c n) := rfl
theorem as_nil : argsM [] = pur [] := rfl
theorem as_cons (x : RV) (r : List RV) : argsM (x :: r) = bnd (argM x) fun v => bnd (argsM r) fun vs => pur (v :: vs) := rfl
theorem rd_some (d : D) : rD (some d) = pur (.d d) := rfl
theorem tr_bl (b : Bool) : truD (.bl b) = some b := rfl
theorem tr_non : truD .non = some false := rfl
theorem tr_int (i : Int) : truD (.int i) = some (i != 0) := rfl
theorem tr_lst (xs : List D) : truD (.lst xs) = some (!xs.isEmpty) := rfl
theorem tr_tup (xs : List D) : truD (.tup xs) = some (!xs.isEmpty) := rfl
theorem c_d (x : D) : cellM (.d x) = pur (.d x) := rfl
theorem c_c (n : Nat) : cellM (.c n) = pur (.c n) := rfl
theorem nn_k (d : D) : isNonE (.k d) = isNon d := by cases d <;> rfl
theorem in_pur (v : RV) : intM (pur v) = bnd (viewM v) fun d => (match d with
  | .int i => pur (some i)
  | _ => no) := rfl
theorem cls_d (mn c : Nat) (fs : List (Nat × D)) (h : fs.lookup mn = none) : clsM mn (.d (.ins c fs)) = pur c := by
  funext m
  show (match clsOf mn (.d (.ins c fs)) m with
    | some c => Rs.ok c m
    | none => .no) = _
  have : clsOf mn (.d (.ins c fs)) m = some c := by
    show (if (fs.lookup mn).isSome = true then none else some c) = _
    rw [h]
    rfl
  rw [this]
  rfl
end Fw
namespace Fw
open PySem L2
theorem nn_v (i : Nat) : isNonE (.v i) = false := rfl
theorem nn_bin (o : BOp) (a b : Ep) : isNonE (.bin o a b) = false := rfl
theorem nn_neg (a : Ep) : isNonE (.neg a) = false := rfl
theorem nn_kn : isNonE (.k .non) = true := rfl
theorem nn_ki (i : Int) : isNonE (.k (.int i)) = false := rfl
theorem nn_sub (a b : Ep) : isNonE (.sub a b) = false := rfl
theorem nn_bi (b : BI) (as : List Ep) : isNonE (.bi b as) = false := rfl
def noneM : Mo (Option Int) := pur none
theorem in_m (x : Mo RV) : intM x = bnd x fun v => bnd (viewM v) fun d => (match d with
  | .int i => pur (some i)
  | _ => no) := rfl
theorem mk_app (xs : List D) : mmK .append (.lst xs) = true := rfl
theorem mk_ext (xs : List D) : mmK .extend (.lst xs) = true := rfl
theorem mk_rev (xs : List D) : mmK .reverse (.lst xs) = true := rfl
theorem bk_get2 (kvs : List (List Key × D)) : bmK .get2 (.dT kvs) = true := rfl
theorem bk_get1 (kvs : List (List Key × D)) : bmK .get1 (.dT kvs) = true := rfl
theorem bk_get2k (kvs : List (Key × D)) : bmK .get2 (.dK kvs) = true := rfl
theorem bk_get1k (kvs : List (Key × D)) : bmK .get1 (.dK kvs) = true := rfl
theorem slE_t (x : RV) : slM true x = cellM x := rfl
theorem slE_f (x : RV) : slM false x = bnd (frzM x) fun d => pur (.d d) := rfl
end Fw
namespace Fw
open PySem L2
def nR {α : Type} : Rs α → Rs α
  | .ok a m' => .ok a m'
  | _ => .no
theorem nrz_r {α : Type} (x : Mo α) (m : Mem) : nrz x m = nR (x m) := by
  show (match x m with
    | .ok a m' => .ok a m'
    | _ => .no : Rs α) = _
  cases x m <;> rfl
theorem nR_ok {α : Type} (a : α) (m : Mem) : nR (.ok a m) = .ok a m := rfl
end Fw

/-! L1: running the interpreter: loops, calls. -/
namespace Fw
open PySem L2

section
variable {md : Md} {cf : Nat → List Val → Mo RV}
/-- a loop that goes through: P told of what was walked -/
theorem for_thru {f : D → Sl → Mo Fl} (P : List D → Sl → Mem → Prop) : ∀ (items pre : List D) (s : Sl) (m : Mem), P pre s m →
    (∀ pre x post s m, P pre s m → pre ++ x :: post = pre ++ x :: post → ∃ s' m', (f x s m = .ok (.nx s') m' ∨ f x s m = .ok (.ct s') m') ∧ P (pre ++ [x]) s' m') →
    ∃ s' m', forM' f items s m = .ok (.nx s') m' ∧ P (pre ++ items) s' m'
  | [], pre, s, m, h, _ => ⟨s, m, rfl, by rw [List.append_nil]; exact h⟩
  | x :: r, pre, s, m, h, step => by
    obtain ⟨s1, m1, e, h1⟩ := step pre x r s m h rfl
    obtain ⟨s2, m2, e2, h2⟩ := for_thru P r (pre ++ [x]) s1 m1 h1 step
    refine ⟨s2, m2, ?_, by rw [List.append_assoc] at h2; exact h2⟩
    show bnd (f x s) _ m = _
    rcases e with e | e
    · rw [bnd_ok e]; exact e2
    · rw [bnd_ok e]; exact e2
/-- a loop over known items, each turn within them -/
theorem for_all {f : D → Sl → Mo Fl} {items : List D} (P : Nat → Sl → Mem → Prop) {s : Sl} {m : Mem} (h0 : P 0 s m)
    (step : ∀ i x s m, items[i]? = some x → P i s m → ∃ s' m', (f x s m = .ok (.nx s') m' ∨ f x s m = .ok (.ct s') m') ∧ P (i + 1) s' m') :
    ∃ s' m', forM' f items s m = .ok (.nx s') m' ∧ P items.length s' m' := by
  have : ∀ (l : List D) (k : Nat) (s : Sl) (m : Mem), (∀ i x, l[i]? = some x → items[k + i]? = some x) → P k s m → ∃ s' m', forM' f l s m = .ok (.nx s') m' ∧ P (k + l.length) s' m' := by
    intro l
    induction l with
    | nil => exact fun k s m _ h => ⟨s, m, rfl, h⟩
    | cons x r ih =>
      intro k s m hl h
      obtain ⟨s1, m1, e, h1⟩ := step k x s m (hl 0 x rfl) h
      obtain ⟨s2, m2, e2, h2⟩ := ih (k + 1) s1 m1 (fun i y hy => by have := hl (i + 1) y hy; rwa [Nat.add_assoc, Nat.add_comm 1 i]) h1
      refine ⟨s2, m2, ?_, by rw [List.length_cons]; rwa [Nat.add_assoc, Nat.add_comm 1] at h2⟩
      show bnd (f x s) _ m = _
      rcases e with e | e
      · rw [bnd_ok e]; exact e2
      · rw [bnd_ok e]; exact e2
  obtain ⟨s', m', e, h⟩ := this items 0 s m (fun i x h => by rwa [Nat.zero_add]) h0
  exact ⟨s', m', e, by rwa [Nat.zero_add] at h⟩
/-- a loop that may hand out a value: the first turn that does -/
theorem for_look {f : D → Sl → Mo Fl} (P : Nat → Sl → Mem → Prop) (R : RV → Mem → Prop) {items : List D} {s : Sl} {m : Mem} (h0 : P 0 s m)
    (step : ∀ i x s m, items[i]? = some x → P i s m → (∃ s' m', (f x s m = .ok (.nx s') m' ∨ f x s m = .ok (.ct s') m') ∧ P (i + 1) s' m') ∨ ∃ r m', f x s m = .ok (.rt r) m' ∧ R r m') :
    (∃ s' m', forM' f items s m = .ok (.nx s') m' ∧ P items.length s' m') ∨ ∃ r m', forM' f items s m = .ok (.rt r) m' ∧ R r m' := by
  have : ∀ (l : List D) (k : Nat) (s : Sl) (m : Mem), (∀ i x, l[i]? = some x → items[k + i]? = some x) → P k s m → (∃ s' m', forM' f l s m = .ok (.nx s') m' ∧ P (k + l.length) s' m') ∨ ∃ r m', forM' f l s m = .ok (.rt r) m' ∧ R r m' := by
    intro l
    induction l with
    | nil => exact fun k s m _ h => .inl ⟨s, m, rfl, h⟩
    | cons x r ih =>
      intro k s m hl h
      rcases step k x s m (hl 0 x rfl) h with ⟨s1, m1, e, h1⟩ | ⟨v, m1, e, h1⟩
      · have key := ih (k + 1) s1 m1 (fun i y hy => by have := hl (i + 1) y hy; rwa [Nat.add_assoc, Nat.add_comm 1 i]) h1
        have e2 : forM' f (x :: r) s m = forM' f r s1 m1 := by
          show bnd (f x s) _ m = _
          rcases e with e | e
          · rw [bnd_ok e]
          · rw [bnd_ok e]
        rw [e2, List.length_cons]
        rwa [Nat.add_assoc, Nat.add_comm 1] at key
      · refine .inr ⟨v, m1, ?_, h1⟩
        show bnd (f x s) _ m = _
        rw [bnd_ok e]
        rfl
  rcases this items 0 s m (fun i x h => by rwa [Nat.zero_add]) h0 with ⟨s', m', e, h⟩ | h
  · exact .inl ⟨s', m', e, by rwa [Nat.zero_add] at h⟩
  · exact .inr h
/-- comprehensions whose turns keep the cells as they are -/
theorem lc_pur {f : D → Mo (Option D)} {g : D → Option D} : ∀ (items : List D), (∀ x ∈ items, f x = pur (g x)) → lcM f items = pur (items.filterMap g)
  | [], _ => rfl
  | x :: r, h => by
    show bnd (f x) (fun y => bnd (lcM f r) fun ys => pur (match y with
      | some y => y :: ys
      | none => ys)) = _
    rw [h x (List.mem_cons_self ..), bnd_pur, lc_pur r fun y hy => h y (List.mem_cons_of_mem _ hy), bnd_pur, List.filterMap_cons]
    cases g x <;> rfl
theorem lc_map {f : D → Mo (Option D)} {g : D → D} (items : List D) (h : ∀ x ∈ items, f x = pur (some (g x))) : lcM f items = pur (items.map g) := by
  rw [lc_pur (g := fun x => some (g x)) items h, List.filterMap_eq_map']
theorem dc_pur {f : D → Mo (Option (Key × D))} {g : D → Key × D} : ∀ (items : List D) (acc : List (Key × D)), (∀ x ∈ items, f x = pur (some (g x))) → dcM f items acc = pur (items.foldl (fun acc x => putA acc (g x).1 (g x).2) acc)
  | [], acc, _ => rfl
  | x :: r, acc, h => by
    show bnd (f x) (fun y => dcM f r (match y with
      | some (k, v) => putA acc k v
      | none => acc)) = _
    rw [h x (List.mem_cons_self ..), bnd_pur]
    exact dc_pur r _ fun y hy => h y (List.mem_cons_of_mem _ hy)
/-! ### calls -/
/-- a body that hands out a frozen tree or a new one, from any cells -/
theorem call_pur {k f : Nat} {vs : List Val} {fd : Fd} {r : RV} (hf : md.fns[f]? = some fd) (hl : vs.length = fd.ps) (ho : ∀ n0, outM n0 (.rt r) = pur r)
    (h : ∀ m, ∃ m', exs md (callI md k) fd.body (startS vs fd.n) m = .ok (.rt r) (m ++ m')) : callI md (k + 1) f vs = pur r := by
  funext m
  rw [callI_some hf hl]
  obtain ⟨m', e⟩ := h m
  unfold bodyM
  rw [bnd_ok e, ho]
  show Rs.ok r ((m ++ m').take m.length) = .ok r m
  rw [List.take_left']
  rfl
theorem out_d (n0 : Nat) (x : D) : outM n0 (.rt (.d x)) = pur (.d x) := rfl
theorem out_o (n0 : Nat) (x : D) : outM n0 (.rt (.o x)) = pur (.o x) := rfl
/-- a body that needs no cells -/
theorem call_d {k f : Nat} {vs : List Val} {fd : Fd} {x : D} (hf : md.fns[f]? = some fd) (hl : vs.length = fd.ps) (h : exs md (callI md k) fd.body (startS vs fd.n) = pur (.rt (.d x))) : callI md (k + 1) f vs = pur (.d x) :=
  call_pur hf hl (fun _ => rfl) fun m => ⟨[], by rw [h, List.append_nil]; rfl⟩
theorem call_o {k f : Nat} {vs : List Val} {fd : Fd} {x : D} (hf : md.fns[f]? = some fd) (hl : vs.length = fd.ps) (h : exs md (callI md k) fd.body (startS vs fd.n) = pur (.rt (.o x))) : callI md (k + 1) f vs = pur (.o x) :=
  call_pur hf hl (fun _ => rfl) fun m => ⟨[], by rw [h, List.append_nil]; rfl⟩
theorem call_nx {k f : Nat} {vs : List Val} {fd : Fd} {s : Sl} (hf : md.fns[f]? = some fd) (hl : vs.length = fd.ps) (h : exs md (callI md k) fd.body (startS vs fd.n) = pur (.nx s)) : callI md (k + 1) f vs = pur (.d .non) := by
  funext m
  rw [callI_some hf hl]
  unfold bodyM
  rw [h, bnd_pur]
  show Rs.ok _ (m.take m.length) = .ok _ m
  rw [List.take_length]
/-- a body that hands out the list or dict of its first cell -/
theorem call_cell {k f : Nat} {vs : List Val} {fd : Fd} {x : D} (hf : md.fns[f]? = some fd) (hl : vs.length = fd.ps)
    (h : ∀ m, ∃ m' n, m.length ≤ n ∧ (m ++ m')[n]? = some (.fl x) ∧ exs md (callI md k) fd.body (startS vs fd.n) m = .ok (.rt (.c n)) (m ++ m')) : callI md (k + 1) f vs = pur (.o x) := by
  funext m
  rw [callI_some hf hl]
  obtain ⟨m', n, hn, hc, e⟩ := h m
  unfold bodyM
  rw [bnd_ok e, outM_c, if_neg (by omega), hc]
  show Rs.ok _ ((m ++ m').take m.length) = .ok _ m
  rw [List.take_left']
  rfl
end
/-! ### cells -/
theorem get_end {α : Type} (m : List α) (c : α) (r : List α) : (m ++ c :: r)[m.length]? = some c := by
  rw [List.getElem?_append_right (Nat.le_refl _), Nat.sub_self]
  rfl
theorem set_end {α : Type} (m : List α) (c d : α) (r : List α) : (m ++ c :: r).set m.length d = m ++ d :: r := by
  rw [List.set_append_right _ _ (Nat.le_refl _), Nat.sub_self]
  rfl
theorem get_end2 {α : Type} (m : List α) (b c : α) (r : List α) : (m ++ b :: c :: r)[m.length + 1]? = some c := by
  rw [List.getElem?_append_right (Nat.le_succ _)]
  show (b :: c :: r)[m.length + 1 - m.length]? = _
  rw [Nat.add_sub_cancel_left]
  rfl
end Fw
namespace Fw
open PySem L2
theorem st_nm (s : Sl) (i : Nat) (x : D) : setT s (.nm i) x = some (s.set i (some (.d x))) := rfl
theorem st_2 (s : Sl) (i j : Nat) (x y : D) : setT s (.tp [i, j]) (.tup [x, y]) = some ((s.set i (some (.d x))).set j (some (.d y))) := rfl
theorem st_2l (s : Sl) (i j : Nat) (x y : D) : setT s (.tp [i, j]) (.lst [x, y]) = some ((s.set i (some (.d x))).set j (some (.d y))) := rfl
theorem fm_nil (f : D → Sl → Mo Fl) (s : Sl) : forM' f [] s = pur (.nx s) := rfl
theorem fm_cons (f : D → Sl → Mo Fl) (x : D) (r : List D) (s : Sl) : forM' f (x :: r) s = bnd (f x s) fun fl => (match fl with
    | .nx s' => forM' f r s'
    | .ct s' => forM' f r s'
    | .bk s' => pur (.nx s')
    | fl => pur fl) := rfl
theorem start_s (vs : List Val) (n : Nat) : startS vs n = vs.map some ++ List.replicate (n - vs.length) none := rfl
theorem wp_nil (s : Sl) : wipeS s [] = s := rfl
theorem wp_1 (s : Sl) (a : Nat) : wipeS s [a] = s.set a none := rfl
theorem wp_2 (s : Sl) (a b : Nat) : wipeS s [a, b] = (s.set b none).set a none := rfl
theorem bodyM_rt {md : Md} {k : Nat} {fd : Fd} {vs : List Val} {d : D} {m x : Mem} (h : exs md (callI md k) fd.body (startS vs fd.n) m = .ok (.rt (.d d)) (m ++ x)) : bodyM md k fd vs m = .ok (.d d) m := by
  unfold bodyM
  rw [bnd_ok h]
  show Rs.ok _ ((m ++ x).take m.length) = _
  rw [List.take_left']
  rfl
theorem bodyM_rt0 {md : Md} {k : Nat} {fd : Fd} {vs : List Val} {d : D} {m : Mem} (h : exs md (callI md k) fd.body (startS vs fd.n) m = .ok (.rt (.d d)) m) : bodyM md k fd vs m = .ok (.d d) m :=
  bodyM_rt (x := []) (by rw [List.append_nil]; exact h)
theorem bodyM_nx {md : Md} {k : Nat} {fd : Fd} {vs : List Val} {s : Sl} {m x : Mem} (h : exs md (callI md k) fd.body (startS vs fd.n) m = .ok (.nx s) (m ++ x)) : bodyM md k fd vs m = .ok (.d .non) m := by
  unfold bodyM
  rw [bnd_ok h]
  show Rs.ok _ ((m ++ x).take m.length) = _
  rw [List.take_left']
  rfl
theorem bodyM_o {md : Md} {k : Nat} {fd : Fd} {vs : List Val} {d : D} {m x : Mem} (h : exs md (callI md k) fd.body (startS vs fd.n) m = .ok (.rt (.o d)) (m ++ x)) : bodyM md k fd vs m = .ok (.o d) m := by
  unfold bodyM
  rw [bnd_ok h]
  show Rs.ok _ ((m ++ x).take m.length) = _
  rw [List.take_left']
  rfl
theorem bodyM_c {md : Md} {k : Nat} {fd : Fd} {vs : List Val} {d : D} {m x : Mem} {n : Nat} (hn : m.length ≤ n) (hc : (m ++ x)[n]? = some (.fl d)) (h : exs md (callI md k) fd.body (startS vs fd.n) m = .ok (.rt (.c n)) (m ++ x)) : bodyM md k fd vs m = .ok (.o d) m := by
  unfold bodyM
  rw [bnd_ok h, outM_c, if_neg (by omega), hc]
  show Rs.ok _ ((m ++ x).take m.length) = .ok _ m
  rw [List.take_left']
  rfl
/-- the list, kept in the first cell -/
theorem bodyM_c0 {md : Md} {k : Nat} {fd : Fd} {vs : List Val} {d : D} {m : Mem} {x : Mem} (h : exs md (callI md k) fd.body (startS vs fd.n) m = .ok (.rt (.c m.length)) (m ++ .fl d :: x)) : bodyM md k fd vs m = .ok (.o d) m :=
  bodyM_c (Nat.le_refl _) (get_end ..) h
end Fw
namespace Fw
open PySem L2
/-- a text's first part is run, then the rest -/
theorem exs_app {md : Md} {cf : Nat → List Val → Mo RV} {l2 : List Sm} : ∀ (l1 : List Sm) {s s' : Sl} {m m' : Mem}, exs md cf l1 s m = .ok (.nx s') m' → exs md cf (l1 ++ l2) s m = exs md cf l2 s' m'
  | [], s, s', m, m', h => by cases h; rfl
  | a :: l, s, s', m, m', h => by
    rw [List.cons_append, x_cons]
    rw [x_cons] at h
    cases q : ex md cf a s m with
    | no => rw [bnd_noo q] at h; cases h
    | rz x m1 => rw [bnd_rzo q] at h; cases h
    | ok fl m1 =>
      rw [bnd_ok q] at h ⊢
      cases fl with
      | nx s1 => exact exs_app l h
      | _ => cases h
end Fw

/-! L2: values compared, cut, walked. -/
namespace Fw
open PySem L2
open PySem.PyData (strOk)

/-! ### data without truth values and dicts: == is equality -/
mutual
def cln : D → Bool
  | .non => true
  | .int _ => true
  | .str x => strOk x
  | .tup xs => clns xs
  | .lst xs => clns xs
  | _ => false
def clns : List D → Bool
  | [] => true
  | x :: r => cln x && clns r
end
mutual
def dep : D → Nat
  | .tup xs => deps xs + 1
  | .lst xs => deps xs + 1
  | _ => 0
def deps : List D → Nat
  | [] => 0
  | x :: r => max (dep x) (deps r)
end
mutual
theorem cln_pln : ∀ d : D, cln d = true → pln d = true
  | .non, _ => rfl
  | .int _, _ => rfl
  | .str _, _ => rfl
  | .bl _, h => by cases h
  | .dK _, h => by cases h
  | .dT _, h => by cases h
  | .ins _ _, h => by cases h
  | .tup xs, h => by simp only [cln] at h; simp only [pln]; exact clns_plns xs h
  | .lst xs, h => by simp only [cln] at h; simp only [pln]; exact clns_plns xs h
theorem clns_plns : ∀ l : List D, clns l = true → plns l = true
  | [], _ => rfl
  | x :: r, h => by
    simp only [clns, Bool.and_eq_true] at h
    simp only [plns, Bool.and_eq_true]
    exact ⟨cln_pln x h.1, clns_plns r h.2⟩
end
mutual
theorem cln_lay : ∀ d : D, cln d = true → (py d).canLay0 = true
  | .non, _ => rfl
  | .int _, _ => rfl
  | .str x, h => by simp only [cln] at h; simp only [py, PyData.canLay0]; exact h
  | .bl _, h => by cases h
  | .dK _, h => by cases h
  | .dT _, h => by cases h
  | .ins _ _, h => by cases h
  | .tup xs, h => by simp only [cln] at h; simp only [py, PyData.canLay0]; exact clns_lay xs h
  | .lst xs, h => by simp only [cln] at h; simp only [py, PyData.canLay0]; exact clns_lay xs h
theorem clns_lay : ∀ l : List D, clns l = true → PyData.canLayAll0 (pys l) = true
  | [], _ => rfl
  | x :: r, h => by
    simp only [clns, Bool.and_eq_true] at h
    simp only [pys, PyData.canLayAll0, Bool.and_eq_true]
    exact ⟨cln_lay x h.1, clns_lay r h.2⟩
end
mutual
theorem cln_dep : ∀ d : D, cln d = true → (py d).depth = dep d
  | .non, _ => rfl
  | .int _, _ => rfl
  | .str x, h => rfl
  | .bl _, h => by cases h
  | .dK _, h => by cases h
  | .dT _, h => by cases h
  | .ins _ _, h => by cases h
  | .tup xs, h => by simp only [cln] at h; simp only [py, PyData.depth, dep, clns_dep xs h]
  | .lst xs, h => by simp only [cln] at h; simp only [py, PyData.depth, dep, clns_dep xs h]
theorem clns_dep : ∀ l : List D, clns l = true → PyData.depthAll (pys l) = deps l
  | [], _ => rfl
  | x :: r, h => by
    simp only [clns, Bool.and_eq_true] at h
    simp only [pys, PyData.depthAll, deps, cln_dep x h.1, clns_dep r h.2]
end
theorem cln_shp {d : D} (h : cln d = true) (k : dep d ≤ 64) : shp d = true := by
  unfold shp SeqAt.shaped
  rw [cln_pln d h, cln_lay d h, cln_dep d h]
  simpa using k
mutual
theorem eqv_cln : ∀ (a b : D), cln a = true → cln b = true → (PyData.eqv (py a) (py b) = true ↔ a = b)
  | .non, b, _, hb => by cases b <;> first | (cases hb; done) | simp [py, PyData.eqv]
  | .int i, b, _, hb => by cases b <;> first | (cases hb; done) | simp [py, PyData.eqv]
  | .str x, b, _, hb => by cases b <;> first | (cases hb; done) | simp [py, PyData.eqv]
  | .bl _, _, h, _ => by cases h
  | .dK _, _, h, _ => by cases h
  | .dT _, _, h, _ => by cases h
  | .ins _ _, _, h, _ => by cases h
  | .tup xs, b, h, hb => by
    simp only [cln] at h
    cases b <;> first | (cases hb; done) | skip
    · simp [py, PyData.eqv]
    · simp [py, PyData.eqv]
    · simp [py, PyData.eqv]
    · rename_i ys
      simp only [cln] at hb
      simp only [py, PyData.eqv, D.tup.injEq]
      exact eqv_clns xs ys h hb
    · simp [py, PyData.eqv]
  | .lst xs, b, h, hb => by
    simp only [cln] at h
    cases b <;> first | (cases hb; done) | skip
    · simp [py, PyData.eqv]
    · simp [py, PyData.eqv]
    · simp [py, PyData.eqv]
    · simp [py, PyData.eqv]
    · rename_i ys
      simp only [cln] at hb
      simp only [py, PyData.eqv, D.lst.injEq]
      exact eqv_clns xs ys h hb
theorem eqv_clns : ∀ (a b : List D), clns a = true → clns b = true → (PyData.eqvAll (pys a) (pys b) = true ↔ a = b)
  | [], [], _, _ => by simp [pys, PyData.eqvAll]
  | [], _ :: _, _, _ => by simp [pys, PyData.eqvAll]
  | _ :: _, [], _, _ => by simp [pys, PyData.eqvAll]
  | x :: xs, y :: ys, ha, hb => by
    simp only [clns, Bool.and_eq_true] at ha hb
    simp only [pys, PyData.eqvAll, Bool.and_eq_true, List.cons.injEq]
    rw [eqv_cln x y ha.1 hb.1, eqv_clns xs ys ha.2 hb.2]
end
open Classical in
theorem eqv_dec {a b : D} (ha : cln a = true) (hb : cln b = true) : PyData.eqv (py a) (py b) = decide (a = b) := by
  rw [Bool.eq_iff_iff, decide_eq_true_iff]
  exact eqv_cln a b ha hb
theorem eqD_of {a b : D} (ha : cln a = true) (hb : cln b = true) (ka : dep a ≤ 64) (kb : dep b ≤ 64) : eqD a b = some (PyData.eqv (py a) (py b)) := by
  have e : (if shp a = true ∧ shp b = true then some (PyData.eqv (py a) (py b)) else none) = some (PyData.eqv (py a) (py b)) := if_pos ⟨cln_shp ha ka, cln_shp hb kb⟩
  cases a <;> first | exact e | (cases ha; done)
open Classical in
theorem eqD_cln {a b : D} (ha : cln a = true) (hb : cln b = true) (ka : dep a ≤ 64) (kb : dep b ≤ 64) : eqD a b = some (decide (a = b)) := by rw [eqD_of ha hb ka kb, eqv_dec ha hb]
theorem eq_int (i j : Int) : eqD (.int i) (.int j) = some (decide (i = j)) := by
  classical
  rw [eqD_cln rfl rfl (Nat.zero_le _) (Nat.zero_le _)]
  simp
theorem eq_str {x y : Str} (hx : strOk x = true) (hy : strOk y = true) : eqD (.str x) (.str y) = some (decide (x = y)) := by
  classical
  rw [eqD_cln (by simp only [cln]; exact hx) (by simp only [cln]; exact hy) (Nat.zero_le _) (Nat.zero_le _)]
  simp
/-! ### words -/
def wD (w : List Str) : D := .lst (w.map .str)
def OkS (l : List Str) : Prop := ∀ x ∈ l, strOk x = true
theorem clns_of {l : List D} (h : ∀ x ∈ l, cln x = true) : clns l = true := by
  induction l with
  | nil => rfl
  | cons x r ih => simp only [clns, Bool.and_eq_true]; exact ⟨h x (List.mem_cons_self ..), ih fun y hy => h y (List.mem_cons_of_mem _ hy)⟩
theorem deps_of {l : List D} {n : Nat} (h : ∀ x ∈ l, dep x ≤ n) : deps l ≤ n := by
  induction l with
  | nil => exact Nat.zero_le _
  | cons x r ih => simp only [deps]; exact Nat.max_le.mpr ⟨h x (List.mem_cons_self ..), ih fun y hy => h y (List.mem_cons_of_mem _ hy)⟩
theorem cln_str {x : Str} (h : strOk x = true) : cln (.str x) = true := by simp only [cln]; exact h
theorem cln_strs {l : List Str} (h : OkS l) : clns (l.map .str) = true := clns_of fun x hx => by
  obtain ⟨y, hy, rfl⟩ := List.mem_map.mp hx
  exact cln_str (h y hy)
theorem deps_strs (l : List Str) : deps (l.map .str) = 0 := Nat.le_zero.mp (deps_of fun x hx => by
  obtain ⟨y, _, rfl⟩ := List.mem_map.mp hx
  exact Nat.le_refl _)
theorem cln_w {w : List Str} (h : OkS w) : cln (wD w) = true := by
  unfold wD
  simp only [cln]
  exact cln_strs h
theorem dep_w (w : List Str) : dep (wD w) = 1 := by
  unfold wD
  simp only [dep, deps_strs]
theorem str_inj : Function.Injective D.str := fun a b h => by cases h; rfl
theorem map_str {v w : List Str} : v.map D.str = w.map .str ↔ v = w := by
  constructor
  · intro h
    induction v generalizing w with
    | nil => cases w <;> first | rfl | cases h
    | cons x v ih =>
      cases w with
      | nil => cases h
      | cons y w =>
        simp only [List.map_cons, List.cons.injEq, D.str.injEq] at h
        rw [h.1, ih h.2]
  · rintro rfl; rfl
theorem wD_inj {v w : List Str} : wD v = wD w ↔ v = w := by
  unfold wD
  rw [D.lst.injEq, map_str]
theorem eq_w {v w : List Str} (hv : OkS v) (hw : OkS w) : eqD (wD v) (wD w) = some (decide (v = w)) := by
  classical
  rw [eqD_cln (cln_w hv) (cln_w hw) (by rw [dep_w]; decide) (by rw [dep_w]; decide)]
  congr 1
  exact decide_eq_decide.mpr wD_inj
/-- lists of words -/
def wsD (l : List (List Str)) : D := .lst (l.map wD)
theorem cln_ws {l : List (List Str)} (h : ∀ w ∈ l, OkS w) : cln (wsD l) = true := by
  unfold wsD
  simp only [cln]
  exact clns_of fun x hx => by
    obtain ⟨y, hy, rfl⟩ := List.mem_map.mp hx
    exact cln_w (h y hy)
theorem dep_ws (l : List (List Str)) : dep (wsD l) ≤ 2 := by
  unfold wsD
  simp only [dep]
  exact Nat.succ_le_succ (deps_of fun x hx => by
    obtain ⟨y, _, rfl⟩ := List.mem_map.mp hx
    exact Nat.le_of_eq (dep_w y))
theorem map_wD {v w : List (List Str)} : v.map wD = w.map wD ↔ v = w := by
  constructor
  · intro h
    induction v generalizing w with
    | nil => cases w <;> first | rfl | cases h
    | cons x v ih =>
      cases w with
      | nil => cases h
      | cons y w =>
        simp only [List.map_cons, List.cons.injEq] at h
        rw [wD_inj.mp h.1, ih h.2]
  · rintro rfl; rfl
theorem eq_ws {v w : List (List Str)} (hv : ∀ x ∈ v, OkS x) (hw : ∀ x ∈ w, OkS x) : eqD (wsD v) (wsD w) = some (decide (v = w)) := by
  classical
  rw [eqD_cln (cln_ws hv) (cln_ws hw) (Nat.le_trans (dep_ws _) (by decide)) (Nat.le_trans (dep_ws _) (by decide))]
  congr 1
  refine decide_eq_decide.mpr ?_
  unfold wsD
  rw [D.lst.injEq, map_wD]
/-- a word among words -/
theorem in_ws {w : List Str} {l : List (List Str)} (hw : OkS w) (hl : ∀ x ∈ l, OkS x) : inD (wD w) (wsD l) = some (decide (w ∈ l)) := by
  have s1 : shp (wD w) = true := cln_shp (cln_w hw) (by rw [dep_w]; decide)
  have s2 : shp (.lst (l.map wD)) = true := cln_shp (cln_ws hl) (Nat.le_trans (dep_ws l) (by decide))
  show (if shp (wD w) = true ∧ shp (.lst (l.map wD)) = true then some ((l.map wD).any fun z => PyData.eqv (py z) (py (wD w))) else none) = _
  rw [if_pos ⟨s1, s2⟩]
  congr 1
  rw [Bool.eq_iff_iff, List.any_eq_true, decide_eq_true_iff]
  constructor
  · rintro ⟨z, hz, e⟩
    obtain ⟨y, hy, rfl⟩ := List.mem_map.mp hz
    rw [← wD_inj.mp ((eqv_cln _ _ (cln_w (hl y hy)) (cln_w hw)).mp e)]
    exact hy
  · exact fun h => ⟨_, List.mem_map.mpr ⟨w, h, rfl⟩, (eqv_cln _ _ (cln_w hw) (cln_w hw)).mpr rfl⟩
/-- a text among texts -/
theorem in_strs (x : Str) (ns : List Str) : inD (.str x) (.tup (ns.map .str)) = some (decide (x ∈ ns)) := by
  show (if flatB (.str x) = true ∧ (ns.map D.str).all flatB = true then some ((ns.map D.str).any fun z => PyData.eqv (py z) (py (.str x))) else none) = _
  rw [if_pos ⟨rfl, by rw [List.all_eq_true]; intro z hz; obtain ⟨y, _, rfl⟩ := List.mem_map.mp hz; rfl⟩]
  congr 1
  rw [Bool.eq_iff_iff, List.any_eq_true, decide_eq_true_iff]
  constructor
  · rintro ⟨z, hz, e⟩
    obtain ⟨y, hy, rfl⟩ := List.mem_map.mp hz
    have : (y == x) = true := e
    rw [← eq_of_beq this]
    exact hy
  · exact fun h => ⟨_, List.mem_map.mpr ⟨x, h, rfl⟩, beq_self_eq_true x⟩
theorem in_strsL {x : Str} {ns : List Str} (hx : strOk x = true) (hn : OkS ns) : inD (.str x) (.lst (ns.map .str)) = some (decide (x ∈ ns)) := by
  have s1 : shp (.str x) = true := cln_shp (cln_str hx) (Nat.zero_le _)
  have s2 : shp (.lst (ns.map .str)) = true := cln_shp (cln_w hn) (by show dep (wD ns) ≤ 64; rw [dep_w]; decide)
  show (if shp (.str x) = true ∧ shp (.lst (ns.map .str)) = true then some ((ns.map D.str).any fun z => PyData.eqv (py z) (py (.str x))) else none) = _
  rw [if_pos ⟨s1, s2⟩]
  congr 1
  rw [Bool.eq_iff_iff, List.any_eq_true, decide_eq_true_iff]
  constructor
  · rintro ⟨z, hz, e⟩
    obtain ⟨y, hy, rfl⟩ := List.mem_map.mp hz
    have : (y == x) = true := e
    rw [← eq_of_beq this]
    exact hy
  · exact fun h => ⟨_, List.mem_map.mpr ⟨x, h, rfl⟩, beq_self_eq_true x⟩
/-! ### slices by numbers that are not negative -/
theorem cut_to {α : Type} (xs : List α) (n : Nat) : cutL xs none (some (n : Int)) = xs.take n := by
  unfold cutL
  rw [HT.sIx_none, HT.sIx_nat, List.drop_zero, Nat.sub_zero]
  by_cases h : n ≤ xs.length
  · rw [Nat.min_eq_left h]
  · rw [Nat.min_eq_right (by omega), List.take_length, List.take_of_length_le (by omega)]
theorem cut_from {α : Type} (xs : List α) (n : Nat) : cutL xs (some (n : Int)) none = xs.drop n := by
  unfold cutL
  rw [HT.sIx_none, HT.sIx_nat]
  by_cases h : n ≤ xs.length
  · rw [Nat.min_eq_left h, List.take_of_length_le (by rw [List.length_drop]; omega)]
  · rw [Nat.min_eq_right (by omega), Nat.sub_self, List.take_zero, List.drop_of_length_le (by omega)]
theorem cut_mid {α : Type} (xs : List α) (a b : Nat) : cutL xs (some (a : Int)) (some (b : Int)) = (xs.drop a).take (b - a) := by
  unfold cutL
  rw [HT.sIx_nat, HT.sIx_nat]
  by_cases ha : a ≤ xs.length
  · rw [Nat.min_eq_left ha]
    by_cases hb : b ≤ xs.length
    · rw [Nat.min_eq_left hb]
    · rw [Nat.min_eq_right (by omega), List.take_of_length_le (by rw [List.length_drop]; omega), List.take_of_length_le (by rw [List.length_drop]; omega)]
  · have h1 : xs.drop (min a xs.length) = [] := List.drop_of_length_le (by omega)
    have h2 : xs.drop a = [] := List.drop_of_length_le (by omega)
    rw [h1, h2, List.take_nil, List.take_nil]
theorem cut_map {α β : Type} (f : α → β) (xs : List α) (lo hi : Option Int) : cutL (xs.map f) lo hi = (cutL xs lo hi).map f := by
  unfold cutL
  rw [List.length_map, ← List.map_drop, ← List.map_take]
theorem at_nat {α : Type} {xs : List α} {i : Nat} {x : α} (h : xs[i]? = some x) : atI xs (i : Int) = some x := by
  exact L2.atI_nat h
/-! ### walks -/
theorem it_lst (xs : List D) : itD .seq [.lst xs] = some xs := rfl
theorem it_tup (xs : List D) : itD .seq [.tup xs] = some xs := rfl
theorem it_rng {n : Int} (h : n ≤ 16777216) (k : -(2 ^ 62) ≤ n) : itD .rng [.int n] = some ((List.range n.toNat).map fun i => .int (i : Nat)) := by
  show (if -(2 ^ 62) ≤ n ∧ n ≤ 16777216 then some (rngD 0 n) else none) = _
  rw [if_pos ⟨k, h⟩]
  unfold rngD
  simp
end Fw

/-! B: bodies that many laws share; r: how a raise is taken. -/
namespace Fw.B
open PySem L2 Fw
section
variable (r : Nat → Ep → Sm)
/-- is_integer -/
def f0 : Fd := ⟨1, 1, [.ret (.and_ (.isi (.v 0) [.tint]) (.not_ (.isi (.v 0) [.tbool])))]⟩
/-- is_between -/
def f1 : Fd := ⟨3, 3, [.ret (.and_ (.call 0 [(.v 0)]) (.chain .le .le (.v 1) (.v 0) (.v 2)))]⟩
/-- unit_position -/
def f2 : Fd := ⟨1, 2, [.ret (.dc [1] (.nm 1) .seq [(.prop 16 (.v 0))] [] (.v 1) (.k (.int 1)))]⟩
/-- flipped -/
def f3 : Fd := ⟨3, 6, [.asg 3 (.sub (.v 1) (.v 2)), .asgM 4 (.dc [5] (.nm 5) .seq [(.prop 16 (.v 0))] [] (.v 5) (.bin .add (.sub (.v 1) (.v 5)) (.bin .mul (.or_ (.meth 19 (.v 0) [(.v 2), (.v 5)]) (.k (.int 0))) (.v 3)))), .setI (.v 4) (.v 2) (.neg (.v 3)), .ret (.v 4)]⟩
/-- after -/
def f4 : Fd := ⟨3, 4, [.for_ (.nm 3) .seq [(.v 2)] [.asg 1 (.call 3 [(.v 0), (.v 1), (.v 3)])], .ret (.v 1)]⟩
/-- negatives -/
def f5 : Fd := ⟨2, 3, [.ret (.lc [2] (.nm 2) .seq [(.prop 16 (.v 0))] [(.cmp .lt (.sub (.v 1) (.v 2)) (.k (.int 0)))] (.v 2))]⟩
/-- play -/
def f6 : Fd := ⟨3, 6, [.asgM 3 (.lst []), .while_ (.k (.bl true)) [.asg 4 (.lc [5] (.nm 5) .seq [(.call 5 [(.v 0), (.v 1)])] [(.cmp .in_ (.v 5) (.v 2))] (.v 5)), .if_ (.cmp .eq (.v 4) (.lst [])) [.ret (.v 3)] [], .mm .append (.v 3) [(.sub (.v 4) (.k (.int 0)))], .asg 1 (.call 3 [(.v 0), (.v 1), (.sub (.v 4) (.k (.int 0)))])]]⟩
/-- key_of -/
def f7 : Fd := ⟨2, 3, [.ret (.bi .tuple_ [(.lc [2] (.nm 2) .seq [(.prop 16 (.v 0))] [] (.sub (.v 1) (.v 2)))])]⟩
/-- normal_of -/
def f8 : Fd := ⟨2, 2, [.ret (.call 6 [(.v 0), (.call 4 [(.v 0), (.call 2 [(.v 0)]), (.rev (.v 1))]), (.prop 16 (.v 0))])]⟩
/-- is_position -/
def f20 : Fd := ⟨2, 3, [.if_ (.or_ (.not_ (.isi (.v 1) [.tdict])) (.cmp .ne (.bi .len [(.v 1)]) (.bi .len [(.prop 16 (.v 0))]))) [.ret (.k (.bl false))] [], .ret (.bi .all_ [(.lc [2] (.nm 2) .keys [(.v 1)] [] (.and_ (.meth 12 (.v 0) [(.v 2)]) (.call 0 [(.sub (.v 1) (.v 2))])))])]⟩
/-- require_position -/
def f21 : Fd := ⟨2, 2, [.if_ (.not_ (.call 20 [(.v 0), (.v 1)])) [r 6 (.v 1)] []]⟩
/-- ones -/
def f22 : Fd := ⟨1, 1, [.ret (.call 2 [(.v 0)])]⟩
/-- flip -/
def f23 : Fd := ⟨3, 3, [.ex (.call 21 [(.v 0), (.v 1)]), .if_ (.not_ (.meth 12 (.v 0) [(.v 2)])) [r 13 (.v 2)] [], .ret (.call 3 [(.v 0), (.v 1), (.v 2)])]⟩
/-- is_node -/
def f24 : Fd := ⟨1, 2, [.ret (.and_ (.isi (.v 0) [.tstr]) (.and_ (.chain .le .le (.k (.int 1)) (.bi .len [(.v 0)]) (.gc 1 (.int 8))) (.bi .all_ [(.lc [1] (.nm 1) .seq [(.v 0)] [] (.cmp .in_ (.v 1) (.gc 0 (.str (S "abcdefghijklmnopqrstuvwxyz")))))])))]⟩
/-- are_nodes -/
def f25 : Fd := ⟨1, 2, [.if_ (.or_ (.not_ (.isi (.v 0) [.tlist, .ttuple])) (.not_ (.bi .all_ [(.lc [1] (.nm 1) .seq [(.v 0)] [] (.call 24 [(.v 1)]))]))) [.ret (.k (.bl false))] [], .ret (.cmp .eq (.lenset (.v 0)) (.bi .len [(.v 0)]))]⟩
/-- Graph.__init__ -/
def f26 : Fd := ⟨4, 4, [.if_ (.or_ (.not_ (.call 25 [(.v 1)])) (.not_ (.chain .le .le (.k (.int 1)) (.bi .len [(.v 1)]) (.ccon 0 9 (.int 12))))) [r 5 (.k (.str (S "nodes")))] [], .setF 22 (.v 0) (.bi .tuple_ [(.v 1)]), .setW 23 (.v 0) (.dct true [] []), .ex (.meth 10 (.v 0) [(.k (.str (S "near"))), (.v 2), (.gc 3 (.int 1))]), .ex (.meth 10 (.v 0) [(.k (.str (S "free"))), (.v 3), (.gc 4 (.int 2))])]⟩
/-- Graph.add_pairs -/
def f27 : Fd := ⟨4, 7, [.if_ (.not_ (.isi (.v 2) [.tlist, .ttuple])) [r 5 (.v 1)] [], .for_ (.nm 4) .seq [(.v 2)] [.if_ (.not_ (.meth 11 (.v 0) [(.v 4)])) [r 5 (.v 1)] [], .asgT [5, 6] (.v 4), .setI (.attr 23 (.v 0)) (.tup [(.v 5), (.v 6)]) (.v 3), .setI (.attr 23 (.v 0)) (.tup [(.v 6), (.v 5)]) (.v 3)]]⟩
/-- Graph.is_new_pair -/
def f28 : Fd := ⟨2, 3, [.if_ (.or_ (.not_ (.isi (.v 1) [.ttuple])) (.or_ (.cmp .ne (.bi .len [(.v 1)]) (.k (.int 2))) (.not_ (.bi .all_ [(.lc [2] (.nm 2) .seq [(.v 1)] [] (.meth 12 (.v 0) [(.v 2)]))])))) [.ret (.k (.bl false))] [], .ret (.and_ (.cmp .ne (.sub (.v 1) (.k (.int 0))) (.sub (.v 1) (.k (.int 1)))) (.cmp .nin (.v 1) (.attr 23 (.v 0))))]⟩
/-- Graph.has_node -/
def f29 : Fd := ⟨2, 2, [.ret (.and_ (.isi (.v 1) [.tstr]) (.cmp .in_ (.v 1) (.attr 22 (.v 0))))]⟩
/-- Graph.pairs_of -/
def f30 : Fd := ⟨2, 6, [.asgM 2 (.lst []), .for_ (.tp [3, 4]) .enum_ [(.attr 22 (.v 0))] [.mm .extend (.v 2) [(.lc [5] (.nm 5) .seq [(.sl (.attr 22 (.v 0)) (.v 3) (.k .non))] [(.cmp .eq (.bm .get1 (.attr 23 (.v 0)) [(.tup [(.v 4), (.v 5)])]) (.v 1))] (.tup [(.v 4), (.v 5)]))]], .ret (.bi .tuple_ [(.v 2)])]⟩
/-- Graph.row -/
def f31 : Fd := ⟨2, 2, [.if_ (.or_ (.not_ (.call 25 [(.v 1)])) (.not_ (.chain .le .le (.k (.int 1)) (.bi .len [(.v 1)]) (.ccon 0 9 (.int 12))))) [r 5 (.k (.str (S "nodes")))] [], .ret (.mk 0 26 [(.v 1), (.lit .zip_ [(.v 1), (.sl (.v 1) (.k (.int 1)) (.k .non))]), (.lst [])])]⟩
/-- Graph.ring -/
def f32 : Fd := ⟨2, 2, [.if_ (.or_ (.not_ (.call 25 [(.v 1)])) (.not_ (.chain .le .le (.k (.int 3)) (.bi .len [(.v 1)]) (.ccon 0 9 (.int 12))))) [r 5 (.k (.str (S "nodes")))] [], .ret (.mk 0 26 [(.v 1), (.lit .zips_ [(.v 1), (.bin .add (.bi .list_ [(.sl (.v 1) (.k (.int 1)) (.k .non))]) (.lst [(.sub (.v 1) (.k (.int 0)))]))]), (.lst [])])]⟩
/-- Graph.nodes -/
def f33 : Fd := ⟨1, 1, [.ret (.attr 22 (.v 0))]⟩
/-- Graph.near -/
def f34 : Fd := ⟨1, 1, [.ret (.meth 13 (.v 0) [(.gc 3 (.int 1))])]⟩
/-- Graph.free -/
def f35 : Fd := ⟨1, 1, [.ret (.meth 13 (.v 0) [(.gc 4 (.int 2))])]⟩
/-- Graph.kind -/
def f36 : Fd := ⟨3, 4, [.for_ (.nm 3) .seq [(.tup [(.v 1), (.v 2)])] [.if_ (.not_ (.meth 12 (.v 0) [(.v 3)])) [r 13 (.v 3)] []], .ret (.ife (.cmp .eq (.v 1) (.v 2)) (.k .non) (.bm .get2 (.attr 23 (.v 0)) [(.tup [(.v 1), (.v 2)]), (.gc 2 (.int 0))]))]⟩
/-- Graph.links -/
def f37 : Fd := ⟨2, 5, [.asgM 2 (.lst []), .for_ (.nm 3) .seq [(.attr 22 (.v 0))] [.asg 4 (.bm .get2 (.attr 23 (.v 0)) [(.tup [(.v 1), (.v 3)]), (.gc 2 (.int 0))]), .if_ (.cmp .ne (.v 4) (.gc 2 (.int 0))) [.mm .append (.v 2) [(.tup [(.v 3), (.v 4)])]] []], .ret (.v 2)]⟩
/-- Graph.__eq__ -/
def f38 : Fd := ⟨2, 2, [.ret (.and_ (.isi (.v 1) [(.tcls 0)]) (.and_ (.cmp .eq (.attr 22 (.v 0)) (.attr 22 (.v 1))) (.cmp .eq (.attr 23 (.v 0)) (.attr 23 (.v 1)))))]⟩
/-- first_unknown -/
def f39 : Fd := ⟨2, 4, [.for_ (.tp [2, 3]) .enum_ [(.v 1)] [.if_ (.not_ (.meth 12 (.v 0) [(.v 3)])) [.ret (.v 2)] []], .ret (.k .non)]⟩
/-- is_word -/
def f40 : Fd := ⟨2, 2, [.ret (.and_ (.isi (.v 1) [.tlist, .ttuple]) (.cmp .is_ (.call 39 [(.v 0), (.v 1)]) (.k .non)))]⟩
/-- require_word -/
def f41 : Fd := ⟨2, 3, [.if_ (.not_ (.isi (.v 1) [.tlist, .ttuple])) [r 7 (.k .non)] [], .asg 2 (.call 39 [(.v 0), (.v 1)]), .if_ (.cmp .isn (.v 2) (.k .non)) [r 7 (.v 2)] []]⟩
/-- run -/
def f42 : Fd := ⟨3, 3, [.ex (.call 21 [(.v 0), (.v 1)]), .ex (.call 41 [(.v 0), (.v 2)]), .ret (.call 4 [(.v 0), (.bi .dict_ [(.v 1)]), (.v 2)])]⟩
/-- position_of -/
def f44 : Fd := ⟨2, 2, [.ex (.call 41 [(.v 0), (.v 1)]), .ret (.call 4 [(.v 0), (.call 2 [(.v 0)]), (.v 1)])]⟩
/-- is_double -/
def f45 : Fd := ⟨2, 3, [.for_ (.nm 2) .rng [(.bin .sub (.bi .len [(.v 0)]) (.k (.int 1)))] [.if_ (.and_ (.cmp .eq (.sub (.v 0) (.v 2)) (.sub (.v 0) (.bin .add (.v 2) (.k (.int 1))))) (.cmp .eq (.bin .add (.sl (.v 0) (.k .non) (.v 2)) (.sl (.v 0) (.bin .add (.v 2) (.k (.int 2))) (.k .non))) (.v 1))) [.ret (.k (.bl true))] []], .ret (.k (.bl false))]⟩
/-- kind_between -/
def f46 : Fd := ⟨3, 7, [.if_ (.cmp .eq (.bi .abs_ [(.bin .sub (.bi .len [(.v 1)]) (.bi .len [(.v 2)]))]) (.k (.int 2))) [.asgT [5, 6] (.ife (.cmp .gt (.bi .len [(.v 1)]) (.bi .len [(.v 2)])) (.tup [(.v 1), (.v 2)]) (.tup [(.v 2), (.v 1)])), .ret (.ife (.call 45 [(.v 5), (.v 6)]) (.k (.str (S "double"))) (.k .non))] [], .for_ (.tp [3, 4]) .seq [(.call 47 [(.v 0), (.v 1)])] [.if_ (.cmp .eq (.v 4) (.v 2)) [.ret (.ife (.cmp .eq (.meth 19 (.v 0) [(.sub (.v 1) (.v 3)), (.sub (.v 1) (.bin .add (.v 3) (.k (.int 1))))]) (.k (.int 0))) (.k (.str (S "far"))) (.k (.str (S "near"))))] []], .ret (.k .non)]⟩
/-- exchanged -/
def f47 : Fd := ⟨2, 6, [.asgM 2 (.lst []), .for_ (.nm 3) .rng [(.bin .sub (.bi .len [(.v 1)]) (.k (.int 1)))] [.par 4 5 false false (.sub (.v 1) (.v 3)) (.sub (.v 1) (.bin .add (.v 3) (.k (.int 1)))), .if_ (.cmp .eq (.meth 19 (.v 0) [(.v 4), (.v 5)]) (.k (.int 0))) [.mm .append (.v 2) [(.tup [(.v 3), (.bin .add (.bin .add (.sl (.v 1) (.k .non) (.v 3)) (.lst [(.v 5), (.v 4)])) (.sl (.v 1) (.bin .add (.v 3) (.k (.int 2))) (.k .non)))])]] [.if_ (.and_ (.cmp .eq (.meth 19 (.v 0) [(.v 4), (.v 5)]) (.k (.int 1))) (.cmp .eq (.sl (.v 1) (.bin .add (.v 3) (.k (.int 2))) (.bin .add (.v 3) (.k (.int 3)))) (.lst [(.v 4)]))) [.mm .append (.v 2) [(.tup [(.v 3), (.bin .add (.bin .add (.sl (.v 1) (.k .non) (.v 3)) (.lst [(.v 5), (.v 4), (.v 5)])) (.sl (.v 1) (.bin .add (.v 3) (.k (.int 3))) (.k .non)))])]] []]], .ret (.v 2)]⟩
/-- step_kind -/
def f48 : Fd := ⟨3, 3, [.ex (.call 41 [(.v 0), (.v 1)]), .ex (.call 41 [(.v 0), (.v 2)]), .ret (.call 46 [(.v 0), (.bi .list_ [(.v 1)]), (.bi .list_ [(.v 2)])])]⟩
/-- neighbours -/
def f49 : Fd := ⟨2, 4, [.ex (.call 41 [(.v 0), (.v 1)]), .ret (.lc [2, 3] (.tp [2, 3]) .seq [(.call 47 [(.v 0), (.bi .list_ [(.v 1)])])] [] (.v 3))]⟩
/-- is_derivation -/
def f50 : Fd := ⟨2, 5, [.if_ (.or_ (.not_ (.isi (.v 1) [.tlist])) (.cmp .eq (.v 1) (.lst []))) [.ret (.k (.bl false))] [], .if_ (.not_ (.bi .all_ [(.lc [4] (.nm 4) .seq [(.v 1)] [] (.and_ (.isi (.v 4) [.tlist]) (.call 40 [(.v 0), (.v 4)])))])) [.ret (.k (.bl false))] [], .ret (.bi .all_ [(.lc [2, 3] (.tp [2, 3]) .zips_ [(.sl (.v 1) (.k .non) (.neg (.k (.int 1)))), (.sl (.v 1) (.k (.int 1)) (.k .non))] [] (.cmp .isn (.call 46 [(.v 0), (.v 2), (.v 3)]) (.k .non)))])]⟩
/-- same -/
def f51 : Fd := ⟨3, 3, [.ex (.call 41 [(.v 0), (.v 1)]), .ex (.call 41 [(.v 0), (.v 2)]), .ret (.cmp .eq (.call 4 [(.v 0), (.call 2 [(.v 0)]), (.v 1)]) (.call 4 [(.v 0), (.call 2 [(.v 0)]), (.v 2)]))]⟩
/-- is_climb -/
def f52 : Fd := ⟨2, 4, [.asg 2 (.call 2 [(.v 0)]), .for_ (.nm 3) .seq [(.v 1)] [.if_ (.cmp .lt (.sub (.v 2) (.v 3)) (.k (.int 0))) [.ret (.k (.bl false))] [], .asg 2 (.call 3 [(.v 0), (.v 2), (.v 3)])], .ret (.k (.bl true))]⟩
/-- is_shortest -/
def f53 : Fd := ⟨2, 2, [.ex (.call 41 [(.v 0), (.v 1)]), .ret (.call 52 [(.v 0), (.v 1)])]⟩
/-- length_of -/
def f54 : Fd := ⟨2, 2, [.ret (.bi .len [(.call 6 [(.v 0), (.call 4 [(.v 0), (.call 2 [(.v 0)]), (.v 1)]), (.prop 16 (.v 0))])])]⟩
/-- length -/
def f55 : Fd := ⟨2, 2, [.ex (.call 41 [(.v 0), (.v 1)]), .ret (.call 54 [(.v 0), (.v 1)])]⟩
/-- normal -/
def f56 : Fd := ⟨2, 2, [.ex (.call 41 [(.v 0), (.v 1)]), .ret (.call 8 [(.v 0), (.v 1)])]⟩
/-- way_back -/
def f57 : Fd := ⟨2, 5, [.asgM 2 (.lst []), .while_ (.cmp .ne (.v 1) (.call 2 [(.v 0)])) [.asg 3 (.lc [4] (.nm 4) .seq [(.prop 16 (.v 0))] [(.cmp .lt (.sub (.v 1) (.v 4)) (.k (.int 0)))] (.v 4)), .if_ (.or_ (.cmp .eq (.v 3) (.lst [])) (.cmp .eq (.bi .len [(.v 2)]) (.gc 5 (.int 100)))) [.ret (.k .non)] [], .mm .append (.v 2) [(.sub (.v 3) (.k (.int 0)))], .asg 1 (.call 3 [(.v 0), (.v 1), (.sub (.v 3) (.k (.int 0)))])], .ret (.v 2)]⟩
/-- word_to -/
def f58 : Fd := ⟨2, 3, [.ex (.call 21 [(.v 0), (.v 1)]), .asg 2 (.call 57 [(.v 0), (.v 1)]), .ret (.ife (.cmp .is_ (.v 2) (.k .non)) (.k .non) (.call 8 [(.v 0), (.rev (.v 2))]))]⟩
/-- back -/
def f59 : Fd := ⟨2, 4, [.asg 2 (.call 44 [(.v 0), (.v 1)]), .ret (.lc [3] (.nm 3) .seq [(.prop 16 (.v 0))] [(.cmp .lt (.sub (.v 2) (.v 3)) (.k (.int 0)))] (.v 3))]⟩
/-- front -/
def f60 : Fd := ⟨2, 2, [.ex (.call 41 [(.v 0), (.v 1)]), .ret (.call 59 [(.v 0), (.rev (.v 1))])]⟩
/-- is_self_inverse -/
def f61 : Fd := ⟨2, 2, [.ex (.call 41 [(.v 0), (.v 1)]), .ret (.call 51 [(.v 0), (.v 1), (.rev (.v 1))])]⟩
/-- renamed -/
def f64 : Fd := ⟨2, 6, [.if_ (.or_ (.not_ (.call 25 [(.v 1)])) (.cmp .ne (.bi .len [(.v 1)]) (.bi .len [(.prop 16 (.v 0))]))) [r 8 (.v 1)] [], .asg 2 (.bi .dict_ [.lit .zips_ [(.prop 16 (.v 0)), (.v 1)]]), .asg 3 (.lc [4, 5] (.tp [4, 5]) .seq [(.prop 17 (.v 0))] [] (.tup [(.sub (.v 2) (.v 4)), (.sub (.v 2) (.v 5))])), .ret (.mk 0 26 [(.v 1), (.v 3), (.lc [4, 5] (.tp [4, 5]) .seq [(.prop 18 (.v 0))] [] (.tup [(.sub (.v 2) (.v 4)), (.sub (.v 2) (.v 5))]))])]⟩
/-- part -/
def f65 : Fd := ⟨2, 6, [.ex (.call 89 [(.v 0), (.v 1)]), .if_ (.cmp .eq (.bi .len [(.v 1)]) (.k (.int 0))) [r 8 (.v 1)] [], .asg 2 (.lc [4] (.nm 4) .seq [(.prop 17 (.v 0))] [(.and_ (.cmp .in_ (.sub (.v 4) (.k (.int 0))) (.v 1)) (.cmp .in_ (.sub (.v 4) (.k (.int 1))) (.v 1)))] (.v 4)), .asg 3 (.lc [4] (.nm 4) .seq [(.prop 18 (.v 0))] [(.and_ (.cmp .in_ (.sub (.v 4) (.k (.int 0))) (.v 1)) (.cmp .in_ (.sub (.v 4) (.k (.int 1))) (.v 1)))] (.v 4)), .ret (.mk 0 26 [(.lc [5] (.nm 5) .seq [(.prop 16 (.v 0))] [(.cmp .in_ (.v 5) (.v 1))] (.v 5)), (.v 2), (.v 3)])]⟩
/-- connected -/
def f66 : Fd := ⟨2, 7, [.par 2 3 true false (.lst [(.v 1)]) (.k (.int 0)), .while_ (.cmp .lt (.v 3) (.bi .len [(.v 2)])) [.mm .extend (.v 2) [(.lc [5, 6] (.tp [5, 6]) .seq [(.meth 20 (.v 0) [(.sub (.v 2) (.v 3))])] [(.cmp .nin (.v 5) (.v 2))] (.v 5))], .aug 3 .add (.k (.int 1))], .ret (.lc [4] (.nm 4) .seq [(.prop 16 (.v 0))] [(.cmp .in_ (.v 4) (.v 2))] (.v 4))]⟩
/-- components -/
def f67 : Fd := ⟨1, 4, [.asgM 1 (.lst []), .for_ (.nm 2) .seq [(.prop 16 (.v 0))] [.if_ (.not_ (.bi .any_ [(.lc [3] (.nm 3) .seq [(.v 1)] [] (.cmp .in_ (.v 2) (.v 3)))])) [.mm .append (.v 1) [(.call 66 [(.v 0), (.v 2)])]] []], .ret (.v 1)]⟩
/-- joined_words -/
def f68 : Fd := ⟨1, 1, [.ret (.ife (.cmp .gt (.bi .len [(.v 0)]) (.k (.int 0))) (.bm .join (.k (.str (S " "))) [(.v 0)]) (.gc 6 (.str (S "-"))))]⟩
/-- parted -/
def f69 : Fd := ⟨1, 1, [.ret (.ife (.cmp .eq (.v 0) (.gc 6 (.str (S "-")))) (.lst []) (.bm .split (.v 0) [(.k (.str (S " ")))]))]⟩
/-- format_word -/
def f70 : Fd := ⟨2, 2, [.ex (.call 41 [(.v 0), (.v 1)]), .ret (.call 68 [(.v 1)])]⟩
/-- text_of_position -/
def f71 : Fd := ⟨2, 3, [.ret (.call 68 [(.lc [2] (.nm 2) .seq [(.prop 16 (.v 0))] [] (.fst [(.v 2), (.k (.str (S "="))), (.sub (.v 1) (.v 2))]))])]⟩
/-- format_position -/
def f72 : Fd := ⟨2, 2, [.ex (.call 21 [(.v 0), (.v 1)]), .ret (.call 71 [(.v 0), (.v 1)])]⟩
/-- format_graph -/
def f73 : Fd := ⟨1, 4, [.asg 1 (.bin .add (.lc [2, 3] (.tp [2, 3]) .seq [(.prop 17 (.v 0))] [] (.fst [(.v 2), (.k (.str (S "+"))), (.v 3)])) (.lc [2, 3] (.tp [2, 3]) .seq [(.prop 18 (.v 0))] [] (.fst [(.v 2), (.k (.str (S "*"))), (.v 3)]))), .ret (.bin .add (.bin .add (.call 68 [(.prop 16 (.v 0))]) (.k (.str (S " / ")))) (.call 68 [(.v 1)]))]⟩
/-- require_text -/
def f74 : Fd := ⟨1, 1, [.if_ (.not_ (.isi (.v 0) [.tstr])) [r 9 (.v 0)] []]⟩
/-- parse_word -/
def f75 : Fd := ⟨2, 3, [.ex (.call 74 [(.v 1)]), .asg 2 (.call 69 [(.v 1)]), .if_ (.not_ (.call 40 [(.v 0), (.v 2)])) [r 9 (.v 1)] [], .ret (.v 2)]⟩
/-- integer_in -/
def f76 : Fd := ⟨1, 3, [.asg 1 (.ife (.bm .starts (.v 0) [(.k (.str (S "-")))]) (.sl (.v 0) (.k (.int 1)) (.k .non)) (.v 0)), .if_ (.or_ (.cmp .eq (.v 1) (.k (.str (S "")))) (.or_ (.cmp .gt (.bi .len [(.v 1)]) (.gc 7 (.int 4000))) (.not_ (.bi .all_ [(.lc [2] (.nm 2) .seq [(.v 1)] [] (.cmp .in_ (.v 2) (.k (.str (S "0123456789")))))])))) [.ret (.k .non)] [], .ret (.bi .int_ [(.v 0)])]⟩
/-- parse_position -/
def f77 : Fd := ⟨2, 7, [.ex (.call 74 [(.v 1)]), .asgM 2 (.dct false [] []), .for_ (.nm 3) .seq [(.call 69 [(.v 1)])] [.asgT [4, 5, 6] (.bm .partition (.v 3) [(.k (.str (S "=")))]), .setI (.v 2) (.v 4) (.call 76 [(.v 6)])], .if_ (.or_ (.not_ (.call 20 [(.v 0), (.v 2)])) (.cmp .ne (.call 71 [(.v 0), (.v 2)]) (.v 1))) [r 9 (.v 1)] [], .ret (.v 2)]⟩
/-- pairs_in -/
def f78 : Fd := ⟨2, 3, [.ret (.lc [2] (.nm 2) .seq [(.v 0)] [(.cmp .in_ (.v 1) (.v 2))] (.bi .tuple_ [(.bm .split (.v 2) [(.v 1)])]))]⟩
/-- parse_graph -/
def f79 : Fd := ⟨1, 6, [.ex (.call 74 [(.v 0)]), .asgT [1, 2, 3] (.bm .partition (.v 0) [(.k (.str (S " / ")))]), .asg 4 (.call 69 [(.v 3)]), .try_ [.asg 5 (.mk 0 26 [(.call 69 [(.v 1)]), (.call 78 [(.v 4), (.k (.str (S "+")))]), (.call 78 [(.v 4), (.k (.str (S "*")))])])] [(5, none, [r 9 (.v 0)])], .if_ (.cmp .ne (.call 73 [(.v 5)]) (.v 0)) [r 9 (.v 0)] [], .ret (.v 5)]⟩
/-- table_of -/
def f80 : Fd := ⟨2, 6, [.asgM 2 (.lst []), .for_ (.nm 3) .seq [(.prop 16 (.v 0))] [.asg 4 (.call 4 [(.v 0), (.dc [5] (.nm 5) .seq [(.prop 16 (.v 0))] [] (.v 5) (.bi .int_ [(.cmp .eq (.v 5) (.v 3))])), (.v 1)]), .mm .append (.v 2) [(.lc [5] (.nm 5) .seq [(.prop 16 (.v 0))] [] (.sub (.v 4) (.v 5)))]], .ret (.v 2)]⟩
/-- unit_table -/
def f81 : Fd := ⟨1, 3, [.ret (.lc [1] (.nm 1) .rng [(.v 0)] [] (.lc [2] (.nm 2) .rng [(.v 0)] [] (.bi .int_ [(.cmp .eq (.v 1) (.v 2))])))]⟩
/-- reduced -/
def f82 : Fd := ⟨2, 4, [.ret (.lc [2] (.nm 2) .seq [(.v 0)] [] (.lc [3] (.nm 3) .seq [(.v 2)] [] (.ife (.cmp .ne (.v 1) (.k (.int 0))) (.bin .mod (.v 3) (.v 1)) (.v 3))))]⟩
/-- multiplied -/
def f83 : Fd := ⟨3, 10, [.asg 3 (.lc [6] (.nm 6) .rng [(.bi .len [(.v 1)])] [] (.lc [5] (.nm 5) .seq [(.v 1)] [] (.sub (.v 5) (.v 6)))), .asgM 4 (.lst []), .for_ (.nm 5) .seq [(.v 0)] [.mm .append (.v 4) [(.lc [7] (.nm 7) .seq [(.v 3)] [] (.bi .sum_ [(.lc [8, 9] (.tp [8, 9]) .zips_ [(.v 5), (.v 7)] [] (.bin .mul (.v 8) (.v 9)))]))]], .ret (.call 82 [(.v 4), (.v 2)])]⟩
/-- powered -/
def f84 : Fd := ⟨3, 5, [.asg 3 (.call 82 [(.call 81 [(.bi .len [(.v 0)])]), (.v 2)]), .asg 4 (.call 82 [(.v 0), (.v 2)]), .while_ (.cmp .gt (.v 1) (.k (.int 0))) [.if_ (.cmp .eq (.bin .mod (.v 1) (.k (.int 2))) (.k (.int 1))) [.asg 3 (.call 83 [(.v 3), (.v 4), (.v 2)])] [], .asg 4 (.call 83 [(.v 4), (.v 4), (.v 2)]), .aug 1 .fdiv (.k (.int 2))], .ret (.v 3)]⟩
/-- small_period -/
def f85 : Fd := ⟨1, 5, [.par 1 2 false false (.call 81 [(.bi .len [(.v 0)])]) (.call 82 [(.v 0), (.gc 9 (.int 3))]), .asg 3 (.v 2), .for_ (.nm 4) .rng [(.k (.int 1)), (.bin .add (.gc 8 (.int 210)) (.k (.int 1)))] [.if_ (.cmp .eq (.v 2) (.v 1)) [.ret (.v 4)] [], .asg 2 (.call 83 [(.v 2), (.v 3), (.gc 9 (.int 3))])], .ret (.k .non)]⟩
/-- period -/
def f86 : Fd := ⟨2, 4, [.ex (.call 41 [(.v 0), (.v 1)]), .asg 2 (.call 80 [(.v 0), (.v 1)]), .asg 3 (.call 85 [(.v 2)]), .if_ (.or_ (.cmp .is_ (.v 3) (.k .non)) (.cmp .ne (.call 84 [(.v 2), (.v 3), (.gc 10 (.int 2305843009213693951))]) (.call 81 [(.bi .len [(.v 2)])]))) [.ret (.k .non)] [], .ret (.ife (.cmp .eq (.call 84 [(.v 2), (.v 3), (.k (.int 0))]) (.call 81 [(.bi .len [(.v 2)])])) (.v 3) (.k .non))]⟩
/-- repeated -/
def f87 : Fd := ⟨5, 11, [.ex (.call 21 [(.v 0), (.v 1)]), .ex (.call 41 [(.v 0), (.v 2)]), .if_ (.or_ (.not_ (.call 0 [(.v 3)])) (.cmp .lt (.v 3) (.k (.int 0)))) [r 11 (.v 3)] [], .if_ (.or_ (.not_ (.call 0 [(.v 4)])) (.cmp .lt (.v 4) (.k (.int 1)))) [r 11 (.v 4)] [], .asg 5 (.call 84 [(.call 80 [(.v 0), (.v 2)]), (.v 3), (.v 4)]), .asgM 6 (.dct false [] []), .for_ (.tp [7, 8]) .enum_ [(.prop 16 (.v 0))] [.setI (.v 6) (.v 8) (.bin .mod (.bi .sum_ [(.lc [9, 10] (.tp [9, 10]) .enum_ [(.prop 16 (.v 0))] [] (.bin .mul (.sub (.v 1) (.v 10)) (.sub (.sub (.v 5) (.v 9)) (.v 7))))]) (.v 4))], .ret (.v 6)]⟩
/-- are_nodes -/
def f88 : Fd := ⟨2, 4, [.if_ (.not_ (.isi (.v 1) [.tlist, .ttuple])) [.ret (.k (.bl false))] [], .asgM 2 (.lst []), .for_ (.nm 3) .seq [(.v 1)] [.if_ (.or_ (.not_ (.isi (.v 3) [.tstr])) (.or_ (.cmp .nin (.v 3) (.prop 16 (.v 0))) (.cmp .in_ (.v 3) (.v 2)))) [.ret (.k (.bl false))] [], .mm .append (.v 2) [(.v 3)]], .ret (.k (.bl true))]⟩
/-- require_nodes -/
def f89 : Fd := ⟨2, 2, [.if_ (.not_ (.call 88 [(.v 0), (.v 1)])) [r 8 (.v 1)] []]⟩
/-- split -/
def f90 : Fd := ⟨3, 4, [.ex (.call 41 [(.v 0), (.v 1)]), .ex (.call 89 [(.v 0), (.v 2)]), .asg 3 (.call 6 [(.v 0), (.call 4 [(.v 0), (.call 2 [(.v 0)]), (.v 1)]), (.v 2)]), .ret (.tup [(.call 8 [(.v 0), (.bin .add (.bi .list_ [(.v 1)]) (.v 3))]), (.call 8 [(.v 0), (.rev (.v 3))])])]⟩
/-- is_representative -/
def f91 : Fd := ⟨3, 5, [.ex (.call 41 [(.v 0), (.v 1)]), .ex (.call 89 [(.v 0), (.v 2)]), .asg 3 (.call 4 [(.v 0), (.call 2 [(.v 0)]), (.v 1)]), .ret (.bi .all_ [(.lc [4] (.nm 4) .seq [(.v 2)] [] (.cmp .gt (.sub (.v 3) (.v 4)) (.k (.int 0))))])]⟩
/-- longest -/
def f92 : Fd := ⟨2, 6, [.ex (.call 89 [(.v 0), (.v 1)]), .if_ (.cmp .isn (.call 104 [(.v 0), (.v 1)]) (.k .non)) [.ret (.k .non)] [], .par 2 3 false true (.call 2 [(.v 0)]) (.lst []), .asg 4 (.bi .list_ [(.v 1)]), .while_ (.cmp .ne (.v 4) (.lst [])) [.mm .append (.v 3) [(.sub (.v 4) (.k (.int 0)))], .asg 2 (.call 3 [(.v 0), (.v 2), (.sub (.v 4) (.k (.int 0)))]), .asg 4 (.lc [5] (.nm 5) .seq [(.v 1)] [(.cmp .gt (.sub (.v 2) (.v 5)) (.k (.int 0)))] (.v 5))], .ret (.call 8 [(.v 0), (.v 3)])]⟩
/-- plays_from -/
def f93 : Fd := ⟨3, 6, [.asg 3 (.call 5 [(.v 0), (.v 1)]), .if_ (.cmp .eq (.v 3) (.lst [])) [.ret (.k (.int 1))] [], .asg 4 (.call 7 [(.v 0), (.v 1)]), .if_ (.cmp .nin (.v 4) (.v 2)) [.setI (.v 2) (.v 4) (.bi .sum_ [(.lc [5] (.nm 5) .seq [(.v 3)] [] (.call 93 [(.v 0), (.call 3 [(.v 0), (.v 1), (.v 5)]), (.v 2)]))])] [], .ret (.sub (.v 2) (.v 4))]⟩
/-- turned_position -/
def f94 : Fd := ⟨2, 2, [.if_ (.cmp .gt (.call 54 [(.v 0), (.v 1)]) (.gc 11 (.int 16))) [r 12 (.gc 11 (.int 16))] [], .ret (.call 4 [(.v 0), (.call 2 [(.v 0)]), (.rev (.v 1))])]⟩
/-- count_shortest -/
def f95 : Fd := ⟨2, 2, [.ex (.call 41 [(.v 0), (.v 1)]), .ret (.call 93 [(.v 0), (.call 94 [(.v 0), (.v 1)]), (.dct true [] [])])]⟩
/-- nth_shortest -/
def f96 : Fd := ⟨3, 9, [.ex (.call 41 [(.v 0), (.v 1)]), .par 3 4 false false (.call 94 [(.v 0), (.v 1)]) (.dct true [] []), .if_ (.not_ (.call 1 [(.v 2), (.k (.int 0)), (.bin .sub (.call 93 [(.v 0), (.v 3), (.v 4)]) (.k (.int 1)))])) [r 11 (.v 2)] [], .asgM 5 (.lst []), .while_ (.cmp .ne (.call 5 [(.v 0), (.v 3)]) (.lst [])) [.for_ (.nm 6) .seq [(.call 5 [(.v 0), (.v 3)])] [.asg 7 (.call 3 [(.v 0), (.v 3), (.v 6)]), .asg 8 (.call 93 [(.v 0), (.v 7), (.v 4)]), .if_ (.cmp .lt (.v 2) (.v 8)) [.brk] [], .aug 2 .sub (.v 8)], .mm .append (.v 5) [(.v 6)], .asg 3 (.v 7)], .ret (.v 5)]⟩
/-- growth -/
def f99 : Fd := ⟨2, 9, [.if_ (.not_ (.call 1 [(.v 1), (.k (.int 0)), (.gc 12 (.int 12))])) [r 11 (.v 1)] [], .par 2 3 false true (.dct false [(.call 7 [(.v 0), (.call 2 [(.v 0)])])] [(.call 2 [(.v 0)])]) (.lst [(.k (.int 1))]), .for_ (.nm 4) .rng [(.v 1)] [.asgM 5 (.dct true [] []), .for_ (.nm 6) .vals [(.v 2)] [.for_ (.nm 7) .seq [(.prop 16 (.v 0))] [.if_ (.cmp .gt (.sub (.v 6) (.v 7)) (.k (.int 0))) [.asg 8 (.call 3 [(.v 0), (.v 6), (.v 7)]), .setI (.v 5) (.call 7 [(.v 0), (.v 8)]) (.v 8)] []]], .asg 2 (.v 5), .mm .append (.v 3) [(.bi .len [(.v 2)])], .if_ (.cmp .gt (.bi .sum_ [(.v 3)]) (.gc 13 (.int 3000))) [r 12 (.gc 13 (.int 3000))] []], .ret (.v 3)]⟩
/-- near_of -/
def f100 : Fd := ⟨3, 4, [.ret (.lc [3] (.nm 3) .seq [(.v 2)] [(.cmp .eq (.meth 19 (.v 0) [(.v 1), (.v 3)]) (.k (.int 1)))] (.v 3))]⟩
/-- core_of -/
def f101 : Fd := ⟨2, 5, [.asg 2 (.bi .list_ [(.v 1)]), .while_ (.k (.bl true)) [.asg 3 (.lc [4] (.nm 4) .seq [(.v 2)] [(.cmp .gt (.bi .len [(.call 100 [(.v 0), (.v 4), (.v 2)])]) (.k (.int 1)))] (.v 4)), .if_ (.cmp .eq (.v 3) (.v 2)) [.ret (.v 2)] [], .asg 2 (.v 3)]]⟩
/-- arm -/
def f102 : Fd := ⟨4, 8, [.par 4 5 true false (.lst [(.v 3)]) (.v 2), .while_ (.k (.bl true)) [.asg 6 (.lc [7] (.nm 7) .seq [(.call 100 [(.v 0), (.sub (.v 4) (.neg (.k (.int 1)))), (.v 1)])] [(.cmp .ne (.v 7) (.v 5))] (.v 7)), .if_ (.cmp .ne (.bi .len [(.v 6)]) (.k (.int 1))) [.ret (.v 4)] [], .asg 5 (.sub (.v 4) (.neg (.k (.int 1)))), .mm .append (.v 4) [(.sub (.v 6) (.k (.int 0)))]]]⟩
/-- weights_among -/
def f104 : Fd := ⟨2, 7, [.for_ (.nm 2) .seq [(.v 1)] [.for_ (.nm 5) .seq [(.v 1)] [.if_ (.cmp .eq (.meth 19 (.v 0) [(.v 2), (.v 5)]) (.k (.int 2))) [.ret (.dct false [(.v 2), (.v 5)] [(.k (.int 1)), (.k (.int 1))])] []]], .asg 3 (.call 101 [(.v 0), (.v 1)]), .if_ (.cmp .ne (.v 3) (.lst [])) [.ret (.dc [4] (.nm 4) .seq [(.v 3)] [] (.v 4) (.k (.int 1)))] [], .for_ (.nm 4) .seq [(.v 1)] [.if_ (.cmp .gt (.bi .len [(.call 100 [(.v 0), (.v 4), (.v 1)])]) (.k (.int 2))) [.asg 6 (.call 103 [(.v 0), (.v 1), (.v 4)]), .if_ (.cmp .isn (.v 6) (.k .non)) [.ret (.v 6)] []] []], .ret (.k .non)]⟩
/-- weights -/
def f105 : Fd := ⟨1, 1, [.ret (.call 104 [(.v 0), (.prop 16 (.v 0))])]⟩
/-- is_finite -/
def f106 : Fd := ⟨1, 1, [.ret (.cmp .is_ (.call 105 [(.v 0)]) (.k .non))]⟩
/-- touches -/
def f107 : Fd := ⟨3, 4, [.ret (.bi .any_ [(.lc [3] (.nm 3) .seq [(.v 2)] [] (.cmp .eq (.meth 19 (.v 0) [(.v 1), (.v 3)]) (.k (.int 1))))])]⟩
/-- groups_of -/
def f108 : Fd := ⟨2, 7, [.par 2 3 true false (.lst []) (.bi .list_ [(.v 1)]), .while_ (.cmp .ne (.v 3) (.lst [])) [.par 4 5 false false (.lst []) (.lst [(.sub (.v 3) (.k (.int 0)))]), .while_ (.cmp .ne (.v 5) (.lst [])) [.asg 4 (.bin .add (.v 4) (.v 5)), .asg 5 (.lc [6] (.nm 6) .seq [(.v 3)] [(.and_ (.cmp .nin (.v 6) (.v 4)) (.call 107 [(.v 0), (.v 6), (.v 4)]))] (.v 6))], .mm .append (.v 2) [(.v 4)], .asg 3 (.lc [6] (.nm 6) .seq [(.v 3)] [(.cmp .nin (.v 6) (.v 4))] (.v 6))], .ret (.v 2)]⟩
/-- product_to -/
def f109 : Fd := ⟨1, 3, [.asg 1 (.k (.int 1)), .for_ (.nm 2) .rng [(.k (.int 2)), (.bin .add (.v 0) (.k (.int 1)))] [.aug 1 .mul (.v 2)], .ret (.v 1)]⟩
/-- size -/
def f111 : Fd := ⟨1, 3, [.if_ (.not_ (.call 106 [(.v 0)])) [.ret (.k .non)] [], .asg 1 (.k (.int 1)), .for_ (.nm 2) .seq [(.call 108 [(.v 0), (.prop 16 (.v 0))])] [.aug 1 .mul (.call 110 [(.v 0), (.v 2)])], .ret (.v 1)]⟩
/-- weight_around -/
def f112 : Fd := ⟨3, 4, [.ret (.bi .sum_ [(.lc [3] (.nm 3) .keys [(.v 1)] [] (.bin .mul (.or_ (.meth 19 (.v 0) [(.v 2), (.v 3)]) (.k (.int 0))) (.sub (.v 1) (.v 3))))])]⟩
/-- check_weights -/
def f113 : Fd := ⟨2, 4, [.if_ (.or_ (.not_ (.isi (.v 1) [.tdict])) (.cmp .eq (.v 1) (.dct false [] []))) [.ret (.k (.bl false))] [], .if_ (.not_ (.bi .all_ [(.lc [2] (.nm 2) .keys [(.v 1)] [] (.and_ (.isi (.v 2) [.tstr]) (.cmp .in_ (.v 2) (.prop 16 (.v 0)))))])) [.ret (.k (.bl false))] [], .if_ (.not_ (.bi .all_ [(.lc [3] (.nm 3) .vals [(.v 1)] [] (.and_ (.call 0 [(.v 3)]) (.cmp .ge (.v 3) (.k (.int 1)))))])) [.ret (.k (.bl false))] [], .ret (.bi .all_ [(.lc [2] (.nm 2) .keys [(.v 1)] [] (.cmp .ge (.call 112 [(.v 0), (.v 1), (.v 2)]) (.bin .mul (.k (.int 2)) (.sub (.v 1) (.v 2)))))])]⟩
/-- require_short -/
def f114 : Fd := ⟨1, 2, [.if_ (.bi .any_ [(.lc [1] (.nm 1) .seq [(.v 0)] [] (.cmp .gt (.bi .len [(.v 1)]) (.gc 16 (.int 12))))]) [r 12 (.gc 16 (.int 12))] []]⟩
/-- put_together -/
def f115 : Fd := ⟨0, 4, [.asgM 1 (.lst []), .for_ (.nm 2) .seq [(.v 0)] [.for_ (.nm 3) .seq [(.v 2)] [.if_ (.or_ (.cmp .eq (.v 1) (.lst [])) (.cmp .ne (.sub (.v 1) (.neg (.k (.int 1)))) (.v 3))) [.mm .append (.v 1) [(.v 3)]] []]], .ret (.v 1)]⟩
/-- ends_for -/
def f116 : Fd := ⟨3, 3, [.if_ (.cmp .eq (.meth 19 (.v 0) [(.v 1), (.v 2)]) (.k (.int 0))) [.ret (.tup [(.lst [(.v 2), (.v 1)]), (.lst [(.v 1), (.v 2)])])] [], .ret (.tup [(.lst [(.v 1), (.v 2), (.v 1)]), (.lst [(.v 2), (.v 1), (.v 2)])])]⟩
/-- between_shortest -/
def f117 : Fd := ⟨3, 8, [.if_ (.cmp .eq (.v 1) (.v 2)) [.ret (.lst [(.v 1)])] [], .if_ (.cmp .eq (.sub (.v 1) (.neg (.k (.int 1)))) (.sub (.v 2) (.neg (.k (.int 1))))) [.ret (.lc [7] (.nm 7) .seq [(.call 117 [(.v 0), (.sl (.v 1) (.k .non) (.neg (.k (.int 1)))), (.sl (.v 2) (.k .non) (.neg (.k (.int 1))))])] [] (.bin .add (.v 7) (.sl (.v 1) (.neg (.k (.int 1))) (.k .non))))] [], .asgT [3, 4] (.call 116 [(.v 0), (.sub (.v 1) (.neg (.k (.int 1)))), (.sub (.v 2) (.neg (.k (.int 1))))]), .asg 5 (.call 8 [(.v 0), (.bin .add (.v 1) (.rev (.v 3)))]), .asg 6 (.call 117 [(.v 0), (.v 1), (.bin .add (.v 5) (.v 3))]), .ret (.call 115 [(.v 6), (.call 117 [(.v 0), (.bin .add (.v 5) (.v 4)), (.v 2)])])]⟩
/-- shortened -/
def f118 : Fd := ⟨2, 10, [.par 2 3 false false (.lst []) (.lst [(.v 1)]), .for_ (.tp [4, 5]) .enum_ [(.v 1)] [.if_ (.cmp .gt (.sub (.call 4 [(.v 0), (.call 2 [(.v 0)]), (.v 2)]) (.v 5)) (.k (.int 0))) [.asg 2 (.bin .add (.v 2) (.lst [(.v 5)]))] [.par 6 7 false false (.call 8 [(.v 0), (.bin .add (.v 2) (.lst [(.v 5)]))]) (.sl (.v 1) (.bin .add (.v 4) (.k (.int 1))) (.k .non)), .asg 8 (.call 117 [(.v 0), (.v 2), (.bin .add (.v 6) (.lst [(.v 5)]))]), .asg 3 (.call 115 [(.v 3), (.lc [9] (.nm 9) .seq [(.v 8)] [] (.bin .add (.bin .add (.v 9) (.lst [(.v 5)])) (.v 7))), (.lst [(.bin .add (.v 6) (.v 7))])]), .asg 2 (.v 6)]], .ret (.v 3)]⟩
/-- shorten -/
def f119 : Fd := ⟨2, 2, [.ex (.call 41 [(.v 0), (.v 1)]), .ex (.call 114 [(.lst [(.v 1)])]), .ret (.call 118 [(.v 0), (.bi .list_ [(.v 1)])])]⟩
/-- derive -/
def f120 : Fd := ⟨3, 5, [.ex (.call 41 [(.v 0), (.v 1)]), .ex (.call 41 [(.v 0), (.v 2)]), .ex (.call 114 [(.lst [(.v 1), (.v 2)])]), .if_ (.cmp .ne (.call 4 [(.v 0), (.call 2 [(.v 0)]), (.v 1)]) (.call 4 [(.v 0), (.call 2 [(.v 0)]), (.v 2)])) [.ret (.k .non)] [], .par 3 4 false false (.call 118 [(.v 0), (.bi .list_ [(.v 1)])]) (.call 118 [(.v 0), (.bi .list_ [(.v 2)])]), .ret (.call 115 [(.v 3), (.call 117 [(.v 0), (.sub (.v 3) (.neg (.k (.int 1)))), (.sub (.v 4) (.neg (.k (.int 1))))]), (.rev (.v 4))])]⟩
/-- Session.__init__ -/
def f121 : Fd := ⟨3, 3, [.ex (.call 41 [(.v 1), (.v 2)]), .setF 38 (.v 0) (.v 1), .setF 39 (.v 0) (.bi .list_ [(.v 2)]), .setF 40 (.v 0) (.lst []), .setF 41 (.v 0) (.call 55 [(.v 1), (.v 2)]), .setF 42 (.v 0) (.call 4 [(.v 1), (.call 2 [(.v 1)]), (.v 2)])]⟩
/-- Session.replayed -/
def f122 : Fd := ⟨4, 7, [.asg 4 (.mk 1 121 [(.v 1), (.v 2)]), .for_ (.tp [5, 6]) .seq [(.v 3)] [.ex (.meth 29 (.v 4) [(.v 5), (.v 6)])], .ret (.v 4)]⟩
/-- Session.is_user -/
def f123 : Fd := ⟨1, 1, [.ret (.call 24 [(.v 0)])]⟩
/-- Session.missing -/
def f124 : Fd := ⟨1, 1, [.ret (.attr 41 (.v 0))]⟩
/-- Session.rest_after -/
def f125 : Fd := ⟨2, 4, [.ret (.bin .add (.lc [2, 3] (.tp [2, 3]) .seq [(.rev (.v 1))] [] (.v 3)) (.attr 39 (.v 0)))]⟩
/-- Session.check_flip -/
def f126 : Fd := ⟨3, 3, [.pass_]⟩
/-- Session.undo -/
def f128 : Fd := ⟨2, 5, [.if_ (.not_ (.call 24 [(.v 1)])) [r 13 (.v 1)] [], .asg 2 (.lc [3, 4] (.tp [3, 4]) .enum_ [(.attr 40 (.v 0))] [(.cmp .eq (.sub (.v 4) (.k (.int 0))) (.v 1))] (.v 3)), .if_ (.cmp .eq (.v 2) (.lst [])) [r 14 (.v 1)] [], .setF 40 (.v 0) (.bin .add (.sl (.attr 40 (.v 0)) (.k .non) (.sub (.v 2) (.neg (.k (.int 1))))) (.sl (.attr 40 (.v 0)) (.bin .add (.sub (.v 2) (.neg (.k (.int 1)))) (.k (.int 1))) (.k .non))), .setF 41 (.v 0) (.call 55 [(.attr 38 (.v 0)), (.meth 27 (.v 0) [(.attr 40 (.v 0))])]), .ret (.attr 41 (.v 0))]⟩
/-- Session.log -/
def f129 : Fd := ⟨1, 1, [.ret (.bi .list_ [(.attr 40 (.v 0))])]⟩
/-- Session.position -/
def f130 : Fd := ⟨1, 3, [.ret (.call 44 [(.attr 38 (.v 0)), (.lc [1, 2] (.tp [1, 2]) .seq [(.attr 40 (.v 0))] [] (.v 2))])]⟩
/-- Session.hints -/
def f131 : Fd := ⟨1, 1, [.ret (.call 60 [(.attr 38 (.v 0)), (.meth 27 (.v 0) [(.attr 40 (.v 0))])])]⟩
/-- Session.blank -/
def f133 : Fd := ⟨1, 1, [.ret (.mkM 1 121 [(.attr 38 (.v 0)), (.attr 39 (.v 0))])]⟩
/-- Session.copy -/
def f134 : Fd := ⟨1, 2, [.asgM 1 (.meth 35 (.v 0) []), .setF 40 (.v 1) (.bi .list_ [(.attr 40 (.v 0))]), .setF 41 (.v 1) (.attr 41 (.v 0)), .ret (.v 1)]⟩
/-- Session.__len__ -/
def f135 : Fd := ⟨1, 1, [.ret (.bi .len [(.attr 40 (.v 0))])]⟩
/-- Session.__eq__ -/
def f136 : Fd := ⟨2, 2, [.if_ (.not_ (.isi (.v 1) [(.tcls 1)])) [.ret (.k (.bl false))] [], .if_ (.or_ (.not_ (.cmp .eq (.attr 38 (.v 0)) (.attr 38 (.v 1)))) (.cmp .ne (.attr 40 (.v 0)) (.attr 40 (.v 1)))) [.ret (.k (.bl false))] [], .ret (.cmp .eq (.attr 42 (.v 0)) (.attr 42 (.v 1)))]⟩
/-- ClosingSession.check_flip -/
def f137 : Fd := ⟨3, 3, [.if_ (.cmp .ne (.v 2) (.bin .sub (.attr 41 (.v 0)) (.k (.int 1)))) [r 15 (.v 1)] []]⟩
/-- ClosingSession.blank -/
def f138 : Fd := ⟨1, 1, [.ret (.mkM 2 121 [(.attr 38 (.v 0)), (.attr 39 (.v 0))])]⟩
/-- Console.__init__ -/
def f140 : Fd := ⟨2, 2, [.setF 38 (.v 0) (.v 1), .setW 46 (.v 0) (.dct false [] [])]⟩
/-- Console.run -/
def f141 : Fd := ⟨2, 6, [.asgT [2, 3] (.call 139 [(.v 1)]), .if_ (.cmp .eq (.v 2) (.k (.str (S "names")))) [.ret (.ife (.cmp .gt (.bi .len [(.attr 46 (.v 0))]) (.k (.int 0))) (.bm .join (.k (.str (S " "))) [(.bi .sorted_ [(.attr 46 (.v 0))])]) (.gc 18 (.str (S "-"))))] [], .if_ (.cmp .eq (.v 2) (.k (.str (S "size")))) [.asg 5 (.call 111 [(.attr 38 (.v 0))]), .ret (.ife (.cmp .is_ (.v 5) (.k .non)) (.k (.str (S "infinite"))) (.bi .str_ [(.v 5)]))] [], .if_ (.cmp .eq (.v 2) (.k (.str (S "set")))) [.ret (.meth 44 (.v 0) [(.sub (.v 3) (.k (.int 0))), (.call 75 [(.attr 38 (.v 0)), (.sub (.v 3) (.k (.int 1)))])])] [], .for_ (.nm 4) .seq [(.v 3)] [.if_ (.cmp .nin (.v 4) (.attr 46 (.v 0))) [r 13 (.v 4)] []], .ret (.meth 45 (.v 0) [(.v 2), (.v 3)])]⟩
/-- Console.store -/
def f142 : Fd := ⟨3, 3, [.if_ (.and_ (.cmp .nin (.v 1) (.attr 46 (.v 0))) (.cmp .ge (.bi .len [(.attr 46 (.v 0))]) (.gc 17 (.int 8)))) [r 12 (.gc 17 (.int 8))] [], .setI (.attr 46 (.v 0)) (.v 1) (.v 2), .ret (.bi .str_ [(.bi .len [(.v 2)])])]⟩
/-- Console.__len__ -/
def f144 : Fd := ⟨1, 1, [.ret (.bi .len [(.attr 46 (.v 0))])]⟩
/-- _law_numbers -/
def f145 : Fd := ⟨3, 8, [.asg 3 (.bi .max2 [(.v 0), (.bin .sub (.neg (.k (.int 1))) (.v 0))]), .asg 4 (.v 3), .asgM 5 (.lst []), .for_ (.nm 6) .rng [(.bi .len [(.v 2)])] [.if_ (.and_ (.cmp .ge (.v 3) (.bin .pow (.k (.int 10)) (.k (.int 18)))) (.cmp .gt (.v 4) (.k (.int 0)))) [.mm .append (.v 5) [(.bin .mod (.v 4) (.sub (.v 2) (.v 6)))], .asg 4 (.bin .fdiv (.v 4) (.sub (.v 2) (.v 6)))] [.asg 7 (.bin .mod (.bin .pow (.bin .add (.bin .add (.bin .mod (.v 3) (.k (.int 2147483629))) (.bin .mul (.k (.int 7919)) (.v 1))) (.k (.int 1))) (.k (.int 3))) (.k (.int 2147483647))), .asg 7 (.bin .mod (.bin .mul (.bin .add (.v 7) (.bin .mul (.k (.int 104729)) (.bin .add (.v 6) (.k (.int 1))))) (.bin .add (.v 6) (.k (.int 3)))) (.k (.int 2147483629))), .asg 7 (.bin .mod (.bin .mul (.bin .mod (.bin .pow (.v 7) (.k (.int 5))) (.k (.int 2147483647))) (.k (.int 48271))) (.k (.int 2147483629))), .mm .append (.v 5) [(.bin .mod (.bin .fdiv (.v 7) (.k (.int 16))) (.sub (.v 2) (.v 6)))]]], .ret (.v 5)]⟩
/-- _law_pairs -/
def f146 : Fd := ⟨3, 9, [.asg 3 (.sl (.lst [(.k (.str (S "d"))), (.k (.str (S "a"))), (.k (.str (S "f"))), (.k (.str (S "c"))), (.k (.str (S "b"))), (.k (.str (S "e"))), (.k (.str (S "g"))), (.k (.str (S "k"))), (.k (.str (S "m"))), (.k (.str (S "h"))), (.k (.str (S "j"))), (.k (.str (S "i")))]) (.k .non) (.v 1)), .par 4 5 true false (.dct true [] []) (.k (.int 0)), .for_ (.nm 6) .rng [(.v 1)] [.for_ (.nm 7) .rng [(.v 6)] [.asg 8 (.sub (.v 2) (.bin .mod (.sub (.v 0) (.bin .mod (.v 5) (.bi .len [(.v 0)]))) (.bi .len [(.v 2)]))), .setI (.v 4) (.tup [(.sub (.v 3) (.v 7)), (.sub (.v 3) (.v 6))]) (.v 8), .setI (.v 4) (.tup [(.sub (.v 3) (.v 6)), (.sub (.v 3) (.v 7))]) (.v 8), .asg 5 (.bin .add (.v 5) (.k (.int 1)))]], .ret (.v 4)]⟩
/-- _law_graph_of -/
def f147 : Fd := ⟨2, 7, [.asg 2 (.lc [4, 5] (.tp [4, 5]) .keys [(.v 0)] [(.cmp .lt (.v 4) (.v 5))] (.tup [(.v 4), (.v 5)])), .asg 3 (.lc [6] (.nm 6) .seq [(.v 2)] [(.cmp .eq (.sub (.v 0) (.v 6)) (.k (.int 1)))] (.v 6)), .ret (.mk 0 26 [(.v 1), (.v 3), (.lc [6] (.nm 6) .seq [(.v 2)] [(.cmp .eq (.sub (.v 0) (.v 6)) (.k (.int 2)))] (.v 6))])]⟩
/-- _law_flip -/
def f148 : Fd := ⟨4, 6, [.asgM 4 (.bi .dict_ [(.v 2)]), .for_ (.nm 5) .seq [(.v 1)] [.if_ (.cmp .ne (.v 5) (.v 3)) [.setI (.v 4) (.v 5) (.bin .add (.sub (.v 2) (.v 5)) (.bin .mul (.sub (.v 0) (.tup [(.v 3), (.v 5)])) (.sub (.v 2) (.v 3))))] []], .setI (.v 4) (.v 3) (.neg (.sub (.v 2) (.v 3))), .ret (.v 4)]⟩
/-- _law_after -/
def f149 : Fd := ⟨4, 5, [.for_ (.nm 4) .seq [(.v 3)] [.asg 2 (.call 148 [(.v 0), (.v 1), (.v 2), (.v 4)])], .ret (.v 2)]⟩
/-- _law_ones -/
def f150 : Fd := ⟨1, 2, [.ret (.bi .dict_ [(.lc [1] (.nm 1) .seq [(.v 0)] [] (.tup [(.v 1), (.k (.int 1))]))])]⟩
/-- _law_flips -/
def f151 : Fd := ⟨3, 4, [.ret (.lc [3] (.nm 3) .rng [(.bin .mod (.sub (.v 0) (.k (.int 0))) (.bin .add (.v 2) (.k (.int 1))))] [] (.sub (.v 1) (.bin .mod (.sub (.v 0) (.bin .add (.k (.int 1)) (.v 3))) (.bi .len [(.v 1)]))))]⟩
/-- _law_named -/
def f152 : Fd := ⟨1, 1, [.ret (.sl (.lst [(.k (.str (S "d"))), (.k (.str (S "a"))), (.k (.str (S "f"))), (.k (.str (S "c"))), (.k (.str (S "b"))), (.k (.str (S "e"))), (.k (.str (S "g"))), (.k (.str (S "k"))), (.k (.str (S "m"))), (.k (.str (S "h"))), (.k (.str (S "j"))), (.k (.str (S "i")))]) (.k .non) (.v 0))]⟩
/-- _law_parts -/
def f153 : Fd := ⟨2, 10, [.asg 2 (.sl (.lst [(.k (.str (S "b"))), (.k (.str (S "a"))), (.k (.str (S "eightabc"))), (.k (.str (S "zz"))), (.k (.str (S "c"))), (.k (.str (S "near")))]) (.k .non) (.bin .add (.k (.int 1)) (.bin .mod (.sub (.v 0) (.k (.int 0))) (.v 1)))), .par 3 4 true true (.lst []) (.lst []), .for_ (.tp [5, 6]) .enum_ [(.v 2)] [.for_ (.nm 7) .rng [(.v 5)] [.asg 8 (.sub (.v 0) (.bin .add (.bin .add (.k (.int 1)) (.bin .fdiv (.bin .mul (.v 5) (.bin .sub (.v 5) (.k (.int 1)))) (.k (.int 2)))) (.v 7))), .asg 9 (.sub (.lst [(.tup [(.v 6), (.sub (.v 2) (.v 7))]), (.tup [(.sub (.v 2) (.v 7)), (.v 6)])]) (.bin .mod (.bin .fdiv (.v 8) (.k (.int 7))) (.k (.int 2)))), .if_ (.cmp .lt (.bin .mod (.v 8) (.k (.int 7))) (.k (.int 3))) [.mm .append (.v 3) [(.v 9)]] [.if_ (.cmp .eq (.bin .mod (.v 8) (.k (.int 7))) (.k (.int 3))) [.mm .append (.v 4) [(.v 9)]] []]]], .ret (.lst [(.v 2), (.v 3), (.v 4)])]⟩
/-- _law_kind -/
def f154 : Fd := ⟨3, 4, [.for_ (.nm 3) .seq [(.lst [(.k (.int 1)), (.k (.int 2))])] [.if_ (.or_ (.cmp .in_ (.tup [(.v 1), (.v 2)]) (.sub (.v 0) (.v 3))) (.cmp .in_ (.tup [(.v 2), (.v 1)]) (.sub (.v 0) (.v 3)))) [.ret (.v 3)] []], .ret (.k (.int 0))]⟩
/-- _law_flip -/
def f155 : Fd := ⟨3, 5, [.asgM 3 (.dct false [] []), .for_ (.nm 4) .seq [(.sub (.v 0) (.k (.int 0)))] [.setI (.v 3) (.v 4) (.bin .add (.sub (.v 1) (.v 4)) (.bin .mul (.call 154 [(.v 0), (.v 2), (.v 4)]) (.sub (.v 1) (.v 2))))], .setI (.v 3) (.v 2) (.bin .sub (.k (.int 0)) (.sub (.v 1) (.v 2))), .ret (.v 3)]⟩
/-- _law_after -/
def f156 : Fd := ⟨3, 4, [.for_ (.nm 3) .seq [(.v 2)] [.asg 1 (.call 155 [(.v 0), (.v 1), (.v 3)])], .ret (.v 1)]⟩
/-- _law_ones -/
def f157 : Fd := ⟨1, 2, [.ret (.bi .dict_ [(.lc [1] (.nm 1) .seq [(.sub (.v 0) (.k (.int 0)))] [] (.tup [(.v 1), (.k (.int 1))]))])]⟩
/-- _law_word -/
def f158 : Fd := ⟨3, 4, [.ret (.lc [3] (.nm 3) .seq [(.sl (.v 1) (.k .non) (.v 2))] [] (.sub (.sub (.v 0) (.k (.int 0))) (.bin .mod (.v 3) (.bi .len [(.sub (.v 0) (.k (.int 0)))]))))]⟩
/-- _law_exchanged -/
def f159 : Fd := ⟨2, 6, [.asgM 2 (.lst []), .for_ (.nm 3) .rng [(.bin .sub (.bi .len [(.v 1)]) (.k (.int 1)))] [.par 4 5 false false (.sub (.v 1) (.v 3)) (.sub (.v 1) (.bin .add (.v 3) (.k (.int 1)))), .if_ (.and_ (.cmp .ne (.v 4) (.v 5)) (.cmp .eq (.sub (.v 0) (.tup [(.v 4), (.v 5)])) (.k (.int 0)))) [.mm .append (.v 2) [(.bin .add (.bin .add (.sl (.v 1) (.k .non) (.v 3)) (.lst [(.v 5), (.v 4)])) (.sl (.v 1) (.bin .add (.v 3) (.k (.int 2))) (.k .non)))]] [], .if_ (.and_ (.cmp .ne (.v 4) (.v 5)) (.and_ (.cmp .eq (.sub (.v 0) (.tup [(.v 4), (.v 5)])) (.k (.int 1))) (.cmp .eq (.sl (.v 1) (.bin .add (.v 3) (.k (.int 2))) (.bin .add (.v 3) (.k (.int 3)))) (.lst [(.v 4)])))) [.mm .append (.v 2) [(.bin .add (.bin .add (.sl (.v 1) (.k .non) (.v 3)) (.lst [(.v 5), (.v 4), (.v 5)])) (.sl (.v 1) (.bin .add (.v 3) (.k (.int 3))) (.k .non)))]] []], .ret (.v 2)]⟩
/-- _law_step -/
def f160 : Fd := ⟨3, 7, [.if_ (.cmp .eq (.bi .len [(.v 1)]) (.bi .len [(.v 2)])) [.if_ (.cmp .nin (.v 2) (.call 159 [(.v 0), (.v 1)])) [.ret (.k .non)] [], .asg 6 (.lc [5] (.nm 5) .rng [(.bi .len [(.v 1)])] [(.cmp .ne (.sub (.v 1) (.v 5)) (.sub (.v 2) (.v 5)))] (.v 5)), .ret (.sub (.lst [(.k (.str (S "near"))), (.k (.str (S "far")))]) (.bi .int_ [(.cmp .eq (.bi .len [(.v 6)]) (.k (.int 2)))]))] [], .asgT [3, 4] (.ife (.cmp .gt (.bi .len [(.v 1)]) (.bi .len [(.v 2)])) (.lst [(.v 1), (.v 2)]) (.lst [(.v 2), (.v 1)])), .for_ (.nm 5) .rng [(.bin .sub (.bi .len [(.v 3)]) (.k (.int 1)))] [.if_ (.and_ (.cmp .eq (.sub (.v 3) (.v 5)) (.sub (.v 3) (.bin .add (.v 5) (.k (.int 1))))) (.cmp .eq (.bin .add (.sl (.v 3) (.k .non) (.v 5)) (.sl (.v 3) (.bin .add (.v 5) (.k (.int 2))) (.k .non))) (.v 4))) [.ret (.k (.str (S "double")))] []], .ret (.k .non)]⟩
/-- _law_play -/
def f161 : Fd := ⟨5, 8, [.asgM 5 (.lst []), .while_ (.cmp .ne (.lc [7] (.nm 7) .seq [(.v 4)] [(.cmp .lt (.sub (.v 3) (.v 7)) (.k (.int 0)))] (.v 7)) (.lst [])) [.asg 6 (.lc [7] (.nm 7) .seq [(.v 4)] [(.cmp .lt (.sub (.v 3) (.v 7)) (.k (.int 0)))] (.v 7)), .asg 7 (.sub (.v 6) (.bin .mod (.sub (.v 0) (.bin .mod (.bi .len [(.v 5)]) (.bi .len [(.v 0)]))) (.bi .len [(.v 6)]))), .mm .append (.v 5) [(.v 7)], .asg 3 (.call 148 [(.v 1), (.v 2), (.v 3), (.v 7)])], .ret (.lst [(.v 5), (.v 3)])]⟩
/-- _law_key -/
def f162 : Fd := ⟨2, 3, [.ret (.bi .tuple_ [(.lc [2] (.nm 2) .seq [(.v 0)] [] (.sub (.v 1) (.v 2)))])]⟩
/-- _law_reached -/
def f163 : Fd := ⟨3, 12, [.asg 3 (.call 150 [(.v 1)]), .par 4 5 true false (.dct false [(.call 162 [(.v 1), (.v 3)])] [(.lst [])]) (.lst [(.tup [(.lst []), (.v 3)])]), .for_ (.nm 6) .rng [(.v 2)] [.asgM 7 (.lst []), .for_ (.tp [8, 9]) .seq [(.v 5)] [.for_ (.nm 10) .seq [(.v 1)] [.asg 11 (.call 148 [(.v 0), (.v 1), (.v 9), (.v 10)]), .if_ (.cmp .nin (.call 162 [(.v 1), (.v 11)]) (.v 4)) [.setI (.v 4) (.call 162 [(.v 1), (.v 11)]) (.bin .add (.v 8) (.lst [(.v 10)])), .mm .append (.v 7) [(.tup [(.bin .add (.v 8) (.lst [(.v 10)])), (.v 11)])]] []]], .asg 5 (.v 7)], .ret (.v 4)]⟩
end
end Fw.B
namespace Fw
def rzS : Nat → Ep → Sm := .raise_
def nvS : Nat → Ep → Sm := fun _ _ => .nv
end Fw

/-! L3: graphs: the functions that ask. -/
namespace Fw
open PySem L2
open PySem.PyData (strOk)

/-- a module that holds the graph class -/
structure GM (md : Md) (r : Nat → Ep → Sm) : Prop where
  h24 : md.fns[24]? = some B.f24
  h25 : md.fns[25]? = some B.f25
  h26 : md.fns[26]? = some (B.f26 r)
  h27 : md.fns[27]? = some (B.f27 r)
  h28 : md.fns[28]? = some B.f28
  h29 : md.fns[29]? = some B.f29
  h33 : md.fns[33]? = some B.f33
  h36 : md.fns[36]? = some (B.f36 r)
  m10 : md.ms.lookup (0, 10) = some 27
  m11 : md.ms.lookup (0, 11) = some 28
  m12 : md.ms.lookup (0, 12) = some 29
  m19 : md.ms.lookup (0, 19) = some 36
  a22 : (0, 22) ∈ md.at_
  a23 : (0, 23) ∈ md.at_
  p16 : md.pr.lookup (0, 16) = some 33
  ncl : 0 < md.ncl
/-- a graph as a frozen tree -/
def gD (ns : List Str) (kt : List (List Key × D)) : D := .ins 0 [(22, .tup (ns.map .str)), (23, .dT kt)]
def gF (ns : List Str) (kt : List (List Key × D)) : List (Nat × FV) := [(22, .d (.tup (ns.map .str))), (23, .w (.dT kt))]
/-- a value that is a graph: frozen, or a cell -/
inductive GS (ns : List Str) (kt : List (List Key × D)) : Val → Mem → Prop
  | fr {m : Mem} : GS ns kt (.d (gD ns kt)) m
  | ce {n : Nat} {m : Mem} (h : m[n]? = some (.iv 0 (gF ns kt))) : GS ns kt (.c n) m
section
variable {kf : Str → Str → Int} {md : Md} {r : Nat → Ep → Sm} {ns : List Str} {kt : List (List Key × D)} {v : Val} {m : Mem}
theorem attr_d {f c : Nat} {fs : List (Nat × D)} {x : D} (h : (c, f) ∈ md.at_) (e : fs.lookup f = some x) (m : Mem) : attrM md f (.d (.ins c fs)) m = .ok (.d x) m := by
  show (if (c, f) ∈ md.at_ then (match fs.lookup f with | some x => pur (.d x) | none => (no : Mo RV)) else no) m = _
  rw [if_pos h, e]
  rfl
theorem attr_c {f c n : Nat} {fs : List (Nat × FV)} (h : (c, f) ∈ md.at_) (q : m[n]? = some (.iv c fs)) : attrM md f (.c n) m = match fs.lookup f with
      | some (.d x) => .ok (RV.d x) m
      | some (.w _) => .ok (RV.f n f) m
      | _ => .no := by
  show (match m[n]? with
    | some (.iv c fs) => if (c, f) ∈ md.at_ then (match fs.lookup f with
      | some (.d x) => Rs.ok (RV.d x) m
      | some (.w _) => .ok (RV.f n f) m
      | _ => .no) else .no
    | some (.fl (.ins c fs)) => if (c, f) ∈ md.at_ then (match fs.lookup f with | some x => .ok (RV.d x) m | none => .no) else .no
    | some (.fz (.ins c fs)) => if (c, f) ∈ md.at_ then (match fs.lookup f with | some x => .ok (RV.d x) m | none => .no) else .no
    | _ => .no) = _
  rw [q]
  show (if (c, f) ∈ md.at_ then _ else _) = _
  rw [if_pos h]
theorem GS.at22 (G : GM md r) (g : GS ns kt v m) : attrM md 22 (rvOf v) m = .ok (.d (.tup (ns.map .str))) m := by
  cases g with
  | fr => exact attr_d G.a22 rfl m
  | ce h => exact attr_c G.a22 h
def ktOf (kt : List (List Key × D)) : Val → RV
  | .c n => RV.f n 23
  | _ => RV.d (.dT kt)
theorem GS.at23 (G : GM md r) (g : GS ns kt v m) : attrM md 23 (rvOf v) m = .ok (ktOf kt v) m := by
  cases g with
  | fr => exact attr_d G.a23 rfl m
  | ce h => exact attr_c G.a23 h
theorem GS.view23 (g : GS ns kt v m) : viewM (ktOf kt v) m = .ok (.dT kt) m := by
  cases g with
  | fr => rfl
  | @ce n _ h =>
    show (match (m[n]?).bind (fldW · 23) with
      | some d => Rs.ok d m
      | none => .no) = _
    rw [h]
    rfl
theorem GS.cls (g : GS ns kt v m) {mn : Nat} (h1 : mn ≠ 22) (h2 : mn ≠ 23) : clsM mn (rvOf v) m = .ok 0 m := by
  have l1 : (mn == 22) = false := by simpa using h1
  have l2 : (mn == 23) = false := by simpa using h2
  have lk : List.lookup mn [(22, (.tup (ns.map .str) : D)), (23, .dT kt)] = none := by
    simp only [List.lookup, l1, l2]
  show (match clsOf mn (rvOf v) m with
    | some c => Rs.ok c m
    | none => .no) = _
  have e : clsOf mn (rvOf v) m = some 0 := by
    cases g with
    | fr =>
      show (if (List.lookup mn [(22, (.tup (ns.map .str) : D)), (23, .dT kt)]).isSome = true then none else some 0) = _
      rw [lk]
      rfl
    | @ce n _ h =>
      show (match m[n]? with
        | some w => (match w.view with
          | .ins c fs => if (fs.lookup mn).isSome = true then none else some c
          | _ => none)
        | _ => none) = _
      rw [h]
      show (if (List.lookup mn [(22, (.tup (ns.map .str) : D)), (23, .dT kt)]).isSome = true then none else some 0) = _
      rw [lk]
      rfl
  rw [e]
theorem GS.arg (g : GS ns kt v m) : argM (rvOf v) = pur v := by
  cases g <;> rfl
/-- is it a text, does the class hold it -/
theorem isi_str (x : Str) : isiM md [.tstr] (.d (.str x)) = pur (.d (.bl true)) := rfl
theorem cmp_in (a b : D) : cmpD .in_ a b = inD a b := rfl
theorem cmp_nin (a b : D) : cmpD .nin a b = (inD a b).map (!·) := rfl
theorem cmp_eq' (a b : D) : cmpD .eq a b = eqD a b := rfl
theorem cmp_ne' (a b : D) : cmpD .ne a b = (eqD a b).map (!·) := rfl
theorem has_node (G : GM md r) (k : Nat) (x : Str) (g : GS ns kt v m) : callI md (k + 1) 29 [v, .d (.str x)] m = .ok (.d (.bl (decide (x ∈ ns)))) m := by
  rw [callI_some G.h29 rfl]
  refine bodyM_rt0 ?_
  show exs md (callI md k) [.ret (.and_ (.isi (.v 1) [.tstr]) (.cmp .in_ (.v 1) (.attr 22 (.v 0))))] [some v, some (.d (.str x))] m = _
  simp only [e_v, e_k, e_gc, e_ccon, e_bin, e_neg, e_not, e_cmp, e_chain, e_and, e_or, e_ife, e_call, e_mk, e_mkM, e_meth, e_attr, e_prop, e_bi, e_lenset, e_isi, e_bm, e_sub, e_sl, e_rev, e_lst, e_tup, e_dct0, e_lc, e_dc, e_scut, e_semp, es_nil, es_cons, et_nil, et_cons, x_asg, x_asgM, x_asgT, x_par, x_setI, x_setF, x_setW, x_mm, x_ex, x_ret, x_retN, x_if, x_for, x_while, x_aug, x_pass, x_brk, x_cnt, x_nv, x_nil, x_cons, t_ev, c_o, sl_0, sl_s, rv_d, rv_c, rv_s, w_d, w_o, ws_nil, ws_cons, f_d, f_o, fs_nil, fs_cons, a_d, a_o, a_c, as_nil, as_cons, rd_some, tr_bl, tr_non, tr_int, tr_lst, tr_tup, c_d, c_c, v_rv, ↓bnd_r, ↓sM_r', bR_ok, sR_ok, pur_r, newM_r, ofO_some, grd_t, nn_v, nn_bin, nn_neg, nn_kn, nn_ki, nn_sub, nn_bi, in_m, mk_app, mk_ext, mk_rev, bk_get1, bk_get2, bk_get1k, bk_get2k, slE_t, slE_f, bnd_pur, st_nm, st_2, st_2l, wp_nil, wp_1, wp_2, fm_nil, fm_cons, List.set_cons_zero, List.set_cons_succ, nrz_pur, nrz_r, nR_ok, start_s, tn_, decide_true, decide_false, Bool.not_true, Bool.not_false, eq_self, ↓reduceIte, List.map_cons, List.map_nil, isi_str, g.at22 G, cmp_in, in_strs]
theorem isi_seq {x : D} {l : List D} (h : x = .lst l ∨ x = .tup l) : isiM md [.tlist, .ttuple] (.d x) = pur (.d (.bl true)) := by
  rcases h with rfl | rfl <;> rfl
theorem cmp_is (a : D) : cmpD .is_ a .non = some (isNon a) := rfl
theorem cmp_isn (a : D) : cmpD .isn a .non = some (!isNon a) := rfl
theorem lk19 (G : GM md r) : md.ms.lookup (0, 19) = some 36 := G.m19
theorem GS.cls12 (g : GS ns kt v m) : clsM 12 (rvOf v) m = .ok 0 m := g.cls (by decide) (by decide)
theorem GS.cls19 (g : GS ns kt v m) : clsM 19 (rvOf v) m = .ok 0 m := g.cls (by decide) (by decide)
theorem GS.arg' (g : GS ns kt v m) : argM (rvOf v) m = .ok v m := by rw [g.arg]; rfl
theorem GS.app (g : GS ns kt v m) (x : Mem) : GS ns kt v (m ++ x) := by
  cases g with
  | fr => exact .fr
  | ce h => exact .ce (by rw [List.getElem?_append_left (by have := List.getElem?_eq_some_iff.mp h; exact this.1)]; exact h)
/-- the table of kinds tells kf -/
def Gr (ns : List Str) (kt : List (List Key × D)) (kf : Str → Str → Int) : Prop := ∀ x ∈ ns, ∀ y ∈ ns, x ≠ y → (lookA kt [.inr x, .inr y]).getD (.int 0) = .int (kf x y)
/-- the kind of two nodes, None of one with itself -/
def kiD (kf : Str → Str → Int) (x y : Str) : D := if x = y then .non else .int (kf x y)
theorem get_kind (hk : Gr ns kt kf) {x y : Str} (hx : x ∈ ns) (hy : y ∈ ns) (n : x ≠ y) : bmD .get2 (.dT kt) [.tup [.str x, .str y], .int 0] = some (.d (.int (kf x y))) := by
  show (if flatB (.int 0) = true then (gotD (.dT kt) (.tup [.str x, .str y])).map fun o => RV.d (o.getD (.int 0)) else none) = _
  rw [if_pos (show flatB (.int 0) = true from rfl)]
  show some (RV.d ((lookA kt [.inr x, .inr y]).getD (.int 0))) = _
  rw [hk x hx y hy n]
theorem kind_c (G : GM md r) (k : Nat) {x y : Str} (hk : Gr ns kt kf) (ok : OkS ns) (hx : x ∈ ns) (hy : y ∈ ns) (g : GS ns kt v m) : callI md (k + 2) 36 [v, .d (.str x), .d (.str y)] m = .ok (.d (kiD kf x y)) m := by
  rw [callI_some G.h36 rfl]
  refine bodyM_rt0 ?_
  show exs md (callI md (k + 1)) (B.f36 r).body [some v, some (.d (.str x)), some (.d (.str y)), none] m = _
  unfold B.f36 kiD
  have hn := fun x => has_node G k x g
  by_cases e : x = y
  · subst e
    simp only [e_v, e_k, e_gc, e_ccon, e_bin, e_neg, e_not, e_cmp, e_chain, e_and, e_or, e_ife, e_call, e_mk, e_mkM, e_meth, e_attr, e_prop, e_bi, e_lenset, e_isi, e_bm, e_sub, e_sl, e_rev, e_lst, e_tup, e_dct0, e_lc, e_dc, e_scut, e_semp, es_nil, es_cons, et_nil, et_cons, x_asg, x_asgM, x_asgT, x_par, x_setI, x_setF, x_setW, x_mm, x_ex, x_ret, x_retN, x_if, x_for, x_while, x_aug, x_pass, x_brk, x_cnt, x_nv, x_nil, x_cons, t_ev, c_o, sl_0, sl_s, rv_d, rv_c, rv_s, w_d, w_o, ws_nil, ws_cons, f_d, f_o, fs_nil, fs_cons, a_d, a_o, a_c, as_nil, as_cons, rd_some, tr_bl, tr_non, tr_int, tr_lst, tr_tup, c_d, c_c, v_rv, ↓bnd_r, ↓sM_r', bR_ok, sR_ok, pur_r, newM_r, ofO_some, grd_t, nn_v, nn_bin, nn_neg, nn_kn, nn_ki, nn_sub, nn_bi, in_m, mk_app, mk_ext, mk_rev, bk_get1, bk_get2, bk_get1k, bk_get2k, slE_t, slE_f, bnd_pur, st_nm, st_2, st_2l, wp_nil, wp_1, wp_2, fm_nil, fm_cons, List.set_cons_zero, List.set_cons_succ, nrz_pur, nrz_r, nR_ok, start_s, tn_, decide_true, decide_false, Bool.not_true, Bool.not_false, eq_self, ↓reduceIte, List.map_cons, List.map_nil, G.m12, g.cls12, g.arg', hn, hx, it_tup, cmp_eq', eq_str (ok x hx) (ok x hx)]
  · simp only [e_v, e_k, e_gc, e_ccon, e_bin, e_neg, e_not, e_cmp, e_chain, e_and, e_or, e_ife, e_call, e_mk, e_mkM, e_meth, e_attr, e_prop, e_bi, e_lenset, e_isi, e_bm, e_sub, e_sl, e_rev, e_lst, e_tup, e_dct0, e_lc, e_dc, e_scut, e_semp, es_nil, es_cons, et_nil, et_cons, x_asg, x_asgM, x_asgT, x_par, x_setI, x_setF, x_setW, x_mm, x_ex, x_ret, x_retN, x_if, x_for, x_while, x_aug, x_pass, x_brk, x_cnt, x_nv, x_nil, x_cons, t_ev, c_o, sl_0, sl_s, rv_d, rv_c, rv_s, w_d, w_o, ws_nil, ws_cons, f_d, f_o, fs_nil, fs_cons, a_d, a_o, a_c, as_nil, as_cons, rd_some, tr_bl, tr_non, tr_int, tr_lst, tr_tup, c_d, c_c, v_rv, ↓bnd_r, ↓sM_r', bR_ok, sR_ok, pur_r, newM_r, ofO_some, grd_t, nn_v, nn_bin, nn_neg, nn_kn, nn_ki, nn_sub, nn_bi, in_m, mk_app, mk_ext, mk_rev, bk_get1, bk_get2, bk_get1k, bk_get2k, slE_t, slE_f, bnd_pur, st_nm, st_2, st_2l, wp_nil, wp_1, wp_2, fm_nil, fm_cons, List.set_cons_zero, List.set_cons_succ, nrz_pur, nrz_r, nR_ok, start_s, tn_, decide_true, decide_false, Bool.not_true, Bool.not_false, eq_self, ↓reduceIte, List.map_cons, List.map_nil, G.m12, g.cls12, g.arg', hn, hx, hy, it_tup, cmp_eq', eq_str (ok x hx) (ok y hy), e, g.at23 G, g.view23, get_kind hk hx hy e]
/-! ### words of nodes -/
/-- a frozen list or tuple -/
def Sq (x : D) (l : List D) : Prop := x = .lst l ∨ x = .tup l
theorem it_enum {x : D} {l : List D} (h : Sq x l) : itD .enum_ [x] = some (enumF 0 l) := by
  rcases h with rfl | rfl <;> rfl
theorem it_seq {x : D} {l : List D} (h : Sq x l) : itD .seq [x] = some l := by
  rcases h with rfl | rfl <;> rfl
theorem enum_at : ∀ (l : List D) (a : Int) (i : Nat), (enumF a l)[i]? = l[i]?.map fun x => .tup [.int (a + (i : Nat)), x]
  | [], _, _ => rfl
  | x :: r, a, 0 => by simp [enumF]
  | x :: r, a, i + 1 => by
    show (enumF (a + 1) r)[i]? = r[i]?.map _
    rw [enum_at r (a + 1) i]
    congr 1
    funext y
    rw [show a + 1 + ((i : Nat) : Int) = a + ((i + 1 : Nat) : Int) from by omega]
theorem enum_len : ∀ (l : List D) (a : Int), (enumF a l).length = l.length
  | [], _ => rfl
  | x :: r, a => by show (enumF (a + 1) r).length + 1 = _; rw [enum_len r]; rfl
theorem unknown_c (G : GM md r) (f39 : md.fns[39]? = some B.f39) (k : Nat) {x : D} {w : List Str} (hs : Sq x (w.map .str)) (hw : ∀ y ∈ w, y ∈ ns) (g : GS ns kt v m) : callI md (k + 2) 39 [v, .d x] m = .ok (.d .non) m := by
  rw [callI_some f39 rfl]
  have hn := fun x => has_node G k x g
  obtain ⟨s', m', e, h⟩ := for_all (f := turnM md (callI md (k + 1)) (.tp [2, 3]) [.if_ (.not_ (.meth 12 (.v 0) [(.v 3)])) [.ret (.v 2)] []])
    (items := enumF 0 (w.map .str)) (fun i s m' => m' = m ∧ ∃ a b, s = [some v, some (.d x), a, b]) (s := [some v, some (.d x), none, none]) (m := m) ⟨rfl, none, none, rfl⟩
    (by
      rintro i y s m' hy ⟨rfl, a, b, rfl⟩
      rw [enum_at, List.getElem?_map, Option.map_map, Option.map_eq_some_iff] at hy
      obtain ⟨z, hz, rfl⟩ := hy
      have hz' := hw z (List.mem_of_getElem? hz)
      refine ⟨[some v, some (.d x), some (.d (.int (0 + (i : Nat)))), some (.d (.str z))], m', .inl ?_, rfl, _, _, rfl⟩
      simp only [Function.comp_apply, e_v, e_k, e_gc, e_ccon, e_bin, e_neg, e_not, e_cmp, e_chain, e_and, e_or, e_ife, e_call, e_mk, e_mkM, e_meth, e_attr, e_prop, e_bi, e_lenset, e_isi, e_bm, e_sub, e_sl, e_rev, e_lst, e_tup, e_dct0, e_lc, e_dc, e_scut, e_semp, es_nil, es_cons, et_nil, et_cons, x_asg, x_asgM, x_asgT, x_par, x_setI, x_setF, x_setW, x_mm, x_ex, x_ret, x_retN, x_if, x_for, x_while, x_aug, x_pass, x_brk, x_cnt, x_nv, x_nil, x_cons, t_ev, c_o, sl_0, sl_s, rv_d, rv_c, rv_s, w_d, w_o, ws_nil, ws_cons, f_d, f_o, fs_nil, fs_cons, a_d, a_o, a_c, as_nil, as_cons, rd_some, tr_bl, tr_non, tr_int, tr_lst, tr_tup, c_d, c_c, v_rv, ↓bnd_r, ↓sM_r', bR_ok, sR_ok, pur_r, newM_r, ofO_some, grd_t, nn_v, nn_bin, nn_neg, nn_kn, nn_ki, nn_sub, nn_bi, in_m, mk_app, mk_ext, mk_rev, bk_get1, bk_get2, bk_get1k, bk_get2k, slE_t, slE_f, bnd_pur, st_nm, st_2, st_2l, wp_nil, wp_1, wp_2, fm_nil, fm_cons, List.set_cons_zero, List.set_cons_succ, nrz_pur, nrz_r, nR_ok, start_s, tn_, decide_true, decide_false, Bool.not_true, Bool.not_false, eq_self, ↓reduceIte, List.map_cons, List.map_nil, G.m12, g.cls12, g.arg', hn, hz'])
  obtain ⟨rfl, a, b, rfl⟩ := h
  refine bodyM_rt0 ?_
  show exs md (callI md (k + 1)) B.f39.body [some v, some (.d x), none, none] m' = _
  unfold B.f39
  simp only [e_v, e_k, e_gc, e_ccon, e_bin, e_neg, e_not, e_cmp, e_chain, e_and, e_or, e_ife, e_call, e_mk, e_mkM, e_meth, e_attr, e_prop, e_bi, e_lenset, e_isi, e_bm, e_sub, e_sl, e_rev, e_lst, e_tup, e_dct0, e_lc, e_dc, e_scut, e_semp, es_nil, es_cons, et_nil, et_cons, x_asg, x_asgM, x_asgT, x_par, x_setI, x_setF, x_setW, x_mm, x_ex, x_ret, x_retN, x_if, x_for, x_while, x_aug, x_pass, x_brk, x_cnt, x_nv, x_nil, x_cons, t_ev, c_o, sl_0, sl_s, rv_d, rv_c, rv_s, w_d, w_o, ws_nil, ws_cons, f_d, f_o, fs_nil, fs_cons, a_d, a_o, a_c, as_nil, as_cons, rd_some, tr_bl, tr_non, tr_int, tr_lst, tr_tup, c_d, c_c, v_rv, ↓bnd_r, ↓sM_r', bR_ok, sR_ok, pur_r, newM_r, ofO_some, grd_t, nn_v, nn_bin, nn_neg, nn_kn, nn_ki, nn_sub, nn_bi, in_m, mk_app, mk_ext, mk_rev, bk_get1, bk_get2, bk_get1k, bk_get2k, slE_t, slE_f, bnd_pur, st_nm, st_2, st_2l, wp_nil, wp_1, wp_2, fm_nil, fm_cons, List.set_cons_zero, List.set_cons_succ, nrz_pur, nrz_r, nR_ok, start_s, tn_, decide_true, decide_false, Bool.not_true, Bool.not_false, eq_self, ↓reduceIte, List.map_cons, List.map_nil, it_enum hs, e]
theorem word_c (G : GM md r) (f39 : md.fns[39]? = some B.f39) (f41 : md.fns[41]? = some (B.f41 r)) (k : Nat) {x : D} {w : List Str} (hs : Sq x (w.map .str)) (hw : ∀ y ∈ w, y ∈ ns) (g : GS ns kt v m) : callI md (k + 3) 41 [v, .d x] m = .ok (.d .non) m := by
  rw [callI_some f41 rfl]
  have hu := unknown_c G f39 k hs hw g
  refine bodyM_nx (s := [some v, some (.d x), some (.d .non)]) (x := []) ?_
  rw [List.append_nil]
  show exs md (callI md (k + 2)) (B.f41 r).body [some v, some (.d x), none] m = _
  unfold B.f41
  simp only [e_v, e_k, e_gc, e_ccon, e_bin, e_neg, e_not, e_cmp, e_chain, e_and, e_or, e_ife, e_call, e_mk, e_mkM, e_meth, e_attr, e_prop, e_bi, e_lenset, e_isi, e_bm, e_sub, e_sl, e_rev, e_lst, e_tup, e_dct0, e_lc, e_dc, e_scut, e_semp, es_nil, es_cons, et_nil, et_cons, x_asg, x_asgM, x_asgT, x_par, x_setI, x_setF, x_setW, x_mm, x_ex, x_ret, x_retN, x_if, x_for, x_while, x_aug, x_pass, x_brk, x_cnt, x_nv, x_nil, x_cons, t_ev, c_o, sl_0, sl_s, rv_d, rv_c, rv_s, w_d, w_o, ws_nil, ws_cons, f_d, f_o, fs_nil, fs_cons, a_d, a_o, a_c, as_nil, as_cons, rd_some, tr_bl, tr_non, tr_int, tr_lst, tr_tup, c_d, c_c, v_rv, ↓bnd_r, ↓sM_r', bR_ok, sR_ok, pur_r, newM_r, ofO_some, grd_t, nn_v, nn_bin, nn_neg, nn_kn, nn_ki, nn_sub, nn_bi, in_m, mk_app, mk_ext, mk_rev, bk_get1, bk_get2, bk_get1k, bk_get2k, slE_t, slE_f, bnd_pur, st_nm, st_2, st_2l, wp_nil, wp_1, wp_2, fm_nil, fm_cons, List.set_cons_zero, List.set_cons_succ, nrz_pur, nrz_r, nR_ok, start_s, tn_, decide_true, decide_false, Bool.not_true, Bool.not_false, eq_self, ↓reduceIte, List.map_cons, List.map_nil, isi_seq hs, g.arg', hu, cmp_isn, isNon]
end
end Fw

/-! L4: words exchanged: what the program's functions answer. -/
namespace Fw
open PySem L2
open PySem.PyData (strOk)

theorem nat1 (i : Nat) : ((i : Nat) : Int) + 1 = ((i + 1 : Nat) : Int) := rfl
theorem nat2 (i : Nat) : ((i : Nat) : Int) + 2 = ((i + 2 : Nat) : Int) := rfl
theorem nat3 (i : Nat) : ((i : Nat) : Int) + 3 = ((i + 3 : Nat) : Int) := rfl
theorem b_add (i j : Int) : binD .add (.int i) (.int j) = some (.d (.int (i + j))) := rfl
theorem b_sub (i j : Int) : binD .sub (.int i) (.int j) = some (.d (.int (i - j))) := rfl
theorem b_addl {x y : List D} (h : x.length + y.length ≤ 16777216) : binD .add (.lst x) (.lst y) = some (.o (.lst (x ++ y))) := by
  show (if x.length + y.length ≤ 16777216 then some (RV.o (.lst (x ++ y))) else none) = _
  rw [if_pos h]
theorem add_w {x y : List Str} (h : x.length + y.length ≤ 16777216) : binD .add (wD x) (wD y) = some (.o (wD (x ++ y))) := by
  unfold wD
  rw [b_addl (by rwa [List.length_map, List.length_map]), List.map_append]
theorem len_l (xs : List D) : biD .len [.lst xs] = some (.d (.int (xs.length : Nat))) := rfl
theorem len_w (w : List Str) : biD .len [wD w] = some (.d (.int (w.length : Nat))) := by
  show some (RV.d (.int ((w.map D.str).length : Nat))) = _
  rw [List.length_map]
theorem len_t (xs : List D) : biD .len [.tup xs] = some (.d (.int (xs.length : Nat))) := rfl
theorem lw0 : D.lst [] = wD [] := rfl
theorem lw1 (a : Str) : D.lst [.str a] = wD [a] := rfl
theorem lw2 (a b : Str) : D.lst [.str a, .str b] = wD [a, b] := rfl
theorem lw3 (a b c : Str) : D.lst [.str a, .str b, .str c] = wD [a, b, c] := rfl
theorem sub_l {xs : List D} {i : Nat} {a : D} (h : xs[i]? = some a) : subD (.lst xs) (.int (i : Nat)) = some a := at_nat h
theorem sub_t {xs : List D} {i : Nat} {a : D} (h : xs[i]? = some a) : subD (.tup xs) (.int (i : Nat)) = some a := at_nat h
theorem sub_w {w : List Str} {i : Nat} {a : Str} (h : w[i]? = some a) : subD (wD w) (.int (i : Nat)) = some (.str a) := sub_l (by rw [List.getElem?_map, h]; rfl)
theorem cut_wt (w : List Str) (i : Nat) : cutD (wD w) none (some (i : Nat)) = some (.o (wD (w.take i))) := by
  show some (RV.o (.lst (cutL (w.map D.str) none (some (i : Nat))))) = _
  rw [cut_map, cut_to]
  rfl
theorem cut_wf (w : List Str) (i : Nat) : cutD (wD w) (some (i : Nat)) none = some (.o (wD (w.drop i))) := by
  show some (RV.o (.lst (cutL (w.map D.str) (some (i : Nat)) none))) = _
  rw [cut_map, cut_from]
  rfl
theorem cut_wm (w : List Str) (i j : Nat) : cutD (wD w) (some (i : Nat)) (some (j : Nat)) = some (.o (wD ((w.drop i).take (j - i)))) := by
  show some (RV.o (.lst (cutL (w.map D.str) (some (i : Nat)) (some (j : Nat))))) = _
  rw [cut_map, cut_mid]
  rfl
theorem push_end {m : Mem} {xs : List D} {x : D} (h : xs.length < 16777216) : putM (.c m.length) (fun d => mmD .append d [x]) (m ++ [.fl (.lst xs)]) = .ok () (m ++ [.fl (.lst (xs ++ [x]))]) := by
  rw [putM_c (d := .lst xs) (d' := .lst (xs ++ [x])) (get_end ..) (show (if xs.length < 16777216 then some (D.lst (xs ++ [x])) else none) = _ from if_pos h), set_end]
theorem view_end (m : Mem) (d : D) (r : Mem) : viewM (.c m.length) (m ++ .fl d :: r) = .ok d (m ++ .fl d :: r) := viewM_c (get_end ..)
theorem rng_at {n i : Nat} {x : D} (h : ((List.range n).map fun i => D.int (i : Nat))[i]? = some x) : i < n ∧ x = .int (i : Nat) := by
  rw [List.getElem?_map, Option.map_eq_some_iff] at h
  obtain ⟨j, hj, rfl⟩ := h
  have q := List.getElem?_eq_some_iff.mp hj
  obtain ⟨q1, q2⟩ := q
  rw [List.length_range] at q1
  rw [List.getElem_range] at q2
  subst q2
  exact ⟨q1, rfl⟩
theorem rng_len (n : Nat) : ((List.range n).map fun i => D.int (i : Nat)).length = n := by rw [List.length_map, List.length_range]

/-- the word behind an exchange at a place -/
def exA (kf : Str → Str → Int) (w : List Str) (i : Nat) (a b : Str) : Option (List Str) :=
  if a = b then none
  else if kf a b = 0 then some (w.take i ++ [b, a] ++ w.drop (i + 2))
  else if kf a b = 1 ∧ w[i + 2]? = some a then some (w.take i ++ [b, a, b] ++ w.drop (i + 3))
  else none
def exAt (kf : Str → Str → Int) (w : List Str) (i : Nat) : Option (List Str) := match w[i]?, w[i + 1]? with
  | some a, some b => exA kf w i a b
  | _, _ => none
theorem exAt_eq {kf : Str → Str → Int} {w : List Str} {i : Nat} {a b : Str} (ha : w[i]? = some a) (hb : w[i + 1]? = some b) : exAt kf w i = exA kf w i a b := by
  unfold exAt
  rw [ha, hb]
def exL (kf : Str → Str → Int) (w : List Str) (n : Nat) : List (Nat × List Str) := (List.range n).filterMap fun i => (exAt kf w i).map fun u => (i, u)
theorem exL_succ (kf : Str → Str → Int) (w : List Str) (n : Nat) : exL kf w (n + 1) = exL kf w n ++ ((exAt kf w n).map fun u => (n, u)).toList := by
  unfold exL
  rw [List.range_succ, List.filterMap_append, List.filterMap_cons, List.filterMap_nil]
  cases h : exAt kf w n <;> rfl
theorem exL_len (kf : Str → Str → Int) (w : List Str) (n : Nat) : (exL kf w n).length ≤ n := by
  have := List.length_filterMap_le (fun i => (exAt kf w i).map fun u => (i, u)) (List.range n)
  rw [List.length_range] at this
  exact this
def pD (p : Nat × List Str) : D := .tup [.int p.1, wD p.2]
theorem one_mid {w : List Str} {i : Nat} {a : Str} : ((w.drop (i + 2)).take (i + 3 - (i + 2)) = [a]) = (w[i + 2]? = some a) := by
  rw [show i + 3 - (i + 2) = 1 from by omega]
  by_cases h : i + 2 < w.length
  · rw [List.drop_eq_getElem_cons h, List.take_succ_cons, List.take_zero, List.getElem?_eq_getElem h]
    simp
  · rw [List.drop_of_length_le (by omega), List.getElem?_eq_none (by omega)]
    simp
theorem okS_take {w : List Str} (h : OkS w) (i : Nat) : OkS (w.take i) := fun x hx => h x (List.mem_of_mem_take hx)
theorem okS_drop {w : List Str} (h : OkS w) (i : Nat) : OkS (w.drop i) := fun x hx => h x (List.mem_of_mem_drop hx)
theorem okS_1 {a : Str} (h : strOk a = true) : OkS [a] := fun x hx => by rw [List.mem_singleton.mp hx]; exact h
theorem bl_and (a b : Bool) : (bif a then b else false) = (a && b) := by cases a <;> rfl
/-- what a graph's text says where words are changed -/
structure GW4 (md : Md) (r : Nat → Ep → Sm) : Prop extends GM md r where
  h39 : md.fns[39]? = some B.f39
  h41 : md.fns[41]? = some (B.f41 r)
section
variable {kf : Str → Str → Int} {md : Md} {r : Nat → Ep → Sm} {ns : List Str} {kt : List (List Key × D)} {v : Val} {m : Mem}
theorem eq_ki (x y : Str) (n : Int) : eqD (kiD kf x y) (.int n) = some (decide (¬ x = y ∧ kf x y = n)) := by
  unfold kiD
  by_cases h : x = y
  · simp only [h, ↓reduceIte, not_true, false_and, decide_false]
    rfl
  · simp only [h, ↓reduceIte, not_false_iff, true_and]
    exact eq_int _ _
theorem exchanged_c (G : GM md r) (h47 : md.fns[47]? = some B.f47) (k : Nat) {w : List Str} (hk : Gr ns kt kf) (ok : OkS ns) (hw : ∀ y ∈ w, y ∈ ns) (hl : w.length ≤ 1000) (g : GS ns kt v m) :
    callI md (k + 3) 47 [v, .d (wD w)] m = .ok (.o (.lst ((exL kf w (w.length - 1)).map pD))) m := by
  rw [callI_some h47 rfl]
  have okw : OkS w := fun x hx => ok x (hw x hx)
  obtain ⟨s', m', e, h⟩ := for_all (f := turnM md (callI md (k + 2)) (.nm 3) [.par 4 5 false false (.sub (.v 1) (.v 3)) (.sub (.v 1) (.bin .add (.v 3) (.k (.int 1)))), .if_ (.cmp .eq (.meth 19 (.v 0) [(.v 4), (.v 5)]) (.k (.int 0))) [.mm .append (.v 2) [(.tup [(.v 3), (.bin .add (.bin .add (.sl (.v 1) (.k .non) (.v 3)) (.lst [(.v 5), (.v 4)])) (.sl (.v 1) (.bin .add (.v 3) (.k (.int 2))) (.k .non)))])]] [.if_ (.and_ (.cmp .eq (.meth 19 (.v 0) [(.v 4), (.v 5)]) (.k (.int 1))) (.cmp .eq (.sl (.v 1) (.bin .add (.v 3) (.k (.int 2))) (.bin .add (.v 3) (.k (.int 3)))) (.lst [(.v 4)]))) [.mm .append (.v 2) [(.tup [(.v 3), (.bin .add (.bin .add (.sl (.v 1) (.k .non) (.v 3)) (.lst [(.v 5), (.v 4), (.v 5)])) (.sl (.v 1) (.bin .add (.v 3) (.k (.int 3))) (.k .non)))])]] []]])
    (items := (List.range (w.length - 1)).map fun i => D.int (i : Nat)) (fun i s m' => m' = m ++ [.fl (.lst ((exL kf w i).map pD))] ∧ ∃ a b c, s = [some v, some (.d (wD w)), some (.c m.length), a, b, c])
    (s := [some v, some (.d (wD w)), some (.c m.length), none, none, none]) (m := m ++ [.fl (.lst [])]) ⟨rfl, none, none, none, rfl⟩
    (by
      rintro i y s m' hy ⟨rfl, c1, c2, c3, rfl⟩
      obtain ⟨hi, rfl⟩ := rng_at hy
      have ga : w[i]? = some (w[i]'(by omega)) := List.getElem?_eq_getElem _
      have gb : w[i + 1]? = some (w[i + 1]'(by omega)) := List.getElem?_eq_getElem _
      have ma : w[i]'(by omega) ∈ ns := hw _ (List.getElem_mem _)
      have mb : w[i + 1]'(by omega) ∈ ns := hw _ (List.getElem_mem _)
      generalize w[i]'(by omega) = a at ga ma
      generalize w[i + 1]'(by omega) = b at gb mb
      have kc := kind_c G k hk ok ma mb (g.app [.fl (.lst ((exL kf w i).map pD))])
      have gg := g.app [.fl (.lst ((exL kf w i).map pD))]
      have bl : ((exL kf w i).map pD).length < 16777216 := by have := exL_len kf w i; rw [List.length_map]; omega
      have e2 : OkS ((w.drop (i + 2)).take (i + 3 - (i + 2))) := okS_take (okS_drop okw _) _
      refine ⟨[some v, some (.d (wD w)), some (.c m.length), some (.d (.int (i : Nat))), some (.d (.str a)), some (.d (.str b))], m ++ [.fl (.lst ((exL kf w (i + 1)).map pD))], .inl ?_, rfl, _, _, _, rfl⟩
      by_cases n : a = b
      · subst n
        have hx : exL kf w (i + 1) = exL kf w i := by
          rw [exL_succ, exAt_eq ga gb]
          unfold exA
          rw [if_pos rfl]
          exact List.append_nil _
        simp only [e_v, e_k, e_gc, e_ccon, e_bin, e_neg, e_not, e_cmp, e_chain, e_and, e_or, e_ife, e_call, e_mk, e_mkM, e_meth, e_attr, e_prop, e_bi, e_lenset, e_isi, e_bm, e_sub, e_sl, e_rev, e_lst, e_tup, e_dct0, e_lc, e_dc, e_scut, e_semp, es_nil, es_cons, et_nil, et_cons, x_asg, x_asgM, x_asgT, x_par, x_setI, x_setF, x_setW, x_mm, x_ex, x_ret, x_retN, x_if, x_for, x_while, x_aug, x_pass, x_brk, x_cnt, x_nv, x_nil, x_cons, t_ev, c_o, sl_0, sl_s, rv_d, rv_c, rv_s, w_d, w_o, ws_nil, ws_cons, f_d, f_o, fs_nil, fs_cons, a_d, a_o, a_c, as_nil, as_cons, rd_some, tr_bl, tr_non, tr_int, tr_lst, tr_tup, c_d, c_c, v_rv, ↓bnd_r, ↓sM_r', bR_ok, sR_ok, pur_r, newM_r, ofO_some, grd_t, nn_v, nn_bin, nn_neg, nn_kn, nn_ki, nn_sub, nn_bi, in_m, mk_app, mk_ext, mk_rev, bk_get1, bk_get2, bk_get1k, bk_get2k, slE_t, slE_f, bnd_pur, st_nm, st_2, st_2l, wp_nil, wp_1, wp_2, fm_nil, fm_cons, List.set_cons_zero, List.set_cons_succ, nrz_pur, nrz_r, nR_ok, start_s, tn_, decide_true, decide_false, Bool.not_true, Bool.not_false, eq_self, ↓reduceIte, List.map_cons, List.map_nil, b_add, nat1, nat2, nat3, sub_w ga, sub_w gb, G.m19, gg.cls19, gg.arg', kc, cmp_eq', eq_ki, not_true, false_and, hx]
      by_cases n0 : kf a b = 0
      · have hx : exL kf w (i + 1) = exL kf w i ++ [(i, w.take i ++ [b, a] ++ w.drop (i + 2))] := by
          rw [exL_succ, exAt_eq ga gb]
          unfold exA
          rw [if_neg n, if_pos n0]
          rfl
        have b1 : (w.take i).length + [b, a].length ≤ 16777216 := by simp only [List.length_append, List.length_take, List.length_drop, List.length_cons, List.length_nil]; omega
        have b2 : (w.take i ++ [b, a]).length + (w.drop (i + 2)).length ≤ 16777216 := by simp only [List.length_append, List.length_take, List.length_drop, List.length_cons, List.length_nil]; omega
        simp only [e_v, e_k, e_gc, e_ccon, e_bin, e_neg, e_not, e_cmp, e_chain, e_and, e_or, e_ife, e_call, e_mk, e_mkM, e_meth, e_attr, e_prop, e_bi, e_lenset, e_isi, e_bm, e_sub, e_sl, e_rev, e_lst, e_tup, e_dct0, e_lc, e_dc, e_scut, e_semp, es_nil, es_cons, et_nil, et_cons, x_asg, x_asgM, x_asgT, x_par, x_setI, x_setF, x_setW, x_mm, x_ex, x_ret, x_retN, x_if, x_for, x_while, x_aug, x_pass, x_brk, x_cnt, x_nv, x_nil, x_cons, t_ev, c_o, sl_0, sl_s, rv_d, rv_c, rv_s, w_d, w_o, ws_nil, ws_cons, f_d, f_o, fs_nil, fs_cons, a_d, a_o, a_c, as_nil, as_cons, rd_some, tr_bl, tr_non, tr_int, tr_lst, tr_tup, c_d, c_c, v_rv, ↓bnd_r, ↓sM_r', bR_ok, sR_ok, pur_r, newM_r, ofO_some, grd_t, nn_v, nn_bin, nn_neg, nn_kn, nn_ki, nn_sub, nn_bi, in_m, mk_app, mk_ext, mk_rev, bk_get1, bk_get2, bk_get1k, bk_get2k, slE_t, slE_f, bnd_pur, st_nm, st_2, st_2l, wp_nil, wp_1, wp_2, fm_nil, fm_cons, List.set_cons_zero, List.set_cons_succ, nrz_pur, nrz_r, nR_ok, start_s, tn_, decide_true, decide_false, Bool.not_true, Bool.not_false, eq_self, ↓reduceIte, List.map_cons, List.map_nil, b_add, nat1, nat2, nat3, sub_w ga, sub_w gb, G.m19, gg.cls19, gg.arg', kc, cmp_eq', eq_ki, n, n0, not_false_iff, true_and, hx, view_end, cut_wt, cut_wf, lw2, add_w b1, add_w b2, push_end bl, List.map_append, pD]
      by_cases n1 : kf a b = 1 ∧ w[i + 2]? = some a
      · have hx : exL kf w (i + 1) = exL kf w i ++ [(i, w.take i ++ [b, a, b] ++ w.drop (i + 3))] := by
          rw [exL_succ, exAt_eq ga gb]
          unfold exA
          rw [if_neg n, if_neg n0, if_pos n1]
          rfl
        have b1 : (w.take i).length + [b, a, b].length ≤ 16777216 := by simp only [List.length_append, List.length_take, List.length_drop, List.length_cons, List.length_nil]; omega
        have b2 : (w.take i ++ [b, a, b]).length + (w.drop (i + 3)).length ≤ 16777216 := by simp only [List.length_append, List.length_take, List.length_drop, List.length_cons, List.length_nil]; omega
        simp only [e_v, e_k, e_gc, e_ccon, e_bin, e_neg, e_not, e_cmp, e_chain, e_and, e_or, e_ife, e_call, e_mk, e_mkM, e_meth, e_attr, e_prop, e_bi, e_lenset, e_isi, e_bm, e_sub, e_sl, e_rev, e_lst, e_tup, e_dct0, e_lc, e_dc, e_scut, e_semp, es_nil, es_cons, et_nil, et_cons, x_asg, x_asgM, x_asgT, x_par, x_setI, x_setF, x_setW, x_mm, x_ex, x_ret, x_retN, x_if, x_for, x_while, x_aug, x_pass, x_brk, x_cnt, x_nv, x_nil, x_cons, t_ev, c_o, sl_0, sl_s, rv_d, rv_c, rv_s, w_d, w_o, ws_nil, ws_cons, f_d, f_o, fs_nil, fs_cons, a_d, a_o, a_c, as_nil, as_cons, rd_some, tr_bl, tr_non, tr_int, tr_lst, tr_tup, c_d, c_c, v_rv, ↓bnd_r, ↓sM_r', bR_ok, sR_ok, pur_r, newM_r, ofO_some, grd_t, nn_v, nn_bin, nn_neg, nn_kn, nn_ki, nn_sub, nn_bi, in_m, mk_app, mk_ext, mk_rev, bk_get1, bk_get2, bk_get1k, bk_get2k, slE_t, slE_f, bnd_pur, st_nm, st_2, st_2l, wp_nil, wp_1, wp_2, fm_nil, fm_cons, List.set_cons_zero, List.set_cons_succ, nrz_pur, nrz_r, nR_ok, start_s, tn_, decide_true, decide_false, Bool.not_true, Bool.not_false, eq_self, ↓reduceIte, List.map_cons, List.map_nil, b_add, nat1, nat2, nat3, sub_w ga, sub_w gb, G.m19, gg.cls19, gg.arg', kc, cmp_eq', eq_ki, n, n0, n1.1, n1.2, not_false_iff, true_and, and_false, hx, view_end, cut_wt, cut_wf, cut_wm, lw1, lw3, eq_w e2 (okS_1 (ok a ma)), one_mid, add_w b1, add_w b2, push_end bl, List.map_append, pD, Int.reduceEq]
      · have hx : exL kf w (i + 1) = exL kf w i := by
          rw [exL_succ, exAt_eq ga gb]
          unfold exA
          rw [if_neg n, if_neg n0, if_neg n1]
          exact List.append_nil _
        by_cases n2 : kf a b = 1
        · have n3 : ¬ w[i + 2]? = some a := fun h => n1 ⟨n2, h⟩
          simp only [e_v, e_k, e_gc, e_ccon, e_bin, e_neg, e_not, e_cmp, e_chain, e_and, e_or, e_ife, e_call, e_mk, e_mkM, e_meth, e_attr, e_prop, e_bi, e_lenset, e_isi, e_bm, e_sub, e_sl, e_rev, e_lst, e_tup, e_dct0, e_lc, e_dc, e_scut, e_semp, es_nil, es_cons, et_nil, et_cons, x_asg, x_asgM, x_asgT, x_par, x_setI, x_setF, x_setW, x_mm, x_ex, x_ret, x_retN, x_if, x_for, x_while, x_aug, x_pass, x_brk, x_cnt, x_nv, x_nil, x_cons, t_ev, c_o, sl_0, sl_s, rv_d, rv_c, rv_s, w_d, w_o, ws_nil, ws_cons, f_d, f_o, fs_nil, fs_cons, a_d, a_o, a_c, as_nil, as_cons, rd_some, tr_bl, tr_non, tr_int, tr_lst, tr_tup, c_d, c_c, v_rv, ↓bnd_r, ↓sM_r', bR_ok, sR_ok, pur_r, newM_r, ofO_some, grd_t, nn_v, nn_bin, nn_neg, nn_kn, nn_ki, nn_sub, nn_bi, in_m, mk_app, mk_ext, mk_rev, bk_get1, bk_get2, bk_get1k, bk_get2k, slE_t, slE_f, bnd_pur, st_nm, st_2, st_2l, wp_nil, wp_1, wp_2, fm_nil, fm_cons, List.set_cons_zero, List.set_cons_succ, nrz_pur, nrz_r, nR_ok, start_s, tn_, decide_true, decide_false, Bool.not_true, Bool.not_false, eq_self, ↓reduceIte, List.map_cons, List.map_nil, b_add, nat1, nat2, nat3, sub_w ga, sub_w gb, G.m19, gg.cls19, gg.arg', kc, cmp_eq', eq_ki, n, n0, n2, n3, not_false_iff, true_and, and_false, hx, cut_wm, lw1, eq_w e2 (okS_1 (ok a ma)), one_mid, Int.reduceEq]
        · simp only [e_v, e_k, e_gc, e_ccon, e_bin, e_neg, e_not, e_cmp, e_chain, e_and, e_or, e_ife, e_call, e_mk, e_mkM, e_meth, e_attr, e_prop, e_bi, e_lenset, e_isi, e_bm, e_sub, e_sl, e_rev, e_lst, e_tup, e_dct0, e_lc, e_dc, e_scut, e_semp, es_nil, es_cons, et_nil, et_cons, x_asg, x_asgM, x_asgT, x_par, x_setI, x_setF, x_setW, x_mm, x_ex, x_ret, x_retN, x_if, x_for, x_while, x_aug, x_pass, x_brk, x_cnt, x_nv, x_nil, x_cons, t_ev, c_o, sl_0, sl_s, rv_d, rv_c, rv_s, w_d, w_o, ws_nil, ws_cons, f_d, f_o, fs_nil, fs_cons, a_d, a_o, a_c, as_nil, as_cons, rd_some, tr_bl, tr_non, tr_int, tr_lst, tr_tup, c_d, c_c, v_rv, ↓bnd_r, ↓sM_r', bR_ok, sR_ok, pur_r, newM_r, ofO_some, grd_t, nn_v, nn_bin, nn_neg, nn_kn, nn_ki, nn_sub, nn_bi, in_m, mk_app, mk_ext, mk_rev, bk_get1, bk_get2, bk_get1k, bk_get2k, slE_t, slE_f, bnd_pur, st_nm, st_2, st_2l, wp_nil, wp_1, wp_2, fm_nil, fm_cons, List.set_cons_zero, List.set_cons_succ, nrz_pur, nrz_r, nR_ok, start_s, tn_, decide_true, decide_false, Bool.not_true, Bool.not_false, eq_self, ↓reduceIte, List.map_cons, List.map_nil, b_add, nat1, nat2, nat3, sub_w ga, sub_w gb, G.m19, gg.cls19, gg.arg', kc, cmp_eq', eq_ki, n, n0, n2, not_false_iff, true_and, and_false, hx])
  obtain ⟨rfl, a, b, c, rfl⟩ := h
  refine bodyM_c0 (x := []) ?_
  show exs md (callI md (k + 2)) B.f47.body [some v, some (.d (wD w)), none, none, none, none] m = _
  have hr : ((w.length : Int) - 1).toNat = w.length - 1 := by omega
  have hr2 := it_rng (n := (w.length : Int) - 1) (by omega) (by omega)
  rw [hr] at hr2
  rw [rng_len] at e
  simp only [e_v, e_k, e_gc, e_ccon, e_bin, e_neg, e_not, e_cmp, e_chain, e_and, e_or, e_ife, e_call, e_mk, e_mkM, e_meth, e_attr, e_prop, e_bi, e_lenset, e_isi, e_bm, e_sub, e_sl, e_rev, e_lst, e_tup, e_dct0, e_lc, e_dc, e_scut, e_semp, es_nil, es_cons, et_nil, et_cons, x_asg, x_asgM, x_asgT, x_par, x_setI, x_setF, x_setW, x_mm, x_ex, x_ret, x_retN, x_if, x_for, x_while, x_aug, x_pass, x_brk, x_cnt, x_nv, x_nil, x_cons, t_ev, c_o, sl_0, sl_s, rv_d, rv_c, rv_s, w_d, w_o, ws_nil, ws_cons, f_d, f_o, fs_nil, fs_cons, a_d, a_o, a_c, as_nil, as_cons, rd_some, tr_bl, tr_non, tr_int, tr_lst, tr_tup, c_d, c_c, v_rv, ↓bnd_r, ↓sM_r', bR_ok, sR_ok, pur_r, newM_r, ofO_some, grd_t, nn_v, nn_bin, nn_neg, nn_kn, nn_ki, nn_sub, nn_bi, in_m, mk_app, mk_ext, mk_rev, bk_get1, bk_get2, bk_get1k, bk_get2k, slE_t, slE_f, bnd_pur, st_nm, st_2, st_2l, wp_nil, wp_1, wp_2, fm_nil, fm_cons, List.set_cons_zero, List.set_cons_succ, nrz_pur, nrz_r, nR_ok, start_s, tn_, decide_true, decide_false, Bool.not_true, Bool.not_false, eq_self, ↓reduceIte, List.map_cons, List.map_nil, B.f47, len_w, b_sub, hr2, e, rng_len]
end
end Fw

/-! L5: neighbours, kinds of steps. -/
namespace Fw
open PySem L2
open PySem.PyData (strOk)
theorem bi_list {x : D} {l : List D} (h : Sq x l) : biD .list_ [x] = some (.o (.lst l)) := by rcases h with rfl | rfl <;> rfl
theorem sq_w (w : List Str) : Sq (wD w) (w.map .str) := .inl rfl
theorem sq_t (w : List Str) : Sq (.tup (w.map .str)) (w.map .str) := .inr rfl
/-- words behind one exchange -/
def exW (kf : Str → Str → Int) (w : List Str) : List (List Str) := (exL kf w (w.length - 1)).map (·.2)
section
variable {kf : Str → Str → Int} {md : Md} {r : Nat → Ep → Sm} {ns : List Str} {kt : List (List Key × D)} {v : Val} {m : Mem}
theorem neighbours_c (G : GW4 md r) (h47 : md.fns[47]? = some B.f47) (h49 : md.fns[49]? = some B.f49) (k : Nat) {x : D} {w : List Str} (hs : Sq x (w.map .str)) (hk : Gr ns kt kf) (ok : OkS ns) (hw : ∀ y ∈ w, y ∈ ns) (hl : w.length ≤ 1000) (g : GS ns kt v m) :
    callI md (k + 4) 49 [v, .d x] m = .ok (.o (wsD (exW kf w))) m := by
  rw [callI_some h49 rfl]
  have c1 := word_c G.toGM G.h39 G.h41 k hs hw g
  have c2 := exchanged_c G.toGM h47 k hk ok hw hl g
  have c2' : callI md (k + 3) 47 [v, .d (.lst (w.map .str))] m = .ok (.o (.lst ((exL kf w (w.length - 1)).map pD))) m := c2
  have lc := lc_map (f := lcB md (callI md (k + 3)) [some v, some (.d x), none, none] [2, 3] (.tp [2, 3]) [] (.v 3)) (g := fun | .tup [_, y] => y | _ => .non) ((exL kf w (w.length - 1)).map pD) (by
    intro y hy
    obtain ⟨p, _, rfl⟩ := List.mem_map.mp hy
    simp only [e_v, e_k, e_gc, e_ccon, e_bin, e_neg, e_not, e_cmp, e_chain, e_and, e_or, e_ife, e_call, e_mk, e_mkM, e_meth, e_attr, e_prop, e_bi, e_lenset, e_isi, e_bm, e_sub, e_sl, e_rev, e_lst, e_tup, e_dct0, e_lc, e_dc, e_scut, e_semp, es_nil, es_cons, et_nil, et_cons, x_asg, x_asgM, x_asgT, x_par, x_setI, x_setF, x_setW, x_mm, x_ex, x_ret, x_retN, x_if, x_for, x_while, x_aug, x_pass, x_brk, x_cnt, x_nv, x_nil, x_cons, t_ev, c_o, sl_0, sl_s, rv_d, rv_c, rv_s, w_d, w_o, ws_nil, ws_cons, f_d, f_o, fs_nil, fs_cons, a_d, a_o, a_c, as_nil, as_cons, rd_some, tr_bl, tr_non, tr_int, tr_lst, tr_tup, c_d, c_c, v_rv, ↓bnd_r, ↓sM_r', bR_ok, sR_ok, pur_r, newM_r, ofO_some, grd_t, nn_v, nn_bin, nn_neg, nn_kn, nn_ki, nn_sub, nn_bi, in_m, mk_app, mk_ext, mk_rev, bk_get1, bk_get2, bk_get1k, bk_get2k, slE_t, slE_f, bnd_pur, st_nm, st_2, st_2l, wp_nil, wp_1, wp_2, fm_nil, fm_cons, List.set_cons_zero, List.set_cons_succ, nrz_pur, nrz_r, nR_ok, start_s, tn_, decide_true, decide_false, Bool.not_true, Bool.not_false, eq_self, ↓reduceIte, List.map_cons, List.map_nil, lc_b, pD])
  refine bodyM_o (x := []) ?_
  rw [List.append_nil]
  show exs md (callI md (k + 3)) B.f49.body [some v, some (.d x), none, none] m = _
  simp only [e_v, e_k, e_gc, e_ccon, e_bin, e_neg, e_not, e_cmp, e_chain, e_and, e_or, e_ife, e_call, e_mk, e_mkM, e_meth, e_attr, e_prop, e_bi, e_lenset, e_isi, e_bm, e_sub, e_sl, e_rev, e_lst, e_tup, e_dct0, e_lc, e_dc, e_scut, e_semp, es_nil, es_cons, et_nil, et_cons, x_asg, x_asgM, x_asgT, x_par, x_setI, x_setF, x_setW, x_mm, x_ex, x_ret, x_retN, x_if, x_for, x_while, x_aug, x_pass, x_brk, x_cnt, x_nv, x_nil, x_cons, t_ev, c_o, sl_0, sl_s, rv_d, rv_c, rv_s, w_d, w_o, ws_nil, ws_cons, f_d, f_o, fs_nil, fs_cons, a_d, a_o, a_c, as_nil, as_cons, rd_some, tr_bl, tr_non, tr_int, tr_lst, tr_tup, c_d, c_c, v_rv, ↓bnd_r, ↓sM_r', bR_ok, sR_ok, pur_r, newM_r, ofO_some, grd_t, nn_v, nn_bin, nn_neg, nn_kn, nn_ki, nn_sub, nn_bi, in_m, mk_app, mk_ext, mk_rev, bk_get1, bk_get2, bk_get1k, bk_get2k, slE_t, slE_f, bnd_pur, st_nm, st_2, st_2l, wp_nil, wp_1, wp_2, fm_nil, fm_cons, List.set_cons_zero, List.set_cons_succ, nrz_pur, nrz_r, nR_ok, start_s, tn_, decide_true, decide_false, Bool.not_true, Bool.not_false, eq_self, ↓reduceIte, List.map_cons, List.map_nil, B.f49, g.arg', c1, c2', bi_list hs, it_lst, lc]
  rw [List.map_map]
  unfold wsD exW
  rw [List.map_map]
  rfl
/-- two like letters struck out -/
def dbl (u w : List Str) : Prop := ∃ i a, u[i]? = some a ∧ u[i + 1]? = some a ∧ u.take i ++ u.drop (i + 2) = w
theorem double_c (h45 : md.fns[45]? = some B.f45) (k : Nat) {u w : List Str} (hu : OkS u) (hw : OkS w) (hl : u.length ≤ 1000) :
    ∃ b, (b = true ↔ dbl u w) ∧ callI md (k + 1) 45 [.d (wD u), .d (wD w)] m = .ok (.d (.bl b)) m := by
  have L := for_look (f := turnM md (callI md k) (.nm 2) [.if_ (.and_ (.cmp .eq (.sub (.v 0) (.v 2)) (.sub (.v 0) (.bin .add (.v 2) (.k (.int 1))))) (.cmp .eq (.bin .add (.sl (.v 0) (.k .non) (.v 2)) (.sl (.v 0) (.bin .add (.v 2) (.k (.int 2))) (.k .non))) (.v 1))) [.ret (.k (.bl true))] []])
    (fun i s m' => m' = m ∧ (∃ a, s = [some (.d (wD u)), some (.d (wD w)), a]) ∧ ∀ j < i, ∀ a, u[j]? = some a → u[j + 1]? = some a → u.take j ++ u.drop (j + 2) ≠ w)
    (fun q m' => q = .d (.bl true) ∧ m' = m ∧ dbl u w) (items := (List.range (u.length - 1)).map fun i => D.int (i : Nat)) (s := [some (.d (wD u)), some (.d (wD w)), none]) (m := m) ⟨rfl, ⟨_, rfl⟩, fun j h => absurd h (Nat.not_lt_zero _)⟩
    (by
      rintro i x s m' hy ⟨rfl, ⟨c, rfl⟩, hj⟩
      obtain ⟨hi, rfl⟩ := rng_at hy
      have ga : u[i]? = some (u[i]'(by omega)) := List.getElem?_eq_getElem _
      have gb : u[i + 1]? = some (u[i + 1]'(by omega)) := List.getElem?_eq_getElem _
      generalize u[i]'(by omega) = a at ga
      generalize u[i + 1]'(by omega) = b at gb
      have oa := hu a (List.mem_of_getElem? ga)
      have ob := hu b (List.mem_of_getElem? gb)
      have b1 : (u.take i).length + (u.drop (i + 2)).length ≤ 16777216 := by simp only [List.length_take, List.length_drop]; omega
      have o2 : OkS (u.take i ++ u.drop (i + 2)) := fun x hx => (List.mem_append.mp hx).elim (fun h => okS_take hu _ x h) fun h => okS_drop hu _ x h
      by_cases n : a = b
      · subst n
        by_cases e : u.take i ++ u.drop (i + 2) = w
        · refine .inr ⟨.d (.bl true), m', ?_, rfl, rfl, i, a, ga, gb, e⟩
          simp only [e_v, e_k, e_gc, e_ccon, e_bin, e_neg, e_not, e_cmp, e_chain, e_and, e_or, e_ife, e_call, e_mk, e_mkM, e_meth, e_attr, e_prop, e_bi, e_lenset, e_isi, e_bm, e_sub, e_sl, e_rev, e_lst, e_tup, e_dct0, e_lc, e_dc, e_scut, e_semp, es_nil, es_cons, et_nil, et_cons, x_asg, x_asgM, x_asgT, x_par, x_setI, x_setF, x_setW, x_mm, x_ex, x_ret, x_retN, x_if, x_for, x_while, x_aug, x_pass, x_brk, x_cnt, x_nv, x_nil, x_cons, t_ev, c_o, sl_0, sl_s, rv_d, rv_c, rv_s, w_d, w_o, ws_nil, ws_cons, f_d, f_o, fs_nil, fs_cons, a_d, a_o, a_c, as_nil, as_cons, rd_some, tr_bl, tr_non, tr_int, tr_lst, tr_tup, c_d, c_c, v_rv, ↓bnd_r, ↓sM_r', bR_ok, sR_ok, pur_r, newM_r, ofO_some, grd_t, nn_v, nn_bin, nn_neg, nn_kn, nn_ki, nn_sub, nn_bi, in_m, mk_app, mk_ext, mk_rev, bk_get1, bk_get2, bk_get1k, bk_get2k, slE_t, slE_f, bnd_pur, st_nm, st_2, st_2l, wp_nil, wp_1, wp_2, fm_nil, fm_cons, List.set_cons_zero, List.set_cons_succ, nrz_pur, nrz_r, nR_ok, start_s, tn_, decide_true, decide_false, Bool.not_true, Bool.not_false, eq_self, ↓reduceIte, List.map_cons, List.map_nil, b_add, nat1, nat2, sub_w ga, sub_w gb, cmp_eq', eq_str oa oa, cut_wt, cut_wf, add_w b1, eq_w hw hw, e]
        · refine .inl ⟨[some (.d (wD u)), some (.d (wD w)), some (.d (.int (i : Nat)))], m', .inl ?_, rfl, ⟨_, rfl⟩, ?_⟩
          · simp only [e_v, e_k, e_gc, e_ccon, e_bin, e_neg, e_not, e_cmp, e_chain, e_and, e_or, e_ife, e_call, e_mk, e_mkM, e_meth, e_attr, e_prop, e_bi, e_lenset, e_isi, e_bm, e_sub, e_sl, e_rev, e_lst, e_tup, e_dct0, e_lc, e_dc, e_scut, e_semp, es_nil, es_cons, et_nil, et_cons, x_asg, x_asgM, x_asgT, x_par, x_setI, x_setF, x_setW, x_mm, x_ex, x_ret, x_retN, x_if, x_for, x_while, x_aug, x_pass, x_brk, x_cnt, x_nv, x_nil, x_cons, t_ev, c_o, sl_0, sl_s, rv_d, rv_c, rv_s, w_d, w_o, ws_nil, ws_cons, f_d, f_o, fs_nil, fs_cons, a_d, a_o, a_c, as_nil, as_cons, rd_some, tr_bl, tr_non, tr_int, tr_lst, tr_tup, c_d, c_c, v_rv, ↓bnd_r, ↓sM_r', bR_ok, sR_ok, pur_r, newM_r, ofO_some, grd_t, nn_v, nn_bin, nn_neg, nn_kn, nn_ki, nn_sub, nn_bi, in_m, mk_app, mk_ext, mk_rev, bk_get1, bk_get2, bk_get1k, bk_get2k, slE_t, slE_f, bnd_pur, st_nm, st_2, st_2l, wp_nil, wp_1, wp_2, fm_nil, fm_cons, List.set_cons_zero, List.set_cons_succ, nrz_pur, nrz_r, nR_ok, start_s, tn_, decide_true, decide_false, Bool.not_true, Bool.not_false, eq_self, ↓reduceIte, List.map_cons, List.map_nil, b_add, nat1, nat2, sub_w ga, sub_w gb, cmp_eq', eq_str oa oa, cut_wt, cut_wf, add_w b1, eq_w o2 hw, e]
          · intro j h x hx hx'
            by_cases h' : j < i
            · exact hj j h' x hx hx'
            · have : j = i := by omega
              subst this
              exact e
      · refine .inl ⟨[some (.d (wD u)), some (.d (wD w)), some (.d (.int (i : Nat)))], m', .inl ?_, rfl, ⟨_, rfl⟩, ?_⟩
        · simp only [e_v, e_k, e_gc, e_ccon, e_bin, e_neg, e_not, e_cmp, e_chain, e_and, e_or, e_ife, e_call, e_mk, e_mkM, e_meth, e_attr, e_prop, e_bi, e_lenset, e_isi, e_bm, e_sub, e_sl, e_rev, e_lst, e_tup, e_dct0, e_lc, e_dc, e_scut, e_semp, es_nil, es_cons, et_nil, et_cons, x_asg, x_asgM, x_asgT, x_par, x_setI, x_setF, x_setW, x_mm, x_ex, x_ret, x_retN, x_if, x_for, x_while, x_aug, x_pass, x_brk, x_cnt, x_nv, x_nil, x_cons, t_ev, c_o, sl_0, sl_s, rv_d, rv_c, rv_s, w_d, w_o, ws_nil, ws_cons, f_d, f_o, fs_nil, fs_cons, a_d, a_o, a_c, as_nil, as_cons, rd_some, tr_bl, tr_non, tr_int, tr_lst, tr_tup, c_d, c_c, v_rv, ↓bnd_r, ↓sM_r', bR_ok, sR_ok, pur_r, newM_r, ofO_some, grd_t, nn_v, nn_bin, nn_neg, nn_kn, nn_ki, nn_sub, nn_bi, in_m, mk_app, mk_ext, mk_rev, bk_get1, bk_get2, bk_get1k, bk_get2k, slE_t, slE_f, bnd_pur, st_nm, st_2, st_2l, wp_nil, wp_1, wp_2, fm_nil, fm_cons, List.set_cons_zero, List.set_cons_succ, nrz_pur, nrz_r, nR_ok, start_s, tn_, decide_true, decide_false, Bool.not_true, Bool.not_false, eq_self, ↓reduceIte, List.map_cons, List.map_nil, b_add, nat1, nat2, sub_w ga, sub_w gb, cmp_eq', eq_str oa ob, n]
        · intro j h x hx hx'
          by_cases h' : j < i
          · exact hj j h' x hx hx'
          · have : j = i := by omega
            subst this
            exact absurd (Option.some.inj (ga.symm.trans hx) |>.trans (Option.some.inj (gb.symm.trans hx')).symm) n)
  have hr : ((u.length : Int) - 1).toNat = u.length - 1 := by omega
  have hr2 := it_rng (n := (u.length : Int) - 1) (by omega) (by omega)
  rw [hr] at hr2
  rw [callI_some h45 rfl]
  rcases L with ⟨s', m', e, rfl, ⟨a, rfl⟩, h⟩ | ⟨q, m', e, rfl, rfl, h⟩
  · refine ⟨false, ⟨(nomatch ·), ?_⟩, bodyM_rt0 ?_⟩
    · rintro ⟨i, a, ga, gb, e⟩
      rw [rng_len] at h
      have := (List.getElem?_eq_some_iff.mp gb).1
      exact absurd e (h i (by omega) a ga gb)
    · show exs md (callI md k) B.f45.body [some (.d (wD u)), some (.d (wD w)), none] _ = _
      simp only [e_v, e_k, e_gc, e_ccon, e_bin, e_neg, e_not, e_cmp, e_chain, e_and, e_or, e_ife, e_call, e_mk, e_mkM, e_meth, e_attr, e_prop, e_bi, e_lenset, e_isi, e_bm, e_sub, e_sl, e_rev, e_lst, e_tup, e_dct0, e_lc, e_dc, e_scut, e_semp, es_nil, es_cons, et_nil, et_cons, x_asg, x_asgM, x_asgT, x_par, x_setI, x_setF, x_setW, x_mm, x_ex, x_ret, x_retN, x_if, x_for, x_while, x_aug, x_pass, x_brk, x_cnt, x_nv, x_nil, x_cons, t_ev, c_o, sl_0, sl_s, rv_d, rv_c, rv_s, w_d, w_o, ws_nil, ws_cons, f_d, f_o, fs_nil, fs_cons, a_d, a_o, a_c, as_nil, as_cons, rd_some, tr_bl, tr_non, tr_int, tr_lst, tr_tup, c_d, c_c, v_rv, ↓bnd_r, ↓sM_r', bR_ok, sR_ok, pur_r, newM_r, ofO_some, grd_t, nn_v, nn_bin, nn_neg, nn_kn, nn_ki, nn_sub, nn_bi, in_m, mk_app, mk_ext, mk_rev, bk_get1, bk_get2, bk_get1k, bk_get2k, slE_t, slE_f, bnd_pur, st_nm, st_2, st_2l, wp_nil, wp_1, wp_2, fm_nil, fm_cons, List.set_cons_zero, List.set_cons_succ, nrz_pur, nrz_r, nR_ok, start_s, tn_, decide_true, decide_false, Bool.not_true, Bool.not_false, eq_self, ↓reduceIte, List.map_cons, List.map_nil, B.f45, len_w, b_sub, hr2, e]
  · refine ⟨true, ⟨fun _ => h, fun _ => rfl⟩, bodyM_rt0 ?_⟩
    show exs md (callI md k) B.f45.body [some (.d (wD u)), some (.d (wD w)), none] _ = _
    simp only [e_v, e_k, e_gc, e_ccon, e_bin, e_neg, e_not, e_cmp, e_chain, e_and, e_or, e_ife, e_call, e_mk, e_mkM, e_meth, e_attr, e_prop, e_bi, e_lenset, e_isi, e_bm, e_sub, e_sl, e_rev, e_lst, e_tup, e_dct0, e_lc, e_dc, e_scut, e_semp, es_nil, es_cons, et_nil, et_cons, x_asg, x_asgM, x_asgT, x_par, x_setI, x_setF, x_setW, x_mm, x_ex, x_ret, x_retN, x_if, x_for, x_while, x_aug, x_pass, x_brk, x_cnt, x_nv, x_nil, x_cons, t_ev, c_o, sl_0, sl_s, rv_d, rv_c, rv_s, w_d, w_o, ws_nil, ws_cons, f_d, f_o, fs_nil, fs_cons, a_d, a_o, a_c, as_nil, as_cons, rd_some, tr_bl, tr_non, tr_int, tr_lst, tr_tup, c_d, c_c, v_rv, ↓bnd_r, ↓sM_r', bR_ok, sR_ok, pur_r, newM_r, ofO_some, grd_t, nn_v, nn_bin, nn_neg, nn_kn, nn_ki, nn_sub, nn_bi, in_m, mk_app, mk_ext, mk_rev, bk_get1, bk_get2, bk_get1k, bk_get2k, slE_t, slE_f, bnd_pur, st_nm, st_2, st_2l, wp_nil, wp_1, wp_2, fm_nil, fm_cons, List.set_cons_zero, List.set_cons_succ, nrz_pur, nrz_r, nR_ok, start_s, tn_, decide_true, decide_false, Bool.not_true, Bool.not_false, eq_self, ↓reduceIte, List.map_cons, List.map_nil, B.f45, len_w, b_sub, hr2, e]
/-- the kind of a step: what the program answers -/
def stepK (kf : Str → Str → Int) (u w : List Str) (d : D) : Prop :=
  (dbl u w ∨ dbl w u → d = .str (S "double")) ∧
  (∀ i a b, u[i]? = some a → u[i + 1]? = some b → exA kf u i a b = some w → d = .str (if kf a b = 0 then S "far" else S "near")) ∧
  (¬ (dbl u w ∨ dbl w u) → (∀ i a b, u[i]? = some a → u[i + 1]? = some b → exA kf u i a b ≠ some w) → d = .non)
theorem exA_len {u w : List Str} {i : Nat} {a b : Str} (ha : u[i]? = some a) (hb : u[i + 1]? = some b) (h : exA kf u i a b = some w) : w.length = u.length := by
  have l := (List.getElem?_eq_some_iff.mp hb).1
  unfold exA at h
  split at h
  · cases h
  split at h
  · cases h
    simp only [List.length_append, List.length_take, List.length_drop, List.length_cons, List.length_nil]
    omega
  split at h
  · rename_i q
    have l2 := (List.getElem?_eq_some_iff.mp q.2).1
    cases h
    simp only [List.length_append, List.length_take, List.length_drop, List.length_cons, List.length_nil]
    omega
  · cases h
theorem dbl_len {u w : List Str} (h : dbl u w) : u.length = w.length + 2 := by
  obtain ⟨i, a, ga, gb, e⟩ := h
  have l := (List.getElem?_eq_some_iff.mp gb).1
  rw [← e]
  simp only [List.length_append, List.length_take, List.length_drop]
  omega
theorem bi_abs (i : Int) : biD .abs_ [.int i] = some (.d (.int (if i < 0 then -i else i))) := rfl
theorem cmp_gt (i j : Int) : cmpD .gt (.int i) (.int j) = some (decide (j < i)) := rfl
theorem exA_ok {u w : List Str} {i : Nat} {a b : Str} (hu : OkS u) (ha : u[i]? = some a) (hb : u[i + 1]? = some b) (h : exA kf u i a b = some w) : OkS w := by
  have oa := hu a (List.mem_of_getElem? ha)
  have ob := hu b (List.mem_of_getElem? hb)
  unfold exA at h
  split at h
  · cases h
  split at h
  · cases h
    intro x hx
    simp only [List.mem_append, List.mem_cons, List.not_mem_nil, or_false] at hx
    rcases hx with (hx | rfl | rfl) | hx
    · exact okS_take hu _ x hx
    · exact ob
    · exact oa
    · exact okS_drop hu _ x hx
  split at h
  · cases h
    intro x hx
    simp only [List.mem_append, List.mem_cons, List.not_mem_nil, or_false] at hx
    rcases hx with (hx | rfl | rfl | rfl) | hx
    · exact okS_take hu _ x hx
    · exact ob
    · exact oa
    · exact ob
    · exact okS_drop hu _ x hx
  · cases h
theorem exL_mem {u : List Str} {n : Nat} {p : Nat × List Str} (h : p ∈ exL kf u n) : p.1 < n ∧ ∃ a b, u[p.1]? = some a ∧ u[p.1 + 1]? = some b ∧ exA kf u p.1 a b = some p.2 := by
  unfold exL at h
  obtain ⟨i, hi, e⟩ := List.mem_filterMap.mp h
  rw [Option.map_eq_some_iff] at e
  obtain ⟨w, e, rfl⟩ := e
  refine ⟨List.mem_range.mp hi, ?_⟩
  unfold exAt at e
  split at e
  · rename_i a b ha hb
    exact ⟨a, b, ha, hb, e⟩
  · cases e
theorem mem_exL {u w : List Str} {i : Nat} {a b : Str} (ha : u[i]? = some a) (hb : u[i + 1]? = some b) (h : exA kf u i a b = some w) : (i, w) ∈ exL kf u (u.length - 1) := by
  have l := (List.getElem?_eq_some_iff.mp hb).1
  unfold exL
  refine List.mem_filterMap.mpr ⟨i, List.mem_range.mpr (by omega), ?_⟩
  rw [exAt_eq ha hb, h]
  rfl
/-- how many places differ -/
def ham : List Str → List Str → Nat
  | x :: u, y :: w => (if x = y then 0 else 1) + ham u w
  | _, _ => 0
theorem ham_self : ∀ s : List Str, ham s s = 0
  | [] => rfl
  | x :: s => by rw [ham, if_pos rfl, ham_self s]
theorem ham_pre : ∀ p u w : List Str, ham (p ++ u) (p ++ w) = ham u w
  | [], _, _ => rfl
  | x :: p, u, w => by rw [List.cons_append, List.cons_append, ham, if_pos rfl, ham_pre p, Nat.zero_add]
theorem at_drop {u : List Str} {i : Nat} {a : Str} (h : u[i]? = some a) : u.drop i = a :: u.drop (i + 1) := by
  obtain ⟨l, e⟩ := List.getElem?_eq_some_iff.mp h
  rw [List.drop_eq_getElem_cons l, e]
theorem split2 {u : List Str} {i : Nat} {a b : Str} (ha : u[i]? = some a) (hb : u[i + 1]? = some b) : u = u.take i ++ a :: b :: u.drop (i + 2) := by
  rw [← at_drop hb, ← at_drop ha, List.take_append_drop]
theorem ham_ex {u w : List Str} {i : Nat} {a b : Str} (ha : u[i]? = some a) (hb : u[i + 1]? = some b) (h : exA kf u i a b = some w) : ham u w = if kf a b = 0 then 2 else 3 := by
  have q := split2 ha hb
  unfold exA at h
  by_cases n : a = b
  · rw [if_pos n] at h; cases h
  rw [if_neg n] at h
  have n' : ¬ b = a := fun e => n e.symm
  by_cases z : kf a b = 0
  · rw [if_pos z] at h
    cases h
    conv => lhs; arg 1; rw [q]
    rw [List.append_assoc, ham_pre, List.cons_append, List.cons_append, ham, ham, if_neg n, if_neg n', List.nil_append, ham_self, if_pos z]
  · rw [if_neg z] at h
    by_cases y : kf a b = 1 ∧ u[i + 2]? = some a
    · rw [if_pos y] at h
      cases h
      rw [at_drop y.2] at q
      conv => lhs; arg 1; rw [q]
      rw [List.append_assoc, ham_pre, List.cons_append, List.cons_append, List.cons_append, ham, ham, ham, if_neg n, if_neg n', List.nil_append, ham_self, if_neg z]
    · rw [if_neg y] at h
      cases h
theorem between_c (G : GM md r) (h45 : md.fns[45]? = some B.f45) (h46 : md.fns[46]? = some B.f46) (h47 : md.fns[47]? = some B.f47) (k : Nat) {u w : List Str} (hk : Gr ns kt kf) (ok : OkS ns) (hu : ∀ y ∈ u, y ∈ ns) (hw : ∀ y ∈ w, y ∈ ns) (lu : u.length ≤ 1000) (lw : w.length ≤ 1000) (g : GS ns kt v m) :
    ∃ d, stepK kf u w d ∧ callI md (k + 4) 46 [v, .d (wD u), .d (wD w)] m = .ok (.d d) m := by
  have oku : OkS u := fun x hx => ok x (hu x hx)
  have okw : OkS w := fun x hx => ok x (hw x hx)
  rw [callI_some h46 rfl]
  have eb := exchanged_c G h47 k hk ok hu lu g
  by_cases lq : u.length = w.length + 2 ∨ w.length = u.length + 2
  · have ab : (if ((u.length : Int) - (w.length : Int)) < 0 then -((u.length : Int) - (w.length : Int)) else (u.length : Int) - (w.length : Int)) = 2 := by split <;> omega
    have noex : ∀ i a b, u[i]? = some a → u[i + 1]? = some b → exA kf u i a b = some w → False := fun i a b ha hb h => by
      have := exA_len ha hb h
      omega
    rcases lq with lq | lq
    · obtain ⟨b, hb, e⟩ := double_c (m := m) h45 (k + 2) oku okw lu
      have nd : ¬ dbl w u := fun h => by have := dbl_len h; omega
      have gt : decide ((w.length : Int) < (u.length : Int)) = true := decide_eq_true (by omega)
      refine ⟨if b = true then .str (S "double") else .non, ⟨?_, fun i a b ha hb h => (noex i a b ha hb h).elim, ?_⟩, bodyM_rt0 ?_⟩
      · rintro (h | h)
        · rw [if_pos (hb.mpr h)]
        · exact (nd h).elim
      · intro h _
        rw [if_neg fun q => h (.inl (hb.mp q))]
      · show exs md (callI md (k + 3)) B.f46.body [some v, some (.d (wD u)), some (.d (wD w)), none, none, none, none] m = _
        cases b <;> simp only [e_v, e_k, e_gc, e_ccon, e_bin, e_neg, e_not, e_cmp, e_chain, e_and, e_or, e_ife, e_call, e_mk, e_mkM, e_meth, e_attr, e_prop, e_bi, e_lenset, e_isi, e_bm, e_sub, e_sl, e_rev, e_lst, e_tup, e_dct0, e_lc, e_dc, e_scut, e_semp, es_nil, es_cons, et_nil, et_cons, x_asg, x_asgM, x_asgT, x_par, x_setI, x_setF, x_setW, x_mm, x_ex, x_ret, x_retN, x_if, x_for, x_while, x_aug, x_pass, x_brk, x_cnt, x_nv, x_nil, x_cons, t_ev, c_o, sl_0, sl_s, rv_d, rv_c, rv_s, w_d, w_o, ws_nil, ws_cons, f_d, f_o, fs_nil, fs_cons, a_d, a_o, a_c, as_nil, as_cons, rd_some, tr_bl, tr_non, tr_int, tr_lst, tr_tup, c_d, c_c, v_rv, ↓bnd_r, ↓sM_r', bR_ok, sR_ok, pur_r, newM_r, ofO_some, grd_t, nn_v, nn_bin, nn_neg, nn_kn, nn_ki, nn_sub, nn_bi, in_m, mk_app, mk_ext, mk_rev, bk_get1, bk_get2, bk_get1k, bk_get2k, slE_t, slE_f, bnd_pur, st_nm, st_2, st_2l, wp_nil, wp_1, wp_2, fm_nil, fm_cons, List.set_cons_zero, List.set_cons_succ, nrz_pur, nrz_r, nR_ok, start_s, tn_, decide_true, decide_false, Bool.not_true, Bool.not_false, eq_self, ↓reduceIte, List.map_cons, List.map_nil, B.f46, len_w, b_sub, bi_abs, cmp_eq', eq_int, ab, cmp_gt, gt, e, Bool.false_eq_true]
    · obtain ⟨b, hb, e⟩ := double_c (m := m) h45 (k + 2) okw oku lw
      have nd : ¬ dbl u w := fun h => by have := dbl_len h; omega
      have gt : decide ((w.length : Int) < (u.length : Int)) = false := decide_eq_false (by omega)
      refine ⟨if b = true then .str (S "double") else .non, ⟨?_, fun i a b ha hb h => (noex i a b ha hb h).elim, ?_⟩, bodyM_rt0 ?_⟩
      · rintro (h | h)
        · exact (nd h).elim
        · rw [if_pos (hb.mpr h)]
      · intro h _
        rw [if_neg fun q => h (.inr (hb.mp q))]
      · show exs md (callI md (k + 3)) B.f46.body [some v, some (.d (wD u)), some (.d (wD w)), none, none, none, none] m = _
        cases b <;> simp only [e_v, e_k, e_gc, e_ccon, e_bin, e_neg, e_not, e_cmp, e_chain, e_and, e_or, e_ife, e_call, e_mk, e_mkM, e_meth, e_attr, e_prop, e_bi, e_lenset, e_isi, e_bm, e_sub, e_sl, e_rev, e_lst, e_tup, e_dct0, e_lc, e_dc, e_scut, e_semp, es_nil, es_cons, et_nil, et_cons, x_asg, x_asgM, x_asgT, x_par, x_setI, x_setF, x_setW, x_mm, x_ex, x_ret, x_retN, x_if, x_for, x_while, x_aug, x_pass, x_brk, x_cnt, x_nv, x_nil, x_cons, t_ev, c_o, sl_0, sl_s, rv_d, rv_c, rv_s, w_d, w_o, ws_nil, ws_cons, f_d, f_o, fs_nil, fs_cons, a_d, a_o, a_c, as_nil, as_cons, rd_some, tr_bl, tr_non, tr_int, tr_lst, tr_tup, c_d, c_c, v_rv, ↓bnd_r, ↓sM_r', bR_ok, sR_ok, pur_r, newM_r, ofO_some, grd_t, nn_v, nn_bin, nn_neg, nn_kn, nn_ki, nn_sub, nn_bi, in_m, mk_app, mk_ext, mk_rev, bk_get1, bk_get2, bk_get1k, bk_get2k, slE_t, slE_f, bnd_pur, st_nm, st_2, st_2l, wp_nil, wp_1, wp_2, fm_nil, fm_cons, List.set_cons_zero, List.set_cons_succ, nrz_pur, nrz_r, nR_ok, start_s, tn_, decide_true, decide_false, Bool.not_true, Bool.not_false, eq_self, ↓reduceIte, List.map_cons, List.map_nil, B.f46, len_w, b_sub, bi_abs, cmp_eq', eq_int, ab, cmp_gt, gt, e, Bool.false_eq_true]
  · have ab : (if ((u.length : Int) - (w.length : Int)) < 0 then -((u.length : Int) - (w.length : Int)) else (u.length : Int) - (w.length : Int)) ≠ 2 := by split <;> omega
    have nd : ¬ (dbl u w ∨ dbl w u) := by
      rintro (h | h)
      · have := dbl_len h; omega
      · have := dbl_len h; omega
    have L := for_look (f := turnM md (callI md (k + 3)) (.tp [3, 4]) [.if_ (.cmp .eq (.v 4) (.v 2)) [.ret (.ife (.cmp .eq (.meth 19 (.v 0) [(.sub (.v 1) (.v 3)), (.sub (.v 1) (.bin .add (.v 3) (.k (.int 1))))]) (.k (.int 0))) (.k (.str (S "far"))) (.k (.str (S "near"))))] []])
      (fun i s m' => m' = m ∧ (∃ a b, s = [some v, some (.d (wD u)), some (.d (wD w)), a, b, none, none]) ∧ ∀ j < i, ∀ p, (exL kf u (u.length - 1))[j]? = some p → p.2 ≠ w)
      (fun q m' => m' = m ∧ ∃ i a b, u[i]? = some a ∧ u[i + 1]? = some b ∧ exA kf u i a b = some w ∧ q = .d (.str (if kf a b = 0 then S "far" else S "near"))) (items := (exL kf u (u.length - 1)).map pD) (s := [some v, some (.d (wD u)), some (.d (wD w)), none, none, none, none]) (m := m) ⟨rfl, ⟨_, _, rfl⟩, fun j h => absurd h (Nat.not_lt_zero _)⟩
      (by
        rintro i x s m' hy ⟨rfl, ⟨c1, c2, rfl⟩, hj⟩
        rw [List.getElem?_map, Option.map_eq_some_iff] at hy
        obtain ⟨p, hp, rfl⟩ := hy
        obtain ⟨q, z⟩ := p
        obtain ⟨hq, a, b, ha, hb, he⟩ := exL_mem (List.mem_of_getElem? hp)
        simp only at hq ha hb he
        have oz := exA_ok oku ha hb he
        have ma := hu _ (List.mem_of_getElem? ha)
        have mb := hu _ (List.mem_of_getElem? hb)
        have nab : a ≠ b := by
          rintro rfl
          unfold exA at he
          rw [if_pos rfl] at he
          cases he
        have kc := kind_c G (k + 1) hk ok ma mb g
        by_cases e : z = w
        · subst e
          refine .inr ⟨.d (.str (if kf a b = 0 then S "far" else S "near")), m', ?_, rfl, q, a, b, ha, hb, he, rfl⟩
          by_cases z0 : kf a b = 0
          · simp only [e_v, e_k, e_gc, e_ccon, e_bin, e_neg, e_not, e_cmp, e_chain, e_and, e_or, e_ife, e_call, e_mk, e_mkM, e_meth, e_attr, e_prop, e_bi, e_lenset, e_isi, e_bm, e_sub, e_sl, e_rev, e_lst, e_tup, e_dct0, e_lc, e_dc, e_scut, e_semp, es_nil, es_cons, et_nil, et_cons, x_asg, x_asgM, x_asgT, x_par, x_setI, x_setF, x_setW, x_mm, x_ex, x_ret, x_retN, x_if, x_for, x_while, x_aug, x_pass, x_brk, x_cnt, x_nv, x_nil, x_cons, t_ev, c_o, sl_0, sl_s, rv_d, rv_c, rv_s, w_d, w_o, ws_nil, ws_cons, f_d, f_o, fs_nil, fs_cons, a_d, a_o, a_c, as_nil, as_cons, rd_some, tr_bl, tr_non, tr_int, tr_lst, tr_tup, c_d, c_c, v_rv, ↓bnd_r, ↓sM_r', bR_ok, sR_ok, pur_r, newM_r, ofO_some, grd_t, nn_v, nn_bin, nn_neg, nn_kn, nn_ki, nn_sub, nn_bi, in_m, mk_app, mk_ext, mk_rev, bk_get1, bk_get2, bk_get1k, bk_get2k, slE_t, slE_f, bnd_pur, st_nm, st_2, st_2l, wp_nil, wp_1, wp_2, fm_nil, fm_cons, List.set_cons_zero, List.set_cons_succ, nrz_pur, nrz_r, nR_ok, start_s, tn_, decide_true, decide_false, Bool.not_true, Bool.not_false, eq_self, ↓reduceIte, List.map_cons, List.map_nil, pD, cmp_eq', eq_w oz oz, b_add, nat1, sub_w ha, sub_w hb, G.m19, g.cls19, g.arg', kc, eq_ki, nab, z0, not_false_iff, true_and]
          · simp only [e_v, e_k, e_gc, e_ccon, e_bin, e_neg, e_not, e_cmp, e_chain, e_and, e_or, e_ife, e_call, e_mk, e_mkM, e_meth, e_attr, e_prop, e_bi, e_lenset, e_isi, e_bm, e_sub, e_sl, e_rev, e_lst, e_tup, e_dct0, e_lc, e_dc, e_scut, e_semp, es_nil, es_cons, et_nil, et_cons, x_asg, x_asgM, x_asgT, x_par, x_setI, x_setF, x_setW, x_mm, x_ex, x_ret, x_retN, x_if, x_for, x_while, x_aug, x_pass, x_brk, x_cnt, x_nv, x_nil, x_cons, t_ev, c_o, sl_0, sl_s, rv_d, rv_c, rv_s, w_d, w_o, ws_nil, ws_cons, f_d, f_o, fs_nil, fs_cons, a_d, a_o, a_c, as_nil, as_cons, rd_some, tr_bl, tr_non, tr_int, tr_lst, tr_tup, c_d, c_c, v_rv, ↓bnd_r, ↓sM_r', bR_ok, sR_ok, pur_r, newM_r, ofO_some, grd_t, nn_v, nn_bin, nn_neg, nn_kn, nn_ki, nn_sub, nn_bi, in_m, mk_app, mk_ext, mk_rev, bk_get1, bk_get2, bk_get1k, bk_get2k, slE_t, slE_f, bnd_pur, st_nm, st_2, st_2l, wp_nil, wp_1, wp_2, fm_nil, fm_cons, List.set_cons_zero, List.set_cons_succ, nrz_pur, nrz_r, nR_ok, start_s, tn_, decide_true, decide_false, Bool.not_true, Bool.not_false, eq_self, ↓reduceIte, List.map_cons, List.map_nil, pD, cmp_eq', eq_w oz oz, b_add, nat1, sub_w ha, sub_w hb, G.m19, g.cls19, g.arg', kc, eq_ki, nab, z0, not_false_iff, true_and]
        · refine .inl ⟨[some v, some (.d (wD u)), some (.d (wD w)), some (.d (.int (q : Nat))), some (.d (wD z)), none, none], m', .inl ?_, rfl, ⟨_, _, rfl⟩, ?_⟩
          · simp only [e_v, e_k, e_gc, e_ccon, e_bin, e_neg, e_not, e_cmp, e_chain, e_and, e_or, e_ife, e_call, e_mk, e_mkM, e_meth, e_attr, e_prop, e_bi, e_lenset, e_isi, e_bm, e_sub, e_sl, e_rev, e_lst, e_tup, e_dct0, e_lc, e_dc, e_scut, e_semp, es_nil, es_cons, et_nil, et_cons, x_asg, x_asgM, x_asgT, x_par, x_setI, x_setF, x_setW, x_mm, x_ex, x_ret, x_retN, x_if, x_for, x_while, x_aug, x_pass, x_brk, x_cnt, x_nv, x_nil, x_cons, t_ev, c_o, sl_0, sl_s, rv_d, rv_c, rv_s, w_d, w_o, ws_nil, ws_cons, f_d, f_o, fs_nil, fs_cons, a_d, a_o, a_c, as_nil, as_cons, rd_some, tr_bl, tr_non, tr_int, tr_lst, tr_tup, c_d, c_c, v_rv, ↓bnd_r, ↓sM_r', bR_ok, sR_ok, pur_r, newM_r, ofO_some, grd_t, nn_v, nn_bin, nn_neg, nn_kn, nn_ki, nn_sub, nn_bi, in_m, mk_app, mk_ext, mk_rev, bk_get1, bk_get2, bk_get1k, bk_get2k, slE_t, slE_f, bnd_pur, st_nm, st_2, st_2l, wp_nil, wp_1, wp_2, fm_nil, fm_cons, List.set_cons_zero, List.set_cons_succ, nrz_pur, nrz_r, nR_ok, start_s, tn_, decide_true, decide_false, Bool.not_true, Bool.not_false, eq_self, ↓reduceIte, List.map_cons, List.map_nil, pD, cmp_eq', eq_w oz okw, e]
          · intro j h p' hp'
            by_cases h' : j < i
            · exact hj j h' p' hp'
            · have : j = i := by omega
              subst this
              rw [← Option.some.inj (hp.symm.trans hp')]
              exact e)
    rcases L with ⟨s', m', e, rfl, ⟨a, b, rfl⟩, h⟩ | ⟨q, m', e, rfl, i, a, b, ha, hb, he, rfl⟩
    · refine ⟨.non, ⟨fun h => (nd h).elim, fun i a b ha hb he => ?_, fun _ _ => rfl⟩, bodyM_rt0 ?_⟩
      · obtain ⟨j, hj⟩ := List.getElem?_of_mem (mem_exL ha hb he)
        have := (List.getElem?_eq_some_iff.mp hj).1
        exact absurd rfl (h j (by rw [List.length_map]; exact this) _ hj)
      · show exs md (callI md (k + 3)) B.f46.body [some v, some (.d (wD u)), some (.d (wD w)), none, none, none, none] _ = _
        simp only [e_v, e_k, e_gc, e_ccon, e_bin, e_neg, e_not, e_cmp, e_chain, e_and, e_or, e_ife, e_call, e_mk, e_mkM, e_meth, e_attr, e_prop, e_bi, e_lenset, e_isi, e_bm, e_sub, e_sl, e_rev, e_lst, e_tup, e_dct0, e_lc, e_dc, e_scut, e_semp, es_nil, es_cons, et_nil, et_cons, x_asg, x_asgM, x_asgT, x_par, x_setI, x_setF, x_setW, x_mm, x_ex, x_ret, x_retN, x_if, x_for, x_while, x_aug, x_pass, x_brk, x_cnt, x_nv, x_nil, x_cons, t_ev, c_o, sl_0, sl_s, rv_d, rv_c, rv_s, w_d, w_o, ws_nil, ws_cons, f_d, f_o, fs_nil, fs_cons, a_d, a_o, a_c, as_nil, as_cons, rd_some, tr_bl, tr_non, tr_int, tr_lst, tr_tup, c_d, c_c, v_rv, ↓bnd_r, ↓sM_r', bR_ok, sR_ok, pur_r, newM_r, ofO_some, grd_t, nn_v, nn_bin, nn_neg, nn_kn, nn_ki, nn_sub, nn_bi, in_m, mk_app, mk_ext, mk_rev, bk_get1, bk_get2, bk_get1k, bk_get2k, slE_t, slE_f, bnd_pur, st_nm, st_2, st_2l, wp_nil, wp_1, wp_2, fm_nil, fm_cons, List.set_cons_zero, List.set_cons_succ, nrz_pur, nrz_r, nR_ok, start_s, tn_, decide_true, decide_false, Bool.not_true, Bool.not_false, eq_self, ↓reduceIte, List.map_cons, List.map_nil, B.f46, len_w, b_sub, bi_abs, cmp_eq', eq_int, ab, g.arg', eb, it_lst, e]
    · refine ⟨.str (if kf a b = 0 then S "far" else S "near"), ⟨fun h => (nd h).elim, ?_, ?_⟩, bodyM_rt0 ?_⟩
      · intro i' a' b' ha' hb' he'
        have h1 := ham_ex ha hb he
        rw [ham_ex ha' hb' he'] at h1
        by_cases z : kf a b = 0 <;> by_cases z' : kf a' b' = 0 <;> simp [z, z'] at h1 ⊢
      · intro _ h
        exact absurd he (h i a b ha hb)
      · show exs md (callI md (k + 3)) B.f46.body [some v, some (.d (wD u)), some (.d (wD w)), none, none, none, none] _ = _
        simp only [e_v, e_k, e_gc, e_ccon, e_bin, e_neg, e_not, e_cmp, e_chain, e_and, e_or, e_ife, e_call, e_mk, e_mkM, e_meth, e_attr, e_prop, e_bi, e_lenset, e_isi, e_bm, e_sub, e_sl, e_rev, e_lst, e_tup, e_dct0, e_lc, e_dc, e_scut, e_semp, es_nil, es_cons, et_nil, et_cons, x_asg, x_asgM, x_asgT, x_par, x_setI, x_setF, x_setW, x_mm, x_ex, x_ret, x_retN, x_if, x_for, x_while, x_aug, x_pass, x_brk, x_cnt, x_nv, x_nil, x_cons, t_ev, c_o, sl_0, sl_s, rv_d, rv_c, rv_s, w_d, w_o, ws_nil, ws_cons, f_d, f_o, fs_nil, fs_cons, a_d, a_o, a_c, as_nil, as_cons, rd_some, tr_bl, tr_non, tr_int, tr_lst, tr_tup, c_d, c_c, v_rv, ↓bnd_r, ↓sM_r', bR_ok, sR_ok, pur_r, newM_r, ofO_some, grd_t, nn_v, nn_bin, nn_neg, nn_kn, nn_ki, nn_sub, nn_bi, in_m, mk_app, mk_ext, mk_rev, bk_get1, bk_get2, bk_get1k, bk_get2k, slE_t, slE_f, bnd_pur, st_nm, st_2, st_2l, wp_nil, wp_1, wp_2, fm_nil, fm_cons, List.set_cons_zero, List.set_cons_succ, nrz_pur, nrz_r, nR_ok, start_s, tn_, decide_true, decide_false, Bool.not_true, Bool.not_false, eq_self, ↓reduceIte, List.map_cons, List.map_nil, B.f46, len_w, b_sub, bi_abs, cmp_eq', eq_int, ab, g.arg', eb, it_lst, e]
theorem steps_c (G : GW4 md r) (h45 : md.fns[45]? = some B.f45) (h46 : md.fns[46]? = some B.f46) (h47 : md.fns[47]? = some B.f47) (h48 : md.fns[48]? = some B.f48) (k : Nat) {x y : D} {u w : List Str} (hx : Sq x (u.map .str)) (hy : Sq y (w.map .str)) (hk : Gr ns kt kf) (ok : OkS ns) (hu : ∀ y ∈ u, y ∈ ns) (hw : ∀ y ∈ w, y ∈ ns) (lu : u.length ≤ 1000) (lw : w.length ≤ 1000) (g : GS ns kt v m) :
    ∃ d, stepK kf u w d ∧ callI md (k + 5) 48 [v, .d x, .d y] m = .ok (.d d) m := by
  obtain ⟨d, hd, e⟩ := between_c G.toGM h45 h46 h47 k hk ok hu hw lu lw g
  have e' : callI md (k + 4) 46 [v, .d (.lst (u.map .str)), .d (.lst (w.map .str))] m = .ok (.d d) m := e
  have c1 := word_c G.toGM G.h39 G.h41 (k + 1) hx hu g
  have c2 := word_c G.toGM G.h39 G.h41 (k + 1) hy hw g
  refine ⟨d, hd, ?_⟩
  rw [callI_some h48 rfl]
  refine bodyM_rt0 ?_
  show exs md (callI md (k + 4)) B.f48.body [some v, some (.d x), some (.d y)] m = _
  simp only [e_v, e_k, e_gc, e_ccon, e_bin, e_neg, e_not, e_cmp, e_chain, e_and, e_or, e_ife, e_call, e_mk, e_mkM, e_meth, e_attr, e_prop, e_bi, e_lenset, e_isi, e_bm, e_sub, e_sl, e_rev, e_lst, e_tup, e_dct0, e_lc, e_dc, e_scut, e_semp, es_nil, es_cons, et_nil, et_cons, x_asg, x_asgM, x_asgT, x_par, x_setI, x_setF, x_setW, x_mm, x_ex, x_ret, x_retN, x_if, x_for, x_while, x_aug, x_pass, x_brk, x_cnt, x_nv, x_nil, x_cons, t_ev, c_o, sl_0, sl_s, rv_d, rv_c, rv_s, w_d, w_o, ws_nil, ws_cons, f_d, f_o, fs_nil, fs_cons, a_d, a_o, a_c, as_nil, as_cons, rd_some, tr_bl, tr_non, tr_int, tr_lst, tr_tup, c_d, c_c, v_rv, ↓bnd_r, ↓sM_r', bR_ok, sR_ok, pur_r, newM_r, ofO_some, grd_t, nn_v, nn_bin, nn_neg, nn_kn, nn_ki, nn_sub, nn_bi, in_m, mk_app, mk_ext, mk_rev, bk_get1, bk_get2, bk_get1k, bk_get2k, slE_t, slE_f, bnd_pur, st_nm, st_2, st_2l, wp_nil, wp_1, wp_2, fm_nil, fm_cons, List.set_cons_zero, List.set_cons_succ, nrz_pur, nrz_r, nR_ok, start_s, tn_, decide_true, decide_false, Bool.not_true, Bool.not_false, eq_self, ↓reduceIte, List.map_cons, List.map_nil, B.f48, g.arg', c1, c2, bi_list hx, bi_list hy, e']
end
end Fw

/-! L6: the law's own way to exchange and to tell steps. -/
namespace Fw
open PySem L2
open PySem.PyData (strOk)
/-- the law's table of kinds -/
def Kd (ns : List Str) (K : List (List Key × D)) (kf : Str → Str → Int) : Prop := ∀ x ∈ ns, ∀ y ∈ ns, x ≠ y → lookA K [.inr x, .inr y] = some (.int (kf x y))
theorem push_ws {m : Mem} {xs : List (List Str)} {w : List Str} (h : xs.length < 16777216) : putM (.c m.length) (fun d => mmD .append d [wD w]) (m ++ [.fl (wsD xs)]) = .ok () (m ++ [.fl (wsD (xs ++ [w]))]) := by
  unfold wsD
  rw [push_end (by rwa [List.length_map]), List.map_append]
  rfl
theorem mk_ws (xs : List (List Str)) : mmK .append (wsD xs) = true := rfl
theorem ws_nil' : D.lst [] = wsD [] := rfl
section
variable {kf : Str → Str → Int} {md : Md} {ns : List Str} {K : List (List Key × D)} {m : Mem}
theorem sub_K (hK : Kd ns K kf) {x y : Str} (hx : x ∈ ns) (hy : y ∈ ns) (n : x ≠ y) : subD (.dT K) (.tup [.str x, .str y]) = some (.int (kf x y)) := by
  show (lookA K [.inr x, .inr y]) = _
  exact hK x hx y hy n
theorem lawEx_c (h : md.fns[159]? = some B.f159) (k : Nat) {w : List Str} (hK : Kd ns K kf) (ok : OkS ns) (hw : ∀ y ∈ w, y ∈ ns) (hl : w.length ≤ 1000) (m : Mem) :
    callI md (k + 1) 159 [.d (.dT K), .d (wD w)] m = .ok (.o (wsD (exW kf w))) m := by
  rw [callI_some h rfl]
  have okw : OkS w := fun x hx => ok x (hw x hx)
  obtain ⟨s', m', e, h⟩ := for_all (f := turnM md (callI md k) (.nm 3) [.par 4 5 false false (.sub (.v 1) (.v 3)) (.sub (.v 1) (.bin .add (.v 3) (.k (.int 1)))), .if_ (.and_ (.cmp .ne (.v 4) (.v 5)) (.cmp .eq (.sub (.v 0) (.tup [(.v 4), (.v 5)])) (.k (.int 0)))) [.mm .append (.v 2) [(.bin .add (.bin .add (.sl (.v 1) (.k .non) (.v 3)) (.lst [(.v 5), (.v 4)])) (.sl (.v 1) (.bin .add (.v 3) (.k (.int 2))) (.k .non)))]] [], .if_ (.and_ (.cmp .ne (.v 4) (.v 5)) (.and_ (.cmp .eq (.sub (.v 0) (.tup [(.v 4), (.v 5)])) (.k (.int 1))) (.cmp .eq (.sl (.v 1) (.bin .add (.v 3) (.k (.int 2))) (.bin .add (.v 3) (.k (.int 3)))) (.lst [(.v 4)])))) [.mm .append (.v 2) [(.bin .add (.bin .add (.sl (.v 1) (.k .non) (.v 3)) (.lst [(.v 5), (.v 4), (.v 5)])) (.sl (.v 1) (.bin .add (.v 3) (.k (.int 3))) (.k .non)))]] []])
    (items := (List.range (w.length - 1)).map fun i => D.int (i : Nat)) (fun i s m' => m' = m ++ [.fl (wsD ((exL kf w i).map (·.2)))] ∧ ∃ a b c, s = [some (.d (.dT K)), some (.d (wD w)), some (.c m.length), a, b, c])
    (s := [some (.d (.dT K)), some (.d (wD w)), some (.c m.length), none, none, none]) (m := m ++ [.fl (wsD [])]) ⟨rfl, none, none, none, rfl⟩
    (by
      rintro i y s m' hy ⟨rfl, c1, c2, c3, rfl⟩
      obtain ⟨hi, rfl⟩ := rng_at hy
      have ga : w[i]? = some (w[i]'(by omega)) := List.getElem?_eq_getElem _
      have gb : w[i + 1]? = some (w[i + 1]'(by omega)) := List.getElem?_eq_getElem _
      have ma : w[i]'(by omega) ∈ ns := hw _ (List.getElem_mem _)
      have mb : w[i + 1]'(by omega) ∈ ns := hw _ (List.getElem_mem _)
      generalize w[i]'(by omega) = a at ga ma
      generalize w[i + 1]'(by omega) = b at gb mb
      have bl : ((exL kf w i).map (·.2)).length < 16777216 := by have := exL_len kf w i; rw [List.length_map]; omega
      have e2 : OkS ((w.drop (i + 2)).take (i + 3 - (i + 2))) := okS_take (okS_drop okw _) _
      have ea := eq_str (ok a ma) (ok b mb)
      refine ⟨[some (.d (.dT K)), some (.d (wD w)), some (.c m.length), some (.d (.int (i : Nat))), some (.d (.str a)), some (.d (.str b))], m ++ [.fl (wsD ((exL kf w (i + 1)).map (·.2)))], .inl ?_, rfl, _, _, _, rfl⟩
      by_cases n : a = b
      · subst n
        have hx : exL kf w (i + 1) = exL kf w i := by
          rw [exL_succ, exAt_eq ga gb]
          unfold exA
          rw [if_pos rfl]
          exact List.append_nil _
        simp only [e_v, e_k, e_gc, e_ccon, e_bin, e_neg, e_not, e_cmp, e_chain, e_and, e_or, e_ife, e_call, e_mk, e_mkM, e_meth, e_attr, e_prop, e_bi, e_lenset, e_isi, e_bm, e_sub, e_sl, e_rev, e_lst, e_tup, e_dct0, e_lc, e_dc, e_scut, e_semp, es_nil, es_cons, et_nil, et_cons, x_asg, x_asgM, x_asgT, x_par, x_setI, x_setF, x_setW, x_mm, x_ex, x_ret, x_retN, x_if, x_for, x_while, x_aug, x_pass, x_brk, x_cnt, x_nv, x_nil, x_cons, t_ev, c_o, sl_0, sl_s, rv_d, rv_c, rv_s, w_d, w_o, ws_nil, ws_cons, f_d, f_o, fs_nil, fs_cons, a_d, a_o, a_c, as_nil, as_cons, rd_some, tr_bl, tr_non, tr_int, tr_lst, tr_tup, c_d, c_c, v_rv, ↓bnd_r, ↓sM_r', bR_ok, sR_ok, pur_r, newM_r, ofO_some, grd_t, nn_v, nn_bin, nn_neg, nn_kn, nn_ki, nn_sub, nn_bi, in_m, mk_app, mk_ext, mk_rev, bk_get1, bk_get2, bk_get1k, bk_get2k, slE_t, slE_f, bnd_pur, st_nm, st_2, st_2l, wp_nil, wp_1, wp_2, fm_nil, fm_cons, List.set_cons_zero, List.set_cons_succ, nrz_pur, nrz_r, nR_ok, start_s, tn_, decide_true, decide_false, Bool.not_true, Bool.not_false, eq_self, ↓reduceIte, List.map_cons, List.map_nil, b_add, nat1, nat2, nat3, sub_w ga, sub_w gb, cmp_ne', ea, Option.map_some, hx]
      have sk := sub_K hK ma mb n
      by_cases n0 : kf a b = 0
      · have hx : exL kf w (i + 1) = exL kf w i ++ [(i, w.take i ++ [b, a] ++ w.drop (i + 2))] := by
          rw [exL_succ, exAt_eq ga gb]
          unfold exA
          rw [if_neg n, if_pos n0]
          rfl
        have b1 : (w.take i).length + [b, a].length ≤ 16777216 := by simp only [List.length_append, List.length_take, List.length_drop, List.length_cons, List.length_nil]; omega
        have b2 : (w.take i ++ [b, a]).length + (w.drop (i + 2)).length ≤ 16777216 := by simp only [List.length_append, List.length_take, List.length_drop, List.length_cons, List.length_nil]; omega
        simp only [e_v, e_k, e_gc, e_ccon, e_bin, e_neg, e_not, e_cmp, e_chain, e_and, e_or, e_ife, e_call, e_mk, e_mkM, e_meth, e_attr, e_prop, e_bi, e_lenset, e_isi, e_bm, e_sub, e_sl, e_rev, e_lst, e_tup, e_dct0, e_lc, e_dc, e_scut, e_semp, es_nil, es_cons, et_nil, et_cons, x_asg, x_asgM, x_asgT, x_par, x_setI, x_setF, x_setW, x_mm, x_ex, x_ret, x_retN, x_if, x_for, x_while, x_aug, x_pass, x_brk, x_cnt, x_nv, x_nil, x_cons, t_ev, c_o, sl_0, sl_s, rv_d, rv_c, rv_s, w_d, w_o, ws_nil, ws_cons, f_d, f_o, fs_nil, fs_cons, a_d, a_o, a_c, as_nil, as_cons, rd_some, tr_bl, tr_non, tr_int, tr_lst, tr_tup, c_d, c_c, v_rv, ↓bnd_r, ↓sM_r', bR_ok, sR_ok, pur_r, newM_r, ofO_some, grd_t, nn_v, nn_bin, nn_neg, nn_kn, nn_ki, nn_sub, nn_bi, in_m, mk_app, mk_ext, mk_rev, bk_get1, bk_get2, bk_get1k, bk_get2k, slE_t, slE_f, bnd_pur, st_nm, st_2, st_2l, wp_nil, wp_1, wp_2, fm_nil, fm_cons, List.set_cons_zero, List.set_cons_succ, nrz_pur, nrz_r, nR_ok, start_s, tn_, decide_true, decide_false, Bool.not_true, Bool.not_false, eq_self, ↓reduceIte, List.map_cons, List.map_nil, b_add, nat1, nat2, nat3, sub_w ga, sub_w gb, cmp_ne', cmp_eq', eq_int, sk, ea, n, n0, Option.map_some, hx, view_end, mk_ws, cut_wt, cut_wf, lw2, add_w b1, add_w b2, push_ws bl, List.map_append, Int.reduceEq]
      by_cases n1 : kf a b = 1 ∧ w[i + 2]? = some a
      · have hx : exL kf w (i + 1) = exL kf w i ++ [(i, w.take i ++ [b, a, b] ++ w.drop (i + 3))] := by
          rw [exL_succ, exAt_eq ga gb]
          unfold exA
          rw [if_neg n, if_neg n0, if_pos n1]
          rfl
        have b1 : (w.take i).length + [b, a, b].length ≤ 16777216 := by simp only [List.length_append, List.length_take, List.length_drop, List.length_cons, List.length_nil]; omega
        have b2 : (w.take i ++ [b, a, b]).length + (w.drop (i + 3)).length ≤ 16777216 := by simp only [List.length_append, List.length_take, List.length_drop, List.length_cons, List.length_nil]; omega
        simp only [e_v, e_k, e_gc, e_ccon, e_bin, e_neg, e_not, e_cmp, e_chain, e_and, e_or, e_ife, e_call, e_mk, e_mkM, e_meth, e_attr, e_prop, e_bi, e_lenset, e_isi, e_bm, e_sub, e_sl, e_rev, e_lst, e_tup, e_dct0, e_lc, e_dc, e_scut, e_semp, es_nil, es_cons, et_nil, et_cons, x_asg, x_asgM, x_asgT, x_par, x_setI, x_setF, x_setW, x_mm, x_ex, x_ret, x_retN, x_if, x_for, x_while, x_aug, x_pass, x_brk, x_cnt, x_nv, x_nil, x_cons, t_ev, c_o, sl_0, sl_s, rv_d, rv_c, rv_s, w_d, w_o, ws_nil, ws_cons, f_d, f_o, fs_nil, fs_cons, a_d, a_o, a_c, as_nil, as_cons, rd_some, tr_bl, tr_non, tr_int, tr_lst, tr_tup, c_d, c_c, v_rv, ↓bnd_r, ↓sM_r', bR_ok, sR_ok, pur_r, newM_r, ofO_some, grd_t, nn_v, nn_bin, nn_neg, nn_kn, nn_ki, nn_sub, nn_bi, in_m, mk_app, mk_ext, mk_rev, bk_get1, bk_get2, bk_get1k, bk_get2k, slE_t, slE_f, bnd_pur, st_nm, st_2, st_2l, wp_nil, wp_1, wp_2, fm_nil, fm_cons, List.set_cons_zero, List.set_cons_succ, nrz_pur, nrz_r, nR_ok, start_s, tn_, decide_true, decide_false, Bool.not_true, Bool.not_false, eq_self, ↓reduceIte, List.map_cons, List.map_nil, b_add, nat1, nat2, nat3, sub_w ga, sub_w gb, cmp_ne', cmp_eq', eq_int, sk, ea, n, n0, n1.1, n1.2, Option.map_some, hx, view_end, mk_ws, cut_wt, cut_wf, cut_wm, lw1, lw3, eq_w e2 (okS_1 (ok a ma)), one_mid, add_w b1, add_w b2, push_ws bl, List.map_append, Int.reduceEq]
      · have hx : exL kf w (i + 1) = exL kf w i := by
          rw [exL_succ, exAt_eq ga gb]
          unfold exA
          rw [if_neg n, if_neg n0, if_neg n1]
          exact List.append_nil _
        by_cases n2 : kf a b = 1
        · have n3 : ¬ w[i + 2]? = some a := fun h => n1 ⟨n2, h⟩
          simp only [e_v, e_k, e_gc, e_ccon, e_bin, e_neg, e_not, e_cmp, e_chain, e_and, e_or, e_ife, e_call, e_mk, e_mkM, e_meth, e_attr, e_prop, e_bi, e_lenset, e_isi, e_bm, e_sub, e_sl, e_rev, e_lst, e_tup, e_dct0, e_lc, e_dc, e_scut, e_semp, es_nil, es_cons, et_nil, et_cons, x_asg, x_asgM, x_asgT, x_par, x_setI, x_setF, x_setW, x_mm, x_ex, x_ret, x_retN, x_if, x_for, x_while, x_aug, x_pass, x_brk, x_cnt, x_nv, x_nil, x_cons, t_ev, c_o, sl_0, sl_s, rv_d, rv_c, rv_s, w_d, w_o, ws_nil, ws_cons, f_d, f_o, fs_nil, fs_cons, a_d, a_o, a_c, as_nil, as_cons, rd_some, tr_bl, tr_non, tr_int, tr_lst, tr_tup, c_d, c_c, v_rv, ↓bnd_r, ↓sM_r', bR_ok, sR_ok, pur_r, newM_r, ofO_some, grd_t, nn_v, nn_bin, nn_neg, nn_kn, nn_ki, nn_sub, nn_bi, in_m, mk_app, mk_ext, mk_rev, bk_get1, bk_get2, bk_get1k, bk_get2k, slE_t, slE_f, bnd_pur, st_nm, st_2, st_2l, wp_nil, wp_1, wp_2, fm_nil, fm_cons, List.set_cons_zero, List.set_cons_succ, nrz_pur, nrz_r, nR_ok, start_s, tn_, decide_true, decide_false, Bool.not_true, Bool.not_false, eq_self, ↓reduceIte, List.map_cons, List.map_nil, b_add, nat1, nat2, nat3, sub_w ga, sub_w gb, cmp_ne', cmp_eq', eq_int, sk, ea, n, n0, n2, n3, Option.map_some, hx, cut_wm, lw1, eq_w e2 (okS_1 (ok a ma)), one_mid, Int.reduceEq]
        · simp only [e_v, e_k, e_gc, e_ccon, e_bin, e_neg, e_not, e_cmp, e_chain, e_and, e_or, e_ife, e_call, e_mk, e_mkM, e_meth, e_attr, e_prop, e_bi, e_lenset, e_isi, e_bm, e_sub, e_sl, e_rev, e_lst, e_tup, e_dct0, e_lc, e_dc, e_scut, e_semp, es_nil, es_cons, et_nil, et_cons, x_asg, x_asgM, x_asgT, x_par, x_setI, x_setF, x_setW, x_mm, x_ex, x_ret, x_retN, x_if, x_for, x_while, x_aug, x_pass, x_brk, x_cnt, x_nv, x_nil, x_cons, t_ev, c_o, sl_0, sl_s, rv_d, rv_c, rv_s, w_d, w_o, ws_nil, ws_cons, f_d, f_o, fs_nil, fs_cons, a_d, a_o, a_c, as_nil, as_cons, rd_some, tr_bl, tr_non, tr_int, tr_lst, tr_tup, c_d, c_c, v_rv, ↓bnd_r, ↓sM_r', bR_ok, sR_ok, pur_r, newM_r, ofO_some, grd_t, nn_v, nn_bin, nn_neg, nn_kn, nn_ki, nn_sub, nn_bi, in_m, mk_app, mk_ext, mk_rev, bk_get1, bk_get2, bk_get1k, bk_get2k, slE_t, slE_f, bnd_pur, st_nm, st_2, st_2l, wp_nil, wp_1, wp_2, fm_nil, fm_cons, List.set_cons_zero, List.set_cons_succ, nrz_pur, nrz_r, nR_ok, start_s, tn_, decide_true, decide_false, Bool.not_true, Bool.not_false, eq_self, ↓reduceIte, List.map_cons, List.map_nil, b_add, nat1, nat2, nat3, sub_w ga, sub_w gb, cmp_ne', cmp_eq', eq_int, sk, ea, n, n0, n2, Option.map_some, hx, Int.reduceEq])
  obtain ⟨rfl, a, b, c, rfl⟩ := h
  refine bodyM_c0 (x := []) ?_
  show exs md (callI md k) B.f159.body [some (.d (.dT K)), some (.d (wD w)), none, none, none, none] m = _
  have hr : ((w.length : Int) - 1).toNat = w.length - 1 := by omega
  have hr2 := it_rng (n := (w.length : Int) - 1) (by omega) (by omega)
  rw [hr] at hr2
  rw [rng_len] at e
  simp only [e_v, e_k, e_gc, e_ccon, e_bin, e_neg, e_not, e_cmp, e_chain, e_and, e_or, e_ife, e_call, e_mk, e_mkM, e_meth, e_attr, e_prop, e_bi, e_lenset, e_isi, e_bm, e_sub, e_sl, e_rev, e_lst, e_tup, e_dct0, e_lc, e_dc, e_scut, e_semp, es_nil, es_cons, et_nil, et_cons, x_asg, x_asgM, x_asgT, x_par, x_setI, x_setF, x_setW, x_mm, x_ex, x_ret, x_retN, x_if, x_for, x_while, x_aug, x_pass, x_brk, x_cnt, x_nv, x_nil, x_cons, t_ev, c_o, sl_0, sl_s, rv_d, rv_c, rv_s, w_d, w_o, ws_nil, ws_cons, f_d, f_o, fs_nil, fs_cons, a_d, a_o, a_c, as_nil, as_cons, rd_some, tr_bl, tr_non, tr_int, tr_lst, tr_tup, c_d, c_c, v_rv, ↓bnd_r, ↓sM_r', bR_ok, sR_ok, pur_r, newM_r, ofO_some, grd_t, nn_v, nn_bin, nn_neg, nn_kn, nn_ki, nn_sub, nn_bi, in_m, mk_app, mk_ext, mk_rev, bk_get1, bk_get2, bk_get1k, bk_get2k, slE_t, slE_f, bnd_pur, st_nm, st_2, st_2l, wp_nil, wp_1, wp_2, fm_nil, fm_cons, List.set_cons_zero, List.set_cons_succ, nrz_pur, nrz_r, nR_ok, start_s, tn_, decide_true, decide_false, Bool.not_true, Bool.not_false, eq_self, ↓reduceIte, List.map_cons, List.map_nil, B.f159, len_w, b_sub, hr2, ws_nil', e, rng_len, exW]
end
end Fw

/-! L7: the law's own way to tell steps; steps go both ways. -/
namespace Fw
open PySem L2
open PySem.PyData (strOk)
theorem ham_fm : ∀ (u w : List Str) (f : Nat → D), u.length = w.length → ((List.range u.length).filterMap fun i => if u[i]? = w[i]? then none else some (f i)).length = ham u w
  | [], [], _, _ => rfl
  | x :: u, y :: w, f, h => by
    have ih := ham_fm u w (fun i => f (i + 1)) (by simpa using h)
    rw [List.length_cons, List.range_succ_eq_map, List.filterMap_cons, List.filterMap_map]
    have e : ((fun i => if (x :: u)[i]? = (y :: w)[i]? then none else some (f i)) ∘ Nat.succ) = fun i => if u[i]? = w[i]? then none else some (f (i + 1)) := rfl
    rw [e]
    by_cases q : x = y
    · have : (if (x :: u)[0]? = (y :: w)[0]? then none else some (f 0)) = none := if_pos (congrArg some q)
      rw [this]
      show (List.filterMap _ _).length = ham (x :: u) (y :: w)
      rw [ih, ham, if_pos q, Nat.zero_add]
    · have : (if (x :: u)[0]? = (y :: w)[0]? then none else some (f 0)) = some (f 0) := if_neg fun e => q (Option.some.inj e)
      rw [this]
      show (_ :: List.filterMap _ _).length = ham (x :: u) (y :: w)
      rw [List.length_cons, ih, ham, if_neg q, Nat.add_comm]
theorem bi_int_b (b : Bool) : biD .int_ [.bl b] = some (.d (.int (if b then 1 else 0))) := rfl
theorem exW_mem {kf : Str → Str → Int} {u w : List Str} (h : w ∈ exW kf u) : ∃ i a b, u[i]? = some a ∧ u[i + 1]? = some b ∧ exA kf u i a b = some w := by
  unfold exW at h
  obtain ⟨p, hp, rfl⟩ := List.mem_map.mp h
  obtain ⟨_, a, b, ha, hb, he⟩ := exL_mem hp
  exact ⟨_, a, b, ha, hb, he⟩
theorem mem_exW {kf : Str → Str → Int} {u w : List Str} {i : Nat} {a b : Str} (ha : u[i]? = some a) (hb : u[i + 1]? = some b) (h : exA kf u i a b = some w) : w ∈ exW kf u :=
  List.mem_map.mpr ⟨_, mem_exL ha hb h, rfl⟩
theorem exW_ok {kf : Str → Str → Int} {u : List Str} (hu : OkS u) : ∀ w ∈ exW kf u, OkS w := fun w hw => by
  obtain ⟨i, a, b, ha, hb, he⟩ := exW_mem hw
  exact exA_ok hu ha hb he
section
variable {kf : Str → Str → Int} {md : Md} {ns : List Str} {K : List (List Key × D)} {m : Mem}
theorem lawStep_c (h : md.fns[160]? = some B.f160) (h159 : md.fns[159]? = some B.f159) (k : Nat) {u w : List Str} (hK : Kd ns K kf) (ok : OkS ns) (hu : ∀ y ∈ u, y ∈ ns) (hw : ∀ y ∈ w, y ∈ ns) (lu : u.length ≤ 1000) (lw : w.length ≤ 1000) :
    ∃ d, stepK kf u w d ∧ callI md (k + 2) 160 [.d (.dT K), .d (wD u), .d (wD w)] m = .ok (.d d) m := by
  have oku : OkS u := fun x hx => ok x (hu x hx)
  have okw : OkS w := fun x hx => ok x (hw x hx)
  have eb := lawEx_c h159 k hK ok hu lu m
  rw [callI_some h rfl]
  by_cases lq : u.length = w.length
  · have nd : ¬ (dbl u w ∨ dbl w u) := by
      rintro (h | h)
      · have := dbl_len h; omega
      · have := dbl_len h; omega
    have inw : inD (wD w) (wsD (exW kf u)) = some (decide (w ∈ exW kf u)) := in_ws okw (exW_ok oku)
    have le : ((u.length : Int) = (w.length : Int)) = True := eq_true (by omega)
    by_cases hm : w ∈ exW kf u
    · have lc := lc_pur (f := lcB md (callI md (k + 1)) [some (.d (.dT K)), some (.d (wD u)), some (.d (wD w)), none, none, none, none] [5] (.nm 5) [(.cmp .ne (.sub (.v 1) (.v 5)) (.sub (.v 2) (.v 5)))] (.v 5)) (g := fun | .int i => if u[i.toNat]? = w[i.toNat]? then none else some (.int i) | _ => none) ((List.range u.length).map fun i => D.int (i : Nat)) (by
        intro y hy
        obtain ⟨i, hi, rfl⟩ := List.mem_map.mp hy
        have hi := List.mem_range.mp hi
        have ga : u[i]? = some (u[i]'(by omega)) := List.getElem?_eq_getElem _
        have gb : w[i]? = some (w[i]'(by omega)) := List.getElem?_eq_getElem _
        have ma := hu _ (List.getElem_mem (by omega : i < u.length))
        have mb := hw _ (List.getElem_mem (by omega : i < w.length))
        generalize u[i]'(by omega) = a at ga ma
        generalize w[i]'(by omega) = b at gb mb
        have ea := eq_str (ok a ma) (ok b mb)
        by_cases n : a = b
        · subst n
          simp only [e_v, e_k, e_gc, e_ccon, e_bin, e_neg, e_not, e_cmp, e_chain, e_and, e_or, e_ife, e_call, e_mk, e_mkM, e_meth, e_attr, e_prop, e_bi, e_lenset, e_isi, e_bm, e_sub, e_sl, e_rev, e_lst, e_tup, e_dct0, e_lc, e_dc, e_scut, e_semp, es_nil, es_cons, et_nil, et_cons, x_asg, x_asgM, x_asgT, x_par, x_setI, x_setF, x_setW, x_mm, x_ex, x_ret, x_retN, x_if, x_for, x_while, x_aug, x_pass, x_brk, x_cnt, x_nv, x_nil, x_cons, t_ev, c_o, sl_0, sl_s, rv_d, rv_c, rv_s, w_d, w_o, ws_nil, ws_cons, f_d, f_o, fs_nil, fs_cons, a_d, a_o, a_c, as_nil, as_cons, rd_some, tr_bl, tr_non, tr_int, tr_lst, tr_tup, c_d, c_c, v_rv, ↓bnd_r, ↓sM_r', bR_ok, sR_ok, pur_r, newM_r, ofO_some, grd_t, nn_v, nn_bin, nn_neg, nn_kn, nn_ki, nn_sub, nn_bi, in_m, mk_app, mk_ext, mk_rev, bk_get1, bk_get2, bk_get1k, bk_get2k, slE_t, slE_f, bnd_pur, st_nm, st_2, st_2l, wp_nil, wp_1, wp_2, fm_nil, fm_cons, List.set_cons_zero, List.set_cons_succ, nrz_pur, nrz_r, nR_ok, start_s, tn_, decide_true, decide_false, Bool.not_true, Bool.not_false, eq_self, ↓reduceIte, List.map_cons, List.map_nil, lc_b, sub_w ga, sub_w gb, cmp_ne', ea, Option.map_some, Int.toNat_natCast, ga, gb]
        · simp only [e_v, e_k, e_gc, e_ccon, e_bin, e_neg, e_not, e_cmp, e_chain, e_and, e_or, e_ife, e_call, e_mk, e_mkM, e_meth, e_attr, e_prop, e_bi, e_lenset, e_isi, e_bm, e_sub, e_sl, e_rev, e_lst, e_tup, e_dct0, e_lc, e_dc, e_scut, e_semp, es_nil, es_cons, et_nil, et_cons, x_asg, x_asgM, x_asgT, x_par, x_setI, x_setF, x_setW, x_mm, x_ex, x_ret, x_retN, x_if, x_for, x_while, x_aug, x_pass, x_brk, x_cnt, x_nv, x_nil, x_cons, t_ev, c_o, sl_0, sl_s, rv_d, rv_c, rv_s, w_d, w_o, ws_nil, ws_cons, f_d, f_o, fs_nil, fs_cons, a_d, a_o, a_c, as_nil, as_cons, rd_some, tr_bl, tr_non, tr_int, tr_lst, tr_tup, c_d, c_c, v_rv, ↓bnd_r, ↓sM_r', bR_ok, sR_ok, pur_r, newM_r, ofO_some, grd_t, nn_v, nn_bin, nn_neg, nn_kn, nn_ki, nn_sub, nn_bi, in_m, mk_app, mk_ext, mk_rev, bk_get1, bk_get2, bk_get1k, bk_get2k, slE_t, slE_f, bnd_pur, st_nm, st_2, st_2l, wp_nil, wp_1, wp_2, fm_nil, fm_cons, List.set_cons_zero, List.set_cons_succ, nrz_pur, nrz_r, nR_ok, start_s, tn_, decide_true, decide_false, Bool.not_true, Bool.not_false, eq_self, ↓reduceIte, List.map_cons, List.map_nil, lc_b, sub_w ga, sub_w gb, cmp_ne', ea, Option.map_some, Int.toNat_natCast, ga, gb, n, Option.some.injEq])
      rw [List.filterMap_map] at lc
      have hl := ham_fm u w (fun i => D.int (i : Nat)) lq
      have he : ((fun | .int i => if u[i.toNat]? = w[i.toNat]? then none else some (.int i) | _ => none : D → Option D) ∘ fun i : Nat => D.int (i : Nat)) = fun i => if u[i]? = w[i]? then none else some (D.int (i : Nat)) := rfl
      rw [he] at lc
      generalize (List.range u.length).filterMap (fun i => if u[i]? = w[i]? then none else some (D.int (i : Nat))) = zs at lc hl
      obtain ⟨i, a, b, ha, hb, hx⟩ := exW_mem hm
      have hh := ham_ex ha hb hx
      have hr2 := it_rng (n := (u.length : Int)) (by omega) (by omega)
      rw [Int.toNat_natCast] at hr2
      refine ⟨.str (if kf a b = 0 then S "far" else S "near"), ⟨fun h => (nd h).elim, ?_, fun _ h => (h i a b ha hb hx).elim⟩, bodyM_rt0 ?_⟩
      · intro i' a' b' ha' hb' he'
        rw [ham_ex ha' hb' he'] at hh
        by_cases z : kf a b = 0 <;> by_cases z' : kf a' b' = 0 <;> simp [z, z'] at hh ⊢
      · show exs md (callI md (k + 1)) B.f160.body [some (.d (.dT K)), some (.d (wD u)), some (.d (wD w)), none, none, none, none] m = _
        have t0 : subD (.lst [.str (S "near"), .str (S "far")]) (.int 0) = some (.str (S "near")) := rfl
        have t1 : subD (.lst [.str (S "near"), .str (S "far")]) (.int 1) = some (.str (S "far")) := rfl
        rw [← hl] at hh
        by_cases z : kf a b = 0
        · rw [if_pos z] at hh ⊢
          have hh' : ((zs.length : Int) = 2) = True := eq_true (by omega)
          simp only [e_v, e_k, e_gc, e_ccon, e_bin, e_neg, e_not, e_cmp, e_chain, e_and, e_or, e_ife, e_call, e_mk, e_mkM, e_meth, e_attr, e_prop, e_bi, e_lenset, e_isi, e_bm, e_sub, e_sl, e_rev, e_lst, e_tup, e_dct0, e_lc, e_dc, e_scut, e_semp, es_nil, es_cons, et_nil, et_cons, x_asg, x_asgM, x_asgT, x_par, x_setI, x_setF, x_setW, x_mm, x_ex, x_ret, x_retN, x_if, x_for, x_while, x_aug, x_pass, x_brk, x_cnt, x_nv, x_nil, x_cons, t_ev, c_o, sl_0, sl_s, rv_d, rv_c, rv_s, w_d, w_o, ws_nil, ws_cons, f_d, f_o, fs_nil, fs_cons, a_d, a_o, a_c, as_nil, as_cons, rd_some, tr_bl, tr_non, tr_int, tr_lst, tr_tup, c_d, c_c, v_rv, ↓bnd_r, ↓sM_r', bR_ok, sR_ok, pur_r, newM_r, ofO_some, grd_t, nn_v, nn_bin, nn_neg, nn_kn, nn_ki, nn_sub, nn_bi, in_m, mk_app, mk_ext, mk_rev, bk_get1, bk_get2, bk_get1k, bk_get2k, slE_t, slE_f, bnd_pur, st_nm, st_2, st_2l, wp_nil, wp_1, wp_2, fm_nil, fm_cons, List.set_cons_zero, List.set_cons_succ, nrz_pur, nrz_r, nR_ok, start_s, tn_, decide_true, decide_false, Bool.not_true, Bool.not_false, eq_self, ↓reduceIte, List.map_cons, List.map_nil, B.f160, len_w, len_l, cmp_eq', eq_int, le, eb, cmp_nin, inw, hm, Option.map_some, hr2, lc, hh', bi_int_b, t0, t1]
        · rw [if_neg z] at hh ⊢
          have hh' : ((zs.length : Int) = 2) = False := eq_false (by omega)
          simp only [e_v, e_k, e_gc, e_ccon, e_bin, e_neg, e_not, e_cmp, e_chain, e_and, e_or, e_ife, e_call, e_mk, e_mkM, e_meth, e_attr, e_prop, e_bi, e_lenset, e_isi, e_bm, e_sub, e_sl, e_rev, e_lst, e_tup, e_dct0, e_lc, e_dc, e_scut, e_semp, es_nil, es_cons, et_nil, et_cons, x_asg, x_asgM, x_asgT, x_par, x_setI, x_setF, x_setW, x_mm, x_ex, x_ret, x_retN, x_if, x_for, x_while, x_aug, x_pass, x_brk, x_cnt, x_nv, x_nil, x_cons, t_ev, c_o, sl_0, sl_s, rv_d, rv_c, rv_s, w_d, w_o, ws_nil, ws_cons, f_d, f_o, fs_nil, fs_cons, a_d, a_o, a_c, as_nil, as_cons, rd_some, tr_bl, tr_non, tr_int, tr_lst, tr_tup, c_d, c_c, v_rv, ↓bnd_r, ↓sM_r', bR_ok, sR_ok, pur_r, newM_r, ofO_some, grd_t, nn_v, nn_bin, nn_neg, nn_kn, nn_ki, nn_sub, nn_bi, in_m, mk_app, mk_ext, mk_rev, bk_get1, bk_get2, bk_get1k, bk_get2k, slE_t, slE_f, bnd_pur, st_nm, st_2, st_2l, wp_nil, wp_1, wp_2, fm_nil, fm_cons, List.set_cons_zero, List.set_cons_succ, nrz_pur, nrz_r, nR_ok, start_s, tn_, decide_true, decide_false, Bool.not_true, Bool.not_false, eq_self, ↓reduceIte, List.map_cons, List.map_nil, B.f160, len_w, len_l, cmp_eq', eq_int, le, eb, cmp_nin, inw, hm, Option.map_some, hr2, lc, hh', bi_int_b, Bool.false_eq_true, t0, t1]
    · refine ⟨.non, ⟨fun h => (nd h).elim, fun i a b ha hb he => (hm (mem_exW ha hb he)).elim, fun _ _ => rfl⟩, bodyM_rt0 ?_⟩
      show exs md (callI md (k + 1)) B.f160.body [some (.d (.dT K)), some (.d (wD u)), some (.d (wD w)), none, none, none, none] m = _
      simp only [e_v, e_k, e_gc, e_ccon, e_bin, e_neg, e_not, e_cmp, e_chain, e_and, e_or, e_ife, e_call, e_mk, e_mkM, e_meth, e_attr, e_prop, e_bi, e_lenset, e_isi, e_bm, e_sub, e_sl, e_rev, e_lst, e_tup, e_dct0, e_lc, e_dc, e_scut, e_semp, es_nil, es_cons, et_nil, et_cons, x_asg, x_asgM, x_asgT, x_par, x_setI, x_setF, x_setW, x_mm, x_ex, x_ret, x_retN, x_if, x_for, x_while, x_aug, x_pass, x_brk, x_cnt, x_nv, x_nil, x_cons, t_ev, c_o, sl_0, sl_s, rv_d, rv_c, rv_s, w_d, w_o, ws_nil, ws_cons, f_d, f_o, fs_nil, fs_cons, a_d, a_o, a_c, as_nil, as_cons, rd_some, tr_bl, tr_non, tr_int, tr_lst, tr_tup, c_d, c_c, v_rv, ↓bnd_r, ↓sM_r', bR_ok, sR_ok, pur_r, newM_r, ofO_some, grd_t, nn_v, nn_bin, nn_neg, nn_kn, nn_ki, nn_sub, nn_bi, in_m, mk_app, mk_ext, mk_rev, bk_get1, bk_get2, bk_get1k, bk_get2k, slE_t, slE_f, bnd_pur, st_nm, st_2, st_2l, wp_nil, wp_1, wp_2, fm_nil, fm_cons, List.set_cons_zero, List.set_cons_succ, nrz_pur, nrz_r, nR_ok, start_s, tn_, decide_true, decide_false, Bool.not_true, Bool.not_false, eq_self, ↓reduceIte, List.map_cons, List.map_nil, B.f160, len_w, cmp_eq', eq_int, le, eb, cmp_nin, inw, hm, Option.map_some]
  · have le : ((u.length : Int) = (w.length : Int)) = False := eq_false (by omega)
    have noex : ∀ i a b, u[i]? = some a → u[i + 1]? = some b → exA kf u i a b = some w → False := fun i a b ha hb h => by
      have := exA_len ha hb h
      omega
    have key : ∀ l z : List Str, OkS l → OkS z → l.length ≤ 1000 → ∃ bb : Bool, (bb = true ↔ dbl l z) ∧ exs md (callI md (k + 1)) [.for_ (.nm 5) .rng [(.bin .sub (.bi .len [(.v 3)]) (.k (.int 1)))] [.if_ (.and_ (.cmp .eq (.sub (.v 3) (.v 5)) (.sub (.v 3) (.bin .add (.v 5) (.k (.int 1))))) (.cmp .eq (.bin .add (.sl (.v 3) (.k .non) (.v 5)) (.sl (.v 3) (.bin .add (.v 5) (.k (.int 2))) (.k .non))) (.v 4))) [.ret (.k (.str (S "double")))] []], .ret (.k .non)] [some (.d (.dT K)), some (.d (wD u)), some (.d (wD w)), some (.d (wD l)), some (.d (wD z)), none, none] m = .ok (.rt (.d (if bb then .str (S "double") else .non))) m := by
      intro l z okl okz ll
      have L := for_look (f := turnM md (callI md (k + 1)) (.nm 5) [.if_ (.and_ (.cmp .eq (.sub (.v 3) (.v 5)) (.sub (.v 3) (.bin .add (.v 5) (.k (.int 1))))) (.cmp .eq (.bin .add (.sl (.v 3) (.k .non) (.v 5)) (.sl (.v 3) (.bin .add (.v 5) (.k (.int 2))) (.k .non))) (.v 4))) [.ret (.k (.str (S "double")))] []])
        (fun i s m' => m' = m ∧ (∃ a, s = [some (.d (.dT K)), some (.d (wD u)), some (.d (wD w)), some (.d (wD l)), some (.d (wD z)), a, none]) ∧ ∀ j < i, ∀ a, l[j]? = some a → l[j + 1]? = some a → l.take j ++ l.drop (j + 2) ≠ z)
        (fun q m' => q = .d (.str (S "double")) ∧ m' = m ∧ dbl l z) (items := (List.range (l.length - 1)).map fun i => D.int (i : Nat)) (s := [some (.d (.dT K)), some (.d (wD u)), some (.d (wD w)), some (.d (wD l)), some (.d (wD z)), none, none]) (m := m) ⟨rfl, ⟨_, rfl⟩, fun j h => absurd h (Nat.not_lt_zero _)⟩
        (by
          rintro i x s m' hy ⟨rfl, ⟨c, rfl⟩, hj⟩
          obtain ⟨hi, rfl⟩ := rng_at hy
          have ga : l[i]? = some (l[i]'(by omega)) := List.getElem?_eq_getElem _
          have gb : l[i + 1]? = some (l[i + 1]'(by omega)) := List.getElem?_eq_getElem _
          generalize l[i]'(by omega) = a at ga
          generalize l[i + 1]'(by omega) = b at gb
          have oa := okl a (List.mem_of_getElem? ga)
          have ob := okl b (List.mem_of_getElem? gb)
          have b1 : (l.take i).length + (l.drop (i + 2)).length ≤ 16777216 := by simp only [List.length_take, List.length_drop]; omega
          have o2 : OkS (l.take i ++ l.drop (i + 2)) := fun x hx => (List.mem_append.mp hx).elim (fun h => okS_take okl _ x h) fun h => okS_drop okl _ x h
          by_cases n : a = b
          · subst n
            by_cases e : l.take i ++ l.drop (i + 2) = z
            · refine .inr ⟨.d (.str (S "double")), m', ?_, rfl, rfl, i, a, ga, gb, e⟩
              simp only [e_v, e_k, e_gc, e_ccon, e_bin, e_neg, e_not, e_cmp, e_chain, e_and, e_or, e_ife, e_call, e_mk, e_mkM, e_meth, e_attr, e_prop, e_bi, e_lenset, e_isi, e_bm, e_sub, e_sl, e_rev, e_lst, e_tup, e_dct0, e_lc, e_dc, e_scut, e_semp, es_nil, es_cons, et_nil, et_cons, x_asg, x_asgM, x_asgT, x_par, x_setI, x_setF, x_setW, x_mm, x_ex, x_ret, x_retN, x_if, x_for, x_while, x_aug, x_pass, x_brk, x_cnt, x_nv, x_nil, x_cons, t_ev, c_o, sl_0, sl_s, rv_d, rv_c, rv_s, w_d, w_o, ws_nil, ws_cons, f_d, f_o, fs_nil, fs_cons, a_d, a_o, a_c, as_nil, as_cons, rd_some, tr_bl, tr_non, tr_int, tr_lst, tr_tup, c_d, c_c, v_rv, ↓bnd_r, ↓sM_r', bR_ok, sR_ok, pur_r, newM_r, ofO_some, grd_t, nn_v, nn_bin, nn_neg, nn_kn, nn_ki, nn_sub, nn_bi, in_m, mk_app, mk_ext, mk_rev, bk_get1, bk_get2, bk_get1k, bk_get2k, slE_t, slE_f, bnd_pur, st_nm, st_2, st_2l, wp_nil, wp_1, wp_2, fm_nil, fm_cons, List.set_cons_zero, List.set_cons_succ, nrz_pur, nrz_r, nR_ok, start_s, tn_, decide_true, decide_false, Bool.not_true, Bool.not_false, eq_self, ↓reduceIte, List.map_cons, List.map_nil, b_add, nat1, nat2, sub_w ga, sub_w gb, cmp_eq', eq_str oa oa, cut_wt, cut_wf, add_w b1, eq_w okz okz, e]
            · refine .inl ⟨[some (.d (.dT K)), some (.d (wD u)), some (.d (wD w)), some (.d (wD l)), some (.d (wD z)), some (.d (.int (i : Nat))), none], m', .inl ?_, rfl, ⟨_, rfl⟩, ?_⟩
              · simp only [e_v, e_k, e_gc, e_ccon, e_bin, e_neg, e_not, e_cmp, e_chain, e_and, e_or, e_ife, e_call, e_mk, e_mkM, e_meth, e_attr, e_prop, e_bi, e_lenset, e_isi, e_bm, e_sub, e_sl, e_rev, e_lst, e_tup, e_dct0, e_lc, e_dc, e_scut, e_semp, es_nil, es_cons, et_nil, et_cons, x_asg, x_asgM, x_asgT, x_par, x_setI, x_setF, x_setW, x_mm, x_ex, x_ret, x_retN, x_if, x_for, x_while, x_aug, x_pass, x_brk, x_cnt, x_nv, x_nil, x_cons, t_ev, c_o, sl_0, sl_s, rv_d, rv_c, rv_s, w_d, w_o, ws_nil, ws_cons, f_d, f_o, fs_nil, fs_cons, a_d, a_o, a_c, as_nil, as_cons, rd_some, tr_bl, tr_non, tr_int, tr_lst, tr_tup, c_d, c_c, v_rv, ↓bnd_r, ↓sM_r', bR_ok, sR_ok, pur_r, newM_r, ofO_some, grd_t, nn_v, nn_bin, nn_neg, nn_kn, nn_ki, nn_sub, nn_bi, in_m, mk_app, mk_ext, mk_rev, bk_get1, bk_get2, bk_get1k, bk_get2k, slE_t, slE_f, bnd_pur, st_nm, st_2, st_2l, wp_nil, wp_1, wp_2, fm_nil, fm_cons, List.set_cons_zero, List.set_cons_succ, nrz_pur, nrz_r, nR_ok, start_s, tn_, decide_true, decide_false, Bool.not_true, Bool.not_false, eq_self, ↓reduceIte, List.map_cons, List.map_nil, b_add, nat1, nat2, sub_w ga, sub_w gb, cmp_eq', eq_str oa oa, cut_wt, cut_wf, add_w b1, eq_w o2 okz, e]
              · intro j h x hx hx'
                by_cases h' : j < i
                · exact hj j h' x hx hx'
                · have : j = i := by omega
                  subst this
                  exact e
          · refine .inl ⟨[some (.d (.dT K)), some (.d (wD u)), some (.d (wD w)), some (.d (wD l)), some (.d (wD z)), some (.d (.int (i : Nat))), none], m', .inl ?_, rfl, ⟨_, rfl⟩, ?_⟩
            · simp only [e_v, e_k, e_gc, e_ccon, e_bin, e_neg, e_not, e_cmp, e_chain, e_and, e_or, e_ife, e_call, e_mk, e_mkM, e_meth, e_attr, e_prop, e_bi, e_lenset, e_isi, e_bm, e_sub, e_sl, e_rev, e_lst, e_tup, e_dct0, e_lc, e_dc, e_scut, e_semp, es_nil, es_cons, et_nil, et_cons, x_asg, x_asgM, x_asgT, x_par, x_setI, x_setF, x_setW, x_mm, x_ex, x_ret, x_retN, x_if, x_for, x_while, x_aug, x_pass, x_brk, x_cnt, x_nv, x_nil, x_cons, t_ev, c_o, sl_0, sl_s, rv_d, rv_c, rv_s, w_d, w_o, ws_nil, ws_cons, f_d, f_o, fs_nil, fs_cons, a_d, a_o, a_c, as_nil, as_cons, rd_some, tr_bl, tr_non, tr_int, tr_lst, tr_tup, c_d, c_c, v_rv, ↓bnd_r, ↓sM_r', bR_ok, sR_ok, pur_r, newM_r, ofO_some, grd_t, nn_v, nn_bin, nn_neg, nn_kn, nn_ki, nn_sub, nn_bi, in_m, mk_app, mk_ext, mk_rev, bk_get1, bk_get2, bk_get1k, bk_get2k, slE_t, slE_f, bnd_pur, st_nm, st_2, st_2l, wp_nil, wp_1, wp_2, fm_nil, fm_cons, List.set_cons_zero, List.set_cons_succ, nrz_pur, nrz_r, nR_ok, start_s, tn_, decide_true, decide_false, Bool.not_true, Bool.not_false, eq_self, ↓reduceIte, List.map_cons, List.map_nil, b_add, nat1, nat2, sub_w ga, sub_w gb, cmp_eq', eq_str oa ob, n]
            · intro j h x hx hx'
              by_cases h' : j < i
              · exact hj j h' x hx hx'
              · have : j = i := by omega
                subst this
                exact absurd (Option.some.inj (ga.symm.trans hx) |>.trans (Option.some.inj (gb.symm.trans hx')).symm) n)
      have hr : ((l.length : Int) - 1).toNat = l.length - 1 := by omega
      have hr2 := it_rng (n := (l.length : Int) - 1) (by omega) (by omega)
      rw [hr] at hr2
      rcases L with ⟨s', m', e, rfl, ⟨a, rfl⟩, h⟩ | ⟨q, m', e, rfl, rfl, h⟩
      · refine ⟨false, ⟨(nomatch ·), ?_⟩, ?_⟩
        · rintro ⟨i, a, ga, gb, e⟩
          rw [rng_len] at h
          have := (List.getElem?_eq_some_iff.mp gb).1
          exact absurd e (h i (by omega) a ga gb)
        · simp only [e_v, e_k, e_gc, e_ccon, e_bin, e_neg, e_not, e_cmp, e_chain, e_and, e_or, e_ife, e_call, e_mk, e_mkM, e_meth, e_attr, e_prop, e_bi, e_lenset, e_isi, e_bm, e_sub, e_sl, e_rev, e_lst, e_tup, e_dct0, e_lc, e_dc, e_scut, e_semp, es_nil, es_cons, et_nil, et_cons, x_asg, x_asgM, x_asgT, x_par, x_setI, x_setF, x_setW, x_mm, x_ex, x_ret, x_retN, x_if, x_for, x_while, x_aug, x_pass, x_brk, x_cnt, x_nv, x_nil, x_cons, t_ev, c_o, sl_0, sl_s, rv_d, rv_c, rv_s, w_d, w_o, ws_nil, ws_cons, f_d, f_o, fs_nil, fs_cons, a_d, a_o, a_c, as_nil, as_cons, rd_some, tr_bl, tr_non, tr_int, tr_lst, tr_tup, c_d, c_c, v_rv, ↓bnd_r, ↓sM_r', bR_ok, sR_ok, pur_r, newM_r, ofO_some, grd_t, nn_v, nn_bin, nn_neg, nn_kn, nn_ki, nn_sub, nn_bi, in_m, mk_app, mk_ext, mk_rev, bk_get1, bk_get2, bk_get1k, bk_get2k, slE_t, slE_f, bnd_pur, st_nm, st_2, st_2l, wp_nil, wp_1, wp_2, fm_nil, fm_cons, List.set_cons_zero, List.set_cons_succ, nrz_pur, nrz_r, nR_ok, start_s, tn_, decide_true, decide_false, Bool.not_true, Bool.not_false, eq_self, ↓reduceIte, List.map_cons, List.map_nil, len_w, b_sub, hr2, e, Bool.false_eq_true]
      · refine ⟨true, ⟨fun _ => h, fun _ => rfl⟩, ?_⟩
        simp only [e_v, e_k, e_gc, e_ccon, e_bin, e_neg, e_not, e_cmp, e_chain, e_and, e_or, e_ife, e_call, e_mk, e_mkM, e_meth, e_attr, e_prop, e_bi, e_lenset, e_isi, e_bm, e_sub, e_sl, e_rev, e_lst, e_tup, e_dct0, e_lc, e_dc, e_scut, e_semp, es_nil, es_cons, et_nil, et_cons, x_asg, x_asgM, x_asgT, x_par, x_setI, x_setF, x_setW, x_mm, x_ex, x_ret, x_retN, x_if, x_for, x_while, x_aug, x_pass, x_brk, x_cnt, x_nv, x_nil, x_cons, t_ev, c_o, sl_0, sl_s, rv_d, rv_c, rv_s, w_d, w_o, ws_nil, ws_cons, f_d, f_o, fs_nil, fs_cons, a_d, a_o, a_c, as_nil, as_cons, rd_some, tr_bl, tr_non, tr_int, tr_lst, tr_tup, c_d, c_c, v_rv, ↓bnd_r, ↓sM_r', bR_ok, sR_ok, pur_r, newM_r, ofO_some, grd_t, nn_v, nn_bin, nn_neg, nn_kn, nn_ki, nn_sub, nn_bi, in_m, mk_app, mk_ext, mk_rev, bk_get1, bk_get2, bk_get1k, bk_get2k, slE_t, slE_f, bnd_pur, st_nm, st_2, st_2l, wp_nil, wp_1, wp_2, fm_nil, fm_cons, List.set_cons_zero, List.set_cons_succ, nrz_pur, nrz_r, nR_ok, start_s, tn_, decide_true, decide_false, Bool.not_true, Bool.not_false, eq_self, ↓reduceIte, List.map_cons, List.map_nil, len_w, b_sub, hr2, e]
    by_cases gt : w.length < u.length
    · have nd : ¬ dbl w u := fun h => by have := dbl_len h; omega
      have gt' : decide ((w.length : Int) < (u.length : Int)) = true := decide_eq_true (by omega)
      obtain ⟨bb, hb, e⟩ := key u w oku okw lu
      refine ⟨if bb then .str (S "double") else .non, ⟨?_, fun i a b ha hb h => (noex i a b ha hb h).elim, ?_⟩, bodyM_rt0 ?_⟩
      · rintro (h | h)
        · rw [if_pos (hb.mpr h)]
        · exact (nd h).elim
      · intro h _
        rw [if_neg fun q => h (.inl (hb.mp q))]
      · show exs md (callI md (k + 1)) B.f160.body [some (.d (.dT K)), some (.d (wD u)), some (.d (wD w)), none, none, none, none] m = _
        have pr : exs md (callI md (k + 1)) (B.f160.body.take 2) [some (.d (.dT K)), some (.d (wD u)), some (.d (wD w)), none, none, none, none] m = .ok (.nx [some (.d (.dT K)), some (.d (wD u)), some (.d (wD w)), some (.d (wD u)), some (.d (wD w)), none, none]) m := by
          simp only [e_v, e_k, e_gc, e_ccon, e_bin, e_neg, e_not, e_cmp, e_chain, e_and, e_or, e_ife, e_call, e_mk, e_mkM, e_meth, e_attr, e_prop, e_bi, e_lenset, e_isi, e_bm, e_sub, e_sl, e_rev, e_lst, e_tup, e_dct0, e_lc, e_dc, e_scut, e_semp, es_nil, es_cons, et_nil, et_cons, x_asg, x_asgM, x_asgT, x_par, x_setI, x_setF, x_setW, x_mm, x_ex, x_ret, x_retN, x_if, x_for, x_while, x_aug, x_pass, x_brk, x_cnt, x_nv, x_nil, x_cons, t_ev, c_o, sl_0, sl_s, rv_d, rv_c, rv_s, w_d, w_o, ws_nil, ws_cons, f_d, f_o, fs_nil, fs_cons, a_d, a_o, a_c, as_nil, as_cons, rd_some, tr_bl, tr_non, tr_int, tr_lst, tr_tup, c_d, c_c, v_rv, ↓bnd_r, ↓sM_r', bR_ok, sR_ok, pur_r, newM_r, ofO_some, grd_t, nn_v, nn_bin, nn_neg, nn_kn, nn_ki, nn_sub, nn_bi, in_m, mk_app, mk_ext, mk_rev, bk_get1, bk_get2, bk_get1k, bk_get2k, slE_t, slE_f, bnd_pur, st_nm, st_2, st_2l, wp_nil, wp_1, wp_2, fm_nil, fm_cons, List.set_cons_zero, List.set_cons_succ, nrz_pur, nrz_r, nR_ok, start_s, tn_, decide_true, decide_false, Bool.not_true, Bool.not_false, eq_self, ↓reduceIte, List.map_cons, List.map_nil, B.f160, List.take_succ_cons, List.take_zero, len_w, cmp_eq', eq_int, le, cmp_gt, gt']
        exact (exs_app _ pr).trans e
    · have nd : ¬ dbl u w := fun h => by have := dbl_len h; omega
      have gt' : decide ((w.length : Int) < (u.length : Int)) = false := decide_eq_false (by omega)
      obtain ⟨bb, hb, e⟩ := key w u okw oku lw
      refine ⟨if bb then .str (S "double") else .non, ⟨?_, fun i a b ha hb h => (noex i a b ha hb h).elim, ?_⟩, bodyM_rt0 ?_⟩
      · rintro (h | h)
        · exact (nd h).elim
        · rw [if_pos (hb.mpr h)]
      · intro h _
        rw [if_neg fun q => h (.inr (hb.mp q))]
      · show exs md (callI md (k + 1)) B.f160.body [some (.d (.dT K)), some (.d (wD u)), some (.d (wD w)), none, none, none, none] m = _
        have pr : exs md (callI md (k + 1)) (B.f160.body.take 2) [some (.d (.dT K)), some (.d (wD u)), some (.d (wD w)), none, none, none, none] m = .ok (.nx [some (.d (.dT K)), some (.d (wD u)), some (.d (wD w)), some (.d (wD w)), some (.d (wD u)), none, none]) m := by
          simp only [e_v, e_k, e_gc, e_ccon, e_bin, e_neg, e_not, e_cmp, e_chain, e_and, e_or, e_ife, e_call, e_mk, e_mkM, e_meth, e_attr, e_prop, e_bi, e_lenset, e_isi, e_bm, e_sub, e_sl, e_rev, e_lst, e_tup, e_dct0, e_lc, e_dc, e_scut, e_semp, es_nil, es_cons, et_nil, et_cons, x_asg, x_asgM, x_asgT, x_par, x_setI, x_setF, x_setW, x_mm, x_ex, x_ret, x_retN, x_if, x_for, x_while, x_aug, x_pass, x_brk, x_cnt, x_nv, x_nil, x_cons, t_ev, c_o, sl_0, sl_s, rv_d, rv_c, rv_s, w_d, w_o, ws_nil, ws_cons, f_d, f_o, fs_nil, fs_cons, a_d, a_o, a_c, as_nil, as_cons, rd_some, tr_bl, tr_non, tr_int, tr_lst, tr_tup, c_d, c_c, v_rv, ↓bnd_r, ↓sM_r', bR_ok, sR_ok, pur_r, newM_r, ofO_some, grd_t, nn_v, nn_bin, nn_neg, nn_kn, nn_ki, nn_sub, nn_bi, in_m, mk_app, mk_ext, mk_rev, bk_get1, bk_get2, bk_get1k, bk_get2k, slE_t, slE_f, bnd_pur, st_nm, st_2, st_2l, wp_nil, wp_1, wp_2, fm_nil, fm_cons, List.set_cons_zero, List.set_cons_succ, nrz_pur, nrz_r, nR_ok, start_s, tn_, decide_true, decide_false, Bool.not_true, Bool.not_false, eq_self, ↓reduceIte, List.map_cons, List.map_nil, B.f160, List.take_succ_cons, List.take_zero, len_w, cmp_eq', eq_int, le, cmp_gt, gt']
        exact (exs_app _ pr).trans e
/-- what is told is told alone -/
theorem stepK_uniq {u w : List Str} {d e : D} (h : stepK kf u w d) (h' : stepK kf u w e) : d = e := by
  obtain ⟨a1, a2, a3⟩ := h
  obtain ⟨b1, b2, b3⟩ := h'
  by_cases p : dbl u w ∨ dbl w u
  · rw [a1 p, b1 p]
  · by_cases q : ∃ i a b, u[i]? = some a ∧ u[i + 1]? = some b ∧ exA kf u i a b = some w
    · obtain ⟨i, a, b, ha, hb, hx⟩ := q
      rw [a2 i a b ha hb hx, b2 i a b ha hb hx]
    · have q' : ∀ i a b, u[i]? = some a → u[i + 1]? = some b → exA kf u i a b ≠ some w := fun i a b ha hb hx => q ⟨i, a, b, ha, hb, hx⟩
      rw [a3 p q', b3 p q']
/-- an exchange is taken back by one of the same kind -/
theorem ex_back {u w : List Str} (hs : ∀ x y, kf x y = kf y x) {i : Nat} {a b : Str} (ha : u[i]? = some a) (hb : u[i + 1]? = some b) (h : exA kf u i a b = some w) : w[i]? = some b ∧ w[i + 1]? = some a ∧ exA kf w i b a = some u := by
  have l := (List.getElem?_eq_some_iff.mp hb).1
  have q := split2 ha hb
  have li : (u.take i).length = i := by rw [List.length_take]; omega
  unfold exA at h
  by_cases n : a = b
  · rw [if_pos n] at h; cases h
  rw [if_neg n] at h
  have n' : ¬ b = a := fun e => n e.symm
  generalize hp : u.take i = p at *
  by_cases z : kf a b = 0
  · rw [if_pos z] at h
    cases h
    have g1 : (p ++ [b, a] ++ u.drop (i + 2))[i]? = some b := by
      rw [List.append_assoc, List.getElem?_append_right (by omega), li, Nat.sub_self]; rfl
    have g2 : (p ++ [b, a] ++ u.drop (i + 2))[i + 1]? = some a := by
      rw [List.append_assoc, List.getElem?_append_right (by omega), li, Nat.add_sub_cancel_left]; rfl
    refine ⟨g1, g2, ?_⟩
    have z' : kf b a = 0 := by rw [hs]; exact z
    unfold exA
    rw [if_neg n', if_pos z']
    congr 1
    conv => rhs; rw [q]
    have t : (p ++ [b, a] ++ u.drop (i + 2)).take i = p := by rw [List.append_assoc, List.take_left' li]
    have d : (p ++ [b, a] ++ u.drop (i + 2)).drop (i + 2) = u.drop (i + 2) := List.drop_left' (by rw [List.length_append, li]; rfl)
    rw [t, d, List.append_assoc]
    rfl
  · rw [if_neg z] at h
    by_cases y : kf a b = 1 ∧ u[i + 2]? = some a
    · rw [if_pos y] at h
      cases h
      have q3 := at_drop y.2
      have g1 : (p ++ [b, a, b] ++ u.drop (i + 3))[i]? = some b := by
        rw [List.append_assoc, List.getElem?_append_right (by omega), li, Nat.sub_self]; rfl
      have g2 : (p ++ [b, a, b] ++ u.drop (i + 3))[i + 1]? = some a := by
        rw [List.append_assoc, List.getElem?_append_right (by omega), li, Nat.add_sub_cancel_left]; rfl
      have g3 : (p ++ [b, a, b] ++ u.drop (i + 3))[i + 2]? = some b := by
        rw [List.append_assoc, List.getElem?_append_right (by omega), li, Nat.add_sub_cancel_left]; rfl
      refine ⟨g1, g2, ?_⟩
      have z' : ¬ kf b a = 0 := by rw [hs]; exact z
      have z1 : kf b a = 1 := by rw [hs]; exact y.1
      unfold exA
      rw [if_neg n', if_neg z', if_pos ⟨z1, g3⟩]
      congr 1
      conv => rhs; rw [q, q3]
      have t : (p ++ [b, a, b] ++ u.drop (i + 3)).take i = p := by rw [List.append_assoc, List.take_left' li]
      have d : (p ++ [b, a, b] ++ u.drop (i + 3)).drop (i + 3) = u.drop (i + 3) := List.drop_left' (by rw [List.length_append, li]; rfl)
      rw [t, d, List.append_assoc]
      rfl
    · rw [if_neg y] at h
      cases h
/-- steps go both ways -/
theorem stepK_sym {u w : List Str} {d : D} (hs : ∀ x y, kf x y = kf y x) (h : stepK kf u w d) : stepK kf w u d := by
  obtain ⟨a1, a2, a3⟩ := h
  refine ⟨fun p => a1 p.symm, fun i a b ha hb hx => ?_, fun p q => a3 (fun e => p e.symm) fun i a b ha hb hx => ?_⟩
  · obtain ⟨ha', hb', hx'⟩ := ex_back hs ha hb hx
    rw [hs, a2 i b a ha' hb' hx']
  · obtain ⟨ha', hb', hx'⟩ := ex_back hs ha hb hx
    exact q i b a ha' hb' hx'
end
end Fw

/-! L8: the law's numbers, names, words. -/
namespace Fw
open PySem L2
open PySem.PyData (strOk)
theorem b_mod {i j : Int} (h : 0 < j) : binD .mod (.int i) (.int j) = some (.d (.int (i.fmod j))) := by
  show (if j ≠ 0 then some (RV.d (.int (i.fmod j))) else none) = _
  rw [if_pos (by omega)]
theorem b_fdiv {i j : Int} (h : 0 < j) (k : j < 1073741824) : binD .fdiv (.int i) (.int j) = some (.d (.int (i.fdiv j))) := by
  show (if j ≠ 0 ∧ j.natAbs < 1073741824 then some (RV.d (.int (i.fdiv j))) else none) = _
  rw [if_pos ⟨by omega, by omega⟩]
theorem b_mulr {i j : Int} (h : -(2 ^ 64) < j) (k : j < 2 ^ 64) : binD .mul (.int i) (.int j) = some (.d (.int (i * j))) := by
  have : mulOk i j = true := by
    unfold mulOk
    rw [decide_eq_true (show -(2 ^ 64) < j ∧ j < 2 ^ 64 from ⟨h, k⟩), Bool.true_or, Bool.or_true]
  show (if mulOk i j = true then some (RV.d (.int (i * j))) else none) = _
  rw [if_pos this]
theorem b_mull {i j : Int} (h : -(2 ^ 64) < i) (k : i < 2 ^ 64) : binD .mul (.int i) (.int j) = some (.d (.int (i * j))) := by
  have : mulOk i j = true := by
    unfold mulOk
    rw [decide_eq_true (show -(2 ^ 64) < i ∧ i < 2 ^ 64 from ⟨h, k⟩), Bool.true_or]
  show (if mulOk i j = true then some (RV.d (.int (i * j))) else none) = _
  rw [if_pos this]
theorem b_pow {i : Int} {n : Nat} (h : 0 ≤ i) (k : i < 2 ^ 64) (l : n ≤ 1000000) : binD .pow (.int i) (.int (n : Nat)) = some (.d (.int (i ^ n))) := by
  show (if 0 ≤ ((n : Nat) : Int) ∧ ((n : Nat) : Int) ≤ 1000000 ∧ i.natAbs < 2 ^ 64 then some (RV.d (.int (i ^ ((n : Nat) : Int).toNat))) else none) = _
  rw [if_pos ⟨by omega, by omega, by omega⟩, Int.toNat_natCast]
theorem cmp_ge (i j : Int) : cmpD .ge (.int i) (.int j) = some (decide (j ≤ i)) := rfl
theorem cmp_lt (i j : Int) : cmpD .lt (.int i) (.int j) = some (decide (i < j)) := rfl
theorem bi_max (i j : Int) : biD .max2 [.int i, .int j] = some (.d (.int (if j > i then j else i))) := rfl
/-- numbers as data -/
def nsD (l : List Nat) : D := .lst (l.map fun n => .int (n : Nat))
theorem len_n (l : List Nat) : biD .len [nsD l] = some (.d (.int (l.length : Nat))) := by
  show some (RV.d (.int ((l.map _).length : Nat))) = _
  rw [List.length_map]
theorem sub_n {l : List Nat} {i n : Nat} (h : l[i]? = some n) : subD (nsD l) (.int (i : Nat)) = some (.int (n : Nat)) := sub_l (by rw [List.getElem?_map, h]; rfl)
theorem cut_nf (l : List Nat) (i : Nat) : cutD (nsD l) (some (i : Nat)) none = some (.o (nsD (l.drop i))) := by
  show some (RV.o (.lst (cutL (l.map _) (some (i : Nat)) none))) = _
  rw [cut_map, cut_from]
  rfl
theorem cut_nm (l : List Nat) (i j : Nat) : cutD (nsD l) (some (i : Nat)) (some (j : Nat)) = some (.o (nsD ((l.drop i).take (j - i)))) := by
  show some (RV.o (.lst (cutL (l.map _) (some (i : Nat)) (some (j : Nat))))) = _
  rw [cut_map, cut_mid]
  rfl
theorem push_n {m : Mem} {xs : List Nat} {n : Nat} (h : xs.length < 16777216) : putM (.c m.length) (fun d => mmD .append d [.int (n : Nat)]) (m ++ [.fl (nsD xs)]) = .ok () (m ++ [.fl (nsD (xs ++ [n]))]) := by
  unfold nsD
  rw [push_end (by rwa [List.length_map]), List.map_append]
  rfl
theorem mk_n (xs : List Nat) : mmK .append (nsD xs) = true := rfl
theorem nil_n : D.lst [] = nsD [] := rfl
theorem ints_len (l : List Int) : biD .len [.lst (l.map .int)] = some (.d (.int (l.length : Nat))) := by
  show some (RV.d (.int ((l.map _).length : Nat))) = _
  rw [List.length_map]
theorem ints_sub {l : List Int} {i : Nat} {n : Int} (h : l[i]? = some n) : subD (.lst (l.map .int)) (.int (i : Nat)) = some (.int n) := sub_l (by rw [List.getElem?_map, h]; rfl)
/-- digits below sizes -/
def Dg (ss : List Int) (ds : List Nat) : Prop := ∀ (i d : Nat) (s : Int), ds[i]? = some d → ss[i]? = some s → (d : Int) < s
theorem Dg.push {ss : List Int} {ds : List Nat} {n : Nat} {s : Int} (h : Dg ss ds) (hs : ss[ds.length]? = some s) (hn : (n : Int) < s) : Dg ss (ds ++ [n]) := by
  intro i d t hd ht
  by_cases l : i < ds.length
  · rw [List.getElem?_append_left l] at hd
    exact h i d t hd ht
  · have : i = ds.length := by
      have := (List.getElem?_eq_some_iff.mp hd).1
      rw [List.length_append] at this
      have e : [n].length = 1 := rfl
      omega
    subst this
    rw [List.getElem?_append_right (Nat.le_refl _), Nat.sub_self] at hd
    cases hd
    rw [hs] at ht
    cases ht
    exact hn
section
variable {md : Md} {m : Mem}
theorem numbers_c (h : md.fns[145]? = some B.f145) (k : Nat) (c : Int) {seed : Int} {ss : List Int} (s0 : 0 ≤ seed) (s1 : seed ≤ 1000000) (hl : ss.length ≤ 1000) (hs : ∀ s ∈ ss, 0 < s ∧ s < 1073741824) (m : Mem) :
    ∃ ds : List Nat, ds.length = ss.length ∧ Dg ss ds ∧ callI md (k + 1) 145 [.d (.int c), .d (.int seed), .d (.lst (ss.map .int))] m = .ok (.o (nsD ds)) m := by
  obtain ⟨s', m', e, h'⟩ := for_all (f := turnM md (callI md k) (.nm 6) [.if_ (.and_ (.cmp .ge (.v 3) (.bin .pow (.k (.int 10)) (.k (.int 18)))) (.cmp .gt (.v 4) (.k (.int 0)))) [.mm .append (.v 5) [(.bin .mod (.v 4) (.sub (.v 2) (.v 6)))], .asg 4 (.bin .fdiv (.v 4) (.sub (.v 2) (.v 6)))] [.asg 7 (.bin .mod (.bin .pow (.bin .add (.bin .add (.bin .mod (.v 3) (.k (.int 2147483629))) (.bin .mul (.k (.int 7919)) (.v 1))) (.k (.int 1))) (.k (.int 3))) (.k (.int 2147483647))), .asg 7 (.bin .mod (.bin .mul (.bin .add (.v 7) (.bin .mul (.k (.int 104729)) (.bin .add (.v 6) (.k (.int 1))))) (.bin .add (.v 6) (.k (.int 3)))) (.k (.int 2147483629))), .asg 7 (.bin .mod (.bin .mul (.bin .mod (.bin .pow (.v 7) (.k (.int 5))) (.k (.int 2147483647))) (.k (.int 48271))) (.k (.int 2147483629))), .mm .append (.v 5) [(.bin .mod (.bin .fdiv (.v 7) (.k (.int 16))) (.sub (.v 2) (.v 6)))]]])
    (items := (List.range ss.length).map fun i => D.int (i : Nat)) (fun i s m' => ∃ ds : List Nat, m' = m ++ [.fl (nsD ds)] ∧ ds.length = i ∧ Dg ss ds ∧ ∃ (x y : Int) (a b : Option Val), s = [some (.d (.int c)), some (.d (.int seed)), some (.d (.lst (ss.map .int))), some (.d (.int x)), some (.d (.int y)), some (.c m.length), a, b])
    (s := [some (.d (.int c)), some (.d (.int seed)), some (.d (.lst (ss.map .int))), some (.d (.int (if -1 - c > c then -1 - c else c))), some (.d (.int (if -1 - c > c then -1 - c else c))), some (.c m.length), none, none]) (m := m ++ [.fl (nsD [])]) ⟨[], rfl, rfl, fun i d s h => (nomatch (show (none : Option Nat) = some d from h)), _, _, none, none, rfl⟩
    (by
      rintro i z s m' hy ⟨ds, rfl, hi', hd, x, y, a, b, rfl⟩
      obtain ⟨hi, rfl⟩ := rng_at hy
      have gs : ss[i]? = some (ss[i]'hi) := List.getElem?_eq_getElem _
      have bs := hs _ (List.getElem_mem hi)
      generalize ss[i]'hi = t at gs bs
      have bl : ds.length < 16777216 := by omega
      have hsub := ints_sub gs
      have p10 : binD .pow (.int 10) (.int 18) = some (.d (.int 1000000000000000000)) := rfl
      have fm : ∀ q : Int, ∃ n : Nat, q.fmod t = (n : Int) ∧ (n : Int) < t := fun q => by
        have h1 := Int.fmod_nonneg_of_pos q bs.1
        have h2 := Int.fmod_lt_of_pos q bs.1
        exact ⟨(q.fmod t).toNat, by omega, by omega⟩
      have hmod := fun q : Int => b_mod (i := q) bs.1
      have hdiv := fun q : Int => b_fdiv (i := q) bs.1 bs.2
      by_cases big : 1000000000000000000 ≤ x ∧ 0 < y
      · obtain ⟨n, hn, hn'⟩ := fm y
        refine ⟨[some (.d (.int c)), some (.d (.int seed)), some (.d (.lst (ss.map .int))), some (.d (.int x)), some (.d (.int (y.fdiv t))), some (.c m.length), some (.d (.int (i : Nat))), b], m ++ [.fl (nsD (ds ++ [n]))], .inl ?_, ds ++ [n], rfl, by rw [List.length_append, hi']; rfl, hd.push (by rw [hi']; exact gs) hn', _, _, _, _, rfl⟩
        simp only [e_v, e_k, e_gc, e_ccon, e_bin, e_neg, e_not, e_cmp, e_chain, e_and, e_or, e_ife, e_call, e_mk, e_mkM, e_meth, e_attr, e_prop, e_bi, e_lenset, e_isi, e_bm, e_sub, e_sl, e_rev, e_lst, e_tup, e_dct0, e_lc, e_dc, e_scut, e_semp, es_nil, es_cons, et_nil, et_cons, x_asg, x_asgM, x_asgT, x_par, x_setI, x_setF, x_setW, x_mm, x_ex, x_ret, x_retN, x_if, x_for, x_while, x_aug, x_pass, x_brk, x_cnt, x_nv, x_nil, x_cons, t_ev, c_o, sl_0, sl_s, rv_d, rv_c, rv_s, w_d, w_o, ws_nil, ws_cons, f_d, f_o, fs_nil, fs_cons, a_d, a_o, a_c, as_nil, as_cons, rd_some, tr_bl, tr_non, tr_int, tr_lst, tr_tup, c_d, c_c, v_rv, ↓bnd_r, ↓sM_r', bR_ok, sR_ok, pur_r, newM_r, ofO_some, grd_t, nn_v, nn_bin, nn_neg, nn_kn, nn_ki, nn_sub, nn_bi, in_m, mk_app, mk_ext, mk_rev, bk_get1, bk_get2, bk_get1k, bk_get2k, slE_t, slE_f, bnd_pur, st_nm, st_2, st_2l, wp_nil, wp_1, wp_2, fm_nil, fm_cons, List.set_cons_zero, List.set_cons_succ, nrz_pur, nrz_r, nR_ok, start_s, tn_, decide_true, decide_false, Bool.not_true, Bool.not_false, eq_self, ↓reduceIte, List.map_cons, List.map_nil, p10, cmp_ge, cmp_gt, big.1, big.2, view_end, mk_n, hsub, hmod, hdiv, hn, push_n bl]
      · have p29 := fun q : Int => b_mod (i := q) (show (0 : Int) < 2147483629 by decide)
        have p47 := fun q : Int => b_mod (i := q) (show (0 : Int) < 2147483647 by decide)
        have f29 := fun q : Int => And.intro (Int.fmod_nonneg_of_pos q (show (0 : Int) < 2147483629 by decide)) (Int.fmod_lt_of_pos q (show (0 : Int) < 2147483629 by decide))
        have m1 : binD .mul (.int 7919) (.int seed) = some (.d (.int (7919 * seed))) := b_mull (by decide) (by decide)
        have m2 : binD .mul (.int 104729) (.int ((i : Int) + 1)) = some (.d (.int (104729 * ((i : Int) + 1)))) := b_mull (by decide) (by decide)
        have m3 := fun q : Int => b_mulr (i := q) (j := (i : Int) + 3) (by omega) (by omega)
        have m4 := fun q : Int => b_mulr (i := q) (j := 48271) (by decide) (by decide)
        have w1 : binD .pow (.int (x.fmod 2147483629 + 7919 * seed + 1)) (.int 3) = some (.d (.int ((x.fmod 2147483629 + 7919 * seed + 1) ^ 3))) := b_pow (n := 3) (by have := f29 x; omega) (by have := f29 x; omega) (by decide)
        have w2 := fun q : Int => b_pow (i := q.fmod 2147483629) (n := 5) (f29 q).1 (by have := f29 q; omega) (by decide)
        have d16 := fun q : Int => b_fdiv (i := q) (show (0 : Int) < 16 by decide) (by decide)
        have key : ∃ (n : Nat) (z : Int), (n : Int) < t ∧ turnM md (callI md k) (.nm 6) [.if_ (.and_ (.cmp .ge (.v 3) (.bin .pow (.k (.int 10)) (.k (.int 18)))) (.cmp .gt (.v 4) (.k (.int 0)))) [.mm .append (.v 5) [(.bin .mod (.v 4) (.sub (.v 2) (.v 6)))], .asg 4 (.bin .fdiv (.v 4) (.sub (.v 2) (.v 6)))] [.asg 7 (.bin .mod (.bin .pow (.bin .add (.bin .add (.bin .mod (.v 3) (.k (.int 2147483629))) (.bin .mul (.k (.int 7919)) (.v 1))) (.k (.int 1))) (.k (.int 3))) (.k (.int 2147483647))), .asg 7 (.bin .mod (.bin .mul (.bin .add (.v 7) (.bin .mul (.k (.int 104729)) (.bin .add (.v 6) (.k (.int 1))))) (.bin .add (.v 6) (.k (.int 3)))) (.k (.int 2147483629))), .asg 7 (.bin .mod (.bin .mul (.bin .mod (.bin .pow (.v 7) (.k (.int 5))) (.k (.int 2147483647))) (.k (.int 48271))) (.k (.int 2147483629))), .mm .append (.v 5) [(.bin .mod (.bin .fdiv (.v 7) (.k (.int 16))) (.sub (.v 2) (.v 6)))]]] (.int (i : Nat)) [some (.d (.int c)), some (.d (.int seed)), some (.d (.lst (ss.map .int))), some (.d (.int x)), some (.d (.int y)), some (.c m.length), a, b] (m ++ [.fl (nsD ds)]) = .ok (.nx [some (.d (.int c)), some (.d (.int seed)), some (.d (.lst (ss.map .int))), some (.d (.int x)), some (.d (.int y)), some (.c m.length), some (.d (.int (i : Nat))), some (.d (.int z))]) (m ++ [.fl (nsD (ds ++ [n]))]) := by
          generalize e1 : (x.fmod 2147483629 + 7919 * seed + 1) ^ 3 = q1 at w1
          generalize e2 : ((q1.fmod 2147483647 + 104729 * ((i : Int) + 1)) * ((i : Int) + 3)) = q2
          have w2' := w2 q2
          generalize e3 : (q2.fmod 2147483629) ^ 5 = q3 at w2'
          obtain ⟨n, hn, hn'⟩ := fm (((q3.fmod 2147483647 * 48271).fmod 2147483629).fdiv 16)
          refine ⟨n, (q3.fmod 2147483647 * 48271).fmod 2147483629, hn', ?_⟩
          have w2'' : binD .pow (.int (q2.fmod 2147483629)) (.int 5) = some (.d (.int q3)) := w2'
          by_cases g1 : 1000000000000000000 ≤ x
          · have g2 : ¬ 0 < y := fun h => big ⟨g1, h⟩
            simp only [e_v, e_k, e_gc, e_ccon, e_bin, e_neg, e_not, e_cmp, e_chain, e_and, e_or, e_ife, e_call, e_mk, e_mkM, e_meth, e_attr, e_prop, e_bi, e_lenset, e_isi, e_bm, e_sub, e_sl, e_rev, e_lst, e_tup, e_dct0, e_lc, e_dc, e_scut, e_semp, es_nil, es_cons, et_nil, et_cons, x_asg, x_asgM, x_asgT, x_par, x_setI, x_setF, x_setW, x_mm, x_ex, x_ret, x_retN, x_if, x_for, x_while, x_aug, x_pass, x_brk, x_cnt, x_nv, x_nil, x_cons, t_ev, c_o, sl_0, sl_s, rv_d, rv_c, rv_s, w_d, w_o, ws_nil, ws_cons, f_d, f_o, fs_nil, fs_cons, a_d, a_o, a_c, as_nil, as_cons, rd_some, tr_bl, tr_non, tr_int, tr_lst, tr_tup, c_d, c_c, v_rv, ↓bnd_r, ↓sM_r', bR_ok, sR_ok, pur_r, newM_r, ofO_some, grd_t, nn_v, nn_bin, nn_neg, nn_kn, nn_ki, nn_sub, nn_bi, in_m, mk_app, mk_ext, mk_rev, bk_get1, bk_get2, bk_get1k, bk_get2k, slE_t, slE_f, bnd_pur, st_nm, st_2, st_2l, wp_nil, wp_1, wp_2, fm_nil, fm_cons, List.set_cons_zero, List.set_cons_succ, nrz_pur, nrz_r, nR_ok, start_s, tn_, decide_true, decide_false, Bool.not_true, Bool.not_false, eq_self, ↓reduceIte, List.map_cons, List.map_nil, p10, cmp_ge, cmp_gt, g1, g2, p29, p47, m1, m2, m3, m4, b_add, w1, e1, e2, w2'', d16, hsub, hmod, hn, view_end, mk_n, push_n bl]
          · simp only [e_v, e_k, e_gc, e_ccon, e_bin, e_neg, e_not, e_cmp, e_chain, e_and, e_or, e_ife, e_call, e_mk, e_mkM, e_meth, e_attr, e_prop, e_bi, e_lenset, e_isi, e_bm, e_sub, e_sl, e_rev, e_lst, e_tup, e_dct0, e_lc, e_dc, e_scut, e_semp, es_nil, es_cons, et_nil, et_cons, x_asg, x_asgM, x_asgT, x_par, x_setI, x_setF, x_setW, x_mm, x_ex, x_ret, x_retN, x_if, x_for, x_while, x_aug, x_pass, x_brk, x_cnt, x_nv, x_nil, x_cons, t_ev, c_o, sl_0, sl_s, rv_d, rv_c, rv_s, w_d, w_o, ws_nil, ws_cons, f_d, f_o, fs_nil, fs_cons, a_d, a_o, a_c, as_nil, as_cons, rd_some, tr_bl, tr_non, tr_int, tr_lst, tr_tup, c_d, c_c, v_rv, ↓bnd_r, ↓sM_r', bR_ok, sR_ok, pur_r, newM_r, ofO_some, grd_t, nn_v, nn_bin, nn_neg, nn_kn, nn_ki, nn_sub, nn_bi, in_m, mk_app, mk_ext, mk_rev, bk_get1, bk_get2, bk_get1k, bk_get2k, slE_t, slE_f, bnd_pur, st_nm, st_2, st_2l, wp_nil, wp_1, wp_2, fm_nil, fm_cons, List.set_cons_zero, List.set_cons_succ, nrz_pur, nrz_r, nR_ok, start_s, tn_, decide_true, decide_false, Bool.not_true, Bool.not_false, eq_self, ↓reduceIte, List.map_cons, List.map_nil, p10, cmp_ge, cmp_gt, g1, p29, p47, m1, m2, m3, m4, b_add, w1, e1, e2, w2'', d16, hsub, hmod, hn, view_end, mk_n, push_n bl]
        obtain ⟨n, z, hn, e⟩ := key
        exact ⟨_, _, .inl e, ds ++ [n], rfl, by rw [List.length_append, hi']; rfl, hd.push (by rw [hi']; exact gs) hn, _, _, _, _, rfl⟩)
  obtain ⟨ds, rfl, hi, hd, x, y, a, b, rfl⟩ := h'
  rw [rng_len] at hi
  refine ⟨ds, hi, hd, ?_⟩
  rw [callI_some h rfl]
  refine bodyM_c0 (x := []) ?_
  show exs md (callI md k) B.f145.body [some (.d (.int c)), some (.d (.int seed)), some (.d (.lst (ss.map .int))), none, none, none, none, none] m = _
  have hr2 := it_rng (n := (ss.length : Int)) (by omega) (by omega)
  rw [Int.toNat_natCast] at hr2
  simp only [e_v, e_k, e_gc, e_ccon, e_bin, e_neg, e_not, e_cmp, e_chain, e_and, e_or, e_ife, e_call, e_mk, e_mkM, e_meth, e_attr, e_prop, e_bi, e_lenset, e_isi, e_bm, e_sub, e_sl, e_rev, e_lst, e_tup, e_dct0, e_lc, e_dc, e_scut, e_semp, es_nil, es_cons, et_nil, et_cons, x_asg, x_asgM, x_asgT, x_par, x_setI, x_setF, x_setW, x_mm, x_ex, x_ret, x_retN, x_if, x_for, x_while, x_aug, x_pass, x_brk, x_cnt, x_nv, x_nil, x_cons, t_ev, c_o, sl_0, sl_s, rv_d, rv_c, rv_s, w_d, w_o, ws_nil, ws_cons, f_d, f_o, fs_nil, fs_cons, a_d, a_o, a_c, as_nil, as_cons, rd_some, tr_bl, tr_non, tr_int, tr_lst, tr_tup, c_d, c_c, v_rv, ↓bnd_r, ↓sM_r', bR_ok, sR_ok, pur_r, newM_r, ofO_some, grd_t, nn_v, nn_bin, nn_neg, nn_kn, nn_ki, nn_sub, nn_bi, in_m, mk_app, mk_ext, mk_rev, bk_get1, bk_get2, bk_get1k, bk_get2k, slE_t, slE_f, bnd_pur, st_nm, st_2, st_2l, wp_nil, wp_1, wp_2, fm_nil, fm_cons, List.set_cons_zero, List.set_cons_succ, nrz_pur, nrz_r, nR_ok, start_s, tn_, decide_true, decide_false, Bool.not_true, Bool.not_false, eq_self, ↓reduceIte, List.map_cons, List.map_nil, B.f145, b_sub, bi_max, ints_len, hr2, nil_n, e]
end
end Fw

/-! L9: tables, put and looked at. -/
namespace Fw
open PySem L2
section
variable {κ β : Type} [DecidableEq κ]
theorem lk_nil (k : κ) : lookA ([] : List (κ × β)) k = none := rfl
theorem lk_cons (a : κ) (b : β) (r : List (κ × β)) (k : κ) : lookA ((a, b) :: r) k = if a = k then some b else lookA r k := by
  unfold lookA
  rw [List.find?_cons]
  by_cases h : a = k
  · rw [if_pos h, show decide (a = k) = true from decide_eq_true h]; rfl
  · rw [if_neg h, show decide (a = k) = false from decide_eq_false h]
theorem lk_some : ∀ {l : List (κ × β)} {k : κ} {v : β}, lookA l k = some v → (k, v) ∈ l
  | [], _, _, h => by cases h
  | (a, b) :: r, k, v, h => by
    rw [lk_cons] at h
    by_cases e : a = k
    · rw [if_pos e] at h; cases h; rw [e]; exact List.mem_cons_self ..
    · rw [if_neg e] at h; exact List.mem_cons_of_mem _ (lk_some h)
theorem lk_mem : ∀ {l : List (κ × β)} {k : κ}, (lookA l k).isSome = true ↔ k ∈ l.map (·.1)
  | [], k => by constructor <;> intro h <;> cases h
  | (a, b) :: r, k => by
    rw [lk_cons, List.map_cons, List.mem_cons]
    by_cases e : a = k
    · rw [if_pos e]; exact ⟨fun _ => .inl e.symm, fun _ => rfl⟩
    · rw [if_neg e, lk_mem]; exact ⟨.inr, fun h => h.elim (fun h => (e h.symm).elim) id⟩
theorem lk_none {l : List (κ × β)} {k : κ} : lookA l k = none ↔ k ∉ l.map (·.1) := by
  rw [← lk_mem]
  cases lookA l k <;> simp
theorem put_eq (l : List (κ × β)) (k : κ) (v : β) : putA l k v = if k ∈ l.map (·.1) then l.map (fun kv => if kv.1 = k then (kv.1, v) else kv) else l ++ [(k, v)] := by
  unfold putA
  have : ((l.any fun kv => decide (kv.1 = k)) = true) = (k ∈ l.map (·.1)) := by
    rw [List.any_eq_true, List.mem_map]
    apply propext
    constructor
    · rintro ⟨x, hx, e⟩; exact ⟨x, hx, of_decide_eq_true e⟩
    · rintro ⟨x, hx, e⟩; exact ⟨x, hx, decide_eq_true e⟩
  simp only [this]
theorem put_keys (l : List (κ × β)) (k : κ) (v : β) : (putA l k v).map (·.1) = if k ∈ l.map (·.1) then l.map (·.1) else l.map (·.1) ++ [k] := by
  rw [put_eq]
  by_cases h : k ∈ l.map (·.1)
  · rw [if_pos h, if_pos h, List.map_map]
    apply List.map_congr_left
    intro a _
    show (if a.1 = k then (a.1, v) else a).1 = a.1
    split <;> rfl
  · rw [if_neg h, if_neg h, List.map_append]
    rfl
theorem put_nodup {l : List (κ × β)} (k : κ) (v : β) (h : (l.map (·.1)).Nodup) : ((putA l k v).map (·.1)).Nodup := by
  rw [put_keys]
  by_cases q : k ∈ l.map (·.1)
  · rw [if_pos q]; exact h
  · rw [if_neg q]
    rw [List.nodup_append]
    refine ⟨h, by simp, ?_⟩
    intro a ha b hb e
    simp only [List.mem_singleton] at hb
    rw [e, hb] at ha
    exact q ha
theorem put_mem {l : List (κ × β)} {k j : κ} {v : β} : j ∈ (putA l k v).map (·.1) ↔ j = k ∨ j ∈ l.map (·.1) := by
  rw [put_keys]
  by_cases q : k ∈ l.map (·.1)
  · rw [if_pos q]
    exact ⟨.inr, fun h => h.elim (fun e => e ▸ q) id⟩
  · rw [if_neg q, List.mem_append, List.mem_singleton]
    exact ⟨fun h => h.elim .inr .inl, fun h => h.elim .inr .inl⟩
theorem put_len (l : List (κ × β)) (k : κ) (v : β) : (putA l k v).length ≤ l.length + 1 := by
  have h := put_keys l k v
  have h2 := congrArg List.length h
  rw [List.length_map] at h2
  rw [h2]
  split
  · rw [List.length_map]; omega
  · rw [List.length_append, List.length_map]; exact Nat.le_refl _
theorem lk_append (l m : List (κ × β)) (k : κ) : lookA (l ++ m) k = (lookA l k).or (lookA m k) := by
  induction l with
  | nil => rfl
  | cons a r ih =>
    obtain ⟨a, b⟩ := a
    rw [List.cons_append, lk_cons, lk_cons]
    split
    · rfl
    · exact ih
theorem lk_put (l : List (κ × β)) (k : κ) (v : β) (j : κ) : lookA (putA l k v) j = if j = k then some v else lookA l j := by
  rw [put_eq]
  by_cases q : k ∈ l.map (·.1)
  · rw [if_pos q]
    by_cases e : j = k
    · subst e
      rw [if_pos rfl]
      induction l with
      | nil => cases q
      | cons a r ih =>
        obtain ⟨a, b⟩ := a
        rw [List.map_cons]
        by_cases h : a = j
        · rw [if_pos h, lk_cons, if_pos h]
        · rw [if_neg h, lk_cons, if_neg h]
          apply ih
          rw [List.map_cons, List.mem_cons] at q
          exact q.resolve_left fun e => h e.symm
    · rw [if_neg e]
      clear q
      induction l with
      | nil => rfl
      | cons a r ih =>
        obtain ⟨a, b⟩ := a
        rw [List.map_cons, lk_cons]
        by_cases h : a = k
        · have h' : ¬ a = j := fun x => e (x.symm.trans h)
          rw [if_pos h, lk_cons, if_neg h', if_neg h', ih]
        · rw [if_neg h, lk_cons, ih]
  · rw [if_neg q, lk_append]
    by_cases e : j = k
    · subst e
      rw [if_pos rfl, lk_none.mpr q, lk_cons, if_pos rfl]
      rfl
    · rw [if_neg e, lk_cons, if_neg fun x => e x.symm, lk_nil, Option.or_none]
/-- keys told another way -/
theorem lk_map {κ' β' : Type} [DecidableEq κ'] (f : κ → κ') (g : β → β') (hf : Function.Injective f) (l : List (κ × β)) (k : κ) : lookA (l.map fun p => (f p.1, g p.2)) (f k) = (lookA l k).map g := by
  induction l with
  | nil => rfl
  | cons a r ih =>
    obtain ⟨a, b⟩ := a
    rw [List.map_cons, lk_cons, lk_cons, ih]
    by_cases h : a = k
    · rw [if_pos h, if_pos (congrArg f h)]; rfl
    · rw [if_neg h, if_neg fun e => h (hf e)]
theorem put_map {κ' β' : Type} [DecidableEq κ'] (f : κ → κ') (g : β → β') (hf : Function.Injective f) (l : List (κ × β)) (k : κ) (v : β) : putA (l.map fun p => (f p.1, g p.2)) (f k) (g v) = (putA l k v).map fun p => (f p.1, g p.2) := by
  have e : (f k ∈ (l.map fun p => (f p.1, g p.2)).map (·.1)) = (k ∈ l.map (·.1)) := by
    apply propext
    rw [List.map_map, List.mem_map, List.mem_map]
    constructor
    · rintro ⟨x, hx, h⟩; exact ⟨x, hx, hf h⟩
    · rintro ⟨x, hx, h⟩; exact ⟨x, hx, congrArg f h⟩
  rw [put_eq, put_eq]
  by_cases q : k ∈ l.map (·.1)
  · rw [if_pos q, if_pos (e ▸ q), List.map_map, List.map_map]
    apply List.map_congr_left
    intro a _
    show (if f a.1 = f k then (f a.1, g v) else (f a.1, g a.2)) = (fun p : κ × β => (f p.1, g p.2)) (if a.1 = k then (a.1, v) else a)
    by_cases h : a.1 = k
    · rw [if_pos h, if_pos (congrArg f h)]
    · rw [if_neg h, if_neg fun e => h (hf e)]
  · rw [if_neg q, if_neg (fun h => q (e ▸ h)), List.map_append]
    rfl
end
/-! ### tables of pairs of texts -/
abbrev PT := List ((Str × Str) × Int)
def pk (p : Str × Str) : List Key := [.inr p.1, .inr p.2]
theorem pk_inj : Function.Injective pk := fun a b h => by
  obtain ⟨a1, a2⟩ := a
  obtain ⟨b1, b2⟩ := b
  unfold pk at h
  simp only [List.cons.injEq, Sum.inr.injEq, and_true] at h
  rw [h.1, h.2]
def emb (t : PT) : List (List Key × D) := t.map fun p => (pk p.1, D.int p.2)
theorem lk_emb (t : PT) (x y : Str) : lookA (emb t) [.inr x, .inr y] = (lookA t (x, y)).map .int := lk_map pk D.int pk_inj t (x, y)
theorem put_emb (t : PT) (x y : Str) (z : Int) : putA (emb t) [.inr x, .inr y] (.int z) = emb (putA t (x, y) z) := put_map pk D.int pk_inj t (x, y) z
theorem emb_len (t : PT) : (emb t).length = t.length := List.length_map _
/-- the same for texts and numbers -/
abbrev ST := List (Str × Int)
def sk (x : Str) : Key := .inr x
theorem sk_inj : Function.Injective sk := fun a b h => by cases h; rfl
def embS (t : ST) : List (Key × D) := t.map fun p => (sk p.1, D.int p.2)
theorem lk_embS (t : ST) (x : Str) : lookA (embS t) (.inr x) = (lookA t x).map .int := lk_map sk D.int sk_inj t x
theorem put_embS (t : ST) (x : Str) (z : Int) : putA (embS t) (.inr x) (.int z) = embS (putA t x z) := put_map sk D.int sk_inj t x z
theorem embS_len (t : ST) : (embS t).length = t.length := List.length_map _
end Fw

/-! L10: names, pairs, words of the laws. -/
namespace Fw
open PySem L2
open PySem.PyData (strOk)
def Names : List Str := [S "d", S "a", S "f", S "c", S "b", S "e", S "g", S "k", S "m", S "h", S "j", S "i"]
theorem names_nodup : Names.Nodup := by decide +kernel
theorem names_ok : OkS Names := by
  have : Names.all strOk = true := by decide +kernel
  exact fun x hx => List.all_eq_true.mp this x hx
theorem take_nodup {α : Type} {l : List α} (h : l.Nodup) (n : Nat) : (l.take n).Nodup := (List.take_sublist n l).nodup h
theorem nodup_get {l : List Str} (h : l.Nodup) {i j : Nat} {x : Str} (hi : l[i]? = some x) (hj : l[j]? = some x) : i = j := by
  obtain ⟨a, ha⟩ := List.getElem?_eq_some_iff.mp hi
  obtain ⟨b, hb⟩ := List.getElem?_eq_some_iff.mp hj
  exact (List.getElem_inj (h₀ := a) (h₁ := b) h).mp (ha.trans hb.symm)
theorem b_modN {a b : Nat} (h : 0 < b) : binD .mod (.int (a : Nat)) (.int (b : Nat)) = some (.d (.int ((a % b : Nat)))) := by
  rw [b_mod (by omega), Int.ofNat_fmod]
theorem nm_lst : D.lst [.str (S "d"), .str (S "a"), .str (S "f"), .str (S "c"), .str (S "b"), .str (S "e"), .str (S "g"), .str (S "k"), .str (S "m"), .str (S "h"), .str (S "j"), .str (S "i")] = wD Names := rfl
structure PI (ns : List Str) (mn : List Int) (t : PT) : Prop where
  sym : ∀ x y, lookA t (x, y) = lookA t (y, x)
  val : ∀ x y z, lookA t (x, y) = some z → z ∈ mn ∧ x ∈ ns ∧ y ∈ ns ∧ x ≠ y
  nod : (t.map (·.1)).Nodup
theorem PI.nil (ns : List Str) (mn : List Int) : PI ns mn [] := ⟨fun _ _ => rfl, fun x y z h => (nomatch (show (none : Option Int) = some z from h)), List.nodup_nil⟩
theorem PI.put {ns : List Str} {mn : List Int} {t : PT} (h : PI ns mn t) {x y : Str} {z : Int} (hx : x ∈ ns) (hy : y ∈ ns) (n : x ≠ y) (hz : z ∈ mn) : PI ns mn (putA (putA t (x, y) z) (y, x) z) := by
  refine ⟨fun a b => ?_, fun a b c q => ?_, put_nodup _ _ (put_nodup _ _ h.nod)⟩
  · rw [lk_put, lk_put, lk_put, lk_put]
    by_cases e1 : (a, b) = (y, x)
    · by_cases e2 : (b, a) = (y, x)
      · rw [if_pos e1, if_pos e2]
      · have e3 : (b, a) = (x, y) := by cases e1; rfl
        rw [if_pos e1, if_neg e2, if_pos e3]
    · by_cases e2 : (b, a) = (y, x)
      · have e3 : (a, b) = (x, y) := by cases e2; rfl
        rw [if_neg e1, if_pos e3, if_pos e2]
      · have e3 : ¬ (a, b) = (x, y) := fun e => e2 (by cases e; rfl)
        have e4 : ¬ (b, a) = (x, y) := fun e => e1 (by cases e; rfl)
        rw [if_neg e1, if_neg e3, if_neg e2, if_neg e4]
        exact h.sym a b
  · rw [lk_put, lk_put] at q
    by_cases e1 : (a, b) = (y, x)
    · rw [if_pos e1] at q
      cases e1
      cases q
      exact ⟨hz, hy, hx, fun e => n e.symm⟩
    · rw [if_neg e1] at q
      by_cases e2 : (a, b) = (x, y)
      · rw [if_pos e2] at q
        cases e2
        cases q
        exact ⟨hz, hx, hy, n⟩
      · rw [if_neg e2] at q
        exact h.val a b c q
theorem put2_len (t : PT) (p q : Str × Str) (z : Int) : (putA (putA t p z) q z).length ≤ t.length + 2 := by
  have := put_len (putA t p z) q z
  have := put_len t p z
  omega
theorem put2_some {t : PT} {p q r : Str × Str} {z : Int} (h : (lookA t r).isSome = true) : (lookA (putA (putA t p z) q z) r).isSome = true := by
  rw [lk_put, lk_put]
  split
  · rfl
  split
  · rfl
  · exact h
theorem set_T {m : Mem} {t : PT} (x y : Str) (z : Int) (h : t.length < 16777216) (r : Mem) : putM (.c m.length) (fun d => setD d (.tup [.str x, .str y]) (.int z)) (m ++ .fl (.dT (emb t)) :: r) = .ok () (m ++ .fl (.dT (emb (putA t (x, y) z))) :: r) := by
  rw [putM_c (d := .dT (emb t)) (d' := .dT (emb (putA t (x, y) z))) (get_end ..) ?_, set_end]
  show (if (emb t).length < 16777216 then some (D.dT (putA (emb t) [.inr x, .inr y] (.int z))) else none) = _
  rw [emb_len, if_pos h, put_emb]
section
variable {md : Md} {m : Mem}
theorem named_c (h : md.fns[152]? = some B.f152) (k n : Nat) (m : Mem) : callI md (k + 1) 152 [.d (.int (n : Nat))] m = .ok (.o (wD (Names.take n))) m := by
  rw [callI_some h rfl]
  refine bodyM_o (x := []) ?_
  rw [List.append_nil]
  show exs md (callI md k) B.f152.body [some (.d (.int (n : Nat)))] m = _
  simp only [e_v, e_k, e_gc, e_ccon, e_bin, e_neg, e_not, e_cmp, e_chain, e_and, e_or, e_ife, e_call, e_mk, e_mkM, e_meth, e_attr, e_prop, e_bi, e_lenset, e_isi, e_bm, e_sub, e_sl, e_rev, e_lst, e_tup, e_dct0, e_lc, e_dc, e_scut, e_semp, es_nil, es_cons, et_nil, et_cons, x_asg, x_asgM, x_asgT, x_par, x_setI, x_setF, x_setW, x_mm, x_ex, x_ret, x_retN, x_if, x_for, x_while, x_aug, x_pass, x_brk, x_cnt, x_nv, x_nil, x_cons, t_ev, c_o, sl_0, sl_s, rv_d, rv_c, rv_s, w_d, w_o, ws_nil, ws_cons, f_d, f_o, fs_nil, fs_cons, a_d, a_o, a_c, as_nil, as_cons, rd_some, tr_bl, tr_non, tr_int, tr_lst, tr_tup, c_d, c_c, v_rv, ↓bnd_r, ↓sM_r', bR_ok, sR_ok, pur_r, newM_r, ofO_some, grd_t, nn_v, nn_bin, nn_neg, nn_kn, nn_ki, nn_sub, nn_bi, in_m, mk_app, mk_ext, mk_rev, bk_get1, bk_get2, bk_get1k, bk_get2k, slE_t, slE_f, bnd_pur, st_nm, st_2, st_2l, wp_nil, wp_1, wp_2, fm_nil, fm_cons, List.set_cons_zero, List.set_cons_succ, nrz_pur, nrz_r, nR_ok, start_s, tn_, decide_true, decide_false, Bool.not_true, Bool.not_false, eq_self, ↓reduceIte, List.map_cons, List.map_nil, B.f152, nm_lst, cut_wt]
def inT : List Sm := [.asg 8 (.sub (.v 2) (.bin .mod (.sub (.v 0) (.bin .mod (.v 5) (.bi .len [(.v 0)]))) (.bi .len [(.v 2)]))), .setI (.v 4) (.tup [(.sub (.v 3) (.v 7)), (.sub (.v 3) (.v 6))]) (.v 8), .setI (.v 4) (.tup [(.sub (.v 3) (.v 6)), (.sub (.v 3) (.v 7))]) (.v 8), .asg 5 (.bin .add (.v 5) (.k (.int 1)))]
def pS (m : Mem) (ds : List Nat) (n : Nat) (mn : List Int) (t : Nat) (a b c : Option Val) : Sl := [some (.d (nsD ds)), some (.d (.int (n : Nat))), some (.d (.lst (mn.map .int))), some (.d (wD (Names.take n))), some (.c m.length), some (.d (.int (t : Nat))), a, b, c]
theorem pairs_in (cf : Nat → List Val → Mo RV) {ds : List Nat} {mn : List Int} {n : Nat} (hd : ds ≠ []) (hm : mn ≠ []) (hn : n ≤ 12) {i j t : Nat} {T : PT} (hi : i < j) (hj : j < n) (hT : PI (Names.take n) mn T) (lT : T.length ≤ 10000) (b c : Option Val) :
    ∃ T', PI (Names.take n) mn T' ∧ T'.length ≤ T.length + 2 ∧ (∀ p, (lookA T p).isSome = true → (lookA T' p).isSome = true) ∧ (∀ x y, (Names.take n)[i]? = some x → (Names.take n)[j]? = some y → (lookA T' (x, y)).isSome = true) ∧
      ∃ c', turnM md cf (.nm 7) inT (.int (i : Nat)) (pS m ds n mn t (some (.d (.int (j : Nat)))) b c) (m ++ [.fl (.dT (emb T))]) = .ok (.nx (pS m ds n mn (t + 1) (some (.d (.int (j : Nat)))) (some (.d (.int (i : Nat)))) c')) (m ++ [.fl (.dT (emb T'))]) := by
  have ld : 0 < ds.length := List.length_pos_iff.mpr hd
  have lm : 0 < mn.length := List.length_pos_iff.mpr hm
  have gd : ds[t % ds.length]? = some (ds[t % ds.length]'(Nat.mod_lt _ ld)) := List.getElem?_eq_getElem _
  generalize ds[t % ds.length]'(Nat.mod_lt _ ld) = d at gd
  have gm : mn[d % mn.length]? = some (mn[d % mn.length]'(Nat.mod_lt _ lm)) := List.getElem?_eq_getElem _
  have mm := List.getElem_mem (Nat.mod_lt d lm)
  generalize mn[d % mn.length]'(Nat.mod_lt _ lm) = z at gm mm
  have ln : (Names.take n).length = n := by rw [List.length_take]; exact Nat.min_eq_left hn
  have gx : (Names.take n)[i]? = some ((Names.take n)[i]'(by omega)) := List.getElem?_eq_getElem _
  have gy : (Names.take n)[j]? = some ((Names.take n)[j]'(by omega)) := List.getElem?_eq_getElem _
  have mx := List.getElem_mem (by omega : i < (Names.take n).length)
  have my := List.getElem_mem (by omega : j < (Names.take n).length)
  generalize (Names.take n)[i]'(by omega) = x at gx mx
  generalize (Names.take n)[j]'(by omega) = y at gy my
  have nxy : x ≠ y := by
    rintro rfl
    have := nodup_get (take_nodup names_nodup n) gx gy
    omega
  refine ⟨putA (putA T (x, y) z) (y, x) z, hT.put mx my nxy mm, put2_len .., fun p h => put2_some h, ?_, some (.d (.int z)), ?_⟩
  · intro x' y' hx hy
    rw [gx] at hx
    rw [gy] at hy
    cases hx
    cases hy
    rw [lk_put, lk_put]
    split
    · rfl
    · rw [if_pos rfl]; rfl
  · have s1 := set_T (m := m) (t := T) x y z (by omega) []
    have s2 := set_T (m := m) (t := putA T (x, y) z) y x z (by have := put_len T (x, y) z; omega) []
    have q1 := b_modN (a := t) ld
    have q2 := b_modN (a := d) lm
    unfold pS inT
    simp only [e_v, e_k, e_gc, e_ccon, e_bin, e_neg, e_not, e_cmp, e_chain, e_and, e_or, e_ife, e_call, e_mk, e_mkM, e_meth, e_attr, e_prop, e_bi, e_lenset, e_isi, e_bm, e_sub, e_sl, e_rev, e_lst, e_tup, e_dct0, e_lc, e_dc, e_scut, e_semp, es_nil, es_cons, et_nil, et_cons, x_asg, x_asgM, x_asgT, x_par, x_setI, x_setF, x_setW, x_mm, x_ex, x_ret, x_retN, x_if, x_for, x_while, x_aug, x_pass, x_brk, x_cnt, x_nv, x_nil, x_cons, t_ev, c_o, sl_0, sl_s, rv_d, rv_c, rv_s, w_d, w_o, ws_nil, ws_cons, f_d, f_o, fs_nil, fs_cons, a_d, a_o, a_c, as_nil, as_cons, rd_some, tr_bl, tr_non, tr_int, tr_lst, tr_tup, c_d, c_c, v_rv, ↓bnd_r, ↓sM_r', bR_ok, sR_ok, pur_r, newM_r, ofO_some, grd_t, nn_v, nn_bin, nn_neg, nn_kn, nn_ki, nn_sub, nn_bi, in_m, mk_app, mk_ext, mk_rev, bk_get1, bk_get2, bk_get1k, bk_get2k, slE_t, slE_f, bnd_pur, st_nm, st_2, st_2l, wp_nil, wp_1, wp_2, fm_nil, fm_cons, List.set_cons_zero, List.set_cons_succ, nrz_pur, nrz_r, nR_ok, start_s, tn_, decide_true, decide_false, Bool.not_true, Bool.not_false, eq_self, ↓reduceIte, List.map_cons, List.map_nil, len_n, ints_len, q1, sub_n gd, q2, ints_sub gm, sub_w gx, sub_w gy, s1, s2, b_add, nat1]
theorem pairs_c (h : md.fns[146]? = some B.f146) (k : Nat) {ds : List Nat} {mn : List Int} {n : Nat} (hd : ds ≠ []) (hm : mn ≠ []) (hn : n ≤ 12) (m : Mem) :
    ∃ T, PI (Names.take n) mn T ∧ T.length ≤ 10000 ∧ (∀ x ∈ Names.take n, ∀ y ∈ Names.take n, x ≠ y → (lookA T (x, y)).isSome = true) ∧ callI md (k + 1) 146 [.d (nsD ds), .d (.int (n : Nat)), .d (.lst (mn.map .int))] m = .ok (.o (.dT (emb T))) m := by
  have outer := for_all (f := turnM md (callI md k) (.nm 6) [.for_ (.nm 7) .rng [(.v 6)] inT])
    (items := (List.range n).map fun i => D.int (i : Nat)) (fun j s m' => ∃ T t a b c, s = pS m ds n mn t a b c ∧ m' = m ++ [.fl (.dT (emb T))] ∧ PI (Names.take n) mn T ∧ T.length ≤ 24 * j ∧ ∀ i' j' x y, i' < j' → j' < j → (Names.take n)[i']? = some x → (Names.take n)[j']? = some y → (lookA T (x, y)).isSome = true)
    (s := pS m ds n mn 0 none none none) (m := m ++ [.fl (.dT (emb []))]) ⟨[], 0, none, none, none, rfl, rfl, PI.nil _ _, Nat.zero_le _, fun i' j' x y _ h => absurd h (Nat.not_lt_zero _)⟩
    (by
      rintro j z s m' hy ⟨T, t, a, b, c, rfl, rfl, hT, lT, dT⟩
      obtain ⟨hj, rfl⟩ := rng_at hy
      have inner := for_all (f := turnM md (callI md k) (.nm 7) inT)
        (items := (List.range j).map fun i => D.int (i : Nat)) (fun i s m' => ∃ T t b c, s = pS m ds n mn t (some (.d (.int (j : Nat)))) b c ∧ m' = m ++ [.fl (.dT (emb T))] ∧ PI (Names.take n) mn T ∧ T.length ≤ 24 * j + 2 * i ∧ ∀ i' j' x y, i' < j' → (j' < j ∨ j' = j ∧ i' < i) → (Names.take n)[i']? = some x → (Names.take n)[j']? = some y → (lookA T (x, y)).isSome = true)
        (s := pS m ds n mn t (some (.d (.int (j : Nat)))) b c) (m := m ++ [.fl (.dT (emb T))]) ⟨T, t, b, c, rfl, rfl, hT, lT, fun i' j' x y h h' => dT i' j' x y h (h'.elim id fun h => absurd h.2 (Nat.not_lt_zero _))⟩
        (by
          rintro i z s m' hy ⟨T, t, b, c, rfl, rfl, hT, lT, dT⟩
          obtain ⟨hi, rfl⟩ := rng_at hy
          obtain ⟨T', hT', lT', mo, nw, c', e⟩ := pairs_in (m := m) (md := md) (callI md k) (t := t) hd hm hn hi hj hT (by omega) b c
          refine ⟨_, _, .inl e, T', t + 1, _, c', rfl, rfl, hT', by omega, ?_⟩
          intro i' j' x y h1 h2 hx hy'
          by_cases q : j' < j ∨ j' = j ∧ i' < i
          · exact mo _ (dT i' j' x y h1 q hx hy')
          · have ej : j' = j := by omega
            have ei : i' = i := by omega
            subst ej
            subst ei
            exact nw x y hx hy')
      obtain ⟨s', m', e, T', t', b', c', rfl, rfl, hT', lT', dT'⟩ := inner
      rw [rng_len] at lT' dT'
      refine ⟨_, _, .inl (?_ : _ = Rs.ok (Fl.nx _) _), T', t', some (.d (.int (j : Nat))), b', c', rfl, rfl, hT', by omega, fun i' j' x y h1 h2 => dT' i' j' x y h1 (by omega)⟩
      have hr2 := it_rng (n := (j : Int)) (by omega) (by omega)
      rw [Int.toNat_natCast] at hr2
      unfold pS at e ⊢
      simp only [e_v, e_k, e_gc, e_ccon, e_bin, e_neg, e_not, e_cmp, e_chain, e_and, e_or, e_ife, e_call, e_mk, e_mkM, e_meth, e_attr, e_prop, e_bi, e_lenset, e_isi, e_bm, e_sub, e_sl, e_rev, e_lst, e_tup, e_dct0, e_lc, e_dc, e_scut, e_semp, es_nil, es_cons, et_nil, et_cons, x_asg, x_asgM, x_asgT, x_par, x_setI, x_setF, x_setW, x_mm, x_ex, x_ret, x_retN, x_if, x_for, x_while, x_aug, x_pass, x_brk, x_cnt, x_nv, x_nil, x_cons, t_ev, c_o, sl_0, sl_s, rv_d, rv_c, rv_s, w_d, w_o, ws_nil, ws_cons, f_d, f_o, fs_nil, fs_cons, a_d, a_o, a_c, as_nil, as_cons, rd_some, tr_bl, tr_non, tr_int, tr_lst, tr_tup, c_d, c_c, v_rv, ↓bnd_r, ↓sM_r', bR_ok, sR_ok, pur_r, newM_r, ofO_some, grd_t, nn_v, nn_bin, nn_neg, nn_kn, nn_ki, nn_sub, nn_bi, in_m, mk_app, mk_ext, mk_rev, bk_get1, bk_get2, bk_get1k, bk_get2k, slE_t, slE_f, bnd_pur, st_nm, st_2, st_2l, wp_nil, wp_1, wp_2, fm_nil, fm_cons, List.set_cons_zero, List.set_cons_succ, nrz_pur, nrz_r, nR_ok, start_s, tn_, decide_true, decide_false, Bool.not_true, Bool.not_false, eq_self, ↓reduceIte, List.map_cons, List.map_nil, hr2, e])
  obtain ⟨s', m', e, T, t, a, b, c, rfl, rfl, hT, lT, dT⟩ := outer
  rw [rng_len] at lT dT
  have ln : (Names.take n).length = n := by rw [List.length_take]; exact Nat.min_eq_left hn
  refine ⟨T, hT, by omega, ?_, ?_⟩
  · intro x hx y hy nxy
    obtain ⟨i, hi⟩ := List.getElem?_of_mem hx
    obtain ⟨j, hj⟩ := List.getElem?_of_mem hy
    have li := (List.getElem?_eq_some_iff.mp hi).1
    have lj := (List.getElem?_eq_some_iff.mp hj).1
    have nij : i ≠ j := by
      rintro rfl
      exact nxy (Option.some.inj (hi.symm.trans hj))
    by_cases l : i < j
    · exact dT i j x y l (by omega) hi hj
    · rw [hT.sym]
      exact dT j i y x (by omega) (by omega) hj hi
  · rw [callI_some h rfl]
    refine bodyM_c0 (x := []) ?_
    show exs md (callI md k) B.f146.body [some (.d (nsD ds)), some (.d (.int (n : Nat))), some (.d (.lst (mn.map .int))), none, none, none, none, none, none] m = _
    have hr2 := it_rng (n := (n : Int)) (by omega) (by omega)
    rw [Int.toNat_natCast] at hr2
    unfold pS inT at e
    rw [show ((0 : Nat) : Int) = 0 from rfl] at e
    have e0 : D.dT [] = .dT (emb []) := rfl
    simp only [e_v, e_k, e_gc, e_ccon, e_bin, e_neg, e_not, e_cmp, e_chain, e_and, e_or, e_ife, e_call, e_mk, e_mkM, e_meth, e_attr, e_prop, e_bi, e_lenset, e_isi, e_bm, e_sub, e_sl, e_rev, e_lst, e_tup, e_dct0, e_lc, e_dc, e_scut, e_semp, es_nil, es_cons, et_nil, et_cons, x_asg, x_asgM, x_asgT, x_par, x_setI, x_setF, x_setW, x_mm, x_ex, x_ret, x_retN, x_if, x_for, x_while, x_aug, x_pass, x_brk, x_cnt, x_nv, x_nil, x_cons, t_ev, c_o, sl_0, sl_s, rv_d, rv_c, rv_s, w_d, w_o, ws_nil, ws_cons, f_d, f_o, fs_nil, fs_cons, a_d, a_o, a_c, as_nil, as_cons, rd_some, tr_bl, tr_non, tr_int, tr_lst, tr_tup, c_d, c_c, v_rv, ↓bnd_r, ↓sM_r', bR_ok, sR_ok, pur_r, newM_r, ofO_some, grd_t, nn_v, nn_bin, nn_neg, nn_kn, nn_ki, nn_sub, nn_bi, in_m, mk_app, mk_ext, mk_rev, bk_get1, bk_get2, bk_get1k, bk_get2k, slE_t, slE_f, bnd_pur, st_nm, st_2, st_2l, wp_nil, wp_1, wp_2, fm_nil, fm_cons, List.set_cons_zero, List.set_cons_succ, nrz_pur, nrz_r, nR_ok, start_s, tn_, decide_true, decide_false, Bool.not_true, Bool.not_false, eq_self, ↓reduceIte, List.map_cons, List.map_nil, B.f146, nm_lst, cut_wt, hr2, e0, e]
end
end Fw

/-! L11: words of the laws; nodes; graphs made. -/
namespace Fw
open PySem L2
open PySem.PyData (strOk)
theorem nat1l (i : Nat) : (1 : Int) + ((i : Nat) : Int) = ((1 + i : Nat) : Int) := rfl
/-- a comprehension that drops some -/
theorem lc_flt {α : Type} {f : D → Mo (Option D)} (φ : α → D) (c : α → Bool) (ψ : α → D) : ∀ (l : List α), (∀ a ∈ l, f (φ a) = pur (if c a = true then some (ψ a) else none)) → lcM f (l.map φ) = pur ((l.filter c).map ψ)
  | [], _ => rfl
  | a :: r, h => by
    show bnd (f (φ a)) (fun y => bnd (lcM f (r.map φ)) fun ys => pur (match y with
      | some y => y :: ys
      | none => ys)) = _
    rw [h a (List.mem_cons_self ..), bnd_pur, lc_flt φ c ψ r fun b hb => h b (List.mem_cons_of_mem _ hb), bnd_pur, List.filter_cons]
    by_cases q : c a = true
    · rw [if_pos q, if_pos q]; rfl
    · rw [if_neg q, if_neg q]
theorem lc_all {α : Type} {f : D → Mo (Option D)} (φ : α → D) (ψ : α → D) (l : List α) (h : ∀ a ∈ l, f (φ a) = pur (some (ψ a))) : lcM f (l.map φ) = pur (l.map ψ) := by
  rw [lc_flt φ (fun _ => true) ψ l h, List.filter_eq_self.mpr fun _ _ => rfl]
section
variable {md : Md} {m : Mem}
theorem flips_c (h : md.fns[151]? = some B.f151) (k : Nat) {ds : List Nat} {ns : List Str} {most : Nat} (hn : ns ≠ []) (hd : most < ds.length) (hl : most ≤ 1000) (m : Mem) :
    ∃ w, (∀ y ∈ w, y ∈ ns) ∧ w.length ≤ most ∧ callI md (k + 1) 151 [.d (nsD ds), .d (wD ns), .d (.int (most : Nat))] m = .ok (.o (wD w)) m := by
  have ln : 0 < ns.length := List.length_pos_iff.mpr hn
  have g0 : ds[0]? = some (ds[0]'(by omega)) := List.getElem?_eq_getElem _
  generalize ds[0]'(by omega) = d0 at g0
  have q0 := b_modN (a := d0) (show 0 < most + 1 by omega)
  have lt0 := Nat.mod_lt d0 (show 0 < most + 1 by omega)
  have s0 : subD (nsD ds) (.int 0) = some (.int (d0 : Nat)) := sub_n g0
  have lc := lc_all (f := lcB md (callI md k) [some (.d (nsD ds)), some (.d (wD ns)), some (.d (.int (most : Nat))), none] [3] (.nm 3) [] (.sub (.v 1) (.bin .mod (.sub (.v 0) (.bin .add (.k (.int 1)) (.v 3))) (.bi .len [(.v 1)])))) (fun i : Nat => D.int (i : Nat)) (fun j => .str ((ns[(ds[1 + j]?.getD 0) % ns.length]?).getD Str.empty)) (List.range (d0 % (most + 1))) (by
    intro j hj
    have hj := List.mem_range.mp hj
    have g1 : ds[1 + j]? = some (ds[1 + j]'(by omega)) := List.getElem?_eq_getElem _
    generalize ds[1 + j]'(by omega) = d1 at g1
    have q1 := b_modN (a := d1) ln
    have g2 : ns[d1 % ns.length]? = some (ns[d1 % ns.length]'(Nat.mod_lt _ ln)) := List.getElem?_eq_getElem _
    generalize ns[d1 % ns.length]'(Nat.mod_lt _ ln) = x at g2
    simp only [e_v, e_k, e_gc, e_ccon, e_bin, e_neg, e_not, e_cmp, e_chain, e_and, e_or, e_ife, e_call, e_mk, e_mkM, e_meth, e_attr, e_prop, e_bi, e_lenset, e_isi, e_bm, e_sub, e_sl, e_rev, e_lst, e_tup, e_dct0, e_lc, e_dc, e_scut, e_semp, es_nil, es_cons, et_nil, et_cons, x_asg, x_asgM, x_asgT, x_par, x_setI, x_setF, x_setW, x_mm, x_ex, x_ret, x_retN, x_if, x_for, x_while, x_aug, x_pass, x_brk, x_cnt, x_nv, x_nil, x_cons, t_ev, c_o, sl_0, sl_s, rv_d, rv_c, rv_s, w_d, w_o, ws_nil, ws_cons, f_d, f_o, fs_nil, fs_cons, a_d, a_o, a_c, as_nil, as_cons, rd_some, tr_bl, tr_non, tr_int, tr_lst, tr_tup, c_d, c_c, v_rv, ↓bnd_r, ↓sM_r', bR_ok, sR_ok, pur_r, newM_r, ofO_some, grd_t, nn_v, nn_bin, nn_neg, nn_kn, nn_ki, nn_sub, nn_bi, in_m, mk_app, mk_ext, mk_rev, bk_get1, bk_get2, bk_get1k, bk_get2k, slE_t, slE_f, bnd_pur, st_nm, st_2, st_2l, wp_nil, wp_1, wp_2, fm_nil, fm_cons, List.set_cons_zero, List.set_cons_succ, nrz_pur, nrz_r, nR_ok, start_s, tn_, decide_true, decide_false, Bool.not_true, Bool.not_false, eq_self, ↓reduceIte, List.map_cons, List.map_nil, lc_b, b_add, nat1l, sub_n g1, len_w, q1, sub_w g2, g1, Option.getD_some, g2])
  refine ⟨(List.range (d0 % (most + 1))).map fun j => (ns[(ds[1 + j]?.getD 0) % ns.length]?).getD Str.empty, ?_, ?_, ?_⟩
  · intro y hy
    obtain ⟨j, _, rfl⟩ := List.mem_map.mp hy
    have g2 : ns[(ds[1 + j]?.getD 0) % ns.length]? = some (ns[(ds[1 + j]?.getD 0) % ns.length]'(Nat.mod_lt _ ln)) := List.getElem?_eq_getElem _
    rw [g2]
    exact List.getElem_mem _
  · rw [List.length_map, List.length_range]
    omega
  · rw [callI_some h rfl]
    refine bodyM_o (x := []) ?_
    rw [List.append_nil]
    show exs md (callI md k) B.f151.body [some (.d (nsD ds)), some (.d (wD ns)), some (.d (.int (most : Nat))), none] m = _
    have hr2 := it_rng (n := ((d0 % (most + 1) : Nat) : Int)) (by omega) (by omega)
    rw [Int.toNat_natCast] at hr2
    simp only [e_v, e_k, e_gc, e_ccon, e_bin, e_neg, e_not, e_cmp, e_chain, e_and, e_or, e_ife, e_call, e_mk, e_mkM, e_meth, e_attr, e_prop, e_bi, e_lenset, e_isi, e_bm, e_sub, e_sl, e_rev, e_lst, e_tup, e_dct0, e_lc, e_dc, e_scut, e_semp, es_nil, es_cons, et_nil, et_cons, x_asg, x_asgM, x_asgT, x_par, x_setI, x_setF, x_setW, x_mm, x_ex, x_ret, x_retN, x_if, x_for, x_while, x_aug, x_pass, x_brk, x_cnt, x_nv, x_nil, x_cons, t_ev, c_o, sl_0, sl_s, rv_d, rv_c, rv_s, w_d, w_o, ws_nil, ws_cons, f_d, f_o, fs_nil, fs_cons, a_d, a_o, a_c, as_nil, as_cons, rd_some, tr_bl, tr_non, tr_int, tr_lst, tr_tup, c_d, c_c, v_rv, ↓bnd_r, ↓sM_r', bR_ok, sR_ok, pur_r, newM_r, ofO_some, grd_t, nn_v, nn_bin, nn_neg, nn_kn, nn_ki, nn_sub, nn_bi, in_m, mk_app, mk_ext, mk_rev, bk_get1, bk_get2, bk_get1k, bk_get2k, slE_t, slE_f, bnd_pur, st_nm, st_2, st_2l, wp_nil, wp_1, wp_2, fm_nil, fm_cons, List.set_cons_zero, List.set_cons_succ, nrz_pur, nrz_r, nR_ok, start_s, tn_, decide_true, decide_false, Bool.not_true, Bool.not_false, eq_self, ↓reduceIte, List.map_cons, List.map_nil, B.f151, s0, b_add, nat1, q0, hr2, lc]
    unfold wD
    rw [List.map_map]
    rfl
/-! ### nodes -/
def Lett : Str := S "abcdefghijklmnopqrstuvwxyz"
def IsN (x : Str) : Prop := 1 ≤ x.length ∧ x.length ≤ 8 ∧ ∀ c ∈ x.cps.toList, inD (.str ⟨#[c]⟩) (.str Lett) = some true
theorem bools_true {α : Type} (l : List α) : boolsO (l.map fun _ => D.bl true) = some (l.map fun _ => true) := by
  induction l with
  | nil => rfl
  | cons a r ih =>
    show (boolsO (r.map fun _ => D.bl true)).map (true :: ·) = _
    rw [ih]
    rfl
theorem all_true {α : Type} (l : List α) : biD .all_ [.lst (l.map fun _ => D.bl true)] = some (.d (.bl true)) := by
  show (boolsO (l.map fun _ => D.bl true)).map (fun l => RV.d (.bl (l.all id))) = _
  rw [bools_true]
  show some (RV.d (.bl ((l.map fun _ => true).all id))) = _
  rw [List.all_map]
  congr 3
  rw [List.all_eq_true]
  intro _ _
  rfl
theorem len_s {x : Str} (h : x.length ≤ 16777216) : biD .len [.str x] = some (.d (.int (x.length : Nat))) := by
  have e : lenD (.str x) = some x.length := if_pos h
  simp only [biD, e]
  rfl
theorem it_str {x : Str} (h : x.cps.size ≤ 16777216) : itD .seq [.str x] = some (x.cps.toList.map fun c => .str ⟨#[c]⟩) := by
  show (if x.cps.size ≤ 16777216 then some (x.cps.toList.map fun c => D.str ⟨#[c]⟩) else none) = _
  rw [if_pos h]
theorem cmp_le (i j : Int) : cmpD .le (.int i) (.int j) = some (decide (i ≤ j)) := rfl
theorem node_c (h : md.fns[24]? = some B.f24) (k : Nat) {x : Str} (hx : IsN x) (m : Mem) : callI md (k + 1) 24 [.d (.str x)] m = .ok (.d (.bl true)) m := by
  obtain ⟨h1, h2, h3⟩ := hx
  have h4 : x.cps.size ≤ 8 := h2
  have lc := lc_all (f := lcB md (callI md k) [some (.d (.str x)), none] [1] (.nm 1) [] (.cmp .in_ (.v 1) (.gc 0 (.str (S "abcdefghijklmnopqrstuvwxyz"))))) (fun c : Nat => D.str ⟨#[c]⟩) (fun _ => .bl true) x.cps.toList (by
    intro c hc
    have q := h3 c hc
    unfold Lett at q
    simp only [e_v, e_k, e_gc, e_ccon, e_bin, e_neg, e_not, e_cmp, e_chain, e_and, e_or, e_ife, e_call, e_mk, e_mkM, e_meth, e_attr, e_prop, e_bi, e_lenset, e_isi, e_bm, e_sub, e_sl, e_rev, e_lst, e_tup, e_dct0, e_lc, e_dc, e_scut, e_semp, es_nil, es_cons, et_nil, et_cons, x_asg, x_asgM, x_asgT, x_par, x_setI, x_setF, x_setW, x_mm, x_ex, x_ret, x_retN, x_if, x_for, x_while, x_aug, x_pass, x_brk, x_cnt, x_nv, x_nil, x_cons, t_ev, c_o, sl_0, sl_s, rv_d, rv_c, rv_s, w_d, w_o, ws_nil, ws_cons, f_d, f_o, fs_nil, fs_cons, a_d, a_o, a_c, as_nil, as_cons, rd_some, tr_bl, tr_non, tr_int, tr_lst, tr_tup, c_d, c_c, v_rv, ↓bnd_r, ↓sM_r', bR_ok, sR_ok, pur_r, newM_r, ofO_some, grd_t, nn_v, nn_bin, nn_neg, nn_kn, nn_ki, nn_sub, nn_bi, in_m, mk_app, mk_ext, mk_rev, bk_get1, bk_get2, bk_get1k, bk_get2k, slE_t, slE_f, bnd_pur, st_nm, st_2, st_2l, wp_nil, wp_1, wp_2, fm_nil, fm_cons, List.set_cons_zero, List.set_cons_succ, nrz_pur, nrz_r, nR_ok, start_s, tn_, decide_true, decide_false, Bool.not_true, Bool.not_false, eq_self, ↓reduceIte, List.map_cons, List.map_nil, lc_b, cmp_in, q])
  have l1 := len_s (x := x) (by omega)
  have l2 := it_str (x := x) (by omega)
  have d1 : decide ((1 : Int) ≤ (x.length : Int)) = true := decide_eq_true (by omega)
  have d2 : decide ((x.length : Int) ≤ 8) = true := decide_eq_true (by omega)
  rw [callI_some h rfl]
  refine bodyM_rt0 ?_
  show exs md (callI md k) B.f24.body [some (.d (.str x)), none] m = _
  simp only [e_v, e_k, e_gc, e_ccon, e_bin, e_neg, e_not, e_cmp, e_chain, e_and, e_or, e_ife, e_call, e_mk, e_mkM, e_meth, e_attr, e_prop, e_bi, e_lenset, e_isi, e_bm, e_sub, e_sl, e_rev, e_lst, e_tup, e_dct0, e_lc, e_dc, e_scut, e_semp, es_nil, es_cons, et_nil, et_cons, x_asg, x_asgM, x_asgT, x_par, x_setI, x_setF, x_setW, x_mm, x_ex, x_ret, x_retN, x_if, x_for, x_while, x_aug, x_pass, x_brk, x_cnt, x_nv, x_nil, x_cons, t_ev, c_o, sl_0, sl_s, rv_d, rv_c, rv_s, w_d, w_o, ws_nil, ws_cons, f_d, f_o, fs_nil, fs_cons, a_d, a_o, a_c, as_nil, as_cons, rd_some, tr_bl, tr_non, tr_int, tr_lst, tr_tup, c_d, c_c, v_rv, ↓bnd_r, ↓sM_r', bR_ok, sR_ok, pur_r, newM_r, ofO_some, grd_t, nn_v, nn_bin, nn_neg, nn_kn, nn_ki, nn_sub, nn_bi, in_m, mk_app, mk_ext, mk_rev, bk_get1, bk_get2, bk_get1k, bk_get2k, slE_t, slE_f, bnd_pur, st_nm, st_2, st_2l, wp_nil, wp_1, wp_2, fm_nil, fm_cons, List.set_cons_zero, List.set_cons_succ, nrz_pur, nrz_r, nR_ok, start_s, tn_, decide_true, decide_false, Bool.not_true, Bool.not_false, eq_self, ↓reduceIte, List.map_cons, List.map_nil, B.f24, isi_str, l1, cmp_le, d1, d2, l2, lc, all_true]
theorem eraseDups_nodup : ∀ {l : List Str}, l.Nodup → l.eraseDups = l
  | [], _ => rfl
  | a :: r, h => by
    rw [List.nodup_cons] at h
    rw [List.eraseDups_cons]
    have : r.filter (fun b => !b == a) = r := by
      rw [List.filter_eq_self]
      intro b hb
      have : b ≠ a := fun e => h.1 (e ▸ hb)
      simp [this]
    rw [this, eraseDups_nodup h.2]
theorem strsO_map (l : List Str) : strsO (l.map .str) = some l := by
  induction l with
  | nil => rfl
  | cons a r ih =>
    show (strsO (r.map D.str)).map (a :: ·) = _
    rw [ih]
    rfl
theorem set_len {x : D} {l : List Str} (h : Sq x (l.map .str)) (n : l.Nodup) (k : l.length ≤ 1000) : setLen x = some l.length := by
  have e : (if (l.map D.str).length ≤ 1000 then (strsO (l.map D.str)).map fun ys => ys.eraseDups.length else none) = some l.length := by
    rw [List.length_map, if_pos k, strsO_map]
    show some l.eraseDups.length = _
    rw [eraseDups_nodup n]
  rcases h with rfl | rfl <;> exact e
theorem len_sq {x : D} {l : List D} (h : Sq x l) : biD .len [x] = some (.d (.int (l.length : Nat))) := by rcases h with rfl | rfl <;> rfl
theorem nodes_c (h24 : md.fns[24]? = some B.f24) (h25 : md.fns[25]? = some B.f25) (k : Nat) {x : D} {ns : List Str} (hs : Sq x (ns.map .str)) (nd : ns.Nodup) (hn : ∀ y ∈ ns, IsN y) (hl : ns.length ≤ 1000) (m : Mem) : callI md (k + 2) 25 [.d x] m = .ok (.d (.bl true)) m := by
  have lc := lc_all (f := lcB md (callI md (k + 1)) [some (.d x), none] [1] (.nm 1) [] (.call 24 [(.v 1)])) D.str (fun _ => .bl true) ns (by
    intro y hy
    have q : callI md (k + 1) 24 [.d (.str y)] = pur (.d (.bl true)) := funext fun m => node_c h24 k (hn y hy) m
    simp only [e_v, e_k, e_gc, e_ccon, e_bin, e_neg, e_not, e_cmp, e_chain, e_and, e_or, e_ife, e_call, e_mk, e_mkM, e_meth, e_attr, e_prop, e_bi, e_lenset, e_isi, e_bm, e_sub, e_sl, e_rev, e_lst, e_tup, e_dct0, e_lc, e_dc, e_scut, e_semp, es_nil, es_cons, et_nil, et_cons, x_asg, x_asgM, x_asgT, x_par, x_setI, x_setF, x_setW, x_mm, x_ex, x_ret, x_retN, x_if, x_for, x_while, x_aug, x_pass, x_brk, x_cnt, x_nv, x_nil, x_cons, t_ev, c_o, sl_0, sl_s, rv_d, rv_c, rv_s, w_d, w_o, ws_nil, ws_cons, f_d, f_o, fs_nil, fs_cons, a_d, a_o, a_c, as_nil, as_cons, rd_some, tr_bl, tr_non, tr_int, tr_lst, tr_tup, c_d, c_c, v_rv, ↓bnd_r, ↓sM_r', bR_ok, sR_ok, pur_r, newM_r, ofO_some, grd_t, nn_v, nn_bin, nn_neg, nn_kn, nn_ki, nn_sub, nn_bi, in_m, mk_app, mk_ext, mk_rev, bk_get1, bk_get2, bk_get1k, bk_get2k, slE_t, slE_f, bnd_pur, st_nm, st_2, st_2l, wp_nil, wp_1, wp_2, fm_nil, fm_cons, List.set_cons_zero, List.set_cons_succ, nrz_pur, nrz_r, nR_ok, start_s, tn_, decide_true, decide_false, Bool.not_true, Bool.not_false, eq_self, ↓reduceIte, List.map_cons, List.map_nil, lc_b, q])
  rw [callI_some h25 rfl]
  refine bodyM_rt0 ?_
  show exs md (callI md (k + 1)) B.f25.body [some (.d x), none] m = _
  simp only [e_v, e_k, e_gc, e_ccon, e_bin, e_neg, e_not, e_cmp, e_chain, e_and, e_or, e_ife, e_call, e_mk, e_mkM, e_meth, e_attr, e_prop, e_bi, e_lenset, e_isi, e_bm, e_sub, e_sl, e_rev, e_lst, e_tup, e_dct0, e_lc, e_dc, e_scut, e_semp, es_nil, es_cons, et_nil, et_cons, x_asg, x_asgM, x_asgT, x_par, x_setI, x_setF, x_setW, x_mm, x_ex, x_ret, x_retN, x_if, x_for, x_while, x_aug, x_pass, x_brk, x_cnt, x_nv, x_nil, x_cons, t_ev, c_o, sl_0, sl_s, rv_d, rv_c, rv_s, w_d, w_o, ws_nil, ws_cons, f_d, f_o, fs_nil, fs_cons, a_d, a_o, a_c, as_nil, as_cons, rd_some, tr_bl, tr_non, tr_int, tr_lst, tr_tup, c_d, c_c, v_rv, ↓bnd_r, ↓sM_r', bR_ok, sR_ok, pur_r, newM_r, ofO_some, grd_t, nn_v, nn_bin, nn_neg, nn_kn, nn_ki, nn_sub, nn_bi, in_m, mk_app, mk_ext, mk_rev, bk_get1, bk_get2, bk_get1k, bk_get2k, slE_t, slE_f, bnd_pur, st_nm, st_2, st_2l, wp_nil, wp_1, wp_2, fm_nil, fm_cons, List.set_cons_zero, List.set_cons_succ, nrz_pur, nrz_r, nR_ok, start_s, tn_, decide_true, decide_false, Bool.not_true, Bool.not_false, eq_self, ↓reduceIte, List.map_cons, List.map_nil, B.f25, isi_seq hs, it_seq hs, lc, all_true, e_lenset, set_len hs nd hl, len_sq hs, List.length_map, cmp_eq', eq_int]
end
end Fw

/-! L12: a graph made. -/
namespace Fw
open PySem L2
open PySem.PyData (strOk)
/-- a comprehension's turns, from given cells -/
theorem lc_at {α : Type} {f : D → Mo (Option D)} {m : Mem} (φ : α → D) (c : α → Bool) (ψ : α → D) : ∀ (l : List α), (∀ a ∈ l, f (φ a) m = .ok (if c a = true then some (ψ a) else none) m) → lcM f (l.map φ) m = .ok ((l.filter c).map ψ) m
  | [], _ => rfl
  | a :: r, h => by
    show bnd (f (φ a)) (fun y => bnd (lcM f (r.map φ)) fun ys => pur (match y with
      | some y => y :: ys
      | none => ys)) m = _
    rw [bnd_ok (h a (List.mem_cons_self ..)), bnd_ok (lc_at φ c ψ r fun b hb => h b (List.mem_cons_of_mem _ hb)), List.filter_cons]
    by_cases q : c a = true
    · rw [if_pos q, if_pos q]; rfl
    · rw [if_neg q, if_neg q]; rfl
def prD (p : Str × Str) : D := .tup [.str p.1, .str p.2]
def psD (l : List (Str × Str)) : D := .lst (l.map prD)
/-- pairs added, both ways -/
def addP (t : PT) (l : List (Str × Str)) (z : Int) : PT := l.foldl (fun t p => putA (putA t p z) (p.2, p.1) z) t
theorem lk_add : ∀ (l : List (Str × Str)) (t : PT) (z : Int) (x y : Str), lookA (addP t l z) (x, y) = if (x, y) ∈ l ∨ (y, x) ∈ l then some z else lookA t (x, y)
  | [], t, z, x, y => by rw [if_neg (by simp)]; rfl
  | p :: l, t, z, x, y => by
    show lookA (addP (putA (putA t p z) (p.2, p.1) z) l z) (x, y) = _
    rw [lk_add l]
    obtain ⟨a, b⟩ := p
    by_cases h : (x, y) ∈ l ∨ (y, x) ∈ l
    · rw [if_pos h, if_pos (h.imp (List.mem_cons_of_mem _) (List.mem_cons_of_mem _))]
    · rw [if_neg h, lk_put, lk_put]
      by_cases e1 : (x, y) = (b, a)
      · rw [if_pos e1, if_pos (.inr (by cases e1; exact List.mem_cons_self ..))]
      · rw [if_neg e1]
        by_cases e2 : (x, y) = (a, b)
        · rw [if_pos e2, if_pos (.inl (by rw [e2]; exact List.mem_cons_self ..))]
        · rw [if_neg e2, if_neg]
          rintro (h' | h')
          · rcases List.mem_cons.mp h' with h' | h'
            · exact e2 h'
            · exact h (.inl h')
          · rcases List.mem_cons.mp h' with h' | h'
            · exact e1 (by cases h'; rfl)
            · exact h (.inr h')
theorem addP_len : ∀ (l : List (Str × Str)) (t : PT) (z : Int), (addP t l z).length ≤ t.length + 2 * l.length
  | [], t, z => Nat.le_refl _
  | p :: l, t, z => by
    have h := addP_len l (putA (putA t p z) (p.2, p.1) z) z
    have h2 := put2_len t p (p.2, p.1) z
    show (addP (putA (putA t p z) (p.2, p.1) z) l z).length ≤ _
    rw [List.length_cons]
    omega
abbrev gC (ns : List Str) (t : PT) : CV := .iv 0 (gF ns (emb t))
theorem bodyM_keep {md : Md} {k : Nat} {fd : Fd} {vs : List Val} {s : Sl} {m m' : Mem} (l : m'.length = m.length) (h : exs md (callI md k) fd.body (startS vs fd.n) m = .ok (.nx s) m') : bodyM md k fd vs m = .ok (.d .non) m' := by
  unfold bodyM
  rw [bnd_ok h]
  show Rs.ok _ (m'.take m.length) = _
  rw [← l, List.take_length]
theorem putF23 {m : Mem} {n : Nat} {ns : List Str} {t : PT} (x y : Str) (z : Int) (h : m[n]? = some (gC ns t)) (l : t.length < 16777216) : putM (.f n 23) (fun d => setD d (.tup [.str x, .str y]) (.int z)) m = .ok () (m.set n (gC ns (putA t (x, y) z))) := by
  show (match m[n]? with
    | some (.iv c fs) => (match fs.lookup 23 with
      | some (.w d) => (match setD d (.tup [.str x, .str y]) (.int z) with
        | some d' => Rs.ok () (m.set n (.iv c (putFd fs 23 (.w d'))))
        | none => .no)
      | _ => .no)
    | _ => .no) = _
  rw [h]
  show (match setD (.dT (emb t)) (.tup [.str x, .str y]) (.int z) with
        | some d' => Rs.ok () (m.set n (.iv 0 (putFd (gF ns (emb t)) 23 (.w d'))))
        | none => .no) = _
  have e : setD (.dT (emb t)) (.tup [.str x, .str y]) (.int z) = some (.dT (emb (putA t (x, y) z))) := by
    show (if (emb t).length < 16777216 then some (D.dT (putA (emb t) [.inr x, .inr y] (.int z))) else none) = _
    rw [emb_len, if_pos l, put_emb]
  rw [e]
  rfl
theorem isi_tup (xs : List D) (md : Md) : isiM md [.ttuple] (.d (.tup xs)) = pur (.d (.bl true)) := rfl
theorem in_T (t : PT) (x y : Str) : inD (.tup [.str x, .str y]) (.dT (emb t)) = some (lookA t (x, y)).isSome := by
  show some (lookA (emb t) [.inr x, .inr y]).isSome = _
  rw [lk_emb]
  cases lookA t (x, y) <;> rfl
section
variable {md : Md} {r : Nat → Ep → Sm} {ns : List Str} {m : Mem}
theorem all_true2 : biD .all_ [.lst [.bl true, .bl true]] = some (.d (.bl true)) := rfl
theorem newpair_c (G : GM md r) (k : Nat) {n : Nat} {t : PT} {x y : Str} (ok : OkS ns) (hc : m[n]? = some (gC ns t)) (hx : x ∈ ns) (hy : y ∈ ns) (nxy : x ≠ y) (hn : lookA t (x, y) = none) : callI md (k + 2) 28 [.c n, .d (.tup [.str x, .str y])] m = .ok (.d (.bl true)) m := by
  have g : GS ns (emb t) (.c n) m := .ce hc
  have hh := fun x => has_node G k x g
  have c12 := g.cls12
  have lc := lc_at (m := m) (f := lcB md (callI md (k + 1)) [some (.c n), some (.d (.tup [.str x, .str y])), none] [2] (.nm 2) [] (.meth 12 (.v 0) [(.v 2)])) D.str (fun _ => true) (fun _ => .bl true) [x, y] (by
    intro a ha
    have : a ∈ ns := by
      simp only [List.mem_cons, List.not_mem_nil, or_false] at ha
      rcases ha with rfl | rfl
      · exact hx
      · exact hy
    have c12' : clsM 12 (RV.c n) m = .ok 0 m := c12
    simp only [e_v, e_k, e_gc, e_ccon, e_bin, e_neg, e_not, e_cmp, e_chain, e_and, e_or, e_ife, e_call, e_mk, e_mkM, e_meth, e_attr, e_prop, e_bi, e_lenset, e_isi, e_bm, e_sub, e_sl, e_rev, e_lst, e_tup, e_dct0, e_lc, e_dc, e_scut, e_semp, es_nil, es_cons, et_nil, et_cons, x_asg, x_asgM, x_asgT, x_par, x_setI, x_setF, x_setW, x_mm, x_ex, x_ret, x_retN, x_if, x_for, x_while, x_aug, x_pass, x_brk, x_cnt, x_nv, x_nil, x_cons, t_ev, c_o, sl_0, sl_s, rv_d, rv_c, rv_s, w_d, w_o, ws_nil, ws_cons, f_d, f_o, fs_nil, fs_cons, a_d, a_o, a_c, as_nil, as_cons, rd_some, tr_bl, tr_non, tr_int, tr_lst, tr_tup, c_d, c_c, v_rv, ↓bnd_r, ↓sM_r', bR_ok, sR_ok, pur_r, newM_r, ofO_some, grd_t, nn_v, nn_bin, nn_neg, nn_kn, nn_ki, nn_sub, nn_bi, in_m, mk_app, mk_ext, mk_rev, bk_get1, bk_get2, bk_get1k, bk_get2k, slE_t, slE_f, bnd_pur, st_nm, st_2, st_2l, wp_nil, wp_1, wp_2, fm_nil, fm_cons, List.set_cons_zero, List.set_cons_succ, nrz_pur, nrz_r, nR_ok, start_s, tn_, decide_true, decide_false, Bool.not_true, Bool.not_false, eq_self, ↓reduceIte, List.map_cons, List.map_nil, lc_b, G.m12, c12', hh, this])
  have lc' : lcM (lcB md (callI md (k + 1)) [some (.c n), some (.d (.tup [.str x, .str y])), none] [2] (.nm 2) [] (.meth 12 (.v 0) [(.v 2)])) [.str x, .str y] m = .ok [.bl true, .bl true] m := lc
  have a23 : attrM md 23 (.c n) m = .ok (.f n 23) m := g.at23 G
  have v23 : viewM (.f n 23) m = .ok (.dT (emb t)) m := g.view23
  have s0 : subD (.tup [.str x, .str y]) (.int 0) = some (.str x) := rfl
  have s1 : subD (.tup [.str x, .str y]) (.int 1) = some (.str y) := rfl
  have l2 : biD .len [.tup [.str x, .str y]] = some (.d (.int 2)) := rfl
  rw [callI_some G.h28 rfl]
  refine bodyM_rt0 ?_
  show exs md (callI md (k + 1)) B.f28.body [some (.c n), some (.d (.tup [.str x, .str y])), none] m = _
  simp only [e_v, e_k, e_gc, e_ccon, e_bin, e_neg, e_not, e_cmp, e_chain, e_and, e_or, e_ife, e_call, e_mk, e_mkM, e_meth, e_attr, e_prop, e_bi, e_lenset, e_isi, e_bm, e_sub, e_sl, e_rev, e_lst, e_tup, e_dct0, e_lc, e_dc, e_scut, e_semp, es_nil, es_cons, et_nil, et_cons, x_asg, x_asgM, x_asgT, x_par, x_setI, x_setF, x_setW, x_mm, x_ex, x_ret, x_retN, x_if, x_for, x_while, x_aug, x_pass, x_brk, x_cnt, x_nv, x_nil, x_cons, t_ev, c_o, sl_0, sl_s, rv_d, rv_c, rv_s, w_d, w_o, ws_nil, ws_cons, f_d, f_o, fs_nil, fs_cons, a_d, a_o, a_c, as_nil, as_cons, rd_some, tr_bl, tr_non, tr_int, tr_lst, tr_tup, c_d, c_c, v_rv, ↓bnd_r, ↓sM_r', bR_ok, sR_ok, pur_r, newM_r, ofO_some, grd_t, nn_v, nn_bin, nn_neg, nn_kn, nn_ki, nn_sub, nn_bi, in_m, mk_app, mk_ext, mk_rev, bk_get1, bk_get2, bk_get1k, bk_get2k, slE_t, slE_f, bnd_pur, st_nm, st_2, st_2l, wp_nil, wp_1, wp_2, fm_nil, fm_cons, List.set_cons_zero, List.set_cons_succ, nrz_pur, nrz_r, nR_ok, start_s, tn_, decide_true, decide_false, Bool.not_true, Bool.not_false, eq_self, ↓reduceIte, List.map_cons, List.map_nil, B.f28, isi_tup, l2, cmp_ne', eq_int, Option.map_some, it_tup, lc', all_true2, s0, s1, eq_str (ok x hx) (ok y hy), nxy, a23, v23, cmp_nin, in_T, hn, Option.isSome_none]
theorem add_c (G : GM md r) (k : Nat) {n : Nat} {t : PT} {PL : List (Str × Str)} (z : Int) {fl : D} (ok : OkS ns) (hc : m[n]? = some (gC ns t)) (hp : ∀ p ∈ PL, p.1 ∈ ns ∧ p.2 ∈ ns ∧ p.1 ≠ p.2 ∧ lookA t p = none) (nd : PL.Nodup) (na : ∀ x y, (x, y) ∈ PL → (y, x) ∉ PL) (tl : t.length + 2 * PL.length ≤ 1000000) :
    callI md (k + 3) 27 [.c n, .d fl, .d (psD PL), .d (.int z)] m = .ok (.d .non) (m.set n (gC ns (addP t PL z))) := by
  have ln := (List.getElem?_eq_some_iff.mp hc).1
  obtain ⟨s', m', e, h⟩ := for_all (f := turnM md (callI md (k + 2)) (.nm 4) [.if_ (.not_ (.meth 11 (.v 0) [(.v 4)])) [r 5 (.v 1)] [], .asgT [5, 6] (.v 4), .setI (.attr 23 (.v 0)) (.tup [(.v 5), (.v 6)]) (.v 3), .setI (.attr 23 (.v 0)) (.tup [(.v 6), (.v 5)]) (.v 3)])
    (items := PL.map prD) (fun i s m' => m' = m.set n (gC ns (addP t (PL.take i) z)) ∧ ∃ a b c, s = [some (.c n), some (.d fl), some (.d (psD PL)), some (.d (.int z)), a, b, c])
    (s := [some (.c n), some (.d fl), some (.d (psD PL)), some (.d (.int z)), none, none, none]) (m := m)
    ⟨by
      have : m[n]'ln = gC ns t := Option.some.inj ((List.getElem?_eq_getElem ln).symm.trans hc)
      show m = m.set n (gC ns t)
      rw [← this, List.set_getElem_self], none, none, none, rfl⟩
    (by
      rintro i w s m' hy ⟨rfl, a, b, c, rfl⟩
      rw [List.getElem?_map, Option.map_eq_some_iff] at hy
      obtain ⟨p, hp', rfl⟩ := hy
      obtain ⟨x, y⟩ := p
      have li := (List.getElem?_eq_some_iff.mp hp').1
      obtain ⟨hx, hy, nxy, hn⟩ := hp _ (List.mem_of_getElem? hp')
      have tk : PL.take (i + 1) = PL.take i ++ [(x, y)] := by rw [List.take_add_one, hp']; rfl
      have nt : (x, y) ∉ PL.take i := by
        intro q
        obtain ⟨j, hj⟩ := List.getElem?_of_mem q
        rw [List.getElem?_take] at hj
        split at hj
        · rename_i lj
          have := (List.getElem_inj (h₀ := (List.getElem?_eq_some_iff.mp hj).1) (h₁ := li) nd).mp ((List.getElem?_eq_some_iff.mp hj).2.trans (List.getElem?_eq_some_iff.mp hp').2.symm)
          omega
        · cases hj
      have nt2 : (y, x) ∉ PL.take i := fun q => na _ _ (List.mem_of_getElem? hp') (List.mem_of_mem_take q)
      have hl : lookA (addP t (PL.take i) z) (x, y) = none := by
        rw [lk_add, if_neg (fun q => q.elim nt nt2)]
        exact hn
      have cl : (addP t (PL.take i) z).length ≤ 1000000 := by
        have := addP_len (PL.take i) t z
        have : (PL.take i).length ≤ PL.length := List.length_take_le' ..
        omega
      have cl2 := put_len (addP t (PL.take i) z) (x, y) z
      have h1 : (m.set n (gC ns (addP t (PL.take i) z)))[n]? = some (gC ns (addP t (PL.take i) z)) := List.getElem?_set_self ln
      have h2 : (m.set n (gC ns (putA (addP t (PL.take i) z) (x, y) z)))[n]? = some (gC ns (putA (addP t (PL.take i) z) (x, y) z)) := List.getElem?_set_self ln
      have nc := newpair_c G k ok h1 hx hy nxy hl
      have g1 : GS ns (emb (addP t (PL.take i) z)) (.c n) (m.set n (gC ns (addP t (PL.take i) z))) := .ce h1
      have g2 : GS ns (emb (putA (addP t (PL.take i) z) (x, y) z)) (.c n) (m.set n (gC ns (putA (addP t (PL.take i) z) (x, y) z))) := .ce h2
      have c11 : clsM 11 (RV.c n) (m.set n (gC ns (addP t (PL.take i) z))) = .ok 0 (m.set n (gC ns (addP t (PL.take i) z))) := g1.cls (by decide) (by decide)
      have a1 : attrM md 23 (.c n) (m.set n (gC ns (addP t (PL.take i) z))) = .ok (.f n 23) (m.set n (gC ns (addP t (PL.take i) z))) := g1.at23 G
      have a2 : attrM md 23 (.c n) (m.set n (gC ns (putA (addP t (PL.take i) z) (x, y) z))) = .ok (.f n 23) (m.set n (gC ns (putA (addP t (PL.take i) z) (x, y) z))) := g2.at23 G
      have p1 := putF23 x y z h1 (by omega)
      rw [List.set_set] at p1
      have p2 := putF23 y x z h2 (by omega)
      rw [List.set_set] at p2
      refine ⟨[some (.c n), some (.d fl), some (.d (psD PL)), some (.d (.int z)), some (.d (prD (x, y))), some (.d (.str x)), some (.d (.str y))], m.set n (gC ns (addP t (PL.take (i + 1)) z)), .inl ?_, rfl, _, _, _, rfl⟩
      have fin : addP t (PL.take (i + 1)) z = putA (putA (addP t (PL.take i) z) (x, y) z) (y, x) z := by
        rw [tk]
        unfold addP
        rw [List.foldl_append]
        rfl
      rw [fin]
      simp only [e_v, e_k, e_gc, e_ccon, e_bin, e_neg, e_not, e_cmp, e_chain, e_and, e_or, e_ife, e_call, e_mk, e_mkM, e_meth, e_attr, e_prop, e_bi, e_lenset, e_isi, e_bm, e_sub, e_sl, e_rev, e_lst, e_tup, e_dct0, e_lc, e_dc, e_scut, e_semp, es_nil, es_cons, et_nil, et_cons, x_asg, x_asgM, x_asgT, x_par, x_setI, x_setF, x_setW, x_mm, x_ex, x_ret, x_retN, x_if, x_for, x_while, x_aug, x_pass, x_brk, x_cnt, x_nv, x_nil, x_cons, t_ev, c_o, sl_0, sl_s, rv_d, rv_c, rv_s, w_d, w_o, ws_nil, ws_cons, f_d, f_o, fs_nil, fs_cons, a_d, a_o, a_c, as_nil, as_cons, rd_some, tr_bl, tr_non, tr_int, tr_lst, tr_tup, c_d, c_c, v_rv, ↓bnd_r, ↓sM_r', bR_ok, sR_ok, pur_r, newM_r, ofO_some, grd_t, nn_v, nn_bin, nn_neg, nn_kn, nn_ki, nn_sub, nn_bi, in_m, mk_app, mk_ext, mk_rev, bk_get1, bk_get2, bk_get1k, bk_get2k, slE_t, slE_f, bnd_pur, st_nm, st_2, st_2l, wp_nil, wp_1, wp_2, fm_nil, fm_cons, List.set_cons_zero, List.set_cons_succ, nrz_pur, nrz_r, nR_ok, start_s, tn_, decide_true, decide_false, Bool.not_true, Bool.not_false, eq_self, ↓reduceIte, List.map_cons, List.map_nil, prD, G.m11, c11, nc, a1, a2, p1, p2])
  obtain ⟨rfl, a, b, c, rfl⟩ := h
  rw [List.length_map, List.take_length] at e
  rw [callI_some G.h27 rfl]
  refine bodyM_keep (s := [some (.c n), some (.d fl), some (.d (psD PL)), some (.d (.int z)), a, b, c]) (List.length_set ..) ?_
  show exs md (callI md (k + 2)) (B.f27 r).body [some (.c n), some (.d fl), some (.d (psD PL)), some (.d (.int z)), none, none, none] m = _
  have is : isiM md [.tlist, .ttuple] (.d (psD PL)) = pur (.d (.bl true)) := rfl
  have it : itD .seq [psD PL] = some (PL.map prD) := rfl
  simp only [e_v, e_k, e_gc, e_ccon, e_bin, e_neg, e_not, e_cmp, e_chain, e_and, e_or, e_ife, e_call, e_mk, e_mkM, e_meth, e_attr, e_prop, e_bi, e_lenset, e_isi, e_bm, e_sub, e_sl, e_rev, e_lst, e_tup, e_dct0, e_lc, e_dc, e_scut, e_semp, es_nil, es_cons, et_nil, et_cons, x_asg, x_asgM, x_asgT, x_par, x_setI, x_setF, x_setW, x_mm, x_ex, x_ret, x_retN, x_if, x_for, x_while, x_aug, x_pass, x_brk, x_cnt, x_nv, x_nil, x_cons, t_ev, c_o, sl_0, sl_s, rv_d, rv_c, rv_s, w_d, w_o, ws_nil, ws_cons, f_d, f_o, fs_nil, fs_cons, a_d, a_o, a_c, as_nil, as_cons, rd_some, tr_bl, tr_non, tr_int, tr_lst, tr_tup, c_d, c_c, v_rv, ↓bnd_r, ↓sM_r', bR_ok, sR_ok, pur_r, newM_r, ofO_some, grd_t, nn_v, nn_bin, nn_neg, nn_kn, nn_ki, nn_sub, nn_bi, in_m, mk_app, mk_ext, mk_rev, bk_get1, bk_get2, bk_get1k, bk_get2k, slE_t, slE_f, bnd_pur, st_nm, st_2, st_2l, wp_nil, wp_1, wp_2, fm_nil, fm_cons, List.set_cons_zero, List.set_cons_succ, nrz_pur, nrz_r, nR_ok, start_s, tn_, decide_true, decide_false, Bool.not_true, Bool.not_false, eq_self, ↓reduceIte, List.map_cons, List.map_nil, B.f27, is, it, e]
end
end Fw

/-! L13: the law's graph. -/
namespace Fw
open PySem L2
open PySem.PyData (strOk)
theorem setF_c {md : Md} {f n : Nat} {m : Mem} {fs : List (Nat × FV)} {d : D} (e : m[n]? = some (.iv 0 fs)) (h : (0, f) ∈ md.at_) (q : fs.lookup f = none) (l : fs.length < 900) : setFM md (.c n) f d m = .ok () (m.set n (.iv 0 (putFd fs f (.d d)))) := by
  unfold setFM
  simp only [e]
  rw [if_pos h]
  simp only [q]
  rw [if_pos l]
theorem setW_c {md : Md} {f n : Nat} {m : Mem} {fs : List (Nat × FV)} {d : D} (e : m[n]? = some (.iv 0 fs)) (h : (0, f) ∈ md.at_) (q : fs.lookup f = none) (l : fs.length < 900) : setWM md (.c n) f (.o d) m = .ok () (m.set n (.iv 0 (fs ++ [(f, .w d)]))) := by
  unfold setWM
  simp only [e]
  rw [if_pos h]
  simp only [q]
  rw [if_pos l]
theorem setF_end {md : Md} {f : Nat} {m : Mem} {fs : List (Nat × FV)} {d : D} (h : (0, f) ∈ md.at_) (q : fs.lookup f = none) (l : fs.length < 900) : setFM md (.c m.length) f d (m ++ [.iv 0 fs]) = .ok () (m ++ [.iv 0 (putFd fs f (.d d))]) := by
  rw [setF_c (get_end ..) h q l, set_end]
theorem setW_end {md : Md} {f : Nat} {m : Mem} {fs : List (Nat × FV)} {d : D} (h : (0, f) ∈ md.at_) (q : fs.lookup f = none) (l : fs.length < 900) : setWM md (.c m.length) f (.o d) (m ++ [.iv 0 fs]) = .ok () (m ++ [.iv 0 (fs ++ [(f, .w d)])]) := by
  rw [setW_c (get_end ..) h q l, set_end]
theorem mkM_ok {c : Nat} {cf : List Val → Mo RV} {vs : List Val} {m : Mem} {w : CV} (h : cf (.c m.length :: vs) (m ++ [.iv c []]) = .ok (.d .non) (m ++ [w])) : mkM false c cf vs m = .ok (.d w.view) m := by
  simp only [mkM, h, get_end, List.take_left' (rfl : m.length = m.length)]
theorem bi_tup {x : D} {l : List D} (h : Sq x l) : biD .tuple_ [x] = some (.d (.tup l)) := by rcases h with rfl | rfl <;> rfl
structure OkNs (ns : List Str) : Prop where
  ok : OkS ns
  nd : ns.Nodup
  nn : ∀ y ∈ ns, IsN y
  le : ns.length ≤ 12
  po : ns ≠ []
/-- pairs as add_pairs takes them -/
structure OkP (ns : List Str) (l : List (Str × Str)) : Prop where
  mem : ∀ p ∈ l, p.1 ∈ ns ∧ p.2 ∈ ns ∧ p.1 ≠ p.2
  nd : l.Nodup
  na : ∀ x y, (x, y) ∈ l → (y, x) ∉ l
  le : l.length ≤ 100000
section
variable {md : Md} {r : Nat → Ep → Sm} {ns : List Str} {m : Mem}
theorem init_c (G : GM md r) (k : Nat) {x : D} (hs : Sq x (ns.map .str)) (on : OkNs ns) {P1 P2 : List (Str × Str)} (p1 : OkP ns P1) (p2 : OkP ns P2) (dj : ∀ x y, (x, y) ∈ P2 → (x, y) ∉ P1 ∧ (y, x) ∉ P1) (m : Mem) :
    callI md (k + 4) 26 [.c m.length, .d x, .d (psD P1), .d (psD P2)] (m ++ [.iv 0 []]) = .ok (.d .non) (m ++ [gC ns (addP (addP [] P1 1) P2 2)]) := by
  have nc := nodes_c G.h24 G.h25 (k + 1) hs on.nd on.nn (by have := on.le; omega) (m ++ [.iv 0 []])
  have f1 := setF_end (md := md) (f := 22) (m := m) (fs := []) (d := .tup (ns.map .str)) G.a22 rfl (by decide)
  have f2 := setW_end (md := md) (f := 23) (m := m) (fs := putFd [] 22 (.d (.tup (ns.map .str)))) (d := .dT []) G.a23 rfl (show 1 < 900 by decide)
  have e0 : (.iv 0 (putFd [] 22 (.d (.tup (ns.map .str))) ++ [(23, .w (.dT []))]) : CV) = gC ns [] := rfl
  rw [e0] at f2
  have h0 : (m ++ [gC ns []])[m.length]? = some (gC ns []) := get_end ..
  have a1 := add_c (m := m ++ [gC ns []]) G k (fl := .str (S "near")) 1 on.ok h0 (fun p hp => ⟨(p1.mem p hp).1, (p1.mem p hp).2.1, (p1.mem p hp).2.2, rfl⟩) p1.nd p1.na (by have := p1.le; simp; omega)
  rw [set_end] at a1
  have h1 : (m ++ [gC ns (addP [] P1 1)])[m.length]? = some (gC ns (addP [] P1 1)) := get_end ..
  have a2 := add_c (m := m ++ [gC ns (addP [] P1 1)]) G k (fl := .str (S "free")) 2 on.ok h1 (fun p hp => ⟨(p2.mem p hp).1, (p2.mem p hp).2.1, (p2.mem p hp).2.2, by
    obtain ⟨x, y⟩ := p
    rw [lk_add, if_neg fun h => h.elim (dj x y hp).1 (dj x y hp).2]
    rfl⟩) p2.nd p2.na (by have := p2.le; have := p1.le; have := addP_len P1 [] 1; simp at this; omega)
  rw [set_end] at a2
  have c1 : clsM 10 (RV.c m.length) (m ++ [gC ns []]) = .ok 0 (m ++ [gC ns []]) := (GS.ce h0 : GS ns (emb []) (.c m.length) _).cls (by decide) (by decide)
  have c2 : clsM 10 (RV.c m.length) (m ++ [gC ns (addP [] P1 1)]) = .ok 0 (m ++ [gC ns (addP [] P1 1)]) := (GS.ce h1 : GS ns (emb (addP [] P1 1)) (.c m.length) _).cls (by decide) (by decide)
  have l1 : decide ((1 : Int) ≤ ((ns.map D.str).length : Int)) = true := decide_eq_true (by rw [List.length_map]; have := List.length_pos_iff.mpr on.po; omega)
  have l2 : decide (((ns.map D.str).length : Int) ≤ 12) = true := decide_eq_true (by rw [List.length_map]; have := on.le; omega)
  rw [callI_some G.h26 rfl]
  refine bodyM_keep (s := [some (.c m.length), some (.d x), some (.d (psD P1)), some (.d (psD P2))]) (by rw [List.length_append, List.length_append]; rfl) ?_
  show exs md (callI md (k + 3)) (B.f26 r).body [some (.c m.length), some (.d x), some (.d (psD P1)), some (.d (psD P2))] (m ++ [.iv 0 []]) = _
  simp only [e_v, e_k, e_gc, e_ccon, e_bin, e_neg, e_not, e_cmp, e_chain, e_and, e_or, e_ife, e_call, e_mk, e_mkM, e_meth, e_attr, e_prop, e_bi, e_lenset, e_isi, e_bm, e_sub, e_sl, e_rev, e_lst, e_tup, e_dct0, e_lc, e_dc, e_scut, e_semp, es_nil, es_cons, et_nil, et_cons, x_asg, x_asgM, x_asgT, x_par, x_setI, x_setF, x_setW, x_mm, x_ex, x_ret, x_retN, x_if, x_for, x_while, x_aug, x_pass, x_brk, x_cnt, x_nv, x_nil, x_cons, t_ev, c_o, sl_0, sl_s, rv_d, rv_c, rv_s, w_d, w_o, ws_nil, ws_cons, f_d, f_o, fs_nil, fs_cons, a_d, a_o, a_c, as_nil, as_cons, rd_some, tr_bl, tr_non, tr_int, tr_lst, tr_tup, c_d, c_c, v_rv, ↓bnd_r, ↓sM_r', bR_ok, sR_ok, pur_r, newM_r, ofO_some, grd_t, nn_v, nn_bin, nn_neg, nn_kn, nn_ki, nn_sub, nn_bi, in_m, mk_app, mk_ext, mk_rev, bk_get1, bk_get2, bk_get1k, bk_get2k, slE_t, slE_f, bnd_pur, st_nm, st_2, st_2l, wp_nil, wp_1, wp_2, fm_nil, fm_cons, List.set_cons_zero, List.set_cons_succ, nrz_pur, nrz_r, nR_ok, start_s, tn_, decide_true, decide_false, Bool.not_true, Bool.not_false, eq_self, ↓reduceIte, List.map_cons, List.map_nil, B.f26, nc, len_sq hs, cmp_le, l1, l2, bi_tup hs, f1, f2, G.m10, c1, c2, a1, a2]
/-! ### the graph of a table of kinds -/
def before (x y : Str) : Bool := decide (x.cps.toList < y.cps.toList)
def Ord (ns : List Str) : Prop := ∀ x ∈ ns, ∀ y ∈ ns, x ≠ y → before x y = !before y x
def kv (T : PT) (p : Str × Str) : Int := (lookA T p).getD 0
def fwd (T : PT) : List (Str × Str) := (T.map (·.1)).filter fun p => before p.1 p.2
def ofK (T : PT) (z : Int) : List (Str × Str) := (fwd T).filter fun p => decide (kv T p = z)
def KT (T : PT) : PT := addP (addP [] (ofK T 1) 1) (ofK T 2) 2
theorem fwd_key {T : PT} {p : Str × Str} (h : p ∈ fwd T) : (lookA T p).isSome = true := lk_mem.mpr ((List.mem_filter.mp h).1)
theorem ofK_ok {mn : List Int} {T : PT} (h : PI ns mn T) (l : T.length ≤ 10000) (o : Ord ns) (z : Int) : OkP ns (ofK T z) := by
  have mem : ∀ p ∈ ofK T z, p.1 ∈ ns ∧ p.2 ∈ ns ∧ p.1 ≠ p.2 := fun p hp => by
    obtain ⟨x, y⟩ := p
    have := fwd_key (List.mem_filter.mp hp).1
    obtain ⟨w, hw⟩ := Option.isSome_iff_exists.mp this
    exact (h.val x y w hw).2
  refine ⟨mem, ((h.nod.filter _).filter _), ?_, ?_⟩
  · intro x y hp hq
    have b1 := (List.mem_filter.mp (List.mem_filter.mp hp).1).2
    have b2 := (List.mem_filter.mp (List.mem_filter.mp hq).1).2
    obtain ⟨m1, m2, m3⟩ := mem _ hp
    have := o x m1 y m2 m3
    simp only at b1 b2
    rw [b1, b2] at this
    cases this
  · have h1 := List.length_filter_le (fun p => decide (kv T p = z)) (fwd T)
    have h2 := List.length_filter_le (fun p : Str × Str => before p.1 p.2) (T.map (·.1))
    rw [List.length_map] at h2
    unfold ofK fwd at *
    omega
theorem Gr_KT {mn : List Int} {T : PT} (h : PI ns mn T) (o : Ord ns) (full : ∀ x ∈ ns, ∀ y ∈ ns, x ≠ y → (lookA T (x, y)).isSome = true) (hm : ∀ z ∈ mn, z = 0 ∨ z = 1 ∨ z = 2) : Gr ns (emb (KT T)) (fun x y => kv T (x, y)) := by
  intro x hx y hy n
  have key : ∀ z, ((x, y) ∈ ofK T z ∨ (y, x) ∈ ofK T z) ↔ kv T (x, y) = z := by
    intro z
    have ks : kv T (y, x) = kv T (x, y) := by unfold kv; rw [h.sym]
    constructor
    · rintro (q | q)
      · exact of_decide_eq_true (List.mem_filter.mp q).2
      · rw [← ks]; exact of_decide_eq_true (List.mem_filter.mp q).2
    · intro e
      have b := o x hx y hy n
      cases q : before x y with
      | true => exact .inl (List.mem_filter.mpr ⟨List.mem_filter.mpr ⟨lk_mem.mp (full x hx y hy n), q⟩, decide_eq_true e⟩)
      | false =>
        have q' : before y x = true := by rw [q] at b; cases hb : before y x <;> simp [hb] at b ⊢
        exact .inr (List.mem_filter.mpr ⟨List.mem_filter.mpr ⟨lk_mem.mp (full y hy x hx fun e => n e.symm), q'⟩, decide_eq_true (ks.trans e)⟩)
  rw [lk_emb]
  unfold KT
  rw [lk_add, lk_add]
  obtain ⟨z, hz⟩ := Option.isSome_iff_exists.mp (full x hx y hy n)
  have hk : kv T (x, y) = z := by unfold kv; rw [hz]; rfl
  have hz' := hm z (h.val x y z hz).1
  by_cases k2 : kv T (x, y) = 2
  · rw [if_pos ((key 2).mpr k2)]
    show D.int 2 = D.int (kv T (x, y))
    rw [k2]
  · rw [if_neg fun e => k2 ((key 2).mp e)]
    by_cases k1 : kv T (x, y) = 1
    · rw [if_pos ((key 1).mpr k1)]
      show D.int 1 = D.int (kv T (x, y))
      rw [k1]
    · rw [if_neg fun e => k1 ((key 1).mp e)]
      show D.int 0 = D.int (kv T (x, y))
      rw [hk] at k1 k2 ⊢
      rcases hz' with e | e | e
      · rw [e]
      · exact absurd e k1
      · exact absurd e k2
theorem Kd_PI {mn : List Int} {T : PT} (h : PI ns mn T) (full : ∀ x ∈ ns, ∀ y ∈ ns, x ≠ y → (lookA T (x, y)).isSome = true) : Kd ns (emb T) (fun x y => kv T (x, y)) := by
  intro x hx y hy n
  obtain ⟨z, hz⟩ := Option.isSome_iff_exists.mp (full x hx y hy n)
  have hk : kv T (x, y) = z := by unfold kv; rw [hz]; rfl
  rw [lk_emb, hz]
  show some (D.int z) = some (.int (kv T (x, y)))
  rw [hk]
theorem kv_sym {mn : List Int} {T : PT} (h : PI ns mn T) (x y : Str) : kv T (x, y) = kv T (y, x) := by unfold kv; rw [h.sym]
theorem cmp_lts (x y : Str) : cmpD .lt (.str x) (.str y) = some (before x y) := rfl
theorem it_keysT (T : PT) : itD .keys [.dT (emb T)] = some ((T.map (·.1)).map prD) := by
  show some ((emb T).map fun p => ksD p.1) = _
  unfold emb
  rw [List.map_map, List.map_map]
  rfl
theorem graph_c (G : GM md r) (h : md.fns[147]? = some B.f147) (k : Nat) {mn : List Int} {T : PT} (on : OkNs ns) (o : Ord ns) (hT : PI ns mn T) (l : T.length ≤ 10000) (m : Mem) :
    callI md (k + 5) 147 [.d (.dT (emb T)), .d (wD ns)] m = .ok (.d (gD ns (emb (KT T)))) m := by
  have lc1 := lc_flt (f := lcB md (callI md (k + 4)) [some (.d (.dT (emb T))), some (.d (wD ns)), none, none, none, none, none] [4, 5] (.tp [4, 5]) [(.cmp .lt (.v 4) (.v 5))] (.tup [(.v 4), (.v 5)])) prD (fun p => before p.1 p.2) prD (T.map (·.1)) (by
    rintro ⟨x, y⟩ _
    cases q : before x y <;> simp only [e_v, e_k, e_gc, e_ccon, e_bin, e_neg, e_not, e_cmp, e_chain, e_and, e_or, e_ife, e_call, e_mk, e_mkM, e_meth, e_attr, e_prop, e_bi, e_lenset, e_isi, e_bm, e_sub, e_sl, e_rev, e_lst, e_tup, e_dct0, e_lc, e_dc, e_scut, e_semp, es_nil, es_cons, et_nil, et_cons, x_asg, x_asgM, x_asgT, x_par, x_setI, x_setF, x_setW, x_mm, x_ex, x_ret, x_retN, x_if, x_for, x_while, x_aug, x_pass, x_brk, x_cnt, x_nv, x_nil, x_cons, t_ev, c_o, sl_0, sl_s, rv_d, rv_c, rv_s, w_d, w_o, ws_nil, ws_cons, f_d, f_o, fs_nil, fs_cons, a_d, a_o, a_c, as_nil, as_cons, rd_some, tr_bl, tr_non, tr_int, tr_lst, tr_tup, c_d, c_c, v_rv, ↓bnd_r, ↓sM_r', bR_ok, sR_ok, pur_r, newM_r, ofO_some, grd_t, nn_v, nn_bin, nn_neg, nn_kn, nn_ki, nn_sub, nn_bi, in_m, mk_app, mk_ext, mk_rev, bk_get1, bk_get2, bk_get1k, bk_get2k, slE_t, slE_f, bnd_pur, st_nm, st_2, st_2l, wp_nil, wp_1, wp_2, fm_nil, fm_cons, List.set_cons_zero, List.set_cons_succ, nrz_pur, nrz_r, nR_ok, start_s, tn_, decide_true, decide_false, Bool.not_true, Bool.not_false, eq_self, ↓reduceIte, List.map_cons, List.map_nil, lc_b, prD, cmp_lts, q, Bool.false_eq_true])
  have lc2 : ∀ (a : Option Val) (z : Int), lcM (lcB md (callI md (k + 4)) [some (.d (.dT (emb T))), some (.d (wD ns)), some (.d (psD (fwd T))), a, none, none, none] [6] (.nm 6) [(.cmp .eq (.sub (.v 0) (.v 6)) (.k (.int z)))] (.v 6)) ((fwd T).map prD) = pur ((ofK T z).map prD) := by
    intro a z
    refine lc_flt prD (fun p => decide (kv T p = z)) prD (fwd T) ?_
    rintro ⟨x, y⟩ hp
    obtain ⟨w, hw⟩ := Option.isSome_iff_exists.mp (fwd_key hp)
    have hk : kv T (x, y) = w := by unfold kv; rw [hw]; rfl
    have sb : subD (.dT (emb T)) (.tup [.str x, .str y]) = some (.int w) := by
      show lookA (emb T) [.inr x, .inr y] = _
      rw [lk_emb, hw]
      rfl
    by_cases q : w = z <;> simp only [e_v, e_k, e_gc, e_ccon, e_bin, e_neg, e_not, e_cmp, e_chain, e_and, e_or, e_ife, e_call, e_mk, e_mkM, e_meth, e_attr, e_prop, e_bi, e_lenset, e_isi, e_bm, e_sub, e_sl, e_rev, e_lst, e_tup, e_dct0, e_lc, e_dc, e_scut, e_semp, es_nil, es_cons, et_nil, et_cons, x_asg, x_asgM, x_asgT, x_par, x_setI, x_setF, x_setW, x_mm, x_ex, x_ret, x_retN, x_if, x_for, x_while, x_aug, x_pass, x_brk, x_cnt, x_nv, x_nil, x_cons, t_ev, c_o, sl_0, sl_s, rv_d, rv_c, rv_s, w_d, w_o, ws_nil, ws_cons, f_d, f_o, fs_nil, fs_cons, a_d, a_o, a_c, as_nil, as_cons, rd_some, tr_bl, tr_non, tr_int, tr_lst, tr_tup, c_d, c_c, v_rv, ↓bnd_r, ↓sM_r', bR_ok, sR_ok, pur_r, newM_r, ofO_some, grd_t, nn_v, nn_bin, nn_neg, nn_kn, nn_ki, nn_sub, nn_bi, in_m, mk_app, mk_ext, mk_rev, bk_get1, bk_get2, bk_get1k, bk_get2k, slE_t, slE_f, bnd_pur, st_nm, st_2, st_2l, wp_nil, wp_1, wp_2, fm_nil, fm_cons, List.set_cons_zero, List.set_cons_succ, nrz_pur, nrz_r, nR_ok, start_s, tn_, decide_true, decide_false, Bool.not_true, Bool.not_false, eq_self, ↓reduceIte, List.map_cons, List.map_nil, lc_b, prD, sb, cmp_eq', eq_int, q, hk, Bool.false_eq_true]
  have i1 := it_keysT T
  have i2 : itD .seq [.lst ((fwd T).map prD)] = some ((fwd T).map prD) := rfl
  have ini := init_c G k (sq_w ns) on (ofK_ok hT l o 1) (ofK_ok hT l o 2) (fun x y hp => by
    have h2 : kv T (x, y) = 2 := of_decide_eq_true (List.mem_filter.mp hp).2
    refine ⟨fun q => ?_, fun q => ?_⟩
    · have : kv T (x, y) = 1 := of_decide_eq_true (List.mem_filter.mp q).2
      omega
    · have : kv T (y, x) = 1 := of_decide_eq_true (List.mem_filter.mp q).2
      have ks : kv T (y, x) = kv T (x, y) := by unfold kv; rw [hT.sym]
      omega) m
  have mk : mkM false 0 (callI md (k + 4) 26) [.d (wD ns), .d (.lst ((ofK T 1).map prD)), .d (.lst ((ofK T 2).map prD))] m = .ok (.d (gD ns (emb (KT T)))) m := mkM_ok ini
  rw [callI_some h rfl]
  refine bodyM_rt0 ?_
  show exs md (callI md (k + 4)) B.f147.body [some (.d (.dT (emb T))), some (.d (wD ns)), none, none, none, none, none] m = _
  have fw : (T.map (·.1)).filter (fun p => before p.1 p.2) = fwd T := rfl
  rw [fw] at lc1
  have lc21 := lc2 none 1
  have lc22 := lc2 (some (.d (.lst ((ofK T 1).map prD)))) 2
  unfold psD at lc21 lc22
  simp only [e_v, e_k, e_gc, e_ccon, e_bin, e_neg, e_not, e_cmp, e_chain, e_and, e_or, e_ife, e_call, e_mk, e_mkM, e_meth, e_attr, e_prop, e_bi, e_lenset, e_isi, e_bm, e_sub, e_sl, e_rev, e_lst, e_tup, e_dct0, e_lc, e_dc, e_scut, e_semp, es_nil, es_cons, et_nil, et_cons, x_asg, x_asgM, x_asgT, x_par, x_setI, x_setF, x_setW, x_mm, x_ex, x_ret, x_retN, x_if, x_for, x_while, x_aug, x_pass, x_brk, x_cnt, x_nv, x_nil, x_cons, t_ev, c_o, sl_0, sl_s, rv_d, rv_c, rv_s, w_d, w_o, ws_nil, ws_cons, f_d, f_o, fs_nil, fs_cons, a_d, a_o, a_c, as_nil, as_cons, rd_some, tr_bl, tr_non, tr_int, tr_lst, tr_tup, c_d, c_c, v_rv, ↓bnd_r, ↓sM_r', bR_ok, sR_ok, pur_r, newM_r, ofO_some, grd_t, nn_v, nn_bin, nn_neg, nn_kn, nn_ki, nn_sub, nn_bi, in_m, mk_app, mk_ext, mk_rev, bk_get1, bk_get2, bk_get1k, bk_get2k, slE_t, slE_f, bnd_pur, st_nm, st_2, st_2l, wp_nil, wp_1, wp_2, fm_nil, fm_cons, List.set_cons_zero, List.set_cons_succ, nrz_pur, nrz_r, nR_ok, start_s, tn_, decide_true, decide_false, Bool.not_true, Bool.not_false, eq_self, ↓reduceIte, List.map_cons, List.map_nil, B.f147, i1, lc1, i2, lc21, lc22, mk]
end
end Fw

/-! L14: shown words; names as nodes. -/
namespace Fw
open PySem L2
open PySem.PyData (strOk)
theorem strOk_app (a b : Str) : strOk (a ++ b) = (strOk a && strOk b) := by
  obtain ⟨a⟩ := a
  obtain ⟨b⟩ := b
  show Array.all (a ++ b) _ = (Array.all a _ && Array.all b _)
  rw [Array.all_append]
theorem strOk_from : ∀ (ts : List Str) (k : Nat) (acc : Str), strOk acc = true → OkS ts → strOk (textFrom k acc ts) = true
  | [], _, _, h, _ => h
  | t :: r, k, acc, h, ht => by
    refine strOk_from r (k + 1) _ ?_ fun x hx => ht x (List.mem_cons_of_mem _ hx)
    rw [strOk_app, strOk_app, h, ht t (List.mem_cons_self ..)]
    by_cases q : k > 0
    · rw [if_pos q, show strOk (Str.ofString ", ") = true by decide +kernel]; rfl
    · rw [if_neg q, show strOk (Str.ofString "") = true by decide +kernel]; rfl
theorem strOk_list {ts : List Str} (h : OkS ts) : strOk (listText ts) = true := by
  show strOk (textFrom 0 "[" ts ++ "]") = true
  rw [strOk_app, strOk_from ts 0 "[" (by decide +kernel) h]
  decide +kernel
def RepN (x : Str) : Prop := strOk (reprText x) = true ∧ (reprText x).length ≤ 100
theorem sum_le : ∀ (l : List Nat) (n : Nat), (∀ x ∈ l, x ≤ n) → l.sum ≤ n * l.length
  | [], _, _ => Nat.zero_le _
  | x :: r, n, h => by
    have h1 := h x (List.mem_cons_self ..)
    have h2 := sum_le r n fun y hy => h y (List.mem_cons_of_mem _ hy)
    rw [List.sum_cons, List.length_cons, Nat.mul_succ]
    omega
theorem shown_strs (w : List Str) : PyData.shownAll (pys (w.map .str)) = w.map reprText := by
  induction w with
  | nil => simp only [List.map_nil, pys, PyData.shownAll]
  | cons x r ih => simp only [List.map_cons, pys, py, PyData.shownAll, PyData.shown, ih]
theorem showable_strs (w : List Str) : PyData.showableAll (pys (w.map .str)) = true := by
  induction w with
  | nil => simp only [List.map_nil, pys, PyData.showableAll]
  | cons x r ih => simp only [List.map_cons, pys, py, PyData.showableAll, PyData.showable, ih, Bool.true_and]
theorem repr_w {w : List Str} (ok : OkS w) (h : ∀ x ∈ w, RepN x) (hl : w.length ≤ 1000) : ∃ s, strOk s = true ∧ biD .repr_ [wD w] = some (.d (.str s)) := by
  have cl := cln_w ok
  have c1 := cln_pln _ cl
  have c2 : (py (wD w)).showable = true := by
    unfold wD
    simp only [py, PyData.showable]
    exact showable_strs w
  have c3 : (py (wD w)).depth ≤ 60 := by rw [cln_dep _ cl, dep_w]; decide
  have c5 := cln_lay _ cl
  have c6 := PyData.hasDict_of_canLay _ c5
  have sh : (py (wD w)).shown = listText (w.map reprText) := by
    unfold wD
    simp only [py, PyData.shown, shown_strs]
  have c4 : (py (wD w)).shown.length ≤ 16777216 := by
    rw [sh]
    have h1 := listText_len_le (w.map reprText)
    have h2 := sum_le ((w.map reprText).map (·.length)) 100 (by
      intro n hn
      obtain ⟨t, ht, rfl⟩ := List.mem_map.mp hn
      obtain ⟨x, hx, rfl⟩ := List.mem_map.mp ht
      exact (h x hx).2)
    rw [List.length_map, List.length_map] at h2
    rw [List.length_map] at h1
    omega
  refine ⟨(py (wD w)).shown, ?_, ?_⟩
  · rw [sh]
    exact strOk_list fun t ht => by
      obtain ⟨x, hx, rfl⟩ := List.mem_map.mp ht
      exact (h x hx).1
  · show (if pln (wD w) = true ∧ (py (wD w)).showable = true ∧ (py (wD w)).depth ≤ 60 ∧ (py (wD w)).shown.length ≤ 16777216 ∧ (py (wD w)).canLay0 = true ∧ (py (wD w)).hasDict = false then some (RV.d (.str (py (wD w)).shown)) else none) = _
    rw [if_pos ⟨c1, c2, c3, c4, c5, c6⟩]
/-! ### the names -/
instance (x : Str) : Decidable (IsN x) := by unfold IsN; exact inferInstance
instance (x : Str) : Decidable (RepN x) := by unfold RepN; exact inferInstance
theorem names_isN : ∀ x ∈ Names, IsN x := by decide +kernel
theorem names_rep : ∀ x ∈ Names, RepN x := by decide +kernel
theorem names_ord : Ord Names := by unfold Ord; decide +kernel
theorem names_okNs {n : Nat} (h : 0 < n) (k : n ≤ 12) : OkNs (Names.take n) :=
  ⟨okS_take names_ok n, take_nodup names_nodup n, fun y hy => names_isN y (List.mem_of_mem_take hy), by rw [List.length_take]; omega, by
    intro e
    have := congrArg List.length e
    rw [List.length_take, List.length_nil] at this
    have : Names.length = 12 := rfl
    omega⟩
theorem take_ord {ns : List Str} (h : Ord ns) (n : Nat) : Ord (ns.take n) := fun x hx y hy k => h x (List.mem_of_mem_take hx) y (List.mem_of_mem_take hy) k
theorem take_len {n : Nat} (k : n ≤ 12) : (Names.take n).length = n := by rw [List.length_take]; exact Nat.min_eq_left k
end Fw

/-! C1: flips of numbers on a graph: each number stays of one sign. -/
namespace Fw.Cox
open PySem
abbrev Ps := Str → Int
section
variable (k : Str → Str → Int)
def fl (p : Ps) (s : Str) : Ps := fun t => if t = s then - p s else p t + k s t * p s
def go (p : Ps) (w : List Str) : Ps := w.foldl (fl k) p
def Eqv (u v : List Str) : Prop := ∀ p, go k p u = go k p v
end
structure OkK (k : Str → Str → Int) : Prop where
  sym : ∀ x y, k x y = k y x
  val : ∀ x y, k x y = 0 ∨ k x y = 1 ∨ k x y = 2
section
variable {k : Str → Str → Int}
theorem fl_s (p : Ps) (s : Str) : fl k p s s = - p s := if_pos rfl
theorem fl_n (p : Ps) {s t : Str} (h : t ≠ s) : fl k p s t = p t + k s t * p s := if_neg h
theorem go_nil (p : Ps) : go k p [] = p := rfl
theorem go_cons (p : Ps) (s : Str) (w : List Str) : go k p (s :: w) = go k (fl k p s) w := rfl
theorem go_app (p : Ps) (u v : List Str) : go k p (u ++ v) = go k (go k p u) v := List.foldl_append ..
theorem go_one (p : Ps) (s : Str) : go k p [s] = fl k p s := rfl
theorem fl_fl (p : Ps) (s : Str) : fl k (fl k p s) s = p := by
  funext t
  by_cases h : t = s
  · subst h
    rw [fl_s, fl_s, Int.neg_neg]
  · rw [fl_n _ h, fl_n _ h, fl_s, Int.mul_neg]
    omega
theorem Eqv.refl (u : List Str) : Eqv k u u := fun _ => rfl
theorem Eqv.symm {u v : List Str} (h : Eqv k u v) : Eqv k v u := fun p => (h p).symm
theorem Eqv.trans {u v w : List Str} (h : Eqv k u v) (h' : Eqv k v w) : Eqv k u w := fun p => (h p).trans (h' p)
theorem Eqv.app {u v x y : List Str} (h : Eqv k u v) (h' : Eqv k x y) : Eqv k (u ++ x) (v ++ y) := fun p => by rw [go_app, go_app, h p, h']
theorem Eqv.dbl (s : Str) : Eqv k [s, s] [] := fun p => by
  show fl k (fl k p s) s = p
  exact fl_fl p s
theorem Eqv.drop2 (u : List Str) (s : Str) (v : List Str) : Eqv k (u ++ s :: s :: v) (u ++ v) := (Eqv.refl u).app ((Eqv.dbl s).app (Eqv.refl v))
theorem go_rev : ∀ (w : List Str) (p : Ps), go k (go k p w) w.reverse = p
  | [], p => rfl
  | s :: w, p => by
    rw [go_cons, List.reverse_cons, go_app, go_rev w, go_one, fl_fl]
theorem go_rev' (w : List Str) (p : Ps) : go k (go k p w.reverse) w = p := by
  have := go_rev (k := k) w.reverse p
  rwa [List.reverse_reverse] at this
theorem fl_lin (a b : Int) (p q : Ps) (s : Str) : fl k (fun t => a * p t + b * q t) s = fun t => a * fl k p s t + b * fl k q s t := by
  funext t
  by_cases h : t = s
  · subst h
    rw [fl_s, fl_s, fl_s, Int.mul_neg, Int.mul_neg]
    omega
  · rw [fl_n _ h, fl_n _ h, fl_n _ h, Int.mul_add, Int.mul_add, Int.mul_add]
    have e1 : k s t * (a * p s) = a * (k s t * p s) := Int.mul_left_comm ..
    have e2 : k s t * (b * q s) = b * (k s t * q s) := Int.mul_left_comm ..
    omega
theorem go_lin (a b : Int) : ∀ (w : List Str) (p q : Ps), go k (fun t => a * p t + b * q t) w = fun t => a * go k p w t + b * go k q w t
  | [], p, q => rfl
  | s :: w, p, q => by rw [go_cons, fl_lin, go_lin a b w]; rfl
/-! ### fewest letters -/
theorem exists_min (P : Nat → Prop) (h : ∃ n, P n) : ∃ n, P n ∧ ∀ m, P m → n ≤ m := by
  obtain ⟨n, hn⟩ := h
  induction n using Nat.strongRecOn with
  | ind n ih =>
    by_cases q : ∃ m, m < n ∧ P m
    · obtain ⟨m, hm, hp⟩ := q
      exact ih m hm hp
    · refine ⟨n, hn, fun m hm => ?_⟩
      by_cases l : n ≤ m
      · exact l
      · exact (q ⟨m, by omega, hm⟩).elim
theorem ln_ex (k : Str → Str → Int) (w : List Str) : ∃ n, (∃ u, u.length = n ∧ Eqv k u w) ∧ ∀ m, (∃ u, u.length = m ∧ Eqv k u w) → n ≤ m := exists_min _ ⟨w.length, w, rfl, Eqv.refl w⟩
/-- the fewest letters of a word with the same effect -/
noncomputable def ln (k : Str → Str → Int) (w : List Str) : Nat := Classical.choose (ln_ex k w)
theorem ln_word (w : List Str) : ∃ u, u.length = ln k w ∧ Eqv k u w := (Classical.choose_spec (ln_ex k w)).1
theorem ln_le {u w : List Str} (h : Eqv k u w) : ln k w ≤ u.length := (Classical.choose_spec (ln_ex k w)).2 _ ⟨u, rfl, h⟩
theorem ln_self (w : List Str) : ln k w ≤ w.length := ln_le (Eqv.refl w)
theorem ln_eq {u w : List Str} (h : Eqv k u w) : ln k u = ln k w := by
  obtain ⟨a, ha, ea⟩ := ln_word (k := k) u
  obtain ⟨b, hb, eb⟩ := ln_word (k := k) w
  have h1 := ln_le (ea.trans h)
  have h2 := ln_le (eb.trans h.symm)
  omega
theorem ln_app (u x : List Str) : ln k (u ++ x) ≤ ln k u + x.length := by
  obtain ⟨a, ha, ea⟩ := ln_word (k := k) u
  have := ln_le (ea.app (Eqv.refl x))
  rw [List.length_append] at this
  omega
theorem ln_back (u : List Str) (s : Str) : ln k u ≤ ln k (u ++ [s]) + 1 := by
  have h := ln_app (k := k) (u ++ [s]) [s]
  have e : Eqv k (u ++ [s] ++ [s]) u := by
    have := Eqv.drop2 (k := k) u s []
    rw [List.append_nil] at this
    rw [List.append_assoc]
    exact this
  rw [ln_eq e] at h
  exact h
theorem ln_zero {w : List Str} (h : ln k w = 0) : Eqv k w [] := by
  obtain ⟨u, hu, e⟩ := ln_word (k := k) w
  rw [h] at hu
  have : u = [] := List.eq_nil_of_length_eq_zero hu
  subst this
  exact e.symm
/-! ### two letters -/
theorem far_comm {s t : Str} (n : s ≠ t) (sy : k s t = k t s) (h : k s t = 0) : Eqv k [s, t] [t, s] := by
  intro p
  funext x
  show fl k (fl k p s) t x = fl k (fl k p t) s x
  have h' : k t s = 0 := sy ▸ h
  by_cases xs : x = s
  · subst xs
    rw [fl_n _ n, fl_s, fl_s, fl_n _ n, fl_n _ (Ne.symm n), h', h]
    omega
  · by_cases xt : x = t
    · subst xt
      rw [fl_s, fl_n _ xs, fl_n _ xs, fl_s, fl_n _ (Ne.symm xs), h, h']
      omega
    · rw [fl_n _ xt, fl_n _ xs, fl_n _ xs, fl_n _ xt, fl_n _ (Ne.symm n), fl_n _ n, h, h', Int.zero_mul, Int.zero_mul, Int.add_zero, Int.add_zero]
      omega
theorem near_braid {s t : Str} (n : s ≠ t) (sy : k s t = k t s) (h : k s t = 1) : Eqv k [t, s, t] [s, t, s] := by
  intro p
  funext x
  show fl k (fl k (fl k p t) s) t x = fl k (fl k (fl k p s) t) s x
  have h' : k t s = 1 := sy ▸ h
  have nts : t ≠ s := Ne.symm n
  by_cases xs : x = s
  · subst xs
    rw [fl_n _ n, fl_s, fl_n _ n, fl_n _ nts, fl_s, fl_n _ n, fl_s, fl_n _ n, fl_s, fl_n _ nts, h', h]
    omega
  · by_cases xt : x = t
    · subst xt
      rw [fl_s, fl_n _ xs, fl_s, fl_n _ n, fl_n _ xs, fl_s, fl_n _ xs, fl_n _ n, fl_s, fl_n _ xs, h, h']
      omega
    · rw [fl_n _ xt, fl_n _ xs, fl_n _ xt, fl_n _ nts, fl_s, fl_n _ n, fl_n _ xs, fl_n _ xt, fl_n _ xs, fl_n _ n, fl_s, fl_n _ nts, h, h']
      generalize p x = px
      generalize p s = ps
      generalize p t = pt
      generalize k s x = a
      generalize k t x = b
      simp only [Int.mul_add, Int.mul_neg, Int.one_mul, Int.mul_one]
      omega
/-! ### what a word of two letters does -/
theorem getLast_ne {x : List Str} (h : x ≠ []) : ∃ y l, x = y ++ [l] := ⟨x.dropLast, x.getLast h, (List.dropLast_concat_getLast h).symm⟩
theorem free_alt {s t : Str} (n : s ≠ t) (hs : k s t = 2) (ht : k t s = 2) {q : Ps} (q1 : 0 ≤ q s) (q2 : 0 ≤ q t) : ∀ (m : Nat) (x : List Str), x.length = m → (∀ r ∈ x, r = s ∨ r = t) → (∀ y r z, x ≠ y ++ r :: r :: z) → x ≠ [] →
    (∃ y, x = y ++ [t] ∧ go k q x t ≤ 0 ∧ - go k q x t ≤ go k q x s) ∨ (∃ y, x = y ++ [s] ∧ go k q x s ≤ 0 ∧ - go k q x s ≤ go k q x t) := by
  intro m
  induction m with
  | zero => exact fun x hx _ _ he => (he (List.eq_nil_of_length_eq_zero hx)).elim
  | succ m ih =>
    intro x hx hm hn he
    obtain ⟨y, l, rfl⟩ := getLast_ne he
    have hl := hm l (List.mem_append_right _ (List.mem_singleton.mpr rfl))
    rw [List.length_append] at hx
    have ly : y.length = m := by have : [l].length = 1 := rfl; omega
    have hmy : ∀ r ∈ y, r = s ∨ r = t := fun r hr => hm r (List.mem_append_left _ hr)
    have hny : ∀ a r z, y ≠ a ++ r :: r :: z := fun a r z e => hn a r (z ++ [l]) (by rw [e]; simp)
    by_cases y0 : y = []
    · subst y0
      rcases hl with rfl | rfl
      · refine .inr ⟨[], rfl, ?_, ?_⟩
        · show fl k q l l ≤ 0
          rw [fl_s]; omega
        · show - fl k q l l ≤ fl k q l t
          rw [fl_s, fl_n _ (Ne.symm n), hs]; omega
      · refine .inl ⟨[], rfl, ?_, ?_⟩
        · show fl k q l l ≤ 0
          rw [fl_s]; omega
        · show - fl k q l l ≤ fl k q l s
          rw [fl_s, fl_n _ n, ht]; omega
    · rcases ih y ly hmy hny y0 with ⟨z, e, h1, h2⟩ | ⟨z, e, h1, h2⟩
      · have ls : l = s := by
          rcases hl with h | h
          · exact h
          · exact (hn z t [] (by rw [e, h]; simp)).elim
        subst ls
        refine .inr ⟨y, rfl, ?_, ?_⟩
        · rw [go_app, go_one, fl_s]; omega
        · rw [go_app, go_one, fl_s, fl_n _ (Ne.symm n), hs]; omega
      · have lt : l = t := by
          rcases hl with h | h
          · exact (hn z s [] (by rw [e, h]; simp)).elim
          · exact h
        subst lt
        refine .inl ⟨y, rfl, ?_, ?_⟩
        · rw [go_app, go_one, fl_s]; omega
        · rw [go_app, go_one, fl_s, fl_n _ n, ht]; omega
theorem two {s t : Str} (K : OkK k) (n : s ≠ t) {x : List Str} (hm : ∀ r ∈ x, r = s ∨ r = t) (h1 : ∀ x', Eqv k x' x → x.length ≤ x'.length) (h2 : ∀ x', Eqv k x' (x ++ [s]) → x.length ≤ x'.length) {q : Ps} (q1 : 0 ≤ q s) (q2 : 0 ≤ q t) : 0 ≤ go k q x s := by
  have hn : ∀ y r z, x ≠ y ++ r :: r :: z := fun y r z e => by
    have := h1 (y ++ z) (by rw [e]; exact (Eqv.drop2 y r z).symm)
    rw [e] at this
    simp only [List.length_append, List.length_cons] at this
    omega
  have he : ∀ y, x ≠ y ++ [s] := fun y e => by
    have := h2 y (by rw [e, List.append_assoc]; have := Eqv.drop2 (k := k) y s []; rw [List.append_nil] at this; exact this.symm)
    rw [e, List.length_append] at this
    have : [s].length = 1 := rfl
    omega
  by_cases x0 : x = []
  · subst x0; exact q1
  obtain ⟨y, l, rfl⟩ := getLast_ne x0
  have lt : l = t := by
    rcases hm l (List.mem_append_right _ (List.mem_singleton.mpr rfl)) with h | h
    · exact (he y (by rw [h])).elim
    · exact h
  subst lt
  by_cases y0 : y = []
  · subst y0
    show 0 ≤ fl k q l s
    rw [fl_n _ n]
    rcases K.val l s with h | h | h <;> rw [h] <;> omega
  obtain ⟨z, r, rfl⟩ := getLast_ne y0
  have rs : r = s := by
    rcases hm r (List.mem_append_left _ (List.mem_append_right _ (List.mem_singleton.mpr rfl))) with h | h
    · exact h
    · exact (hn z l [] (by rw [h]; simp)).elim
  subst rs
  rcases K.val r l with h0 | h1' | h2'
  · exfalso
    have e : Eqv k (z ++ [l]) (z ++ [r] ++ [l] ++ [r]) := by
      have a1 : Eqv k (z ++ [r, l] ++ [r]) (z ++ [l, r] ++ [r]) := ((Eqv.refl z).app (far_comm n (K.sym _ _) h0)).app (Eqv.refl [r])
      have a2 : Eqv k (z ++ [l, r] ++ [r]) (z ++ [l]) := by
        have := Eqv.drop2 (k := k) (z ++ [l]) r []
        simpa using this
      have a3 := a1.trans a2
      have : z ++ [r] ++ [l] ++ [r] = z ++ [r, l] ++ [r] := by simp
      rw [this]
      exact a3.symm
    have := h2 _ e
    simp only [List.length_append, List.length_cons, List.length_nil] at this
    omega
  · by_cases z0 : z = []
    · subst z0
      show 0 ≤ fl k (fl k q r) l r
      rw [fl_n _ n, fl_s, fl_n _ (Ne.symm n), h1', ← K.sym r l, h1']
      omega
    · exfalso
      obtain ⟨y, a, rfl⟩ := getLast_ne z0
      have al : a = l := by
        rcases hm a (List.mem_append_left _ (List.mem_append_left _ (List.mem_append_right _ (List.mem_singleton.mpr rfl)))) with h | h
        · exact (hn y r [l] (by rw [h]; simp)).elim
        · exact h
      subst al
      have e : Eqv k (y ++ [r, a]) (y ++ [a] ++ [r] ++ [a] ++ [r]) := by
        have a1 : Eqv k (y ++ [a, r, a] ++ [r]) (y ++ [r, a, r] ++ [r]) := ((Eqv.refl y).app (near_braid n (K.sym _ _) h1')).app (Eqv.refl [r])
        have a2 : Eqv k (y ++ [r, a, r] ++ [r]) (y ++ [r, a]) := by
          have := Eqv.drop2 (k := k) (y ++ [r, a]) r []
          simpa using this
        have a3 := a1.trans a2
        have : y ++ [a] ++ [r] ++ [a] ++ [r] = y ++ [a, r, a] ++ [r] := by simp
        rw [this]
        exact a3.symm
      have := h2 _ e
      simp only [List.length_append, List.length_cons, List.length_nil] at this
      omega
  · have h2'' : k l r = 2 := K.sym r l ▸ h2'
    rcases free_alt n h2' h2'' q1 q2 _ _ rfl hm hn x0 with ⟨_, _, h3, h4⟩ | ⟨y, e, _, _⟩
    · omega
    · exact (he y e).elim
/-! ### signs -/
theorem pos_all (K : OkK k) : ∀ (m : Nat) (w : List Str) (s : Str), ln k w = m → ln k w ≤ ln k (w ++ [s]) → ∀ p : Ps, (∀ x, 0 ≤ p x) → 0 ≤ go k p w s := by
  intro m
  induction m using Nat.strongRecOn with
  | ind m ih =>
    intro w s hw hs p hp
    by_cases m0 : m = 0
    · rw [ln_zero (hw.trans m0)]
      exact hp s
    obtain ⟨u, lu, eu⟩ := ln_word (k := k) w
    have u0 : u ≠ [] := fun e => by rw [e] at lu; exact m0 (hw ▸ lu.symm)
    obtain ⟨u', t, rfl⟩ := getLast_ne u0
    rw [List.length_append] at lu
    have l1 : [t].length = 1 := rfl
    have nst : s ≠ t := by
      rintro rfl
      have e : Eqv k u' (w ++ [s]) := by
        have a1 := Eqv.drop2 (k := k) u' s []
        rw [List.append_nil] at a1
        have a2 := eu.app (Eqv.refl [s])
        rw [List.append_assoc] at a2
        exact a1.symm.trans a2
      have := ln_le e
      omega
    have m1 := exists_min (fun n => ∃ v x : List Str, ln k v = n ∧ (∀ r ∈ x, r = s ∨ r = t) ∧ Eqv k (v ++ x) w ∧ ln k v + x.length = ln k w) ⟨ln k u', u', [t], rfl, fun r hr => .inr (List.mem_singleton.mp hr), eu, by
      have a1 := ln_self (k := k) u'
      have a2 := ln_app (k := k) u' [t]
      rw [ln_eq eu] at a2
      omega⟩
    obtain ⟨n, ⟨v, x, hv, hx, ev, lv⟩, mn⟩ := m1
    have hlt : n < m := by
      have := mn (ln k u') ⟨u', [t], rfl, fun r hr => .inr (List.mem_singleton.mp hr), eu, by
        have a1 := ln_self (k := k) u'
        have a2 := ln_app (k := k) u' [t]
        rw [ln_eq eu] at a2
        omega⟩
      have a1 := ln_self (k := k) u'
      omega
    have up : ∀ r, r = s ∨ r = t → ln k v ≤ ln k (v ++ [r]) := by
      intro r hr
      by_cases q : ln k v ≤ ln k (v ++ [r])
      · exact q
      exfalso
      have e : Eqv k (v ++ [r] ++ r :: x) w := by
        have := (Eqv.drop2 (k := k) v r x).trans ev
        rw [List.append_assoc]
        exact this
      have a1 := ln_app (k := k) (v ++ [r]) (r :: x)
      rw [ln_eq e, List.length_cons] at a1
      have := mn (ln k (v ++ [r])) ⟨v ++ [r], r :: x, rfl, fun b hb => (List.mem_cons.mp hb).elim (fun e => e ▸ hr) (hx b), e, by rw [List.length_cons]; omega⟩
      omega
    have g1 := ih n hlt v s hv (up s (.inl rfl)) p hp
    have g2 := ih n hlt v t hv (up t (.inr rfl)) p hp
    have ew := ev p
    rw [← ew, go_app]
    refine two K nst hx ?_ ?_ g1 g2
    · intro x' e
      have a1 := ln_app (k := k) v x'
      have a2 : ln k (v ++ x') = ln k w := ln_eq (((Eqv.refl v).app e).trans ev)
      omega
    · intro x' e
      have a1 := ln_app (k := k) v x'
      have a2 : ln k (v ++ x') = ln k (w ++ [s]) := ln_eq (by
        have b1 := (Eqv.refl (k := k) v).app e
        have b2 := ev.app (Eqv.refl [s])
        rw [List.append_assoc] at b2
        exact b1.trans b2)
      omega
end
end Fw.Cox

/-! C2: signs tell lengths; all ones tell effects. -/
namespace Fw.Cox
open PySem
def ones : Ps := fun _ => 1
def dl (s : Str) : Ps := fun x => if x = s then 1 else 0
section
variable {k : Str → Str → Int}
theorem bounded (K : OkK k) : ∀ (w : List Str) (p : Ps) (c : Int), (∀ x, -c ≤ p x ∧ p x ≤ c) → ∃ c', ∀ x, -c' ≤ go k p w x ∧ go k p w x ≤ c'
  | [], p, c, h => ⟨c, h⟩
  | s :: w, p, c, h => by
    refine bounded K w (fl k p s) (3 * c) fun x => ?_
    have hx := h x
    have hs := h s
    by_cases e : x = s
    · subst e
      rw [fl_s]
      omega
    · rw [fl_n _ e]
      rcases K.val s x with q | q | q <;> rw [q] <;> omega
theorem up_pos (K : OkK k) {w : List Str} {s : Str} (h : ln k w ≤ ln k (w ++ [s])) : 0 < go k ones w s := by
  have nn := pos_all K _ w s rfl h
  have h0 := nn ones fun _ => (by decide : (0 : Int) ≤ 1)
  by_cases e : go k ones w s = 0
  · exfalso
    obtain ⟨c, hc⟩ := bounded K w.reverse (dl s) 1 (fun x => by unfold dl; split <;> omega)
    have h1 : go k (go k (dl s) w.reverse) w s = 1 := by
      rw [go_rev']
      exact if_pos rfl
    have h2 := nn (fun t => c * ones t + (-1) * go k (dl s) w.reverse t) (fun x => by
      have := hc x
      unfold ones
      omega)
    rw [go_lin] at h2
    simp only [e, h1] at h2
    omega
  · omega
theorem dn_neg (K : OkK k) {w : List Str} {s : Str} (h : ln k (w ++ [s]) < ln k w) : go k ones w s < 0 := by
  have e : Eqv k (w ++ [s] ++ [s]) w := by
    have := Eqv.drop2 (k := k) w s []
    rw [List.append_nil] at this
    rw [List.append_assoc]
    exact this
  have := up_pos K (w := w ++ [s]) (s := s) (by rw [ln_eq e]; omega)
  rw [go_app, go_one, fl_s] at this
  omega
theorem sgn (K : OkK k) (w : List Str) (s : Str) : (0 < go k ones w s ∧ ln k (w ++ [s]) = ln k w + 1) ∨ (go k ones w s < 0 ∧ ln k w = ln k (w ++ [s]) + 1) := by
  have a1 := ln_app (k := k) w [s]
  have l1 : [s].length = 1 := rfl
  have a2 := ln_back (k := k) w s
  by_cases h : ln k w ≤ ln k (w ++ [s])
  · refine .inl ⟨up_pos K h, ?_⟩
    by_cases q : ln k (w ++ [s]) = ln k w
    · exfalso
      have e : Eqv k (w ++ [s] ++ [s]) w := by
        have := Eqv.drop2 (k := k) w s []
        rw [List.append_nil] at this
        rw [List.append_assoc]
        exact this
      have b1 := up_pos K h
      have b2 := up_pos K (w := w ++ [s]) (s := s) (by rw [ln_eq e]; omega)
      rw [go_app, go_one, fl_s] at b2
      omega
    · omega
  · refine .inr ⟨dn_neg K (by omega), by omega⟩
theorem pos_up (K : OkK k) {w : List Str} {s : Str} (h : 0 < go k ones w s) : ln k (w ++ [s]) = ln k w + 1 := by
  rcases sgn K w s with q | q
  · exact q.2
  · omega
theorem neg_dn (K : OkK k) {w : List Str} {s : Str} (h : go k ones w s < 0) : ln k w = ln k (w ++ [s]) + 1 := by
  rcases sgn K w s with q | q
  · omega
  · exact q.2
theorem nz (K : OkK k) (w : List Str) (s : Str) : go k ones w s ≠ 0 := by
  rcases sgn K w s with q | q <;> omega
/-- nothing negative: nothing done -/
theorem all_pos (K : OkK k) {w : List Str} (h : ∀ s, 0 < go k ones w s) : Eqv k w [] := by
  obtain ⟨u, lu, eu⟩ := ln_word (k := k) w
  by_cases u0 : u = []
  · subst u0; exact eu.symm
  · exfalso
    obtain ⟨y, s, rfl⟩ := getLast_ne u0
    have h1 := pos_up K (h s)
    have e : Eqv k y (w ++ [s]) := by
      have a1 := Eqv.drop2 (k := k) y s []
      rw [List.append_nil] at a1
      have a2 := eu.app (Eqv.refl [s])
      rw [List.append_assoc] at a2
      exact a1.symm.trans a2
    have := ln_le e
    rw [List.length_append] at lu
    have : [s].length = 1 := rfl
    omega
theorem Eqv.cancel {u v : List Str} (h : Eqv k (u ++ v.reverse) []) : Eqv k u v := by
  intro p
  have h1 := h p
  rw [go_app] at h1
  have h2 := congrArg (fun q => go k q v) h1
  simp only [go_rev'] at h2
  exact h2
/-- what all ones become tells what all become -/
theorem faith (K : OkK k) {u v : List Str} (h : go k ones u = go k ones v) : Eqv k u v := by
  refine Eqv.cancel (all_pos K fun s => ?_)
  rw [go_app, h, go_rev]
  exact (by decide : (0 : Int) < 1)
/-- numbers that no letter touches -/
theorem go_out {N : List Str} (kn : ∀ s ∈ N, ∀ x, x ∉ N → k s x = 0) {x : Str} (hx : x ∉ N) : ∀ (w : List Str) (p : Ps), (∀ y ∈ w, y ∈ N) → go k p w x = p x
  | [], p, _ => rfl
  | s :: w, p, h => by
    have hs := h s (List.mem_cons_self ..)
    rw [go_cons, go_out kn hx w _ fun y hy => h y (List.mem_cons_of_mem _ hy), fl_n _ (show x ≠ s from fun e => hx (by rw [e]; exact hs)), kn s hs x hx]
    omega
theorem faithN (K : OkK k) {N : List Str} (kn : ∀ s ∈ N, ∀ x, x ∉ N → k s x = 0) {u v : List Str} (hu : ∀ y ∈ u, y ∈ N) (hv : ∀ y ∈ v, y ∈ N) (h : ∀ x ∈ N, go k ones u x = go k ones v x) : Eqv k u v := by
  refine faith K (funext fun x => ?_)
  by_cases hx : x ∈ N
  · exact h x hx
  · rw [go_out kn hx u _ hu, go_out kn hx v _ hv]
end
end Fw.Cox

/-! L15: positions. -/
namespace Fw
open PySem L2
open PySem.PyData (strOk)
open Cox (Ps fl go OkK)
/-- a position as a table -/
def poT (ns : List Str) (p : Ps) : ST := ns.map fun x => (x, p x)
def poD (ns : List Str) (p : Ps) : D := .dK (embS (poT ns p))
theorem poT_keys (ns : List Str) (p : Ps) : (poT ns p).map (·.1) = ns := by
  unfold poT
  rw [List.map_map]
  exact List.map_id' ns
theorem lk_po {ns : List Str} {p : Ps} {x : Str} (h : x ∈ ns) : lookA (poT ns p) x = some (p x) := by
  induction ns with
  | nil => cases h
  | cons a r ih =>
    show lookA ((a, p a) :: poT r p) x = _
    rw [lk_cons]
    by_cases e : a = x
    · rw [if_pos e, e]
    · rw [if_neg e]
      exact ih ((List.mem_cons.mp h).resolve_left fun q => e q.symm)
def upd (p : Ps) (s : Str) (z : Int) : Ps := fun x => if x = s then z else p x
theorem put_po {ns : List Str} {p : Ps} {s : Str} {z : Int} (h : s ∈ ns) : putA (poT ns p) s z = poT ns (upd p s z) := by
  rw [put_eq, poT_keys, if_pos h]
  unfold poT
  rw [List.map_map]
  apply List.map_congr_left
  intro x _
  show (if x = s then (x, z) else (x, p x)) = (x, if x = s then z else p x)
  split <;> rfl
theorem po_congr {ns : List Str} {p q : Ps} (h : ∀ x ∈ ns, p x = q x) : poD ns p = poD ns q := by
  unfold poD
  congr 2
  unfold poT
  exact List.map_congr_left fun x hx => by rw [h x hx]
theorem sub_po {ns : List Str} {p : Ps} {x : Str} (h : x ∈ ns) : subD (poD ns p) (.str x) = some (.int (p x)) := by
  show lookA (embS (poT ns p)) (.inr x) = _
  rw [lk_embS, lk_po h]
  rfl
theorem set_po {ns : List Str} {p : Ps} {x : Str} (h : x ∈ ns) (z : Int) (l : ns.length < 16777216) : setD (poD ns p) (.str x) (.int z) = some (poD ns (upd p x z)) := by
  show (if (embS (poT ns p)).length < 16777216 then some (D.dK (putA (embS (poT ns p)) (.inr x) (.int z))) else none) = _
  rw [embS_len, if_pos (by unfold poT; rwa [List.length_map]), put_embS, put_po h]
  rfl
theorem put_end {m : Mem} {ns : List Str} {p : Ps} {x : Str} (h : x ∈ ns) (z : Int) (l : ns.length < 16777216) (r : Mem) : putM (.c m.length) (fun d => setD d (.str x) (.int z)) (m ++ .fl (poD ns p) :: r) = .ok () (m ++ .fl (poD ns (upd p x z)) :: r) := by
  rw [putM_c (f := fun d => setD d (.str x) (.int z)) (get_end ..) (set_po h z l), set_end]
theorem shp_int (i : Int) : shp (.int i) = true := cln_shp rfl (Nat.zero_le _)
theorem eq_po (ns : List Str) (p q : Ps) : eqD (poD ns p) (poD ns q) = some (decide (∀ x ∈ ns, p x = q x)) := by
  have sp : ∀ p : Ps, ((embS (poT ns p)).all fun e => shp e.2) = true := fun p => by
    rw [List.all_eq_true]
    intro e he
    unfold embS at he
    obtain ⟨y, _, rfl⟩ := List.mem_map.mp he
    exact shp_int _
  show (if ((embS (poT ns p)).all fun e => shp e.2) = true ∧ ((embS (poT ns q)).all fun e => shp e.2) = true then some (dictEq (embS (poT ns p)) (embS (poT ns q))) else none) = _
  rw [if_pos ⟨sp p, sp q⟩]
  congr 1
  unfold dictEq
  rw [embS_len, embS_len]
  have le : (poT ns p).length = (poT ns q).length := by unfold poT; rw [List.length_map, List.length_map]
  rw [decide_eq_true le, Bool.true_and, Bool.eq_iff_iff, List.all_eq_true, decide_eq_true_iff]
  constructor
  · intro h x hx
    have := h (.inr x, .int (p x)) (by
      unfold embS poT
      rw [List.map_map]
      exact List.mem_map.mpr ⟨x, hx, rfl⟩)
    simp only [lk_embS, lk_po hx, Option.map_some] at this
    have e := (eqv_cln (.int (p x)) (.int (q x)) rfl rfl).mp this
    exact D.int.inj e
  · intro h e he
    unfold embS poT at he
    rw [List.map_map] at he
    obtain ⟨x, hx, rfl⟩ := List.mem_map.mp he
    show (match lookA (embS (poT ns q)) (.inr x) with
      | some v => PyData.eqv (py (.int (p x))) (py v)
      | none => false) = true
    rw [lk_embS, lk_po hx]
    exact (eqv_cln (.int (p x)) (.int (q x)) rfl rfl).mpr (by rw [h x hx])
/-- a dict display by turns -/
theorem put_new {κ β : Type} [DecidableEq κ] {l : List (κ × β)} {k : κ} {v : β} (h : k ∉ l.map (·.1)) : putA l k v = l ++ [(k, v)] := by rw [put_eq, if_neg h]
theorem dc_all {α : Type} {f : D → Mo (Option (Key × D))} (φ : α → D) (κ : α → Key) (ν : α → D) : ∀ (l : List α) (acc : List (Key × D)), (∀ a ∈ l, f (φ a) = pur (some (κ a, ν a))) → (l.map κ).Nodup → (∀ a ∈ l, κ a ∉ acc.map (·.1)) → dcM f (l.map φ) acc = pur (acc ++ l.map fun a => (κ a, ν a))
  | [], acc, _, _, _ => by rw [List.map_nil, List.map_nil, List.append_nil]; rfl
  | a :: r, acc, h, nd, na => by
    show bnd (f (φ a)) (fun y => dcM f (r.map φ) (match y with
      | some (k, v) => putA acc k v
      | none => acc)) = _
    rw [h a (List.mem_cons_self ..), bnd_pur]
    show dcM f (r.map φ) (putA acc (κ a) (ν a)) = _
    rw [List.map_cons, List.nodup_cons] at nd
    rw [put_new (na a (List.mem_cons_self ..)), dc_all φ κ ν r _ (fun b hb => h b (List.mem_cons_of_mem _ hb)) nd.2 ?_, List.append_assoc]
    · rfl
    · intro b hb q
      rw [List.map_append, List.mem_append] at q
      rcases q with q | q
      · exact na b (List.mem_cons_of_mem _ hb) q
      · simp only [List.map_cons, List.map_nil, List.mem_singleton] at q
        exact nd.1 (List.mem_map.mpr ⟨b, hb, q⟩)
theorem nodup_sk {ns : List Str} (h : ns.Nodup) : (ns.map sk).Nodup := by
  induction ns with
  | nil => exact List.nodup_nil
  | cons a r ih =>
    rw [List.nodup_cons] at h
    rw [List.map_cons, List.nodup_cons]
    refine ⟨fun q => ?_, ih h.2⟩
    obtain ⟨b, hb, e⟩ := List.mem_map.mp q
    rw [sk_inj e] at hb
    exact h.1 hb
section
variable {kf : Str → Str → Int} {md : Md} {r : Nat → Ep → Sm} {ns : List Str} {kt : List (List Key × D)} {m : Mem}
theorem cls_g (mn : Nat) (h1 : mn ≠ 22) (h2 : mn ≠ 23) : clsM mn (.d (gD ns kt)) = pur 0 := funext fun m => (GS.fr : GS ns kt (.d (gD ns kt)) m).cls h1 h2
theorem nodes_p (G : GM md r) (k : Nat) : callI md (k + 1) 33 [.d (gD ns kt)] = pur (.d (.tup (ns.map .str))) := by
  funext m
  rw [callI_some G.h33 rfl]
  refine bodyM_rt0 ?_
  have a := (GS.fr : GS ns kt (.d (gD ns kt)) m).at22 G
  have a' : attrM md 22 (.d (gD ns kt)) m = .ok (.d (.tup (ns.map .str))) m := a
  show exs md (callI md k) B.f33.body [some (.d (gD ns kt))] m = _
  simp only [e_v, e_k, e_gc, e_ccon, e_bin, e_neg, e_not, e_cmp, e_chain, e_and, e_or, e_ife, e_call, e_mk, e_mkM, e_meth, e_attr, e_prop, e_bi, e_lenset, e_isi, e_bm, e_sub, e_sl, e_rev, e_lst, e_tup, e_dct0, e_lc, e_dc, e_scut, e_semp, es_nil, es_cons, et_nil, et_cons, x_asg, x_asgM, x_asgT, x_par, x_setI, x_setF, x_setW, x_mm, x_ex, x_ret, x_retN, x_if, x_for, x_while, x_aug, x_pass, x_brk, x_cnt, x_nv, x_nil, x_cons, t_ev, c_o, sl_0, sl_s, rv_d, rv_c, rv_s, w_d, w_o, ws_nil, ws_cons, f_d, f_o, fs_nil, fs_cons, a_d, a_o, a_c, as_nil, as_cons, rd_some, tr_bl, tr_non, tr_int, tr_lst, tr_tup, c_d, c_c, v_rv, ↓bnd_r, ↓sM_r', bR_ok, sR_ok, pur_r, newM_r, ofO_some, grd_t, nn_v, nn_bin, nn_neg, nn_kn, nn_ki, nn_sub, nn_bi, in_m, mk_app, mk_ext, mk_rev, bk_get1, bk_get2, bk_get1k, bk_get2k, slE_t, slE_f, bnd_pur, st_nm, st_2, st_2l, wp_nil, wp_1, wp_2, fm_nil, fm_cons, List.set_cons_zero, List.set_cons_succ, nrz_pur, nrz_r, nR_ok, start_s, tn_, decide_true, decide_false, Bool.not_true, Bool.not_false, eq_self, ↓reduceIte, List.map_cons, List.map_nil, B.f33, a']
theorem unit_c (G : GM md r) (h2 : md.fns[2]? = some B.f2) (k : Nat) (nd : ns.Nodup) : callI md (k + 2) 2 [.d (gD ns kt)] = pur (.o (poD ns Cox.ones)) := by
  funext m
  have np := nodes_p (ns := ns) (kt := kt) G k
  have c16 := cls_g (ns := ns) (kt := kt) 16 (by decide) (by decide)
  have dc := dc_all (f := dcB md (callI md (k + 1)) [some (.d (gD ns kt)), none] [1] (.nm 1) [] (.v 1) (.k (.int 1))) D.str sk (fun _ => .int 1) ns [] (by
    intro x _
    have ak : asK (.str x) = some (sk x) := rfl
    simp only [e_v, e_k, e_gc, e_ccon, e_bin, e_neg, e_not, e_cmp, e_chain, e_and, e_or, e_ife, e_call, e_mk, e_mkM, e_meth, e_attr, e_prop, e_bi, e_lenset, e_isi, e_bm, e_sub, e_sl, e_rev, e_lst, e_tup, e_dct0, e_lc, e_dc, e_scut, e_semp, es_nil, es_cons, et_nil, et_cons, x_asg, x_asgM, x_asgT, x_par, x_setI, x_setF, x_setW, x_mm, x_ex, x_ret, x_retN, x_if, x_for, x_while, x_aug, x_pass, x_brk, x_cnt, x_nv, x_nil, x_cons, t_ev, c_o, sl_0, sl_s, rv_d, rv_c, rv_s, w_d, w_o, ws_nil, ws_cons, f_d, f_o, fs_nil, fs_cons, a_d, a_o, a_c, as_nil, as_cons, rd_some, tr_bl, tr_non, tr_int, tr_lst, tr_tup, c_d, c_c, v_rv, ↓bnd_r, ↓sM_r', bR_ok, sR_ok, pur_r, newM_r, ofO_some, grd_t, nn_v, nn_bin, nn_neg, nn_kn, nn_ki, nn_sub, nn_bi, in_m, mk_app, mk_ext, mk_rev, bk_get1, bk_get2, bk_get1k, bk_get2k, slE_t, slE_f, bnd_pur, st_nm, st_2, st_2l, wp_nil, wp_1, wp_2, fm_nil, fm_cons, List.set_cons_zero, List.set_cons_succ, nrz_pur, nrz_r, nR_ok, start_s, tn_, decide_true, decide_false, Bool.not_true, Bool.not_false, eq_self, ↓reduceIte, List.map_cons, List.map_nil, dc_b, ak]) (nodup_sk nd) (fun a _ q => by cases q)
  rw [callI_some h2 rfl]
  refine bodyM_o (x := []) ?_
  rw [List.append_nil]
  show exs md (callI md (k + 1)) B.f2.body [some (.d (gD ns kt)), none] m = _
  simp only [e_v, e_k, e_gc, e_ccon, e_bin, e_neg, e_not, e_cmp, e_chain, e_and, e_or, e_ife, e_call, e_mk, e_mkM, e_meth, e_attr, e_prop, e_bi, e_lenset, e_isi, e_bm, e_sub, e_sl, e_rev, e_lst, e_tup, e_dct0, e_lc, e_dc, e_scut, e_semp, es_nil, es_cons, et_nil, et_cons, x_asg, x_asgM, x_asgT, x_par, x_setI, x_setF, x_setW, x_mm, x_ex, x_ret, x_retN, x_if, x_for, x_while, x_aug, x_pass, x_brk, x_cnt, x_nv, x_nil, x_cons, t_ev, c_o, sl_0, sl_s, rv_d, rv_c, rv_s, w_d, w_o, ws_nil, ws_cons, f_d, f_o, fs_nil, fs_cons, a_d, a_o, a_c, as_nil, as_cons, rd_some, tr_bl, tr_non, tr_int, tr_lst, tr_tup, c_d, c_c, v_rv, ↓bnd_r, ↓sM_r', bR_ok, sR_ok, pur_r, newM_r, ofO_some, grd_t, nn_v, nn_bin, nn_neg, nn_kn, nn_ki, nn_sub, nn_bi, in_m, mk_app, mk_ext, mk_rev, bk_get1, bk_get2, bk_get1k, bk_get2k, slE_t, slE_f, bnd_pur, st_nm, st_2, st_2l, wp_nil, wp_1, wp_2, fm_nil, fm_cons, List.set_cons_zero, List.set_cons_succ, nrz_pur, nrz_r, nR_ok, start_s, tn_, decide_true, decide_false, Bool.not_true, Bool.not_false, eq_self, ↓reduceIte, List.map_cons, List.map_nil, B.f2, c16, G.p16, np, it_tup, dc, List.nil_append]
  unfold poD embS poT
  rw [List.map_map]
  rfl
theorem upd_fl {k : Str → Str → Int} (ok : OkK k) (p : Ps) (s : Str) (c : Int) : upd (fun t => p t + (if t = s then c else k s t) * p s) s (-p s) = fl k p s := by
  funext t
  unfold upd fl
  by_cases h : t = s
  · rw [if_pos h, if_pos h]
  · rw [if_neg h, if_neg h]
    show p t + (if t = s then c else k s t) * p s = _
    rw [if_neg h]
theorem flip_c (G : GM md r) (h3 : md.fns[3]? = some B.f3) (k : Nat) (on : OkNs ns) (K : OkK kf) (hk : Gr ns kt kf) (p : Ps) {s : Str} (hs : s ∈ ns) : callI md (k + 3) 3 [.d (gD ns kt), .d (poD ns p), .d (.str s)] = pur (.o (poD ns (fl kf p s))) := by
  funext m
  have np := nodes_p (ns := ns) (kt := kt) G (k + 1)
  have c16 := cls_g (ns := ns) (kt := kt) 16 (by decide) (by decide)
  have c19 := cls_g (ns := ns) (kt := kt) 19 (by decide) (by decide)
  have dc := dc_all (f := dcB md (callI md (k + 2)) [some (.d (gD ns kt)), some (.d (poD ns p)), some (.d (.str s)), some (.d (.int (p s))), none, none] [5] (.nm 5) [] (.v 5) (.bin .add (.sub (.v 1) (.v 5)) (.bin .mul (.or_ (.meth 19 (.v 0) [(.v 2), (.v 5)]) (.k (.int 0))) (.v 3)))) D.str sk (fun t => .int (p t + (if t = s then 0 else kf s t) * p s)) ns [] (by
    intro t ht
    have ak : asK (.str t) = some (sk t) := rfl
    have kc : callI md (k + 2) 36 [.d (gD ns kt), .d (.str s), .d (.str t)] = pur (.d (kiD kf s t)) := funext fun m => kind_c G k hk on.ok hs ht .fr
    have m0 : binD .mul (.int 0) (.int (p s)) = some (.d (.int (0 * p s))) := b_mull (by decide) (by decide)
    by_cases e : t = s
    · subst e
      have ki : kiD kf t t = .non := if_pos rfl
      simp only [e_v, e_k, e_gc, e_ccon, e_bin, e_neg, e_not, e_cmp, e_chain, e_and, e_or, e_ife, e_call, e_mk, e_mkM, e_meth, e_attr, e_prop, e_bi, e_lenset, e_isi, e_bm, e_sub, e_sl, e_rev, e_lst, e_tup, e_dct0, e_lc, e_dc, e_scut, e_semp, es_nil, es_cons, et_nil, et_cons, x_asg, x_asgM, x_asgT, x_par, x_setI, x_setF, x_setW, x_mm, x_ex, x_ret, x_retN, x_if, x_for, x_while, x_aug, x_pass, x_brk, x_cnt, x_nv, x_nil, x_cons, t_ev, c_o, sl_0, sl_s, rv_d, rv_c, rv_s, w_d, w_o, ws_nil, ws_cons, f_d, f_o, fs_nil, fs_cons, a_d, a_o, a_c, as_nil, as_cons, rd_some, tr_bl, tr_non, tr_int, tr_lst, tr_tup, c_d, c_c, v_rv, ↓bnd_r, ↓sM_r', bR_ok, sR_ok, pur_r, newM_r, ofO_some, grd_t, nn_v, nn_bin, nn_neg, nn_kn, nn_ki, nn_sub, nn_bi, in_m, mk_app, mk_ext, mk_rev, bk_get1, bk_get2, bk_get1k, bk_get2k, slE_t, slE_f, bnd_pur, st_nm, st_2, st_2l, wp_nil, wp_1, wp_2, fm_nil, fm_cons, List.set_cons_zero, List.set_cons_succ, nrz_pur, nrz_r, nR_ok, start_s, tn_, decide_true, decide_false, Bool.not_true, Bool.not_false, eq_self, ↓reduceIte, List.map_cons, List.map_nil, dc_b, sub_po ht, c19, G.m19, kc, ki, m0, b_add, ak]
    · have ki : kiD kf s t = .int (kf s t) := if_neg fun q => e q.symm
      have m1 : binD .mul (.int (kf s t)) (.int (p s)) = some (.d (.int (kf s t * p s))) := by
        rcases K.val s t with q | q | q <;> rw [q] <;> exact b_mull (by decide) (by decide)
      by_cases z : kf s t = 0
      · rw [z] at ki m1
        simp only [e_v, e_k, e_gc, e_ccon, e_bin, e_neg, e_not, e_cmp, e_chain, e_and, e_or, e_ife, e_call, e_mk, e_mkM, e_meth, e_attr, e_prop, e_bi, e_lenset, e_isi, e_bm, e_sub, e_sl, e_rev, e_lst, e_tup, e_dct0, e_lc, e_dc, e_scut, e_semp, es_nil, es_cons, et_nil, et_cons, x_asg, x_asgM, x_asgT, x_par, x_setI, x_setF, x_setW, x_mm, x_ex, x_ret, x_retN, x_if, x_for, x_while, x_aug, x_pass, x_brk, x_cnt, x_nv, x_nil, x_cons, t_ev, c_o, sl_0, sl_s, rv_d, rv_c, rv_s, w_d, w_o, ws_nil, ws_cons, f_d, f_o, fs_nil, fs_cons, a_d, a_o, a_c, as_nil, as_cons, rd_some, tr_bl, tr_non, tr_int, tr_lst, tr_tup, c_d, c_c, v_rv, ↓bnd_r, ↓sM_r', bR_ok, sR_ok, pur_r, newM_r, ofO_some, grd_t, nn_v, nn_bin, nn_neg, nn_kn, nn_ki, nn_sub, nn_bi, in_m, mk_app, mk_ext, mk_rev, bk_get1, bk_get2, bk_get1k, bk_get2k, slE_t, slE_f, bnd_pur, st_nm, st_2, st_2l, wp_nil, wp_1, wp_2, fm_nil, fm_cons, List.set_cons_zero, List.set_cons_succ, nrz_pur, nrz_r, nR_ok, start_s, tn_, decide_true, decide_false, Bool.not_true, Bool.not_false, eq_self, ↓reduceIte, List.map_cons, List.map_nil, dc_b, sub_po ht, c19, G.m19, kc, ki, e, z, m0, b_add, ak, bne_self_eq_false]
      · have zb : (kf s t != 0) = true := by simpa using z
        simp only [e_v, e_k, e_gc, e_ccon, e_bin, e_neg, e_not, e_cmp, e_chain, e_and, e_or, e_ife, e_call, e_mk, e_mkM, e_meth, e_attr, e_prop, e_bi, e_lenset, e_isi, e_bm, e_sub, e_sl, e_rev, e_lst, e_tup, e_dct0, e_lc, e_dc, e_scut, e_semp, es_nil, es_cons, et_nil, et_cons, x_asg, x_asgM, x_asgT, x_par, x_setI, x_setF, x_setW, x_mm, x_ex, x_ret, x_retN, x_if, x_for, x_while, x_aug, x_pass, x_brk, x_cnt, x_nv, x_nil, x_cons, t_ev, c_o, sl_0, sl_s, rv_d, rv_c, rv_s, w_d, w_o, ws_nil, ws_cons, f_d, f_o, fs_nil, fs_cons, a_d, a_o, a_c, as_nil, as_cons, rd_some, tr_bl, tr_non, tr_int, tr_lst, tr_tup, c_d, c_c, v_rv, ↓bnd_r, ↓sM_r', bR_ok, sR_ok, pur_r, newM_r, ofO_some, grd_t, nn_v, nn_bin, nn_neg, nn_kn, nn_ki, nn_sub, nn_bi, in_m, mk_app, mk_ext, mk_rev, bk_get1, bk_get2, bk_get1k, bk_get2k, slE_t, slE_f, bnd_pur, st_nm, st_2, st_2l, wp_nil, wp_1, wp_2, fm_nil, fm_cons, List.set_cons_zero, List.set_cons_succ, nrz_pur, nrz_r, nR_ok, start_s, tn_, decide_true, decide_false, Bool.not_true, Bool.not_false, eq_self, ↓reduceIte, List.map_cons, List.map_nil, dc_b, sub_po ht, c19, G.m19, kc, ki, e, zb, m1, b_add, ak]) (nodup_sk on.nd) (fun a _ q => by cases q)
  have eD : D.dK (ns.map fun t => (sk t, D.int (p t + (if t = s then 0 else kf s t) * p s))) = poD ns (fun t => p t + (if t = s then 0 else kf s t) * p s) := by
    unfold poD embS poT
    rw [List.map_map]
    rfl
  have pe := put_end (m := m) (p := fun t => p t + (if t = s then 0 else kf s t) * p s) hs (-p s) (by have := on.le; omega) []
  rw [upd_fl K p s 0] at pe
  rw [callI_some h3 rfl]
  refine bodyM_c0 (x := []) ?_
  show exs md (callI md (k + 2)) B.f3.body [some (.d (gD ns kt)), some (.d (poD ns p)), some (.d (.str s)), none, none, none] m = _
  simp only [e_v, e_k, e_gc, e_ccon, e_bin, e_neg, e_not, e_cmp, e_chain, e_and, e_or, e_ife, e_call, e_mk, e_mkM, e_meth, e_attr, e_prop, e_bi, e_lenset, e_isi, e_bm, e_sub, e_sl, e_rev, e_lst, e_tup, e_dct0, e_lc, e_dc, e_scut, e_semp, es_nil, es_cons, et_nil, et_cons, x_asg, x_asgM, x_asgT, x_par, x_setI, x_setF, x_setW, x_mm, x_ex, x_ret, x_retN, x_if, x_for, x_while, x_aug, x_pass, x_brk, x_cnt, x_nv, x_nil, x_cons, t_ev, c_o, sl_0, sl_s, rv_d, rv_c, rv_s, w_d, w_o, ws_nil, ws_cons, f_d, f_o, fs_nil, fs_cons, a_d, a_o, a_c, as_nil, as_cons, rd_some, tr_bl, tr_non, tr_int, tr_lst, tr_tup, c_d, c_c, v_rv, ↓bnd_r, ↓sM_r', bR_ok, sR_ok, pur_r, newM_r, ofO_some, grd_t, nn_v, nn_bin, nn_neg, nn_kn, nn_ki, nn_sub, nn_bi, in_m, mk_app, mk_ext, mk_rev, bk_get1, bk_get2, bk_get1k, bk_get2k, slE_t, slE_f, bnd_pur, st_nm, st_2, st_2l, wp_nil, wp_1, wp_2, fm_nil, fm_cons, List.set_cons_zero, List.set_cons_succ, nrz_pur, nrz_r, nR_ok, start_s, tn_, decide_true, decide_false, Bool.not_true, Bool.not_false, eq_self, ↓reduceIte, List.map_cons, List.map_nil, B.f3, sub_po hs, c16, G.p16, np, it_tup, dc, List.nil_append, eD, pe]
theorem after_c (G : GM md r) (h3 : md.fns[3]? = some B.f3) (h4 : md.fns[4]? = some B.f4) (k : Nat) (on : OkNs ns) (K : OkK kf) (hk : Gr ns kt kf) (p : Ps) {x : D} {w : List Str} (hx : Sq x (w.map .str)) (hw : ∀ y ∈ w, y ∈ ns) : callI md (k + 4) 4 [.d (gD ns kt), .d (poD ns p), .d x] = pur (.d (poD ns (go kf p w))) := by
  funext m
  obtain ⟨s', m', e, h⟩ := for_all (f := turnM md (callI md (k + 3)) (.nm 3) [.asg 1 (.call 3 [(.v 0), (.v 1), (.v 3)])]) (items := w.map .str)
    (fun i s m' => m' = m ∧ ∃ a, s = [some (.d (gD ns kt)), some (.d (poD ns (go kf p (w.take i)))), some (.d x), a]) (s := [some (.d (gD ns kt)), some (.d (poD ns p)), some (.d x), none]) (m := m) ⟨rfl, none, rfl⟩
    (by
      rintro i y s m' hy ⟨rfl, a, rfl⟩
      rw [List.getElem?_map, Option.map_eq_some_iff] at hy
      obtain ⟨t, ht, rfl⟩ := hy
      have fc := flip_c G h3 k on K hk (go kf p (w.take i)) (hw t (List.mem_of_getElem? ht))
      have tk : go kf p (w.take (i + 1)) = fl kf (go kf p (w.take i)) t := by
        rw [List.take_add_one, ht, Cox.go_app]
        rfl
      refine ⟨[some (.d (gD ns kt)), some (.d (poD ns (go kf p (w.take (i + 1))))), some (.d x), some (.d (.str t))], m', .inl ?_, rfl, _, rfl⟩
      simp only [e_v, e_k, e_gc, e_ccon, e_bin, e_neg, e_not, e_cmp, e_chain, e_and, e_or, e_ife, e_call, e_mk, e_mkM, e_meth, e_attr, e_prop, e_bi, e_lenset, e_isi, e_bm, e_sub, e_sl, e_rev, e_lst, e_tup, e_dct0, e_lc, e_dc, e_scut, e_semp, es_nil, es_cons, et_nil, et_cons, x_asg, x_asgM, x_asgT, x_par, x_setI, x_setF, x_setW, x_mm, x_ex, x_ret, x_retN, x_if, x_for, x_while, x_aug, x_pass, x_brk, x_cnt, x_nv, x_nil, x_cons, t_ev, c_o, sl_0, sl_s, rv_d, rv_c, rv_s, w_d, w_o, ws_nil, ws_cons, f_d, f_o, fs_nil, fs_cons, a_d, a_o, a_c, as_nil, as_cons, rd_some, tr_bl, tr_non, tr_int, tr_lst, tr_tup, c_d, c_c, v_rv, ↓bnd_r, ↓sM_r', bR_ok, sR_ok, pur_r, newM_r, ofO_some, grd_t, nn_v, nn_bin, nn_neg, nn_kn, nn_ki, nn_sub, nn_bi, in_m, mk_app, mk_ext, mk_rev, bk_get1, bk_get2, bk_get1k, bk_get2k, slE_t, slE_f, bnd_pur, st_nm, st_2, st_2l, wp_nil, wp_1, wp_2, fm_nil, fm_cons, List.set_cons_zero, List.set_cons_succ, nrz_pur, nrz_r, nR_ok, start_s, tn_, decide_true, decide_false, Bool.not_true, Bool.not_false, eq_self, ↓reduceIte, List.map_cons, List.map_nil, fc, tk])
  obtain ⟨rfl, a, rfl⟩ := h
  rw [List.length_map, List.take_length] at e
  rw [callI_some h4 rfl]
  refine bodyM_rt0 ?_
  show exs md (callI md (k + 3)) B.f4.body [some (.d (gD ns kt)), some (.d (poD ns p)), some (.d x), none] _ = _
  simp only [e_v, e_k, e_gc, e_ccon, e_bin, e_neg, e_not, e_cmp, e_chain, e_and, e_or, e_ife, e_call, e_mk, e_mkM, e_meth, e_attr, e_prop, e_bi, e_lenset, e_isi, e_bm, e_sub, e_sl, e_rev, e_lst, e_tup, e_dct0, e_lc, e_dc, e_scut, e_semp, es_nil, es_cons, et_nil, et_cons, x_asg, x_asgM, x_asgT, x_par, x_setI, x_setF, x_setW, x_mm, x_ex, x_ret, x_retN, x_if, x_for, x_while, x_aug, x_pass, x_brk, x_cnt, x_nv, x_nil, x_cons, t_ev, c_o, sl_0, sl_s, rv_d, rv_c, rv_s, w_d, w_o, ws_nil, ws_cons, f_d, f_o, fs_nil, fs_cons, a_d, a_o, a_c, as_nil, as_cons, rd_some, tr_bl, tr_non, tr_int, tr_lst, tr_tup, c_d, c_c, v_rv, ↓bnd_r, ↓sM_r', bR_ok, sR_ok, pur_r, newM_r, ofO_some, grd_t, nn_v, nn_bin, nn_neg, nn_kn, nn_ki, nn_sub, nn_bi, in_m, mk_app, mk_ext, mk_rev, bk_get1, bk_get2, bk_get1k, bk_get2k, slE_t, slE_f, bnd_pur, st_nm, st_2, st_2l, wp_nil, wp_1, wp_2, fm_nil, fm_cons, List.set_cons_zero, List.set_cons_succ, nrz_pur, nrz_r, nR_ok, start_s, tn_, decide_true, decide_false, Bool.not_true, Bool.not_false, eq_self, ↓reduceIte, List.map_cons, List.map_nil, B.f4, it_seq hx, e]
theorem posof_c (G : GW4 md r) (h2 : md.fns[2]? = some B.f2) (h3 : md.fns[3]? = some B.f3) (h4 : md.fns[4]? = some B.f4) (h44 : md.fns[44]? = some B.f44) (k : Nat) (on : OkNs ns) (K : OkK kf) (hk : Gr ns kt kf) {x : D} {w : List Str} (hx : Sq x (w.map .str)) (hw : ∀ y ∈ w, y ∈ ns) : callI md (k + 5) 44 [.d (gD ns kt), .d x] = pur (.d (poD ns (go kf Cox.ones w))) := by
  funext m
  have c1 := word_c G.toGM G.h39 G.h41 (k + 1) hx hw (GS.fr : GS ns kt (.d (gD ns kt)) m)
  have c2 := unit_c (ns := ns) (kt := kt) G.toGM h2 (k + 2) on.nd
  have c3 := after_c G.toGM h3 h4 k on K hk Cox.ones hx hw
  rw [callI_some h44 rfl]
  refine bodyM_rt0 ?_
  show exs md (callI md (k + 4)) B.f44.body [some (.d (gD ns kt)), some (.d x)] m = _
  simp only [e_v, e_k, e_gc, e_ccon, e_bin, e_neg, e_not, e_cmp, e_chain, e_and, e_or, e_ife, e_call, e_mk, e_mkM, e_meth, e_attr, e_prop, e_bi, e_lenset, e_isi, e_bm, e_sub, e_sl, e_rev, e_lst, e_tup, e_dct0, e_lc, e_dc, e_scut, e_semp, es_nil, es_cons, et_nil, et_cons, x_asg, x_asgM, x_asgT, x_par, x_setI, x_setF, x_setW, x_mm, x_ex, x_ret, x_retN, x_if, x_for, x_while, x_aug, x_pass, x_brk, x_cnt, x_nv, x_nil, x_cons, t_ev, c_o, sl_0, sl_s, rv_d, rv_c, rv_s, w_d, w_o, ws_nil, ws_cons, f_d, f_o, fs_nil, fs_cons, a_d, a_o, a_c, as_nil, as_cons, rd_some, tr_bl, tr_non, tr_int, tr_lst, tr_tup, c_d, c_c, v_rv, ↓bnd_r, ↓sM_r', bR_ok, sR_ok, pur_r, newM_r, ofO_some, grd_t, nn_v, nn_bin, nn_neg, nn_kn, nn_ki, nn_sub, nn_bi, in_m, mk_app, mk_ext, mk_rev, bk_get1, bk_get2, bk_get1k, bk_get2k, slE_t, slE_f, bnd_pur, st_nm, st_2, st_2l, wp_nil, wp_1, wp_2, fm_nil, fm_cons, List.set_cons_zero, List.set_cons_succ, nrz_pur, nrz_r, nR_ok, start_s, tn_, decide_true, decide_false, Bool.not_true, Bool.not_false, eq_self, ↓reduceIte, List.map_cons, List.map_nil, B.f44, c1, c2, c3]
theorem same_c (G : GW4 md r) (h2 : md.fns[2]? = some B.f2) (h3 : md.fns[3]? = some B.f3) (h4 : md.fns[4]? = some B.f4) (h51 : md.fns[51]? = some B.f51) (k : Nat) (on : OkNs ns) (K : OkK kf) (hk : Gr ns kt kf) {x y : D} {u w : List Str} (hx : Sq x (u.map .str)) (hy : Sq y (w.map .str)) (hu : ∀ y ∈ u, y ∈ ns) (hw : ∀ y ∈ w, y ∈ ns) : callI md (k + 5) 51 [.d (gD ns kt), .d x, .d y] = pur (.d (.bl (decide (∀ z ∈ ns, go kf Cox.ones u z = go kf Cox.ones w z)))) := by
  funext m
  have c1 := word_c G.toGM G.h39 G.h41 (k + 1) hx hu (GS.fr : GS ns kt (.d (gD ns kt)) m)
  have c1' := word_c G.toGM G.h39 G.h41 (k + 1) hy hw (GS.fr : GS ns kt (.d (gD ns kt)) m)
  have c2 := unit_c (ns := ns) (kt := kt) G.toGM h2 (k + 2) on.nd
  have c3 := after_c G.toGM h3 h4 k on K hk Cox.ones hx hu
  have c4 := after_c G.toGM h3 h4 k on K hk Cox.ones hy hw
  rw [callI_some h51 rfl]
  refine bodyM_rt0 ?_
  show exs md (callI md (k + 4)) B.f51.body [some (.d (gD ns kt)), some (.d x), some (.d y)] m = _
  simp only [e_v, e_k, e_gc, e_ccon, e_bin, e_neg, e_not, e_cmp, e_chain, e_and, e_or, e_ife, e_call, e_mk, e_mkM, e_meth, e_attr, e_prop, e_bi, e_lenset, e_isi, e_bm, e_sub, e_sl, e_rev, e_lst, e_tup, e_dct0, e_lc, e_dc, e_scut, e_semp, es_nil, es_cons, et_nil, et_cons, x_asg, x_asgM, x_asgT, x_par, x_setI, x_setF, x_setW, x_mm, x_ex, x_ret, x_retN, x_if, x_for, x_while, x_aug, x_pass, x_brk, x_cnt, x_nv, x_nil, x_cons, t_ev, c_o, sl_0, sl_s, rv_d, rv_c, rv_s, w_d, w_o, ws_nil, ws_cons, f_d, f_o, fs_nil, fs_cons, a_d, a_o, a_c, as_nil, as_cons, rd_some, tr_bl, tr_non, tr_int, tr_lst, tr_tup, c_d, c_c, v_rv, ↓bnd_r, ↓sM_r', bR_ok, sR_ok, pur_r, newM_r, ofO_some, grd_t, nn_v, nn_bin, nn_neg, nn_kn, nn_ki, nn_sub, nn_bi, in_m, mk_app, mk_ext, mk_rev, bk_get1, bk_get2, bk_get1k, bk_get2k, slE_t, slE_f, bnd_pur, st_nm, st_2, st_2l, wp_nil, wp_1, wp_2, fm_nil, fm_cons, List.set_cons_zero, List.set_cons_succ, nrz_pur, nrz_r, nR_ok, start_s, tn_, decide_true, decide_false, Bool.not_true, Bool.not_false, eq_self, ↓reduceIte, List.map_cons, List.map_nil, B.f51, c1, c1', c2, c3, c4, cmp_eq', eq_po]
end
end Fw

/-! L16: the law's own flips; runs. -/
namespace Fw
open PySem L2
open PySem.PyData (strOk)
open Cox (Ps fl go OkK)
theorem merge_new : ∀ (l acc : List (Key × D)), (l.map (·.1)).Nodup → (∀ e ∈ l, e.1 ∉ acc.map (·.1)) → mergeA acc l = acc ++ l
  | [], acc, _, _ => (List.append_nil acc).symm
  | (k, v) :: r, acc, nd, na => by
    rw [List.map_cons, List.nodup_cons] at nd
    show mergeA (putA acc k v) r = _
    rw [put_new (na _ (List.mem_cons_self ..)), merge_new r _ nd.2 ?_, List.append_assoc]
    · rfl
    · intro e he q
      rw [List.map_append, List.mem_append] at q
      rcases q with q | q
      · exact na e (List.mem_cons_of_mem _ he) q
      · simp only [List.map_cons, List.map_nil, List.mem_singleton] at q
        exact nd.1 (List.mem_map.mpr ⟨e, he, q⟩)
theorem pairsK_po (ns : List Str) (p : Ps) : pairsK (ns.map fun x => D.tup [.str x, .int (p x)]) = some (ns.map fun x => (sk x, .int (p x))) := by
  induction ns with
  | nil => rfl
  | cons a r ih =>
    show (match asK (.str a), pairsK (r.map fun x => D.tup [.str x, .int (p x)]) with
      | some k, some l => some ((k, D.int (p a)) :: l)
      | _, _ => none) = _
    rw [ih]
    rfl
theorem dict_po {ns : List Str} (nd : ns.Nodup) (l : ns.length ≤ 1000000) (p : Ps) : biD .dict_ [.lst (ns.map fun x => D.tup [.str x, .int (p x)])] = some (.o (poD ns p)) := by
  show (if (ns.map fun x => D.tup [.str x, .int (p x)]).length ≤ 1000000 then (pairsK (ns.map fun x => D.tup [.str x, .int (p x)])).map fun l => RV.o (.dK (mergeA [] l)) else none) = _
  rw [List.length_map, if_pos l, pairsK_po]
  show some (RV.o (.dK (mergeA [] (ns.map fun x => (sk x, D.int (p x)))))) = _
  rw [merge_new _ [] ?_ (fun e _ q => by cases q), List.nil_append]
  · unfold poD embS poT
    rw [List.map_map]
    rfl
  · rw [List.map_map]
    exact nodup_sk nd
theorem dict_dK (ns : List Str) (p : Ps) : biD .dict_ [poD ns p] = some (.o (poD ns p)) := rfl
/-- flips done so far -/
def qn (k : Str → Str → Int) (p : Ps) (s : Str) (l : List Str) : Ps := fun t => if t ∈ l ∧ t ≠ s then fl k p s t else p t
theorem qn_s (k : Str → Str → Int) (p : Ps) (s : Str) (l : List Str) : qn k p s (l ++ [s]) = qn k p s l := by
  funext t
  unfold qn
  have : (t ∈ l ++ [s] ∧ t ≠ s) = (t ∈ l ∧ t ≠ s) := by
    apply propext
    rw [List.mem_append, List.mem_singleton]
    exact ⟨fun h => ⟨h.1.resolve_right h.2, h.2⟩, fun h => ⟨.inl h.1, h.2⟩⟩
  simp only [this]
theorem qn_n {k : Str → Str → Int} {p : Ps} {s x : Str} {l : List Str} (h : x ≠ s) : upd (qn k p s l) x (p x + k s x * p s) = qn k p s (l ++ [x]) := by
  funext t
  unfold upd qn
  by_cases e : t = x
  · subst e
    rw [if_pos rfl, if_pos ⟨List.mem_append_right _ (List.mem_singleton.mpr rfl), h⟩, Cox.fl_n _ h]
  · rw [if_neg e]
    have : (t ∈ l ++ [x] ∧ t ≠ s) = (t ∈ l ∧ t ≠ s) := by
      apply propext
      rw [List.mem_append, List.mem_singleton]
      exact ⟨fun h => ⟨h.1.resolve_right e, h.2⟩, fun h => ⟨.inl h.1, h.2⟩⟩
    simp only [this]
section
variable {kf : Str → Str → Int} {md : Md} {r : Nat → Ep → Sm} {ns : List Str} {kt : List (List Key × D)} {K : List (List Key × D)} {m : Mem}
theorem lawFlip_c (h : md.fns[148]? = some B.f148) (k : Nat) (on : OkNs ns) (OK : OkK kf) (hK : Kd ns K kf) (p : Ps) {s : Str} (hs : s ∈ ns) : callI md (k + 1) 148 [.d (.dT K), .d (wD ns), .d (poD ns p), .d (.str s)] = pur (.o (poD ns (fl kf p s))) := by
  funext m
  have ln : ns.length < 16777216 := by have := on.le; omega
  obtain ⟨s', m', e, h'⟩ := for_all (f := turnM md (callI md k) (.nm 5) [.if_ (.cmp .ne (.v 5) (.v 3)) [.setI (.v 4) (.v 5) (.bin .add (.sub (.v 2) (.v 5)) (.bin .mul (.sub (.v 0) (.tup [(.v 3), (.v 5)])) (.sub (.v 2) (.v 3))))] []]) (items := ns.map .str)
    (fun i st m' => m' = m ++ [.fl (poD ns (qn kf p s (ns.take i)))] ∧ ∃ a, st = [some (.d (.dT K)), some (.d (wD ns)), some (.d (poD ns p)), some (.d (.str s)), some (.c m.length), a]) (s := [some (.d (.dT K)), some (.d (wD ns)), some (.d (poD ns p)), some (.d (.str s)), some (.c m.length), none]) (m := m ++ [.fl (poD ns p)])
    ⟨by
      have : qn kf p s (ns.take 0) = p := funext fun t => if_neg fun q => by cases q.1
      rw [this], none, rfl⟩
    (by
      rintro i y st m' hy ⟨rfl, a, rfl⟩
      rw [List.getElem?_map, Option.map_eq_some_iff] at hy
      obtain ⟨t, ht, rfl⟩ := hy
      have mt := List.mem_of_getElem? ht
      have tk : ns.take (i + 1) = ns.take i ++ [t] := by rw [List.take_add_one, ht]; rfl
      refine ⟨[some (.d (.dT K)), some (.d (wD ns)), some (.d (poD ns p)), some (.d (.str s)), some (.c m.length), some (.d (.str t))], m ++ [.fl (poD ns (qn kf p s (ns.take (i + 1))))], .inl ?_, rfl, _, rfl⟩
      rw [tk]
      by_cases e : t = s
      · subst e
        rw [qn_s]
        simp only [e_v, e_k, e_gc, e_ccon, e_bin, e_neg, e_not, e_cmp, e_chain, e_and, e_or, e_ife, e_call, e_mk, e_mkM, e_meth, e_attr, e_prop, e_bi, e_lenset, e_isi, e_bm, e_sub, e_sl, e_rev, e_lst, e_tup, e_dct0, e_lc, e_dc, e_scut, e_semp, es_nil, es_cons, et_nil, et_cons, x_asg, x_asgM, x_asgT, x_par, x_setI, x_setF, x_setW, x_mm, x_ex, x_ret, x_retN, x_if, x_for, x_while, x_aug, x_pass, x_brk, x_cnt, x_nv, x_nil, x_cons, t_ev, c_o, sl_0, sl_s, rv_d, rv_c, rv_s, w_d, w_o, ws_nil, ws_cons, f_d, f_o, fs_nil, fs_cons, a_d, a_o, a_c, as_nil, as_cons, rd_some, tr_bl, tr_non, tr_int, tr_lst, tr_tup, c_d, c_c, v_rv, ↓bnd_r, ↓sM_r', bR_ok, sR_ok, pur_r, newM_r, ofO_some, grd_t, nn_v, nn_bin, nn_neg, nn_kn, nn_ki, nn_sub, nn_bi, in_m, mk_app, mk_ext, mk_rev, bk_get1, bk_get2, bk_get1k, bk_get2k, slE_t, slE_f, bnd_pur, st_nm, st_2, st_2l, wp_nil, wp_1, wp_2, fm_nil, fm_cons, List.set_cons_zero, List.set_cons_succ, nrz_pur, nrz_r, nR_ok, start_s, tn_, decide_true, decide_false, Bool.not_true, Bool.not_false, eq_self, ↓reduceIte, List.map_cons, List.map_nil, cmp_ne', eq_str (on.ok t mt) (on.ok t mt), Option.map_some]
      · have sk' := sub_K hK hs mt (fun q => e q.symm)
        have mu : binD .mul (.int (kf s t)) (.int (p s)) = some (.d (.int (kf s t * p s))) := by
          rcases OK.val s t with q | q | q <;> rw [q] <;> exact b_mull (by decide) (by decide)
        have pe := put_end (m := m) (p := qn kf p s (ns.take i)) mt (p t + kf s t * p s) ln []
        rw [qn_n e] at pe
        simp only [e_v, e_k, e_gc, e_ccon, e_bin, e_neg, e_not, e_cmp, e_chain, e_and, e_or, e_ife, e_call, e_mk, e_mkM, e_meth, e_attr, e_prop, e_bi, e_lenset, e_isi, e_bm, e_sub, e_sl, e_rev, e_lst, e_tup, e_dct0, e_lc, e_dc, e_scut, e_semp, es_nil, es_cons, et_nil, et_cons, x_asg, x_asgM, x_asgT, x_par, x_setI, x_setF, x_setW, x_mm, x_ex, x_ret, x_retN, x_if, x_for, x_while, x_aug, x_pass, x_brk, x_cnt, x_nv, x_nil, x_cons, t_ev, c_o, sl_0, sl_s, rv_d, rv_c, rv_s, w_d, w_o, ws_nil, ws_cons, f_d, f_o, fs_nil, fs_cons, a_d, a_o, a_c, as_nil, as_cons, rd_some, tr_bl, tr_non, tr_int, tr_lst, tr_tup, c_d, c_c, v_rv, ↓bnd_r, ↓sM_r', bR_ok, sR_ok, pur_r, newM_r, ofO_some, grd_t, nn_v, nn_bin, nn_neg, nn_kn, nn_ki, nn_sub, nn_bi, in_m, mk_app, mk_ext, mk_rev, bk_get1, bk_get2, bk_get1k, bk_get2k, slE_t, slE_f, bnd_pur, st_nm, st_2, st_2l, wp_nil, wp_1, wp_2, fm_nil, fm_cons, List.set_cons_zero, List.set_cons_succ, nrz_pur, nrz_r, nR_ok, start_s, tn_, decide_true, decide_false, Bool.not_true, Bool.not_false, eq_self, ↓reduceIte, List.map_cons, List.map_nil, cmp_ne', eq_str (on.ok t mt) (on.ok s hs), e, Option.map_some, sub_po mt, sub_po hs, sk', mu, b_add, pe])
  obtain ⟨rfl, a, rfl⟩ := h'
  rw [List.length_map, List.take_length] at e
  have pe := put_end (m := m) (p := qn kf p s ns) hs (-p s) ln []
  have fin : poD ns (upd (qn kf p s ns) s (-p s)) = poD ns (fl kf p s) := po_congr fun t ht => by
    unfold upd qn
    by_cases e : t = s
    · rw [if_pos e, e, Cox.fl_s]
    · rw [if_neg e, if_pos ⟨ht, e⟩]
  rw [fin] at pe
  rw [callI_some h rfl]
  refine bodyM_c0 (x := []) ?_
  show exs md (callI md k) B.f148.body [some (.d (.dT K)), some (.d (wD ns)), some (.d (poD ns p)), some (.d (.str s)), none, none] m = _
  have it : itD .seq [wD ns] = some (ns.map .str) := rfl
  simp only [e_v, e_k, e_gc, e_ccon, e_bin, e_neg, e_not, e_cmp, e_chain, e_and, e_or, e_ife, e_call, e_mk, e_mkM, e_meth, e_attr, e_prop, e_bi, e_lenset, e_isi, e_bm, e_sub, e_sl, e_rev, e_lst, e_tup, e_dct0, e_lc, e_dc, e_scut, e_semp, es_nil, es_cons, et_nil, et_cons, x_asg, x_asgM, x_asgT, x_par, x_setI, x_setF, x_setW, x_mm, x_ex, x_ret, x_retN, x_if, x_for, x_while, x_aug, x_pass, x_brk, x_cnt, x_nv, x_nil, x_cons, t_ev, c_o, sl_0, sl_s, rv_d, rv_c, rv_s, w_d, w_o, ws_nil, ws_cons, f_d, f_o, fs_nil, fs_cons, a_d, a_o, a_c, as_nil, as_cons, rd_some, tr_bl, tr_non, tr_int, tr_lst, tr_tup, c_d, c_c, v_rv, ↓bnd_r, ↓sM_r', bR_ok, sR_ok, pur_r, newM_r, ofO_some, grd_t, nn_v, nn_bin, nn_neg, nn_kn, nn_ki, nn_sub, nn_bi, in_m, mk_app, mk_ext, mk_rev, bk_get1, bk_get2, bk_get1k, bk_get2k, slE_t, slE_f, bnd_pur, st_nm, st_2, st_2l, wp_nil, wp_1, wp_2, fm_nil, fm_cons, List.set_cons_zero, List.set_cons_succ, nrz_pur, nrz_r, nR_ok, start_s, tn_, decide_true, decide_false, Bool.not_true, Bool.not_false, eq_self, ↓reduceIte, List.map_cons, List.map_nil, B.f148, dict_dK, it, e, sub_po hs, pe]
theorem lawAfter_c (h : md.fns[149]? = some B.f149) (h148 : md.fns[148]? = some B.f148) (k : Nat) (on : OkNs ns) (OK : OkK kf) (hK : Kd ns K kf) (p : Ps) {w : List Str} (hw : ∀ y ∈ w, y ∈ ns) : callI md (k + 2) 149 [.d (.dT K), .d (wD ns), .d (poD ns p), .d (wD w)] = pur (.d (poD ns (go kf p w))) := by
  funext m
  obtain ⟨s', m', e, h'⟩ := for_all (f := turnM md (callI md (k + 1)) (.nm 4) [.asg 2 (.call 148 [(.v 0), (.v 1), (.v 2), (.v 4)])]) (items := w.map .str)
    (fun i s m' => m' = m ∧ ∃ a, s = [some (.d (.dT K)), some (.d (wD ns)), some (.d (poD ns (go kf p (w.take i)))), some (.d (wD w)), a]) (s := [some (.d (.dT K)), some (.d (wD ns)), some (.d (poD ns p)), some (.d (wD w)), none]) (m := m) ⟨rfl, none, rfl⟩
    (by
      rintro i y s m' hy ⟨rfl, a, rfl⟩
      rw [List.getElem?_map, Option.map_eq_some_iff] at hy
      obtain ⟨t, ht, rfl⟩ := hy
      have fc := lawFlip_c h148 k on OK hK (go kf p (w.take i)) (hw t (List.mem_of_getElem? ht))
      have tk : go kf p (w.take (i + 1)) = fl kf (go kf p (w.take i)) t := by
        rw [List.take_add_one, ht, Cox.go_app]
        rfl
      refine ⟨[some (.d (.dT K)), some (.d (wD ns)), some (.d (poD ns (go kf p (w.take (i + 1))))), some (.d (wD w)), some (.d (.str t))], m', .inl ?_, rfl, _, rfl⟩
      simp only [e_v, e_k, e_gc, e_ccon, e_bin, e_neg, e_not, e_cmp, e_chain, e_and, e_or, e_ife, e_call, e_mk, e_mkM, e_meth, e_attr, e_prop, e_bi, e_lenset, e_isi, e_bm, e_sub, e_sl, e_rev, e_lst, e_tup, e_dct0, e_lc, e_dc, e_scut, e_semp, es_nil, es_cons, et_nil, et_cons, x_asg, x_asgM, x_asgT, x_par, x_setI, x_setF, x_setW, x_mm, x_ex, x_ret, x_retN, x_if, x_for, x_while, x_aug, x_pass, x_brk, x_cnt, x_nv, x_nil, x_cons, t_ev, c_o, sl_0, sl_s, rv_d, rv_c, rv_s, w_d, w_o, ws_nil, ws_cons, f_d, f_o, fs_nil, fs_cons, a_d, a_o, a_c, as_nil, as_cons, rd_some, tr_bl, tr_non, tr_int, tr_lst, tr_tup, c_d, c_c, v_rv, ↓bnd_r, ↓sM_r', bR_ok, sR_ok, pur_r, newM_r, ofO_some, grd_t, nn_v, nn_bin, nn_neg, nn_kn, nn_ki, nn_sub, nn_bi, in_m, mk_app, mk_ext, mk_rev, bk_get1, bk_get2, bk_get1k, bk_get2k, slE_t, slE_f, bnd_pur, st_nm, st_2, st_2l, wp_nil, wp_1, wp_2, fm_nil, fm_cons, List.set_cons_zero, List.set_cons_succ, nrz_pur, nrz_r, nR_ok, start_s, tn_, decide_true, decide_false, Bool.not_true, Bool.not_false, eq_self, ↓reduceIte, List.map_cons, List.map_nil, fc, tk])
  obtain ⟨rfl, a, rfl⟩ := h'
  rw [List.length_map, List.take_length] at e
  rw [callI_some h rfl]
  refine bodyM_rt0 ?_
  show exs md (callI md (k + 1)) B.f149.body [some (.d (.dT K)), some (.d (wD ns)), some (.d (poD ns p)), some (.d (wD w)), none] _ = _
  have it : itD .seq [wD w] = some (w.map .str) := rfl
  simp only [e_v, e_k, e_gc, e_ccon, e_bin, e_neg, e_not, e_cmp, e_chain, e_and, e_or, e_ife, e_call, e_mk, e_mkM, e_meth, e_attr, e_prop, e_bi, e_lenset, e_isi, e_bm, e_sub, e_sl, e_rev, e_lst, e_tup, e_dct0, e_lc, e_dc, e_scut, e_semp, es_nil, es_cons, et_nil, et_cons, x_asg, x_asgM, x_asgT, x_par, x_setI, x_setF, x_setW, x_mm, x_ex, x_ret, x_retN, x_if, x_for, x_while, x_aug, x_pass, x_brk, x_cnt, x_nv, x_nil, x_cons, t_ev, c_o, sl_0, sl_s, rv_d, rv_c, rv_s, w_d, w_o, ws_nil, ws_cons, f_d, f_o, fs_nil, fs_cons, a_d, a_o, a_c, as_nil, as_cons, rd_some, tr_bl, tr_non, tr_int, tr_lst, tr_tup, c_d, c_c, v_rv, ↓bnd_r, ↓sM_r', bR_ok, sR_ok, pur_r, newM_r, ofO_some, grd_t, nn_v, nn_bin, nn_neg, nn_kn, nn_ki, nn_sub, nn_bi, in_m, mk_app, mk_ext, mk_rev, bk_get1, bk_get2, bk_get1k, bk_get2k, slE_t, slE_f, bnd_pur, st_nm, st_2, st_2l, wp_nil, wp_1, wp_2, fm_nil, fm_cons, List.set_cons_zero, List.set_cons_succ, nrz_pur, nrz_r, nR_ok, start_s, tn_, decide_true, decide_false, Bool.not_true, Bool.not_false, eq_self, ↓reduceIte, List.map_cons, List.map_nil, B.f149, it, e]
theorem lawOnes_c (h : md.fns[150]? = some B.f150) (k : Nat) (on : OkNs ns) : callI md (k + 1) 150 [.d (wD ns)] = pur (.o (poD ns Cox.ones)) := by
  funext m
  have lc := lc_all (f := lcB md (callI md k) [some (.d (wD ns)), none] [1] (.nm 1) [] (.tup [(.v 1), (.k (.int 1))])) D.str (fun x => .tup [.str x, .int (Cox.ones x)]) ns (by
    intro x _
    have : Cox.ones x = 1 := rfl
    simp only [e_v, e_k, e_gc, e_ccon, e_bin, e_neg, e_not, e_cmp, e_chain, e_and, e_or, e_ife, e_call, e_mk, e_mkM, e_meth, e_attr, e_prop, e_bi, e_lenset, e_isi, e_bm, e_sub, e_sl, e_rev, e_lst, e_tup, e_dct0, e_lc, e_dc, e_scut, e_semp, es_nil, es_cons, et_nil, et_cons, x_asg, x_asgM, x_asgT, x_par, x_setI, x_setF, x_setW, x_mm, x_ex, x_ret, x_retN, x_if, x_for, x_while, x_aug, x_pass, x_brk, x_cnt, x_nv, x_nil, x_cons, t_ev, c_o, sl_0, sl_s, rv_d, rv_c, rv_s, w_d, w_o, ws_nil, ws_cons, f_d, f_o, fs_nil, fs_cons, a_d, a_o, a_c, as_nil, as_cons, rd_some, tr_bl, tr_non, tr_int, tr_lst, tr_tup, c_d, c_c, v_rv, ↓bnd_r, ↓sM_r', bR_ok, sR_ok, pur_r, newM_r, ofO_some, grd_t, nn_v, nn_bin, nn_neg, nn_kn, nn_ki, nn_sub, nn_bi, in_m, mk_app, mk_ext, mk_rev, bk_get1, bk_get2, bk_get1k, bk_get2k, slE_t, slE_f, bnd_pur, st_nm, st_2, st_2l, wp_nil, wp_1, wp_2, fm_nil, fm_cons, List.set_cons_zero, List.set_cons_succ, nrz_pur, nrz_r, nR_ok, start_s, tn_, decide_true, decide_false, Bool.not_true, Bool.not_false, eq_self, ↓reduceIte, List.map_cons, List.map_nil, lc_b, this])
  have dp := dict_po on.nd (by have := on.le; omega) Cox.ones
  rw [callI_some h rfl]
  refine bodyM_o (x := []) ?_
  rw [List.append_nil]
  show exs md (callI md k) B.f150.body [some (.d (wD ns)), none] m = _
  have it : itD .seq [wD ns] = some (ns.map .str) := rfl
  simp only [e_v, e_k, e_gc, e_ccon, e_bin, e_neg, e_not, e_cmp, e_chain, e_and, e_or, e_ife, e_call, e_mk, e_mkM, e_meth, e_attr, e_prop, e_bi, e_lenset, e_isi, e_bm, e_sub, e_sl, e_rev, e_lst, e_tup, e_dct0, e_lc, e_dc, e_scut, e_semp, es_nil, es_cons, et_nil, et_cons, x_asg, x_asgM, x_asgT, x_par, x_setI, x_setF, x_setW, x_mm, x_ex, x_ret, x_retN, x_if, x_for, x_while, x_aug, x_pass, x_brk, x_cnt, x_nv, x_nil, x_cons, t_ev, c_o, sl_0, sl_s, rv_d, rv_c, rv_s, w_d, w_o, ws_nil, ws_cons, f_d, f_o, fs_nil, fs_cons, a_d, a_o, a_c, as_nil, as_cons, rd_some, tr_bl, tr_non, tr_int, tr_lst, tr_tup, c_d, c_c, v_rv, ↓bnd_r, ↓sM_r', bR_ok, sR_ok, pur_r, newM_r, ofO_some, grd_t, nn_v, nn_bin, nn_neg, nn_kn, nn_ki, nn_sub, nn_bi, in_m, mk_app, mk_ext, mk_rev, bk_get1, bk_get2, bk_get1k, bk_get2k, slE_t, slE_f, bnd_pur, st_nm, st_2, st_2l, wp_nil, wp_1, wp_2, fm_nil, fm_cons, List.set_cons_zero, List.set_cons_succ, nrz_pur, nrz_r, nR_ok, start_s, tn_, decide_true, decide_false, Bool.not_true, Bool.not_false, eq_self, ↓reduceIte, List.map_cons, List.map_nil, B.f150, it, lc, dp]
end
end Fw

/-! L17: a law's graph with all that is known of it; runs of words. -/
namespace Fw
open PySem L2
open PySem.PyData (strOk)
open Cox (Ps fl go OkK)
/-- what a law knows of its graph -/
structure GI (N : List Str) (T : PT) (kf : Str → Str → Int) : Prop where
  on : OkNs N
  gr : Gr N (emb (KT T)) kf
  kd : Kd N (emb T) kf
  ok : OkK kf
  kn : ∀ s ∈ N, ∀ x, x ∉ N → kf s x = 0
theorem GI_of {N : List Str} {mn : List Int} {T : PT} (on : OkNs N) (o : Ord N) (hT : PI N mn T) (full : ∀ x ∈ N, ∀ y ∈ N, x ≠ y → (lookA T (x, y)).isSome = true) (hm : ∀ z ∈ mn, z = 0 ∨ z = 1 ∨ z = 2) : GI N T (fun x y => kv T (x, y)) := by
  refine ⟨on, Gr_KT hT o full hm, Kd_PI hT full, ⟨fun x y => kv_sym hT x y, fun x y => ?_⟩, fun s _ x hx => ?_⟩
  · show kv T (x, y) = 0 ∨ kv T (x, y) = 1 ∨ kv T (x, y) = 2
    unfold kv
    cases q : lookA T (x, y) with
    | none => exact .inl rfl
    | some z => exact hm z (hT.val x y z q).1
  · show kv T (s, x) = 0
    unfold kv
    cases q : lookA T (s, x) with
    | none => rfl
    | some z => exact (hx (hT.val s x z q).2.2.1).elim
theorem setup {md : Md} {r : Nat → Ep → Sm} (G : GM md r) (h146 : md.fns[146]? = some B.f146) (h147 : md.fns[147]? = some B.f147) (h152 : md.fns[152]? = some B.f152) (k : Nat) {ds : List Nat} {mn : List Int} {n : Nat} (hd : ds ≠ []) (hm : mn ≠ []) (hv : ∀ z ∈ mn, z = 0 ∨ z = 1 ∨ z = 2) (n0 : 0 < n) (hn : n ≤ 12) (m : Mem) :
    ∃ (N : List Str) (T : PT) (kf : Str → Str → Int), N = Names.take n ∧ GI N T kf ∧ (∀ x ∈ N, RepN x) ∧
      callI md (k + 5) 152 [.d (.int (n : Nat))] = pur (.o (wD N)) ∧
      callI md (k + 5) 146 [.d (nsD ds), .d (.int (n : Nat)), .d (.lst (mn.map .int))] m = .ok (.o (.dT (emb T))) m ∧
      callI md (k + 5) 147 [.d (.dT (emb T)), .d (wD N)] = pur (.d (gD N (emb (KT T)))) ∧
      biD .len [wD N] = some (.d (.int (n : Nat))) := by
  have on := names_okNs n0 hn
  obtain ⟨T, hT, lT, fT, e5⟩ := pairs_c h146 (k + 4) hd hm hn m
  refine ⟨Names.take n, T, fun x y => kv T (x, y), rfl, GI_of on (take_ord names_ord _) hT fT hv, fun x hx => names_rep x (List.mem_of_mem_take hx), ?_, ?_, ?_, ?_⟩
  · exact funext fun m => named_c h152 (k + 4) n m
  · exact e5
  · exact funext fun m => graph_c G h147 k on (take_ord names_ord _) hT lT m
  · rw [len_w, take_len hn]
theorem isInt_c {md : Md} (h0 : md.fns[0]? = some B.f0) (k : Nat) (i : Int) : callI md (k + 1) 0 [.d (.int i)] = pur (.d (.bl true)) := by
  funext m
  rw [callI_some h0 rfl]
  refine bodyM_rt0 ?_
  show exs md (callI md k) B.f0.body [some (.d (.int i))] m = _
  have a1 : isiM md [.tint] (.d (.int i)) = pur (.d (.bl true)) := rfl
  have a2 : isiM md [.tbool] (.d (.int i)) = pur (.d (.bl false)) := rfl
  simp only [e_v, e_k, e_gc, e_ccon, e_bin, e_neg, e_not, e_cmp, e_chain, e_and, e_or, e_ife, e_call, e_mk, e_mkM, e_meth, e_attr, e_prop, e_bi, e_lenset, e_isi, e_bm, e_sub, e_sl, e_rev, e_lst, e_tup, e_dct0, e_lc, e_dc, e_scut, e_semp, es_nil, es_cons, et_nil, et_cons, x_asg, x_asgM, x_asgT, x_par, x_setI, x_setF, x_setW, x_mm, x_ex, x_ret, x_retN, x_if, x_for, x_while, x_aug, x_pass, x_brk, x_cnt, x_nv, x_nil, x_cons, t_ev, c_o, sl_0, sl_s, rv_d, rv_c, rv_s, w_d, w_o, ws_nil, ws_cons, f_d, f_o, fs_nil, fs_cons, a_d, a_o, a_c, as_nil, as_cons, rd_some, tr_bl, tr_non, tr_int, tr_lst, tr_tup, c_d, c_c, v_rv, ↓bnd_r, ↓sM_r', bR_ok, sR_ok, pur_r, newM_r, ofO_some, grd_t, nn_v, nn_bin, nn_neg, nn_kn, nn_ki, nn_sub, nn_bi, in_m, mk_app, mk_ext, mk_rev, bk_get1, bk_get2, bk_get1k, bk_get2k, slE_t, slE_f, bnd_pur, st_nm, st_2, st_2l, wp_nil, wp_1, wp_2, fm_nil, fm_cons, List.set_cons_zero, List.set_cons_succ, nrz_pur, nrz_r, nR_ok, start_s, tn_, decide_true, decide_false, Bool.not_true, Bool.not_false, eq_self, ↓reduceIte, List.map_cons, List.map_nil, B.f0, a1, a2]
theorem len_po (ns : List Str) (p : Ps) : biD .len [poD ns p] = some (.d (.int (ns.length : Nat))) := by
  show some (RV.d (.int ((embS (poT ns p)).length : Nat))) = _
  rw [embS_len]
  unfold poT
  rw [List.length_map]
theorem it_keys_po (ns : List Str) (p : Ps) : itD .keys [poD ns p] = some (ns.map .str) := by
  show some ((embS (poT ns p)).map fun e => kD e.1) = _
  unfold embS poT
  rw [List.map_map, List.map_map]
  rfl
section
variable {md : Md} {r : Nat → Ep → Sm} {ns : List Str} {kt : List (List Key × D)} {kf : Str → Str → Int}
theorem isPos_c (G : GM md r) (h0 : md.fns[0]? = some B.f0) (h20 : md.fns[20]? = some B.f20) (k : Nat) (p : Ps) : callI md (k + 2) 20 [.d (gD ns kt), .d (poD ns p)] = pur (.d (.bl true)) := by
  funext m
  have np := nodes_p (ns := ns) (kt := kt) G k
  have c16 := cls_g (ns := ns) (kt := kt) 16 (by decide) (by decide)
  have c12 := cls_g (ns := ns) (kt := kt) 12 (by decide) (by decide)
  have lc := lc_all (f := lcB md (callI md (k + 1)) [some (.d (gD ns kt)), some (.d (poD ns p)), none] [2] (.nm 2) [] (.and_ (.meth 12 (.v 0) [(.v 2)]) (.call 0 [(.sub (.v 1) (.v 2))]))) D.str (fun _ => .bl true) ns (by
    intro x hx
    have hn : callI md (k + 1) 29 [.d (gD ns kt), .d (.str x)] = pur (.d (.bl (decide (x ∈ ns)))) := funext fun m => has_node G k x .fr
    have ii := isInt_c h0 k (p x)
    simp only [e_v, e_k, e_gc, e_ccon, e_bin, e_neg, e_not, e_cmp, e_chain, e_and, e_or, e_ife, e_call, e_mk, e_mkM, e_meth, e_attr, e_prop, e_bi, e_lenset, e_isi, e_bm, e_sub, e_sl, e_rev, e_lst, e_tup, e_dct0, e_lc, e_dc, e_scut, e_semp, es_nil, es_cons, et_nil, et_cons, x_asg, x_asgM, x_asgT, x_par, x_setI, x_setF, x_setW, x_mm, x_ex, x_ret, x_retN, x_if, x_for, x_while, x_aug, x_pass, x_brk, x_cnt, x_nv, x_nil, x_cons, t_ev, c_o, sl_0, sl_s, rv_d, rv_c, rv_s, w_d, w_o, ws_nil, ws_cons, f_d, f_o, fs_nil, fs_cons, a_d, a_o, a_c, as_nil, as_cons, rd_some, tr_bl, tr_non, tr_int, tr_lst, tr_tup, c_d, c_c, v_rv, ↓bnd_r, ↓sM_r', bR_ok, sR_ok, pur_r, newM_r, ofO_some, grd_t, nn_v, nn_bin, nn_neg, nn_kn, nn_ki, nn_sub, nn_bi, in_m, mk_app, mk_ext, mk_rev, bk_get1, bk_get2, bk_get1k, bk_get2k, slE_t, slE_f, bnd_pur, st_nm, st_2, st_2l, wp_nil, wp_1, wp_2, fm_nil, fm_cons, List.set_cons_zero, List.set_cons_succ, nrz_pur, nrz_r, nR_ok, start_s, tn_, decide_true, decide_false, Bool.not_true, Bool.not_false, eq_self, ↓reduceIte, List.map_cons, List.map_nil, lc_b, c12, G.m12, hn, hx, sub_po hx, ii])
  have is : isiM md [.tdict] (.d (poD ns p)) = pur (.d (.bl true)) := rfl
  have lt : biD .len [.tup (ns.map D.str)] = some (.d (.int (ns.length : Nat))) := by rw [len_t, List.length_map]
  rw [callI_some h20 rfl]
  refine bodyM_rt0 ?_
  show exs md (callI md (k + 1)) B.f20.body [some (.d (gD ns kt)), some (.d (poD ns p)), none] m = _
  simp only [e_v, e_k, e_gc, e_ccon, e_bin, e_neg, e_not, e_cmp, e_chain, e_and, e_or, e_ife, e_call, e_mk, e_mkM, e_meth, e_attr, e_prop, e_bi, e_lenset, e_isi, e_bm, e_sub, e_sl, e_rev, e_lst, e_tup, e_dct0, e_lc, e_dc, e_scut, e_semp, es_nil, es_cons, et_nil, et_cons, x_asg, x_asgM, x_asgT, x_par, x_setI, x_setF, x_setW, x_mm, x_ex, x_ret, x_retN, x_if, x_for, x_while, x_aug, x_pass, x_brk, x_cnt, x_nv, x_nil, x_cons, t_ev, c_o, sl_0, sl_s, rv_d, rv_c, rv_s, w_d, w_o, ws_nil, ws_cons, f_d, f_o, fs_nil, fs_cons, a_d, a_o, a_c, as_nil, as_cons, rd_some, tr_bl, tr_non, tr_int, tr_lst, tr_tup, c_d, c_c, v_rv, ↓bnd_r, ↓sM_r', bR_ok, sR_ok, pur_r, newM_r, ofO_some, grd_t, nn_v, nn_bin, nn_neg, nn_kn, nn_ki, nn_sub, nn_bi, in_m, mk_app, mk_ext, mk_rev, bk_get1, bk_get2, bk_get1k, bk_get2k, slE_t, slE_f, bnd_pur, st_nm, st_2, st_2l, wp_nil, wp_1, wp_2, fm_nil, fm_cons, List.set_cons_zero, List.set_cons_succ, nrz_pur, nrz_r, nR_ok, start_s, tn_, decide_true, decide_false, Bool.not_true, Bool.not_false, eq_self, ↓reduceIte, List.map_cons, List.map_nil, B.f20, is, len_po, c16, G.p16, np, lt, cmp_ne', eq_int, Option.map_some, it_keys_po, lc, all_true]
theorem reqPos_c (G : GM md r) (h0 : md.fns[0]? = some B.f0) (h20 : md.fns[20]? = some B.f20) (h21 : md.fns[21]? = some (B.f21 r)) (k : Nat) (p : Ps) : callI md (k + 3) 21 [.d (gD ns kt), .d (poD ns p)] = pur (.d .non) := by
  funext m
  have ip := isPos_c (ns := ns) (kt := kt) G h0 h20 k p
  rw [callI_some h21 rfl]
  refine bodyM_nx (s := [some (.d (gD ns kt)), some (.d (poD ns p))]) (x := []) ?_
  rw [List.append_nil]
  show exs md (callI md (k + 2)) (B.f21 r).body [some (.d (gD ns kt)), some (.d (poD ns p))] m = _
  simp only [e_v, e_k, e_gc, e_ccon, e_bin, e_neg, e_not, e_cmp, e_chain, e_and, e_or, e_ife, e_call, e_mk, e_mkM, e_meth, e_attr, e_prop, e_bi, e_lenset, e_isi, e_bm, e_sub, e_sl, e_rev, e_lst, e_tup, e_dct0, e_lc, e_dc, e_scut, e_semp, es_nil, es_cons, et_nil, et_cons, x_asg, x_asgM, x_asgT, x_par, x_setI, x_setF, x_setW, x_mm, x_ex, x_ret, x_retN, x_if, x_for, x_while, x_aug, x_pass, x_brk, x_cnt, x_nv, x_nil, x_cons, t_ev, c_o, sl_0, sl_s, rv_d, rv_c, rv_s, w_d, w_o, ws_nil, ws_cons, f_d, f_o, fs_nil, fs_cons, a_d, a_o, a_c, as_nil, as_cons, rd_some, tr_bl, tr_non, tr_int, tr_lst, tr_tup, c_d, c_c, v_rv, ↓bnd_r, ↓sM_r', bR_ok, sR_ok, pur_r, newM_r, ofO_some, grd_t, nn_v, nn_bin, nn_neg, nn_kn, nn_ki, nn_sub, nn_bi, in_m, mk_app, mk_ext, mk_rev, bk_get1, bk_get2, bk_get1k, bk_get2k, slE_t, slE_f, bnd_pur, st_nm, st_2, st_2l, wp_nil, wp_1, wp_2, fm_nil, fm_cons, List.set_cons_zero, List.set_cons_succ, nrz_pur, nrz_r, nR_ok, start_s, tn_, decide_true, decide_false, Bool.not_true, Bool.not_false, eq_self, ↓reduceIte, List.map_cons, List.map_nil, B.f21, ip]
theorem run_c (G : GW4 md r) (h0 : md.fns[0]? = some B.f0) (h20 : md.fns[20]? = some B.f20) (h21 : md.fns[21]? = some (B.f21 r)) (h3 : md.fns[3]? = some B.f3) (h4 : md.fns[4]? = some B.f4) (h42 : md.fns[42]? = some B.f42) (k : Nat) (on : OkNs ns) (K : OkK kf) (hk : Gr ns kt kf) (p : Ps) {x : D} {w : List Str} (hx : Sq x (w.map .str)) (hw : ∀ y ∈ w, y ∈ ns) : callI md (k + 5) 42 [.d (gD ns kt), .d (poD ns p), .d x] = pur (.d (poD ns (go kf p w))) := by
  funext m
  have c0 := reqPos_c (ns := ns) (kt := kt) G.toGM h0 h20 h21 (k + 1) p
  have c1 := word_c G.toGM G.h39 G.h41 (k + 1) hx hw (GS.fr : GS ns kt (.d (gD ns kt)) m)
  have c3 := after_c G.toGM h3 h4 k on K hk p hx hw
  rw [callI_some h42 rfl]
  refine bodyM_rt0 ?_
  show exs md (callI md (k + 4)) B.f42.body [some (.d (gD ns kt)), some (.d (poD ns p)), some (.d x)] m = _
  simp only [e_v, e_k, e_gc, e_ccon, e_bin, e_neg, e_not, e_cmp, e_chain, e_and, e_or, e_ife, e_call, e_mk, e_mkM, e_meth, e_attr, e_prop, e_bi, e_lenset, e_isi, e_bm, e_sub, e_sl, e_rev, e_lst, e_tup, e_dct0, e_lc, e_dc, e_scut, e_semp, es_nil, es_cons, et_nil, et_cons, x_asg, x_asgM, x_asgT, x_par, x_setI, x_setF, x_setW, x_mm, x_ex, x_ret, x_retN, x_if, x_for, x_while, x_aug, x_pass, x_brk, x_cnt, x_nv, x_nil, x_cons, t_ev, c_o, sl_0, sl_s, rv_d, rv_c, rv_s, w_d, w_o, ws_nil, ws_cons, f_d, f_o, fs_nil, fs_cons, a_d, a_o, a_c, as_nil, as_cons, rd_some, tr_bl, tr_non, tr_int, tr_lst, tr_tup, c_d, c_c, v_rv, ↓bnd_r, ↓sM_r', bR_ok, sR_ok, pur_r, newM_r, ofO_some, grd_t, nn_v, nn_bin, nn_neg, nn_kn, nn_ki, nn_sub, nn_bi, in_m, mk_app, mk_ext, mk_rev, bk_get1, bk_get2, bk_get1k, bk_get2k, slE_t, slE_f, bnd_pur, st_nm, st_2, st_2l, wp_nil, wp_1, wp_2, fm_nil, fm_cons, List.set_cons_zero, List.set_cons_succ, nrz_pur, nrz_r, nR_ok, start_s, tn_, decide_true, decide_false, Bool.not_true, Bool.not_false, eq_self, ↓reduceIte, List.map_cons, List.map_nil, B.f42, c0, c1, dict_dK, c3]
end
/-! ### three truth values shown -/
def ShowOk (x : D) : Prop := pln x = true ∧ (py x).showable = true ∧ (py x).depth ≤ 60 ∧ (py x).shown.length ≤ 16777216 ∧ (py x).canLay0 = true ∧ (py x).hasDict = false
theorem repr_of {x : D} (h : ShowOk x) : biD .repr_ [x] = some (.d (.str (py x).shown)) := if_pos h
theorem show3 (b : Bool) : ∃ s, strOk s = true ∧ biD .repr_ [.lst [.bl b, .bl b, .bl b]] = some (.d (.str s)) := by
  cases b
  · exact ⟨_, by decide +kernel, repr_of (x := .lst [.bl false, .bl false, .bl false]) (by unfold ShowOk; decide +kernel)⟩
  · exact ⟨_, by decide +kernel, repr_of (x := .lst [.bl true, .bl true, .bl true]) (by unfold ShowOk; decide +kernel)⟩
end Fw

/-! C3: unit positions tell effects. -/
namespace Fw.Cox
open PySem
section
variable {k : Str → Str → Int}
/-- only the numbers of the nodes matter -/
theorem go_congr {N : List Str} : ∀ (w : List Str) (p q : Ps), (∀ y ∈ w, y ∈ N) → (∀ x ∈ N, p x = q x) → ∀ x ∈ N, go k p w x = go k q w x
  | [], p, q, _, h, x, hx => h x hx
  | s :: w, p, q, hw, h, x, hx => by
    rw [go_cons, go_cons]
    refine go_congr w _ _ (fun y hy => hw y (List.mem_cons_of_mem _ hy)) (fun y hy => ?_) x hx
    have hs := h s (hw s (List.mem_cons_self ..))
    by_cases e : y = s
    · rw [e, fl_s, fl_s, hs]
    · rw [fl_n _ e, fl_n _ e, hs, h y hy]
/-- a position put together of unit positions -/
def sumP (p : Ps) : List Str → Ps
  | [] => fun _ => 0
  | s :: r => fun t => p s * dl s t + 1 * sumP p r t
theorem sumP_out (p : Ps) : ∀ (l : List Str) (t : Str), t ∉ l → sumP p l t = 0
  | [], _, _ => rfl
  | s :: r, t, h => by
    have h1 : t ≠ s := fun e => h (by rw [e]; exact List.mem_cons_self ..)
    have h2 := sumP_out p r t fun q => h (List.mem_cons_of_mem _ q)
    show p s * dl s t + 1 * sumP p r t = 0
    unfold dl
    rw [if_neg h1, h2]
    omega
theorem sumP_in (p : Ps) : ∀ (l : List Str) (t : Str), l.Nodup → t ∈ l → sumP p l t = p t
  | s :: r, t, nd, h => by
    rw [List.nodup_cons] at nd
    show p s * dl s t + 1 * sumP p r t = p t
    unfold dl
    by_cases e : t = s
    · rw [if_pos e, e, sumP_out p r s nd.1]
      omega
    · rw [if_neg e, sumP_in p r t nd.2 ((List.mem_cons.mp h).resolve_left e)]
      omega
theorem go_zero : ∀ (w : List Str) (t : Str), go k (fun _ => 0) w t = 0 := by
  intro w t
  have h := go_lin (k := k) 0 0 w (fun _ => 0) (fun _ => 0)
  have e : (fun t : Str => (0 : Int) * (fun _ => 0) t + 0 * (fun _ => 0) t) = fun _ : Str => (0 : Int) := funext fun _ => rfl
  rw [e] at h
  rw [h]
  simp
theorem go_sum {u v : List Str} {t : Str} (p : Ps) : ∀ (l : List Str), (∀ s ∈ l, go k (dl s) u t = go k (dl s) v t) → go k (sumP p l) u t = go k (sumP p l) v t
  | [], _ => by
    show go k (fun _ => 0) u t = go k (fun _ => 0) v t
    rw [go_zero, go_zero]
  | s :: r, h => by
    show go k (fun t => p s * dl s t + 1 * sumP p r t) u t = go k (fun t => p s * dl s t + 1 * sumP p r t) v t
    rw [go_lin, go_lin]
    simp only [h s (List.mem_cons_self ..), go_sum p r fun a ha => h a (List.mem_cons_of_mem _ ha)]
theorem units {N : List Str} (nd : N.Nodup) {u v : List Str} (hu : ∀ y ∈ u, y ∈ N) (hv : ∀ y ∈ v, y ∈ N) (h : ∀ s ∈ N, ∀ t ∈ N, go k (dl s) u t = go k (dl s) v t) (p : Ps) : ∀ t ∈ N, go k p u t = go k p v t := by
  intro t ht
  have e : ∀ x ∈ N, p x = sumP p N x := fun x hx => (sumP_in p N x nd hx).symm
  rw [go_congr u p _ hu e t ht, go_congr v p _ hv e t ht]
  exact go_sum p N fun s hs => h s hs t ht
end
end Fw.Cox

namespace Fw.k12
open PySem PySem.Spec PyProof.Rows L2 Fw
def r : Nat → Ep → Sm := nvS
/-- is_integer -/
abbrev f0 : Fd := B.f0
/-- unit_position -/
abbrev f2 : Fd := B.f2
/-- flipped -/
abbrev f3 : Fd := B.f3
/-- after -/
abbrev f4 : Fd := B.f4
/-- is_position -/
abbrev f20 : Fd := B.f20
/-- require_position -/
abbrev f21 : Fd := B.f21 r
/-- is_node -/
abbrev f24 : Fd := B.f24
/-- are_nodes -/
abbrev f25 : Fd := B.f25
/-- Graph.__init__ -/
abbrev f26 : Fd := B.f26 r
/-- Graph.add_pairs -/
abbrev f27 : Fd := B.f27 r
/-- Graph.is_new_pair -/
abbrev f28 : Fd := B.f28
/-- Graph.has_node -/
abbrev f29 : Fd := B.f29
/-- Graph.pairs_of -/
abbrev f30 : Fd := B.f30
/-- Graph.nodes -/
abbrev f33 : Fd := B.f33
/-- Graph.near -/
abbrev f34 : Fd := B.f34
/-- Graph.free -/
abbrev f35 : Fd := B.f35
/-- Graph.kind -/
abbrev f36 : Fd := B.f36 r
/-- Graph.__eq__ -/
abbrev f38 : Fd := B.f38
/-- first_unknown -/
abbrev f39 : Fd := B.f39
/-- require_word -/
abbrev f41 : Fd := B.f41 r
/-- run -/
abbrev f42 : Fd := B.f42
/-- position_of -/
abbrev f44 : Fd := B.f44
/-- same -/
abbrev f51 : Fd := B.f51
/-- _law_numbers -/
abbrev f145 : Fd := B.f145
/-- _law_pairs -/
abbrev f146 : Fd := B.f146
/-- _law_graph_of -/
abbrev f147 : Fd := B.f147
/-- _law_flip -/
abbrev f148 : Fd := B.f148
/-- _law_after -/
abbrev f149 : Fd := B.f149
/-- _law_ones -/
abbrev f150 : Fd := B.f150
/-- _law_flips -/
abbrev f151 : Fd := B.f151
/-- _law_named -/
abbrev f152 : Fd := B.f152
/-- _law_exchanged -/
abbrev f159 : Fd := B.f159
/-- _law_step -/
abbrev f160 : Fd := B.f160
/-- _law_table -/
def f180 : Fd := ⟨3, 7, [.asgM 3 (.lst []), .for_ (.nm 4) .seq [(.v 1)] [.asg 5 (.call 149 [(.v 0), (.v 1), (.bi .dict_ [(.lc [6] (.nm 6) .seq [(.v 1)] [] (.tup [(.v 6), (.bi .int_ [(.cmp .eq (.v 6) (.v 4))])]))]), (.v 2)]), .mm .append (.v 3) [(.lc [6] (.nm 6) .seq [(.v 1)] [] (.sub (.v 5) (.v 6)))]], .ret (.v 3)]⟩
/-- _law_turned -/
def f181 : Fd := ⟨4, 8, [.for_ (.nm 4) .rng [(.k (.int 6))] [.par 5 6 false false (.call 159 [(.v 1), (.v 3)]) (.bin .mod (.sub (.v 0) (.v 4)) (.bin .add (.bi .len [(.v 3)]) (.k (.int 1)))), .if_ (.cmp .ne (.v 5) (.lst [])) [.asg 3 (.sub (.v 5) (.bin .mod (.sub (.v 0) (.v 4)) (.bi .len [(.v 5)])))] [], .if_ (.cmp .eq (.bin .mod (.sub (.v 0) (.v 4)) (.k (.int 5))) (.k (.int 0))) [.asg 7 (.sub (.v 2) (.bin .mod (.bin .fdiv (.sub (.v 0) (.v 4)) (.k (.int 5))) (.bi .len [(.v 2)]))), .asg 3 (.bin .add (.bin .add (.sl (.v 3) (.k .non) (.v 6)) (.lst [(.v 7), (.v 7)])) (.sl (.v 3) (.v 6) (.k .non)))] []], .ret (.v 3)]⟩
/-- law -/
def f182 : Fd := ⟨1, 16, [.for_ (.tp [1, 2]) .enum_ [(.bin .add (.scut 0 4) (.bin .mul (.lst [(.k (.int 7))]) (.bi .int_ [(.semp 0)])))] [.asg 3 (.call 145 [(.v 2), (.bin .add (.k (.int 1200)) (.v 1)), (.bin .mul (.lst [(.k (.int 420))]) (.k (.int 70)))]), .asg 4 (.call 152 [(.bin .add (.k (.int 1)) (.bin .mod (.sub (.v 3) (.k (.int 0))) (.k (.int 6))))]), .asg 5 (.call 146 [(.sl (.v 3) (.k (.int 1)) (.k (.int 16))), (.bi .len [(.v 4)]), (.lst [(.k (.int 0)), (.k (.int 1)), (.k (.int 1)), (.k (.int 0)), (.k (.int 0)), (.k (.int 1)), (.k (.int 2))])]), .par 6 7 false false (.call 147 [(.v 5), (.v 4)]) (.call 151 [(.sl (.v 3) (.k (.int 16)) (.k .non)), (.v 4), (.k (.int 12))]), .asg 8 (.call 151 [(.sl (.v 3) (.k (.int 30)) (.k .non)), (.v 4), (.k (.int 5))]), .asg 9 (.lst [(.v 7), (.call 181 [(.sl (.v 3) (.k (.int 40)) (.k .non)), (.v 5), (.v 4), (.v 7)]), (.call 151 [(.sl (.v 3) (.k (.int 46)) (.k .non)), (.v 4), (.k (.int 12))]), (.bin .add (.v 7) (.v 8))]), .asg 9 (.bin .add (.v 9) (.lst [(.bin .add (.bin .add (.v 7) (.v 8)) (.rev (.v 8))), (.sl (.v 7) (.k (.int 1)) (.k .non)), (.rev (.v 7)), (.lst []), (.bin .add (.v 7) (.v 7)), (.bin .add (.v 8) (.v 7))])), .asg 10 (.bi .dict_ [(.lc [14, 15] (.tp [14, 15]) .enum_ [(.v 4)] [] (.tup [(.v 15), (.bin .sub (.sub (.v 3) (.bin .add (.k (.int 60)) (.v 14))) (.k (.int 200)))]))]), .for_ (.nm 11) .seq [(.v 9)] [.asg 12 (.cmp .eq (.call 180 [(.v 5), (.v 4), (.v 7)]) (.call 180 [(.v 5), (.v 4), (.v 11)])), .asgM 13 (.lst [(.call 51 [(.v 6), (.v 7), (.v 11)]), (.call 51 [(.v 6), (.bi .tuple_ [(.v 11)]), (.v 7)])]), .mm .append (.v 13) [(.cmp .eq (.call 44 [(.v 6), (.v 7)]) (.call 44 [(.v 6), (.v 11)]))], .if_ (.cmp .ne (.bi .repr_ [(.v 13)]) (.bi .repr_ [(.bin .mul (.lst [(.v 12)]) (.k (.int 3)))])) [.ret (.k (.bl false))] [], .if_ (.and_ (.v 12) (.cmp .ne (.call 42 [(.v 6), (.v 10), (.v 7)]) (.call 42 [(.v 6), (.v 10), (.v 11)]))) [.ret (.k (.bl false))] [], .if_ (.cmp .ne (.call 44 [(.v 6), (.v 11)]) (.call 149 [(.v 5), (.v 4), (.call 150 [(.v 4)]), (.v 11)])) [.ret (.k (.bl false))] []]], .ret (.k (.bl true))]⟩
def wl : Fd := ⟨1, 1, [.nv]⟩
def md : Md := ⟨[f0, wl, f2, f3, f4, wl, wl, wl, wl, wl, wl, wl, wl, wl, wl, wl, wl, wl, wl, wl, f20, f21, wl, wl, f24, f25, f26, f27, f28, f29, f30, wl, wl, f33, f34, f35, f36, wl, f38, f39, wl, f41, f42, wl, f44, wl, wl, wl, wl, wl, wl, f51, wl, wl, wl, wl, wl, wl, wl, wl, wl, wl, wl, wl, wl, wl, wl, wl, wl, wl, wl, wl, wl, wl, wl, wl, wl, wl, wl, wl, wl, wl, wl, wl, wl, wl, wl, wl, wl, wl, wl, wl, wl, wl, wl, wl, wl, wl, wl, wl, wl, wl, wl, wl, wl, wl, wl, wl, wl, wl, wl, wl, wl, wl, wl, wl, wl, wl, wl, wl, wl, wl, wl, wl, wl, wl, wl, wl, wl, wl, wl, wl, wl, wl, wl, wl, wl, wl, wl, wl, wl, wl, wl, wl, wl, f145, f146, f147, f148, f149, f150, f151, f152, wl, wl, wl, wl, wl, wl, f159, f160, wl, wl, wl, wl, wl, wl, wl, wl, wl, wl, wl, wl, wl, wl, wl, wl, wl, wl, wl, f180, f181, f182], [((0, 0), 26), ((0, 10), 27), ((0, 11), 28), ((0, 12), 29), ((0, 13), 30), ((0, 19), 36), ((0, 21), 38)], [(5, [4]), (6, [4]), (7, [4])], [(5, 1), (6, 2), (7, 3), (13, 6)], [(4, ["Exception", "BaseException", "object"]), (5, ["Exception", "BaseException", "object"]), (6, ["Exception", "BaseException", "object"]), (7, ["Exception", "BaseException", "object"]), (13, ["KeyError", "LookupError", "Exception", "BaseException", "object"])], [(0, 22), (0, 23)], [((0, 16), 33), ((0, 17), 34), ((0, 18), 35)], 1⟩
def lawF : Nat := 182
end Fw.k12

/-! K12: equal effects. -/
namespace Fw.k12
open PySem L2 Fw
open PySem.PyData (strOk)
open Fw.Cox (Ps fl go OkK dl)
theorem gm : GM md nvS := ⟨rfl, rfl, rfl, rfl, rfl, rfl, rfl, rfl, rfl, rfl, rfl, rfl, by decide, by decide, rfl, by decide⟩
theorem gw : GW4 md nvS := ⟨gm, rfl, rfl⟩
theorem h0 : md.fns[0]? = some B.f0 := rfl
theorem h2 : md.fns[2]? = some B.f2 := rfl
theorem h3 : md.fns[3]? = some B.f3 := rfl
theorem h4 : md.fns[4]? = some B.f4 := rfl
theorem h20 : md.fns[20]? = some B.f20 := rfl
theorem h21 : md.fns[21]? = some (B.f21 nvS) := rfl
theorem h42 : md.fns[42]? = some B.f42 := rfl
theorem h44 : md.fns[44]? = some B.f44 := rfl
theorem h51 : md.fns[51]? = some B.f51 := rfl
theorem h145 : md.fns[145]? = some B.f145 := rfl
theorem h146 : md.fns[146]? = some B.f146 := rfl
theorem h147 : md.fns[147]? = some B.f147 := rfl
theorem h148 : md.fns[148]? = some B.f148 := rfl
theorem h149 : md.fns[149]? = some B.f149 := rfl
theorem h150 : md.fns[150]? = some B.f150 := rfl
theorem h151 : md.fns[151]? = some B.f151 := rfl
theorem h152 : md.fns[152]? = some B.f152 := rfl
theorem h159 : md.fns[159]? = some B.f159 := rfl
theorem h180 : md.fns[180]? = some f180 := rfl
theorem h181 : md.fns[181]? = some f181 := rfl
theorem h182 : md.fns[182]? = some f182 := rfl
/-- the law's table: each unit position behind a word -/
def rowD (kf : Str → Str → Int) (N w : List Str) (s : Str) : D := .lst (N.map fun t => .int (go kf (dl s) w t))
def tabD (kf : Str → Str → Int) (N w : List Str) : D := .lst (N.map (rowD kf N w))
section
variable {kf : Str → Str → Int} {N : List Str} {T : PT}
theorem row_cln (w : List Str) (s : Str) : cln (rowD kf N w s) = true ∧ dep (rowD kf N w s) ≤ 1 := by
  unfold rowD
  constructor
  · simp only [cln]
    exact clns_of fun x hx => by
      obtain ⟨t, _, rfl⟩ := List.mem_map.mp hx
      rfl
  · simp only [dep]
    exact Nat.succ_le_succ (deps_of fun x hx => by
      obtain ⟨t, _, rfl⟩ := List.mem_map.mp hx
      exact Nat.le_refl _)
theorem tab_cln (w : List Str) : cln (tabD kf N w) = true ∧ dep (tabD kf N w) ≤ 2 := by
  unfold tabD
  constructor
  · simp only [cln]
    exact clns_of fun x hx => by
      obtain ⟨t, _, rfl⟩ := List.mem_map.mp hx
      exact (row_cln w t).1
  · simp only [dep]
    exact Nat.succ_le_succ (deps_of fun x hx => by
      obtain ⟨t, _, rfl⟩ := List.mem_map.mp hx
      exact (row_cln w t).2)
theorem map_inj {α β : Type} {f g : α → β} : ∀ {l : List α}, l.map f = l.map g ↔ ∀ x ∈ l, f x = g x
  | [] => ⟨fun _ x hx => (by cases hx), fun _ => rfl⟩
  | a :: r => by
    rw [List.map_cons, List.map_cons, List.cons.injEq, map_inj]
    constructor
    · rintro ⟨h1, h2⟩ x hx
      rcases List.mem_cons.mp hx with rfl | hx
      · exact h1
      · exact h2 x hx
    · exact fun h => ⟨h a (List.mem_cons_self ..), fun x hx => h x (List.mem_cons_of_mem _ hx)⟩
theorem eq_tab (u w : List Str) : eqD (tabD kf N u) (tabD kf N w) = some (decide (∀ s ∈ N, ∀ t ∈ N, go kf (dl s) u t = go kf (dl s) w t)) := by
  classical
  rw [eqD_cln (tab_cln u).1 (tab_cln w).1 (Nat.le_trans (tab_cln u).2 (by decide)) (Nat.le_trans (tab_cln w).2 (by decide))]
  congr 1
  refine decide_eq_decide.mpr ?_
  unfold tabD rowD
  rw [D.lst.injEq, map_inj]
  constructor
  · intro h s hs t ht
    have := h s hs
    rw [D.lst.injEq, map_inj] at this
    exact D.int.inj (this t ht)
  · intro h s hs
    rw [D.lst.injEq, map_inj]
    exact fun t ht => by rw [h s hs t ht]
theorem same_iff (I : GI N T kf) {u w : List Str} (hu : ∀ y ∈ u, y ∈ N) (hw : ∀ y ∈ w, y ∈ N) : (∀ s ∈ N, ∀ t ∈ N, go kf (dl s) u t = go kf (dl s) w t) ↔ ∀ x ∈ N, go kf Fw.Cox.ones u x = go kf Fw.Cox.ones w x := by
  constructor
  · exact fun h x hx => Fw.Cox.units I.on.nd hu hw h Fw.Cox.ones x hx
  · intro h s _ t _
    have := Fw.Cox.faithN I.ok I.kn hu hw h
    rw [this]
theorem table_c (k : Nat) (I : GI N T kf) {w : List Str} (hw : ∀ y ∈ w, y ∈ N) : callI md (k + 3) 180 [.d (.dT (emb T)), .d (wD N), .d (wD w)] = pur (.o (tabD kf N w)) := by
  funext m
  have ln : N.length ≤ 12 := I.on.le
  obtain ⟨s', m', e, h'⟩ := for_all (f := turnM md (callI md (k + 2)) (.nm 4) [.asg 5 (.call 149 [(.v 0), (.v 1), (.bi .dict_ [(.lc [6] (.nm 6) .seq [(.v 1)] [] (.tup [(.v 6), (.bi .int_ [(.cmp .eq (.v 6) (.v 4))])]))]), (.v 2)]), .mm .append (.v 3) [(.lc [6] (.nm 6) .seq [(.v 1)] [] (.sub (.v 5) (.v 6)))]]) (items := N.map .str)
    (fun i s m' => m' = m ++ [.fl (.lst ((N.take i).map (rowD kf N w)))] ∧ ∃ a b, s = [some (.d (.dT (emb T))), some (.d (wD N)), some (.d (wD w)), some (.c m.length), a, b, none]) (s := [some (.d (.dT (emb T))), some (.d (wD N)), some (.d (wD w)), some (.c m.length), none, none, none]) (m := m ++ [.fl (.lst [])]) ⟨rfl, none, none, rfl⟩
    (by
      rintro i y s m' hy ⟨rfl, a, b, rfl⟩
      rw [List.getElem?_map, Option.map_eq_some_iff] at hy
      obtain ⟨t, ht, rfl⟩ := hy
      have mt := List.mem_of_getElem? ht
      have li := (List.getElem?_eq_some_iff.mp ht).1
      have lc1 := lc_all (f := lcB md (callI md (k + 2)) [some (.d (.dT (emb T))), some (.d (wD N)), some (.d (wD w)), some (.c m.length), some (.d (.str t)), b, none] [6] (.nm 6) [] (.tup [(.v 6), (.bi .int_ [(.cmp .eq (.v 6) (.v 4))])])) D.str (fun x => .tup [.str x, .int (dl t x)]) N (by
        intro x hx
        have ex := eq_str (I.on.ok x hx) (I.on.ok t mt)
        have dx : (if decide (x = t) = true then (1 : Int) else 0) = dl t x := by
          unfold Fw.Cox.dl
          by_cases q : x = t <;> simp [q]
        simp only [e_v, e_k, e_gc, e_ccon, e_bin, e_neg, e_not, e_cmp, e_chain, e_and, e_or, e_ife, e_call, e_mk, e_mkM, e_meth, e_attr, e_prop, e_bi, e_lenset, e_isi, e_bm, e_sub, e_sl, e_rev, e_lst, e_tup, e_dct0, e_lc, e_dc, e_scut, e_semp, es_nil, es_cons, et_nil, et_cons, x_asg, x_asgM, x_asgT, x_par, x_setI, x_setF, x_setW, x_mm, x_ex, x_ret, x_retN, x_if, x_for, x_while, x_aug, x_pass, x_brk, x_cnt, x_nv, x_nil, x_cons, t_ev, c_o, sl_0, sl_s, rv_d, rv_c, rv_s, w_d, w_o, ws_nil, ws_cons, f_d, f_o, fs_nil, fs_cons, a_d, a_o, a_c, as_nil, as_cons, rd_some, tr_bl, tr_non, tr_int, tr_lst, tr_tup, c_d, c_c, v_rv, ↓bnd_r, ↓sM_r', bR_ok, sR_ok, pur_r, newM_r, ofO_some, grd_t, nn_v, nn_bin, nn_neg, nn_kn, nn_ki, nn_sub, nn_bi, in_m, mk_app, mk_ext, mk_rev, bk_get1, bk_get2, bk_get1k, bk_get2k, slE_t, slE_f, bnd_pur, st_nm, st_2, st_2l, wp_nil, wp_1, wp_2, fm_nil, fm_cons, List.set_cons_zero, List.set_cons_succ, nrz_pur, nrz_r, nR_ok, start_s, tn_, decide_true, decide_false, Bool.not_true, Bool.not_false, eq_self, ↓reduceIte, List.map_cons, List.map_nil, lc_b, cmp_eq', ex, bi_int_b]
        rw [← dx])
      have dp := dict_po I.on.nd (by omega) (dl t)
      have la := lawAfter_c h149 h148 k I.on I.ok I.kd (dl t) hw
      have lc2 := lc_all (f := lcB md (callI md (k + 2)) [some (.d (.dT (emb T))), some (.d (wD N)), some (.d (wD w)), some (.c m.length), some (.d (.str t)), some (.d (poD N (go kf (dl t) w))), none] [6] (.nm 6) [] (.sub (.v 5) (.v 6))) D.str (fun x => .int (go kf (dl t) w x)) N (by
        intro x hx
        simp only [e_v, e_k, e_gc, e_ccon, e_bin, e_neg, e_not, e_cmp, e_chain, e_and, e_or, e_ife, e_call, e_mk, e_mkM, e_meth, e_attr, e_prop, e_bi, e_lenset, e_isi, e_bm, e_sub, e_sl, e_rev, e_lst, e_tup, e_dct0, e_lc, e_dc, e_scut, e_semp, es_nil, es_cons, et_nil, et_cons, x_asg, x_asgM, x_asgT, x_par, x_setI, x_setF, x_setW, x_mm, x_ex, x_ret, x_retN, x_if, x_for, x_while, x_aug, x_pass, x_brk, x_cnt, x_nv, x_nil, x_cons, t_ev, c_o, sl_0, sl_s, rv_d, rv_c, rv_s, w_d, w_o, ws_nil, ws_cons, f_d, f_o, fs_nil, fs_cons, a_d, a_o, a_c, as_nil, as_cons, rd_some, tr_bl, tr_non, tr_int, tr_lst, tr_tup, c_d, c_c, v_rv, ↓bnd_r, ↓sM_r', bR_ok, sR_ok, pur_r, newM_r, ofO_some, grd_t, nn_v, nn_bin, nn_neg, nn_kn, nn_ki, nn_sub, nn_bi, in_m, mk_app, mk_ext, mk_rev, bk_get1, bk_get2, bk_get1k, bk_get2k, slE_t, slE_f, bnd_pur, st_nm, st_2, st_2l, wp_nil, wp_1, wp_2, fm_nil, fm_cons, List.set_cons_zero, List.set_cons_succ, nrz_pur, nrz_r, nR_ok, start_s, tn_, decide_true, decide_false, Bool.not_true, Bool.not_false, eq_self, ↓reduceIte, List.map_cons, List.map_nil, lc_b, sub_po hx])
      have ps := push_end (m := m) (xs := (N.take i).map (rowD kf N w)) (x := rowD kf N w t) (by rw [List.length_map, List.length_take]; omega)
      have vw := view_end m (.lst ((N.take i).map (rowD kf N w))) []
      have it : itD .seq [wD N] = some (N.map .str) := rfl
      have tk : (N.take (i + 1)).map (rowD kf N w) = (N.take i).map (rowD kf N w) ++ [rowD kf N w t] := by rw [List.take_add_one, ht, List.map_append]; rfl
      refine ⟨[some (.d (.dT (emb T))), some (.d (wD N)), some (.d (wD w)), some (.c m.length), some (.d (.str t)), some (.d (poD N (go kf (dl t) w))), none], m ++ [.fl (.lst ((N.take (i + 1)).map (rowD kf N w)))], .inl ?_, rfl, _, _, rfl⟩
      rw [tk]
      unfold rowD at ps vw ⊢
      simp only [e_v, e_k, e_gc, e_ccon, e_bin, e_neg, e_not, e_cmp, e_chain, e_and, e_or, e_ife, e_call, e_mk, e_mkM, e_meth, e_attr, e_prop, e_bi, e_lenset, e_isi, e_bm, e_sub, e_sl, e_rev, e_lst, e_tup, e_dct0, e_lc, e_dc, e_scut, e_semp, es_nil, es_cons, et_nil, et_cons, x_asg, x_asgM, x_asgT, x_par, x_setI, x_setF, x_setW, x_mm, x_ex, x_ret, x_retN, x_if, x_for, x_while, x_aug, x_pass, x_brk, x_cnt, x_nv, x_nil, x_cons, t_ev, c_o, sl_0, sl_s, rv_d, rv_c, rv_s, w_d, w_o, ws_nil, ws_cons, f_d, f_o, fs_nil, fs_cons, a_d, a_o, a_c, as_nil, as_cons, rd_some, tr_bl, tr_non, tr_int, tr_lst, tr_tup, c_d, c_c, v_rv, ↓bnd_r, ↓sM_r', bR_ok, sR_ok, pur_r, newM_r, ofO_some, grd_t, nn_v, nn_bin, nn_neg, nn_kn, nn_ki, nn_sub, nn_bi, in_m, mk_app, mk_ext, mk_rev, bk_get1, bk_get2, bk_get1k, bk_get2k, slE_t, slE_f, bnd_pur, st_nm, st_2, st_2l, wp_nil, wp_1, wp_2, fm_nil, fm_cons, List.set_cons_zero, List.set_cons_succ, nrz_pur, nrz_r, nR_ok, start_s, tn_, decide_true, decide_false, Bool.not_true, Bool.not_false, eq_self, ↓reduceIte, List.map_cons, List.map_nil, it, lc1, dp, la, vw, lc2, ps])
  obtain ⟨rfl, a, b, rfl⟩ := h'
  rw [List.length_map, List.take_length] at e
  rw [callI_some h180 rfl]
  refine bodyM_c0 (x := []) ?_
  show exs md (callI md (k + 2)) f180.body [some (.d (.dT (emb T))), some (.d (wD N)), some (.d (wD w)), none, none, none, none] m = _
  have it : itD .seq [wD N] = some (N.map .str) := rfl
  simp only [e_v, e_k, e_gc, e_ccon, e_bin, e_neg, e_not, e_cmp, e_chain, e_and, e_or, e_ife, e_call, e_mk, e_mkM, e_meth, e_attr, e_prop, e_bi, e_lenset, e_isi, e_bm, e_sub, e_sl, e_rev, e_lst, e_tup, e_dct0, e_lc, e_dc, e_scut, e_semp, es_nil, es_cons, et_nil, et_cons, x_asg, x_asgM, x_asgT, x_par, x_setI, x_setF, x_setW, x_mm, x_ex, x_ret, x_retN, x_if, x_for, x_while, x_aug, x_pass, x_brk, x_cnt, x_nv, x_nil, x_cons, t_ev, c_o, sl_0, sl_s, rv_d, rv_c, rv_s, w_d, w_o, ws_nil, ws_cons, f_d, f_o, fs_nil, fs_cons, a_d, a_o, a_c, as_nil, as_cons, rd_some, tr_bl, tr_non, tr_int, tr_lst, tr_tup, c_d, c_c, v_rv, ↓bnd_r, ↓sM_r', bR_ok, sR_ok, pur_r, newM_r, ofO_some, grd_t, nn_v, nn_bin, nn_neg, nn_kn, nn_ki, nn_sub, nn_bi, in_m, mk_app, mk_ext, mk_rev, bk_get1, bk_get2, bk_get1k, bk_get2k, slE_t, slE_f, bnd_pur, st_nm, st_2, st_2l, wp_nil, wp_1, wp_2, fm_nil, fm_cons, List.set_cons_zero, List.set_cons_succ, nrz_pur, nrz_r, nR_ok, start_s, tn_, decide_true, decide_false, Bool.not_true, Bool.not_false, eq_self, ↓reduceIte, List.map_cons, List.map_nil, f180, it, e]
  rfl
theorem sub_ws {l : List (List Str)} {i : Nat} {w : List Str} (h : l[i]? = some w) : subD (wsD l) (.int (i : Nat)) = some (wD w) := sub_l (by rw [List.getElem?_map, h]; rfl)
theorem len_ws (l : List (List Str)) : biD .len [wsD l] = some (.d (.int (l.length : Nat))) := by
  show some (RV.d (.int ((l.map wD).length : Nat))) = _
  rw [List.length_map]
theorem b_fdivN5 (a : Nat) : binD .fdiv (.int (a : Nat)) (.int 5) = some (.d (.int ((a / 5 : Nat)))) := by
  rw [b_fdiv (by decide) (by decide), Int.ofNat_fdiv]
  rfl
def tbd : List Sm := match f181.body with
  | [.for_ _ _ _ b, _] => b
  | _ => []
theorem exW_in {ns w : List Str} (hw : ∀ y ∈ w, y ∈ ns) : ∀ z ∈ exW kf w, (∀ y ∈ z, y ∈ ns) ∧ z.length = w.length := by
  intro z hz
  obtain ⟨i, a, b, ha, hb, he⟩ := exW_mem hz
  refine ⟨?_, exA_len ha hb he⟩
  have ma := hw _ (List.mem_of_getElem? ha)
  have mb := hw _ (List.mem_of_getElem? hb)
  unfold exA at he
  split at he
  · cases he
  split at he
  · cases he
    intro x hx
    simp only [List.mem_append, List.mem_cons, List.not_mem_nil, or_false] at hx
    rcases hx with (hx | rfl | rfl) | hx
    · exact hw _ (List.mem_of_mem_take hx)
    · exact mb
    · exact ma
    · exact hw _ (List.mem_of_mem_drop hx)
  split at he
  · cases he
    intro x hx
    simp only [List.mem_append, List.mem_cons, List.not_mem_nil, or_false] at hx
    rcases hx with (hx | rfl | rfl | rfl) | hx
    · exact hw _ (List.mem_of_mem_take hx)
    · exact mb
    · exact ma
    · exact mb
    · exact hw _ (List.mem_of_mem_drop hx)
  · cases he
theorem turned_c (k : Nat) (I : GI N T kf) {ds : List Nat} {w : List Str} (hd : 6 ≤ ds.length) (hw : ∀ y ∈ w, y ∈ N) (hl : w.length ≤ 100) (m : Mem) : ∃ z, (∀ y ∈ z, y ∈ N) ∧ z.length ≤ w.length + 12 ∧ callI md (k + 2) 181 [.d (nsD ds), .d (.dT (emb T)), .d (wD N), .d (wD w)] m = .ok (.d (wD z)) m := by
  have lN : 0 < N.length := List.length_pos_iff.mpr I.on.po
  obtain ⟨s', m', e, h'⟩ := for_all (f := turnM md (callI md (k + 1)) (.nm 4) tbd) (items := (List.range 6).map fun i => D.int (i : Nat))
    (fun i s m' => m' = m ∧ ∃ z a b c d, (∀ y ∈ z, y ∈ N) ∧ z.length ≤ w.length + 2 * i ∧ s = [some (.d (nsD ds)), some (.d (.dT (emb T))), some (.d (wD N)), some (.d (wD z)), a, b, c, d]) (s := [some (.d (nsD ds)), some (.d (.dT (emb T))), some (.d (wD N)), some (.d (wD w)), none, none, none, none]) (m := m) ⟨rfl, w, none, none, none, none, hw, by omega, rfl⟩
    (by
      rintro i y s m' hy ⟨rfl, z, a, b, c, d, hz, lz, rfl⟩
      obtain ⟨hi, rfl⟩ := rng_at hy
      have gd : ds[i]? = some (ds[i]'(by omega)) := List.getElem?_eq_getElem _
      generalize ds[i]'(by omega) = d0 at gd
      have q1 := b_modN (a := d0) (show 0 < z.length + 1 by omega)
      have ex := lawEx_c h159 k I.kd I.on.ok hz (by omega) m'
      have okE : ∀ x ∈ exW kf z, OkS x := exW_ok fun x hx => I.on.ok x (hz x hx)
      have q5 : binD .mod (.int (d0 : Nat)) (.int 5) = some (.d (.int ((d0 % 5 : Nat)))) := b_modN (by decide)
      have qn := b_modN (a := d0 / 5) lN
      have gn : N[d0 / 5 % N.length]? = some (N[d0 / 5 % N.length]'(Nat.mod_lt _ lN)) := List.getElem?_eq_getElem _
      have mn := List.getElem_mem (Nat.mod_lt (d0 / 5) lN)
      generalize N[d0 / 5 % N.length]'(Nat.mod_lt _ lN) = x at gn mn
      have eE : eqD (wsD (exW kf z)) (wsD []) = some (decide (exW kf z = [])) := eq_ws okE (fun x hx => by cases hx)
      -- the word behind the exchange
      have key : ∃ z1, (∀ y ∈ z1, y ∈ N) ∧ z1.length = z.length ∧ exs md (callI md (k + 1)) (tbd.take 2) [some (.d (nsD ds)), some (.d (.dT (emb T))), some (.d (wD N)), some (.d (wD z)), some (.d (.int (i : Nat))), b, c, d] m' = .ok (.nx [some (.d (nsD ds)), some (.d (.dT (emb T))), some (.d (wD N)), some (.d (wD z1)), some (.d (.int (i : Nat))), some (.d (wsD (exW kf z))), some (.d (.int ((d0 % (z.length + 1) : Nat)))), d]) m' := by
        by_cases q : exW kf z = []
        · refine ⟨z, hz, rfl, ?_⟩
          have eE' := eE
          rw [q] at eE'
          simp only [e_v, e_k, e_gc, e_ccon, e_bin, e_neg, e_not, e_cmp, e_chain, e_and, e_or, e_ife, e_call, e_mk, e_mkM, e_meth, e_attr, e_prop, e_bi, e_lenset, e_isi, e_bm, e_sub, e_sl, e_rev, e_lst, e_tup, e_dct0, e_lc, e_dc, e_scut, e_semp, es_nil, es_cons, et_nil, et_cons, x_asg, x_asgM, x_asgT, x_par, x_setI, x_setF, x_setW, x_mm, x_ex, x_ret, x_retN, x_if, x_for, x_while, x_aug, x_pass, x_brk, x_cnt, x_nv, x_nil, x_cons, t_ev, c_o, sl_0, sl_s, rv_d, rv_c, rv_s, w_d, w_o, ws_nil, ws_cons, f_d, f_o, fs_nil, fs_cons, a_d, a_o, a_c, as_nil, as_cons, rd_some, tr_bl, tr_non, tr_int, tr_lst, tr_tup, c_d, c_c, v_rv, ↓bnd_r, ↓sM_r', bR_ok, sR_ok, pur_r, newM_r, ofO_some, grd_t, nn_v, nn_bin, nn_neg, nn_kn, nn_ki, nn_sub, nn_bi, in_m, mk_app, mk_ext, mk_rev, bk_get1, bk_get2, bk_get1k, bk_get2k, slE_t, slE_f, bnd_pur, st_nm, st_2, st_2l, wp_nil, wp_1, wp_2, fm_nil, fm_cons, List.set_cons_zero, List.set_cons_succ, nrz_pur, nrz_r, nR_ok, start_s, tn_, decide_true, decide_false, Bool.not_true, Bool.not_false, eq_self, ↓reduceIte, List.map_cons, List.map_nil, tbd, f181, List.take_succ_cons, List.take_zero, ex, sub_n gd, len_w, b_add, nat1, q1, ws_nil', cmp_ne', eE', q, Option.map_some]
        · have l0 : 0 < (exW kf z).length := List.length_pos_iff.mpr q
          have qm := b_modN (a := d0) l0
          have ge : (exW kf z)[d0 % (exW kf z).length]? = some ((exW kf z)[d0 % (exW kf z).length]'(Nat.mod_lt _ l0)) := List.getElem?_eq_getElem _
          have me := List.getElem_mem (Nat.mod_lt d0 l0)
          generalize (exW kf z)[d0 % (exW kf z).length]'(Nat.mod_lt _ l0) = z1 at ge me
          obtain ⟨i1, i2⟩ := exW_in hz z1 me
          refine ⟨z1, i1, i2, ?_⟩
          simp only [e_v, e_k, e_gc, e_ccon, e_bin, e_neg, e_not, e_cmp, e_chain, e_and, e_or, e_ife, e_call, e_mk, e_mkM, e_meth, e_attr, e_prop, e_bi, e_lenset, e_isi, e_bm, e_sub, e_sl, e_rev, e_lst, e_tup, e_dct0, e_lc, e_dc, e_scut, e_semp, es_nil, es_cons, et_nil, et_cons, x_asg, x_asgM, x_asgT, x_par, x_setI, x_setF, x_setW, x_mm, x_ex, x_ret, x_retN, x_if, x_for, x_while, x_aug, x_pass, x_brk, x_cnt, x_nv, x_nil, x_cons, t_ev, c_o, sl_0, sl_s, rv_d, rv_c, rv_s, w_d, w_o, ws_nil, ws_cons, f_d, f_o, fs_nil, fs_cons, a_d, a_o, a_c, as_nil, as_cons, rd_some, tr_bl, tr_non, tr_int, tr_lst, tr_tup, c_d, c_c, v_rv, ↓bnd_r, ↓sM_r', bR_ok, sR_ok, pur_r, newM_r, ofO_some, grd_t, nn_v, nn_bin, nn_neg, nn_kn, nn_ki, nn_sub, nn_bi, in_m, mk_app, mk_ext, mk_rev, bk_get1, bk_get2, bk_get1k, bk_get2k, slE_t, slE_f, bnd_pur, st_nm, st_2, st_2l, wp_nil, wp_1, wp_2, fm_nil, fm_cons, List.set_cons_zero, List.set_cons_succ, nrz_pur, nrz_r, nR_ok, start_s, tn_, decide_true, decide_false, Bool.not_true, Bool.not_false, eq_self, ↓reduceIte, List.map_cons, List.map_nil, tbd, f181, List.take_succ_cons, List.take_zero, ex, sub_n gd, len_w, b_add, nat1, q1, ws_nil', cmp_ne', eE, q, Option.map_some, len_ws, qm, sub_ws ge]
      obtain ⟨z1, i1, i2, e1⟩ := key
      generalize d0 % (z.length + 1) = at' at e1
      have t1 : ∀ y ∈ z1.take at', y ∈ N := fun y h => i1 y (List.mem_of_mem_take h)
      have t2 : ∀ y ∈ z1.drop at', y ∈ N := fun y h => i1 y (List.mem_of_mem_drop h)
      have key2 : ∃ z2 d', (∀ y ∈ z2, y ∈ N) ∧ z2.length ≤ z.length + 2 ∧ exs md (callI md (k + 1)) (tbd.drop 2) [some (.d (nsD ds)), some (.d (.dT (emb T))), some (.d (wD N)), some (.d (wD z1)), some (.d (.int (i : Nat))), some (.d (wsD (exW kf z))), some (.d (.int (at' : Nat))), d] m' = .ok (.nx [some (.d (nsD ds)), some (.d (.dT (emb T))), some (.d (wD N)), some (.d (wD z2)), some (.d (.int (i : Nat))), some (.d (wsD (exW kf z))), some (.d (.int (at' : Nat))), d']) m' := by
        by_cases q : d0 % 5 = 0
        · have A1 := add_w (x := z1.take at') (y := [x, x]) (by simp; omega)
          have A2 := add_w (x := z1.take at' ++ [x, x]) (y := z1.drop at') (by simp; omega)
          refine ⟨z1.take at' ++ [x, x] ++ z1.drop at', some (.d (.str x)), ?_, ?_, ?_⟩
          · intro y hy
            simp only [List.mem_append, List.mem_cons, List.not_mem_nil, or_false, or_self] at hy
            rcases hy with (hy | rfl) | hy
            · exact t1 y hy
            · exact mn
            · exact t2 y hy
          · simp only [List.length_append, List.length_take, List.length_drop, List.length_cons, List.length_nil]
            omega
          · have q' : (((d0 % 5 : Nat) : Int) = 0) = True := eq_true (by omega)
            simp only [e_v, e_k, e_gc, e_ccon, e_bin, e_neg, e_not, e_cmp, e_chain, e_and, e_or, e_ife, e_call, e_mk, e_mkM, e_meth, e_attr, e_prop, e_bi, e_lenset, e_isi, e_bm, e_sub, e_sl, e_rev, e_lst, e_tup, e_dct0, e_lc, e_dc, e_scut, e_semp, es_nil, es_cons, et_nil, et_cons, x_asg, x_asgM, x_asgT, x_par, x_setI, x_setF, x_setW, x_mm, x_ex, x_ret, x_retN, x_if, x_for, x_while, x_aug, x_pass, x_brk, x_cnt, x_nv, x_nil, x_cons, t_ev, c_o, sl_0, sl_s, rv_d, rv_c, rv_s, w_d, w_o, ws_nil, ws_cons, f_d, f_o, fs_nil, fs_cons, a_d, a_o, a_c, as_nil, as_cons, rd_some, tr_bl, tr_non, tr_int, tr_lst, tr_tup, c_d, c_c, v_rv, ↓bnd_r, ↓sM_r', bR_ok, sR_ok, pur_r, newM_r, ofO_some, grd_t, nn_v, nn_bin, nn_neg, nn_kn, nn_ki, nn_sub, nn_bi, in_m, mk_app, mk_ext, mk_rev, bk_get1, bk_get2, bk_get1k, bk_get2k, slE_t, slE_f, bnd_pur, st_nm, st_2, st_2l, wp_nil, wp_1, wp_2, fm_nil, fm_cons, List.set_cons_zero, List.set_cons_succ, nrz_pur, nrz_r, nR_ok, start_s, tn_, decide_true, decide_false, Bool.not_true, Bool.not_false, eq_self, ↓reduceIte, List.map_cons, List.map_nil, tbd, f181, List.drop_succ_cons, List.drop_zero, sub_n gd, q5, cmp_eq', eq_int, q', b_fdivN5, len_w, qn, sub_w gn, cut_wt, cut_wf, lw2, A1, A2]
        · refine ⟨z1, d, i1, by omega, ?_⟩
          have q' : (((d0 % 5 : Nat) : Int) = 0) = False := eq_false (by omega)
          simp only [e_v, e_k, e_gc, e_ccon, e_bin, e_neg, e_not, e_cmp, e_chain, e_and, e_or, e_ife, e_call, e_mk, e_mkM, e_meth, e_attr, e_prop, e_bi, e_lenset, e_isi, e_bm, e_sub, e_sl, e_rev, e_lst, e_tup, e_dct0, e_lc, e_dc, e_scut, e_semp, es_nil, es_cons, et_nil, et_cons, x_asg, x_asgM, x_asgT, x_par, x_setI, x_setF, x_setW, x_mm, x_ex, x_ret, x_retN, x_if, x_for, x_while, x_aug, x_pass, x_brk, x_cnt, x_nv, x_nil, x_cons, t_ev, c_o, sl_0, sl_s, rv_d, rv_c, rv_s, w_d, w_o, ws_nil, ws_cons, f_d, f_o, fs_nil, fs_cons, a_d, a_o, a_c, as_nil, as_cons, rd_some, tr_bl, tr_non, tr_int, tr_lst, tr_tup, c_d, c_c, v_rv, ↓bnd_r, ↓sM_r', bR_ok, sR_ok, pur_r, newM_r, ofO_some, grd_t, nn_v, nn_bin, nn_neg, nn_kn, nn_ki, nn_sub, nn_bi, in_m, mk_app, mk_ext, mk_rev, bk_get1, bk_get2, bk_get1k, bk_get2k, slE_t, slE_f, bnd_pur, st_nm, st_2, st_2l, wp_nil, wp_1, wp_2, fm_nil, fm_cons, List.set_cons_zero, List.set_cons_succ, nrz_pur, nrz_r, nR_ok, start_s, tn_, decide_true, decide_false, Bool.not_true, Bool.not_false, eq_self, ↓reduceIte, List.map_cons, List.map_nil, tbd, f181, List.drop_succ_cons, List.drop_zero, sub_n gd, q5, cmp_eq', eq_int, q']
      obtain ⟨z2, d', j1, j2, e2⟩ := key2
      have al := exs_app (l2 := tbd.drop 2) (tbd.take 2) e1
      rw [List.take_append_drop] at al
      exact ⟨_, m', .inl (al.trans e2), rfl, z2, _, _, _, _, j1, by omega, rfl⟩)
  obtain ⟨rfl, z, a, b, c, d, hz, lz, rfl⟩ := h'
  rw [rng_len] at lz
  refine ⟨z, hz, by omega, ?_⟩
  rw [callI_some h181 rfl]
  refine bodyM_rt0 ?_
  show exs md (callI md (k + 1)) f181.body [some (.d (nsD ds)), some (.d (.dT (emb T))), some (.d (wD N)), some (.d (wD w)), none, none, none, none] _ = _
  have it : itD .rng [.int 6] = some ((List.range 6).map fun i => D.int (i : Nat)) := it_rng (by decide) (by decide)
  simp only [tbd, f181] at e
  simp only [e_v, e_k, e_gc, e_ccon, e_bin, e_neg, e_not, e_cmp, e_chain, e_and, e_or, e_ife, e_call, e_mk, e_mkM, e_meth, e_attr, e_prop, e_bi, e_lenset, e_isi, e_bm, e_sub, e_sl, e_rev, e_lst, e_tup, e_dct0, e_lc, e_dc, e_scut, e_semp, es_nil, es_cons, et_nil, et_cons, x_asg, x_asgM, x_asgT, x_par, x_setI, x_setF, x_setW, x_mm, x_ex, x_ret, x_retN, x_if, x_for, x_while, x_aug, x_pass, x_brk, x_cnt, x_nv, x_nil, x_cons, t_ev, c_o, sl_0, sl_s, rv_d, rv_c, rv_s, w_d, w_o, ws_nil, ws_cons, f_d, f_o, fs_nil, fs_cons, a_d, a_o, a_c, as_nil, as_cons, rd_some, tr_bl, tr_non, tr_int, tr_lst, tr_tup, c_d, c_c, v_rv, ↓bnd_r, ↓sM_r', bR_ok, sR_ok, pur_r, newM_r, ofO_some, grd_t, nn_v, nn_bin, nn_neg, nn_kn, nn_ki, nn_sub, nn_bi, in_m, mk_app, mk_ext, mk_rev, bk_get1, bk_get2, bk_get1k, bk_get2k, slE_t, slE_f, bnd_pur, st_nm, st_2, st_2l, wp_nil, wp_1, wp_2, fm_nil, fm_cons, List.set_cons_zero, List.set_cons_succ, nrz_pur, nrz_r, nR_ok, start_s, tn_, decide_true, decide_false, Bool.not_true, Bool.not_false, eq_self, ↓reduceIte, List.map_cons, List.map_nil, f181, it, e]
theorem rev_w (w : List Str) : revD (wD w) = some (.o (wD w.reverse)) := by
  show some (RV.o (.lst (w.map D.str).reverse)) = _
  rw [← List.map_reverse]
  rfl
theorem cut_w1f (w : List Str) : cutD (wD w) (some 1) none = some (.o (wD (w.drop 1))) := cut_wf w 1
def tb : List Sm := match f182.body with
  | [.for_ _ _ _ b, _] => b
  | _ => []
def lb : List Sm := match tb.drop 8 with
  | .for_ _ _ _ b :: _ => b
  | _ => []
/-- one of the other words -/
theorem other_c (k : Nat) (I : GI N T kf) {w z : List Str} (p : Ps) (hw : ∀ y ∈ w, y ∈ N) (hz : ∀ y ∈ z, y ∈ N) (a0 a1 a2 a3 a8 a9 b1 b2 b3 b4 b5 : Option Val) (m : Mem) :
    ∃ c2 c3 c4 c5 m', turnM md (callI md (k + 6)) (.nm 11) lb (wD z) [a0, a1, a2, a3, some (.d (wD N)), some (.d (.dT (emb T))), some (.d (gD N (emb (KT T)))), some (.d (wD w)), a8, a9, some (.d (poD N p)), b1, b2, b3, b4, b5] m = .ok (.nx [a0, a1, a2, a3, some (.d (wD N)), some (.d (.dT (emb T))), some (.d (gD N (emb (KT T)))), some (.d (wD w)), a8, a9, some (.d (poD N p)), some (.d (wD z)), c2, c3, c4, c5]) m' := by
  have t1 := table_c (k + 3) I hw
  have t2 := table_c (k + 3) I hz
  have et := eq_tab (kf := kf) (N := N) w z
  have s1 := same_c gw h2 h3 h4 h51 (k + 1) I.on I.ok I.gr (sq_w w) (sq_w z) hw hz
  have s2 := same_c gw h2 h3 h4 h51 (k + 1) I.on I.ok I.gr (sq_t z) (sq_w w) hz hw
  have p1 := posof_c gw h2 h3 h4 h44 (k + 1) I.on I.ok I.gr (sq_w w) hw
  have p2 := posof_c gw h2 h3 h4 h44 (k + 1) I.on I.ok I.gr (sq_w z) hz
  have r1 := run_c gw h0 h20 h21 h3 h4 h42 (k + 1) I.on I.ok I.gr p (sq_w w) hw
  have r2 := run_c gw h0 h20 h21 h3 h4 h42 (k + 1) I.on I.ok I.gr p (sq_w z) hz
  have l1 := lawOnes_c (ns := N) h150 (k + 5) I.on
  have l2 := lawAfter_c h149 h148 (k + 4) I.on I.ok I.kd Fw.Cox.ones hz
  have tz : biD .tuple_ [wD z] = some (.d (.tup (z.map .str))) := rfl
  have d1 : decide (∀ s ∈ N, ∀ t ∈ N, go kf (dl s) w t = go kf (dl s) z t) = decide (∀ x ∈ N, go kf Fw.Cox.ones w x = go kf Fw.Cox.ones z x) := decide_eq_decide.mpr (same_iff I hw hz)
  have d2 : decide (∀ x ∈ N, go kf Fw.Cox.ones z x = go kf Fw.Cox.ones w x) = decide (∀ x ∈ N, go kf Fw.Cox.ones w x = go kf Fw.Cox.ones z x) := decide_eq_decide.mpr ⟨fun h x hx => (h x hx).symm, fun h x hx => (h x hx).symm⟩
  have er : (∀ x ∈ N, go kf Fw.Cox.ones w x = go kf Fw.Cox.ones z x) → eqD (poD N (go kf p w)) (poD N (go kf p z)) = some true := fun h => by
    rw [eq_po]
    congr 1
    exact decide_eq_true fun x _ => by rw [Fw.Cox.faithN I.ok I.kn hw hz h]
  have ee : eqD (poD N (go kf Fw.Cox.ones z)) (poD N (go kf Fw.Cox.ones z)) = some true := by
    rw [eq_po]
    congr 1
    exact decide_eq_true fun x _ => rfl
  have ep := eq_po N (go kf Fw.Cox.ones w) (go kf Fw.Cox.ones z)
  rw [d1] at et
  rw [d2] at s2
  have ed : ∀ b : Bool, b = decide (∀ x ∈ N, go kf Fw.Cox.ones w x = go kf Fw.Cox.ones z x) → b = true → eqD (poD N (go kf p w)) (poD N (go kf p z)) = some true := fun b hb h => er (of_decide_eq_true (hb ▸ h))
  generalize hB : decide (∀ x ∈ N, go kf Fw.Cox.ones w x = go kf Fw.Cox.ones z x) = B at *
  obtain ⟨sv, ov, sh⟩ := show3 B
  have es : eqD (.str sv) (.str sv) = some true := by rw [eq_str ov ov, decide_eq_true rfl]
  have m3 : binD .mul (.lst [.bl B]) (.int 3) = some (.o (.lst [.bl B, .bl B, .bl B])) := rfl
  have ps : putM (.c m.length) (fun d => mmD .append d [.bl B]) (m ++ [.fl (.lst [.bl B, .bl B])]) = .ok () (m ++ [.fl (.lst [.bl B, .bl B, .bl B])]) := push_end (xs := [.bl B, .bl B]) (show 2 < 16777216 by decide)
  have v1 := view_end m (.lst [.bl B, .bl B]) []
  have v2 := view_end m (.lst [.bl B, .bl B, .bl B]) []
  have t1 : callI md (k + 6) 180 [.d (.dT (emb T)), .d (wD N), .d (wD w)] = pur (.o (tabD kf N w)) := t1
  have t2 : callI md (k + 6) 180 [.d (.dT (emb T)), .d (wD N), .d (wD z)] = pur (.o (tabD kf N z)) := t2
  have l2 : callI md (k + 6) 149 [.d (.dT (emb T)), .d (wD N), .d (poD N Fw.Cox.ones), .d (wD z)] = pur (.d (poD N (go kf Fw.Cox.ones z))) := l2
  have l1 : callI md (k + 6) 150 [.d (wD N)] = pur (.o (poD N Fw.Cox.ones)) := l1
  cases B with
  | true =>
    have er := ed true rfl rfl
    exact ⟨_, _, _, _, _, by
      simp only [e_v, e_k, e_gc, e_ccon, e_bin, e_neg, e_not, e_cmp, e_chain, e_and, e_or, e_ife, e_call, e_mk, e_mkM, e_meth, e_attr, e_prop, e_bi, e_lenset, e_isi, e_bm, e_sub, e_sl, e_rev, e_lst, e_tup, e_dct0, e_lc, e_dc, e_scut, e_semp, es_nil, es_cons, et_nil, et_cons, x_asg, x_asgM, x_asgT, x_par, x_setI, x_setF, x_setW, x_mm, x_ex, x_ret, x_retN, x_if, x_for, x_while, x_aug, x_pass, x_brk, x_cnt, x_nv, x_nil, x_cons, t_ev, c_o, sl_0, sl_s, rv_d, rv_c, rv_s, w_d, w_o, ws_nil, ws_cons, f_d, f_o, fs_nil, fs_cons, a_d, a_o, a_c, as_nil, as_cons, rd_some, tr_bl, tr_non, tr_int, tr_lst, tr_tup, c_d, c_c, v_rv, ↓bnd_r, ↓sM_r', bR_ok, sR_ok, pur_r, newM_r, ofO_some, grd_t, nn_v, nn_bin, nn_neg, nn_kn, nn_ki, nn_sub, nn_bi, in_m, mk_app, mk_ext, mk_rev, bk_get1, bk_get2, bk_get1k, bk_get2k, slE_t, slE_f, bnd_pur, st_nm, st_2, st_2l, wp_nil, wp_1, wp_2, fm_nil, fm_cons, List.set_cons_zero, List.set_cons_succ, nrz_pur, nrz_r, nR_ok, start_s, tn_, decide_true, decide_false, Bool.not_true, Bool.not_false, eq_self, ↓reduceIte, List.map_cons, List.map_nil, lb, tb, f182, List.drop_succ_cons, List.drop_zero, t1, t2, cmp_eq', cmp_ne', et, s1, tz, s2, p1, p2, ep, v1, ps, v2, sh, m3, es, Option.map_some, r1, r2, er, l1, l2, ee]
      rfl⟩
  | false =>
    exact ⟨_, _, _, _, _, by
      simp only [e_v, e_k, e_gc, e_ccon, e_bin, e_neg, e_not, e_cmp, e_chain, e_and, e_or, e_ife, e_call, e_mk, e_mkM, e_meth, e_attr, e_prop, e_bi, e_lenset, e_isi, e_bm, e_sub, e_sl, e_rev, e_lst, e_tup, e_dct0, e_lc, e_dc, e_scut, e_semp, es_nil, es_cons, et_nil, et_cons, x_asg, x_asgM, x_asgT, x_par, x_setI, x_setF, x_setW, x_mm, x_ex, x_ret, x_retN, x_if, x_for, x_while, x_aug, x_pass, x_brk, x_cnt, x_nv, x_nil, x_cons, t_ev, c_o, sl_0, sl_s, rv_d, rv_c, rv_s, w_d, w_o, ws_nil, ws_cons, f_d, f_o, fs_nil, fs_cons, a_d, a_o, a_c, as_nil, as_cons, rd_some, tr_bl, tr_non, tr_int, tr_lst, tr_tup, c_d, c_c, v_rv, ↓bnd_r, ↓sM_r', bR_ok, sR_ok, pur_r, newM_r, ofO_some, grd_t, nn_v, nn_bin, nn_neg, nn_kn, nn_ki, nn_sub, nn_bi, in_m, mk_app, mk_ext, mk_rev, bk_get1, bk_get2, bk_get1k, bk_get2k, slE_t, slE_f, bnd_pur, st_nm, st_2, st_2l, wp_nil, wp_1, wp_2, fm_nil, fm_cons, List.set_cons_zero, List.set_cons_succ, nrz_pur, nrz_r, nR_ok, start_s, tn_, decide_true, decide_false, Bool.not_true, Bool.not_false, eq_self, ↓reduceIte, List.map_cons, List.map_nil, lb, tb, f182, List.drop_succ_cons, List.drop_zero, t1, t2, cmp_eq', cmp_ne', et, s1, tz, s2, p1, p2, ep, v1, ps, v2, sh, m3, es, Option.map_some, l1, l2, ee]
      rfl⟩
end
theorem enum_strs (N : List Str) (nd : N.Nodup) (f : Nat → Int) (g : D → D) (hg : ∀ (i : Nat) (x : Str), g (.tup [.int (0 + (i : Nat)), .str x]) = .tup [.str x, .int (f i)]) : (enumF 0 (N.map .str)).map g = N.map fun x => D.tup [.str x, .int (f (N.idxOf x))] := by
  apply List.ext_getElem?
  intro i
  rw [List.getElem?_map, enum_at, List.getElem?_map, List.getElem?_map]
  cases h : N[i]? with
  | none => rfl
  | some x =>
    show some (g (.tup [.int (0 + (i : Nat)), .str x])) = some (D.tup [.str x, .int (f (N.idxOf x))])
    rw [hg]
    have hx := List.getElem?_of_mem (List.mem_of_getElem? h)
    have l := (List.getElem?_eq_some_iff.mp h).1
    have e := (List.getElem?_eq_some_iff.mp h).2
    have : N.idxOf x = i := by
      rw [← e]
      exact nd.idxOf_getElem i l
    rw [this]
theorem turn_c (k : Nat) (ns : List Int) (i : Nat) (c : Int) (hi : i < 5) (a1 a2 a3 a4 a5 a6 a7 a8 a9 a10 a11 a12 a13 a14 a15 : Option Val) (m : Mem) :
    ∃ b1 b2 b3 b4 b5 b6 b7 b8 b9 b10 b11 b12 b13 b14 b15 m', turnM md (callI md (k + 6)) (.tp [1, 2]) tb (.tup [.int (0 + (i : Nat)), .int c]) [some (.s ns), a1, a2, a3, a4, a5, a6, a7, a8, a9, a10, a11, a12, a13, a14, a15] m = .ok (.nx [some (.s ns), b1, b2, b3, b4, b5, b6, b7, b8, b9, b10, b11, b12, b13, b14, b15]) m' := by
  obtain ⟨ds, lds, _, e3⟩ := numbers_c h145 (k + 5) c (seed := 1200 + (0 + (i : Nat))) (ss := List.replicate 70 420) (by omega) (by omega) (by simp) (fun s hs => by rw [List.eq_of_mem_replicate hs]; decide) m
  rw [List.length_replicate] at lds
  have g0 : ds[0]? = some (ds[0]'(by omega)) := List.getElem?_eq_getElem _
  generalize ds[0]'(by omega) = d0 at g0
  have s0 : subD (nsD ds) (.int 0) = some (.int (d0 : Nat)) := sub_n g0
  have q0 : binD .mod (.int (d0 : Nat)) (.int 6) = some (.d (.int ((d0 % 6 : Nat)))) := b_modN (by decide)
  have c1 : cutD (nsD ds) (some 1) (some 16) = some (.o (nsD ((ds.drop 1).take 15))) := cut_nm ds 1 16
  have c16 : cutD (nsD ds) (some 16) none = some (.o (nsD (ds.drop 16))) := cut_nf ds 16
  have c30 : cutD (nsD ds) (some 30) none = some (.o (nsD (ds.drop 30))) := cut_nf ds 30
  have c40 : cutD (nsD ds) (some 40) none = some (.o (nsD (ds.drop 40))) := cut_nf ds 40
  have c46 : cutD (nsD ds) (some 46) none = some (.o (nsD (ds.drop 46))) := cut_nf ds 46
  obtain ⟨N, T, kf, hN, I, rep, e4, e5, e6, lenN⟩ := setup gm h146 h147 h152 (k + 1) (ds := (ds.drop 1).take 15) (mn := [0, 1, 1, 0, 0, 1, 2]) (n := 1 + d0 % 6) (by
    intro e
    have := congrArg List.length e
    rw [List.length_take, List.length_drop, List.length_nil] at this
    omega) (by decide) (by decide) (by omega) (by omega) m
  have lN : N.length ≤ 10 := by rw [hN, List.length_take]; omega
  obtain ⟨w, hw, lw, e7⟩ := flips_c h151 (k + 5) (ds := ds.drop 16) (ns := N) (most := 12) I.on.po (by rw [List.length_drop]; omega) (by decide) m
  obtain ⟨u, hu, lu, e8⟩ := flips_c h151 (k + 5) (ds := ds.drop 30) (ns := N) (most := 5) I.on.po (by rw [List.length_drop]; omega) (by decide) m
  obtain ⟨z, hz, lz, e10⟩ := turned_c (k + 4) I (ds := ds.drop 40) (w := w) (by rw [List.length_drop]; omega) hw (by omega) m
  obtain ⟨v, hv, lv, e9⟩ := flips_c h151 (k + 5) (ds := ds.drop 46) (ns := N) (most := 12) I.on.po (by rw [List.length_drop]; omega) (by decide) m
  have A1 := add_w (x := w) (y := u) (by omega)
  have A2 := add_w (x := w ++ u) (y := u.reverse) (by simp; omega)
  have A3 := add_w (x := w) (y := w) (by omega)
  have A4 := add_w (x := u) (y := w) (by omega)
  let ws : List (List Str) := [w, z, v, w ++ u, w ++ u ++ u.reverse, w.drop 1, w.reverse, [], w ++ w, u ++ w]
  have hws : ∀ x ∈ ws, ∀ y ∈ x, y ∈ N := by
    have ap : ∀ {u v : List Str}, (∀ y ∈ u, y ∈ N) → (∀ y ∈ v, y ∈ N) → ∀ y ∈ u ++ v, y ∈ N := fun h h' y hy => (List.mem_append.mp hy).elim (h y) (h' y)
    have rv : ∀ {u : List Str}, (∀ y ∈ u, y ∈ N) → ∀ y ∈ u.reverse, y ∈ N := fun h y hy => h y (List.mem_reverse.mp hy)
    intro x hx
    simp only [ws, List.mem_cons, List.not_mem_nil, or_false] at hx
    rcases hx with rfl | rfl | rfl | rfl | rfl | rfl | rfl | rfl | rfl | rfl
    · exact hw
    · exact hz
    · exact hv
    · exact ap hw hu
    · exact ap (ap hw hu) (rv hu)
    · exact fun y h => hw y (List.mem_of_mem_drop h)
    · exact rv hw
    · exact fun y h => by cases h
    · exact ap hw hw
    · exact ap hu hw
  let p : Ps := fun x => (ds[60 + N.idxOf x]?.getD 0 : Nat) - 200
  have lcS := lc_map (f := lcB md (callI md (k + 6)) [some (.s ns), some (.d (.int (0 + (i : Nat)))), some (.d (.int c)), some (.d (nsD ds)), some (.d (wD N)), some (.d (.dT (emb T))), some (.d (gD N (emb (KT T)))), some (.d (wD w)), some (.d (wD u)), some (.d (wsD ws)), a10, a11, a12, a13, a14, a15] [14, 15] (.tp [14, 15]) [] (.tup [(.v 15), (.bin .sub (.sub (.v 3) (.bin .add (.k (.int 60)) (.v 14))) (.k (.int 200)))])) (g := fun | .tup [.int i, x] => .tup [x, .int ((ds[60 + i.toNat]?.getD 0 : Nat) - 200)] | _ => .non) (enumF 0 (N.map .str)) (by
    intro y hy
    obtain ⟨j, hj⟩ := List.getElem?_of_mem hy
    rw [enum_at, List.getElem?_map, Option.map_map, Option.map_eq_some_iff] at hj
    obtain ⟨x, hx, rfl⟩ := hj
    have lj := (List.getElem?_eq_some_iff.mp hx).1
    have g1 : ds[60 + j]? = some (ds[60 + j]'(by omega)) := List.getElem?_eq_getElem _
    generalize ds[60 + j]'(by omega) = d1 at g1
    have z0 : (0 : Int) + (j : Nat) = (j : Nat) := by omega
    have n60 : (60 : Int) + ((j : Nat) : Int) = ((60 + j : Nat) : Int) := rfl
    simp only [Function.comp_apply, z0, e_v, e_k, e_gc, e_ccon, e_bin, e_neg, e_not, e_cmp, e_chain, e_and, e_or, e_ife, e_call, e_mk, e_mkM, e_meth, e_attr, e_prop, e_bi, e_lenset, e_isi, e_bm, e_sub, e_sl, e_rev, e_lst, e_tup, e_dct0, e_lc, e_dc, e_scut, e_semp, es_nil, es_cons, et_nil, et_cons, x_asg, x_asgM, x_asgT, x_par, x_setI, x_setF, x_setW, x_mm, x_ex, x_ret, x_retN, x_if, x_for, x_while, x_aug, x_pass, x_brk, x_cnt, x_nv, x_nil, x_cons, t_ev, c_o, sl_0, sl_s, rv_d, rv_c, rv_s, w_d, w_o, ws_nil, ws_cons, f_d, f_o, fs_nil, fs_cons, a_d, a_o, a_c, as_nil, as_cons, rd_some, tr_bl, tr_non, tr_int, tr_lst, tr_tup, c_d, c_c, v_rv, ↓bnd_r, ↓sM_r', bR_ok, sR_ok, pur_r, newM_r, ofO_some, grd_t, nn_v, nn_bin, nn_neg, nn_kn, nn_ki, nn_sub, nn_bi, in_m, mk_app, mk_ext, mk_rev, bk_get1, bk_get2, bk_get1k, bk_get2k, slE_t, slE_f, bnd_pur, st_nm, st_2, st_2l, wp_nil, wp_1, wp_2, fm_nil, fm_cons, List.set_cons_zero, List.set_cons_succ, nrz_pur, nrz_r, nR_ok, start_s, tn_, decide_true, decide_false, Bool.not_true, Bool.not_false, eq_self, ↓reduceIte, List.map_cons, List.map_nil, lc_b, b_add, n60, sub_n g1, b_sub, Int.toNat_natCast, g1, Option.getD_some])
  have es : (enumF 0 (N.map D.str)).map (fun | .tup [.int i, x] => .tup [x, .int ((ds[60 + i.toNat]?.getD 0 : Nat) - 200)] | _ => .non : D → D) = N.map fun x => D.tup [.str x, .int (p x)] := by
    refine enum_strs N I.on.nd (fun i => (ds[60 + i]?.getD 0 : Nat) - 200) _ fun j x => ?_
    have z0 : (0 : Int) + (j : Nat) = (j : Nat) := by omega
    rw [z0]
    rfl
  rw [es] at lcS
  have dp := dict_po I.on.nd (by omega) p
  have pre : exs md (callI md (k + 6)) (tb.take 8) [some (.s ns), some (.d (.int (0 + (i : Nat)))), some (.d (.int c)), a3, a4, a5, a6, a7, a8, a9, a10, a11, a12, a13, a14, a15] m = .ok (.nx [some (.s ns), some (.d (.int (0 + (i : Nat)))), some (.d (.int c)), some (.d (nsD ds)), some (.d (wD N)), some (.d (.dT (emb T))), some (.d (gD N (emb (KT T)))), some (.d (wD w)), some (.d (wD u)), some (.d (wsD ws)), some (.d (poD N p)), a11, a12, a13, a14, a15]) m := by
    have e3 : callI md (k + 6) 145 [.d (.int c), .d (.int (1200 + (0 + (i : Nat)))), .d (.lst (List.map D.int (List.replicate 70 420)))] m = .ok (.o (nsD ds)) m := e3
    have e4 : callI md (k + 6) 152 [.d (.int ((1 + d0 % 6 : Nat)))] = pur (.o (wD N)) := e4
    have e5 : callI md (k + 6) 146 [.d (nsD ((ds.drop 1).take 15)), .d (.int ((1 + d0 % 6 : Nat))), .d (.lst [.int 0, .int 1, .int 1, .int 0, .int 0, .int 1, .int 2])] m = .ok (.o (.dT (emb T))) m := e5
    have e6 : callI md (k + 6) 147 [.d (.dT (emb T)), .d (wD N)] = pur (.d (gD N (emb (KT T)))) := e6
    have e7 : callI md (k + 6) 151 [.d (nsD (ds.drop 16)), .d (wD N), .d (.int 12)] m = .ok (.o (wD w)) m := e7
    have e8 : callI md (k + 6) 151 [.d (nsD (ds.drop 30)), .d (wD N), .d (.int 5)] m = .ok (.o (wD u)) m := e8
    have e9 : callI md (k + 6) 151 [.d (nsD (ds.drop 46)), .d (wD N), .d (.int 12)] m = .ok (.o (wD v)) m := e9
    have e10 : callI md (k + 6) 181 [.d (nsD (ds.drop 40)), .d (.dT (emb T)), .d (wD N), .d (wD w)] m = .ok (.d (wD z)) m := e10
    have r70 : binD .mul (.lst [.int 420]) (.int 70) = some (.o (.lst (List.map D.int (List.replicate 70 420)))) := rfl
    have AL : binD .add (.lst [wD w, wD z, wD v, wD (w ++ u)]) (.lst [wD (w ++ u ++ u.reverse), wD (w.drop 1), wD w.reverse, wD [], wD (w ++ w), wD (u ++ w)]) = some (.o (wsD ws)) := rfl
    have itE : itD .enum_ [wD N] = some (enumF 0 (N.map .str)) := rfl
    simp only [e_v, e_k, e_gc, e_ccon, e_bin, e_neg, e_not, e_cmp, e_chain, e_and, e_or, e_ife, e_call, e_mk, e_mkM, e_meth, e_attr, e_prop, e_bi, e_lenset, e_isi, e_bm, e_sub, e_sl, e_rev, e_lst, e_tup, e_dct0, e_lc, e_dc, e_scut, e_semp, es_nil, es_cons, et_nil, et_cons, x_asg, x_asgM, x_asgT, x_par, x_setI, x_setF, x_setW, x_mm, x_ex, x_ret, x_retN, x_if, x_for, x_while, x_aug, x_pass, x_brk, x_cnt, x_nv, x_nil, x_cons, t_ev, c_o, sl_0, sl_s, rv_d, rv_c, rv_s, w_d, w_o, ws_nil, ws_cons, f_d, f_o, fs_nil, fs_cons, a_d, a_o, a_c, as_nil, as_cons, rd_some, tr_bl, tr_non, tr_int, tr_lst, tr_tup, c_d, c_c, v_rv, ↓bnd_r, ↓sM_r', bR_ok, sR_ok, pur_r, newM_r, ofO_some, grd_t, nn_v, nn_bin, nn_neg, nn_kn, nn_ki, nn_sub, nn_bi, in_m, mk_app, mk_ext, mk_rev, bk_get1, bk_get2, bk_get1k, bk_get2k, slE_t, slE_f, bnd_pur, st_nm, st_2, st_2l, wp_nil, wp_1, wp_2, fm_nil, fm_cons, List.set_cons_zero, List.set_cons_succ, nrz_pur, nrz_r, nR_ok, start_s, tn_, decide_true, decide_false, Bool.not_true, Bool.not_false, eq_self, ↓reduceIte, List.map_cons, List.map_nil, tb, f182, List.take_succ_cons, List.take_zero, b_add, r70, e3, s0, q0, nat1l, e4, c1, c16, c30, c40, c46, lenN, e5, e6, e7, e8, e9, e10, lw0, A1, A2, A3, A4, rev_w, cut_w1f, AL, itE, lcS, dp]
  obtain ⟨s', m', el, hp⟩ := for_all (f := turnM md (callI md (k + 6)) (.nm 11) lb) (items := ws.map wD)
    (fun _ s _ => ∃ c1 c2 c3 c4 c5, s = [some (.s ns), some (.d (.int (0 + (i : Nat)))), some (.d (.int c)), some (.d (nsD ds)), some (.d (wD N)), some (.d (.dT (emb T))), some (.d (gD N (emb (KT T)))), some (.d (wD w)), some (.d (wD u)), some (.d (wsD ws)), some (.d (poD N p)), c1, c2, c3, c4, c5])
    (s := [some (.s ns), some (.d (.int (0 + (i : Nat)))), some (.d (.int c)), some (.d (nsD ds)), some (.d (wD N)), some (.d (.dT (emb T))), some (.d (gD N (emb (KT T)))), some (.d (wD w)), some (.d (wD u)), some (.d (wsD ws)), some (.d (poD N p)), a11, a12, a13, a14, a15]) (m := m) ⟨_, _, _, _, _, rfl⟩
    (by
      rintro n x s m' hy ⟨b1, b2, b3, b4, b5, rfl⟩
      rw [List.getElem?_map, Option.map_eq_some_iff] at hy
      obtain ⟨y, hy', rfl⟩ := hy
      obtain ⟨c2, c3, c4, c5, m2, e⟩ := other_c k I p hw (hws y (List.mem_of_getElem? hy')) (some (.s ns)) (some (.d (.int (0 + (i : Nat))))) (some (.d (.int c))) (some (.d (nsD ds))) (some (.d (wD u))) (some (.d (wsD ws))) b1 b2 b3 b4 b5 m'
      exact ⟨_, m2, .inl e, _, _, _, _, _, rfl⟩)
  obtain ⟨b1, b2, b3, b4, b5, rfl⟩ := hp
  have post : exs md (callI md (k + 6)) (tb.drop 8) [some (.s ns), some (.d (.int (0 + (i : Nat)))), some (.d (.int c)), some (.d (nsD ds)), some (.d (wD N)), some (.d (.dT (emb T))), some (.d (gD N (emb (KT T)))), some (.d (wD w)), some (.d (wD u)), some (.d (wsD ws)), some (.d (poD N p)), a11, a12, a13, a14, a15] m = .ok (.nx [some (.s ns), some (.d (.int (0 + (i : Nat)))), some (.d (.int c)), some (.d (nsD ds)), some (.d (wD N)), some (.d (.dT (emb T))), some (.d (gD N (emb (KT T)))), some (.d (wD w)), some (.d (wD u)), some (.d (wsD ws)), some (.d (poD N p)), b1, b2, b3, b4, b5]) m' := by
    have it : itD .seq [wsD ws] = some (ws.map wD) := rfl
    simp only [lb, tb, f182, List.drop_succ_cons, List.drop_zero] at el
    simp only [e_v, e_k, e_gc, e_ccon, e_bin, e_neg, e_not, e_cmp, e_chain, e_and, e_or, e_ife, e_call, e_mk, e_mkM, e_meth, e_attr, e_prop, e_bi, e_lenset, e_isi, e_bm, e_sub, e_sl, e_rev, e_lst, e_tup, e_dct0, e_lc, e_dc, e_scut, e_semp, es_nil, es_cons, et_nil, et_cons, x_asg, x_asgM, x_asgT, x_par, x_setI, x_setF, x_setW, x_mm, x_ex, x_ret, x_retN, x_if, x_for, x_while, x_aug, x_pass, x_brk, x_cnt, x_nv, x_nil, x_cons, t_ev, c_o, sl_0, sl_s, rv_d, rv_c, rv_s, w_d, w_o, ws_nil, ws_cons, f_d, f_o, fs_nil, fs_cons, a_d, a_o, a_c, as_nil, as_cons, rd_some, tr_bl, tr_non, tr_int, tr_lst, tr_tup, c_d, c_c, v_rv, ↓bnd_r, ↓sM_r', bR_ok, sR_ok, pur_r, newM_r, ofO_some, grd_t, nn_v, nn_bin, nn_neg, nn_kn, nn_ki, nn_sub, nn_bi, in_m, mk_app, mk_ext, mk_rev, bk_get1, bk_get2, bk_get1k, bk_get2k, slE_t, slE_f, bnd_pur, st_nm, st_2, st_2l, wp_nil, wp_1, wp_2, fm_nil, fm_cons, List.set_cons_zero, List.set_cons_succ, nrz_pur, nrz_r, nR_ok, start_s, tn_, decide_true, decide_false, Bool.not_true, Bool.not_false, eq_self, ↓reduceIte, List.map_cons, List.map_nil, tb, f182, List.drop_succ_cons, List.drop_zero, it, el]
  have al := exs_app (l2 := tb.drop 8) (tb.take 8) pre
  rw [List.take_append_drop] at al
  exact ⟨_, _, _, _, _, _, _, _, _, _, _, _, _, _, _, _, al.trans post⟩
theorem plain : ∀ ns : List Int, ns.length ≤ 63 → ∃ m, callI md 60 lawF [.s ns] [] = .ok (.d (.bl true)) m := by
  intro ns _
  let cs : List Int := ns.take 4 ++ (if ns.isEmpty then [7] else [])
  have lcs : cs.length ≤ 5 := by
    simp only [cs, List.length_append, List.length_take]
    split <;> simp <;> omega
  obtain ⟨s', m', e, h⟩ := for_all (f := turnM md (callI md 59) (.tp [1, 2]) tb) (items := enumF 0 (cs.map .int))
    (fun _ s _ => ∃ a1 a2 a3 a4 a5 a6 a7 a8 a9 a10 a11 a12 a13 a14 a15, s = [some (.s ns), a1, a2, a3, a4, a5, a6, a7, a8, a9, a10, a11, a12, a13, a14, a15])
    (s := [some (.s ns), none, none, none, none, none, none, none, none, none, none, none, none, none, none, none]) (m := []) ⟨_, _, _, _, _, _, _, _, _, _, _, _, _, _, _, rfl⟩
    (by
      rintro i x s m hy ⟨a1, a2, a3, a4, a5, a6, a7, a8, a9, a10, a11, a12, a13, a14, a15, rfl⟩
      rw [enum_at, List.getElem?_map, Option.map_map, Option.map_eq_some_iff] at hy
      obtain ⟨c, hc, rfl⟩ := hy
      have hi := (List.getElem?_eq_some_iff.mp hc).1
      obtain ⟨b1, b2, b3, b4, b5, b6, b7, b8, b9, b10, b11, b12, b13, b14, b15, m', e⟩ := turn_c 53 ns i c (by omega) a1 a2 a3 a4 a5 a6 a7 a8 a9 a10 a11 a12 a13 a14 a15 m
      exact ⟨_, m', .inl e, _, _, _, _, _, _, _, _, _, _, _, _, _, _, _, rfl⟩)
  obtain ⟨a1, a2, a3, a4, a5, a6, a7, a8, a9, a10, a11, a12, a13, a14, a15, rfl⟩ := h
  refine ⟨[], ?_⟩
  show callI md (59 + 1) 182 [.s ns] [] = _
  rw [callI_some h182 rfl]
  refine bodyM_rt (x := m') ?_
  rw [List.nil_append]
  show exs md (callI md 59) f182.body [some (.s ns), none, none, none, none, none, none, none, none, none, none, none, none, none, none, none] [] = _
  have c4 : cutL (ns.map D.int) none (some ((4 : Nat) : Int)) = (ns.take 4).map D.int := by rw [cut_map, cut_to]
  have cc : ∃ tl : List D, binD .mul (.lst [.int 7]) (.int (if ns.isEmpty then 1 else 0)) = some (.o (.lst tl)) ∧ (ns.take 4).map D.int ++ tl = cs.map .int := by
    cases q : ns.isEmpty with
    | true => exact ⟨[.int 7], rfl, by simp only [cs, q, List.map_append]; rfl⟩
    | false => exact ⟨[], rfl, by simp only [cs, q, List.map_append]; rfl⟩
  obtain ⟨tl, t1, t2⟩ := cc
  have ad : binD .add (.lst ((ns.take 4).map D.int)) (.lst tl) = some (.o (.lst (cs.map .int))) := by
    rw [← t2]
    refine b_addl ?_
    have := congrArg List.length t2
    rw [List.length_append] at this
    have h2 : (cs.map D.int).length = cs.length := List.length_map _
    omega
  have it : itD .enum_ [.lst (cs.map .int)] = some (enumF 0 (cs.map .int)) := rfl
  simp only [tb, f182] at e
  simp only [e_v, e_k, e_gc, e_ccon, e_bin, e_neg, e_not, e_cmp, e_chain, e_and, e_or, e_ife, e_call, e_mk, e_mkM, e_meth, e_attr, e_prop, e_bi, e_lenset, e_isi, e_bm, e_sub, e_sl, e_rev, e_lst, e_tup, e_dct0, e_lc, e_dc, e_scut, e_semp, es_nil, es_cons, et_nil, et_cons, x_asg, x_asgM, x_asgT, x_par, x_setI, x_setF, x_setW, x_mm, x_ex, x_ret, x_retN, x_if, x_for, x_while, x_aug, x_pass, x_brk, x_cnt, x_nv, x_nil, x_cons, t_ev, c_o, sl_0, sl_s, rv_d, rv_c, rv_s, w_d, w_o, ws_nil, ws_cons, f_d, f_o, fs_nil, fs_cons, a_d, a_o, a_c, as_nil, as_cons, rd_some, tr_bl, tr_non, tr_int, tr_lst, tr_tup, c_d, c_c, v_rv, ↓bnd_r, ↓sM_r', bR_ok, sR_ok, pur_r, newM_r, ofO_some, grd_t, nn_v, nn_bin, nn_neg, nn_kn, nn_ki, nn_sub, nn_bi, in_m, mk_app, mk_ext, mk_rev, bk_get1, bk_get2, bk_get1k, bk_get2k, slE_t, slE_f, bnd_pur, st_nm, st_2, st_2l, wp_nil, wp_1, wp_2, fm_nil, fm_cons, List.set_cons_zero, List.set_cons_succ, nrz_pur, nrz_r, nR_ok, start_s, tn_, decide_true, decide_false, Bool.not_true, Bool.not_false, eq_self, ↓reduceIte, List.map_cons, List.map_nil, f182, c4, bi_int_b, t1, ad, it, e]
end Fw.k12

namespace Fw.k12
open PySem PySem.Spec PyProof.Rows L2 Fw
def nm : Nm := ⟨[S "is_integer", S "", S "unit_position", S "flipped", S "after", S "", S "", S "", S "", S "", S "", S "", S "", S "", S "", S "", S "", S "", S "", S "", S "is_position", S "require_position", S "", S "", S "is_node", S "are_nodes", S "", S "", S "", S "", S "", S "", S "", S "", S "", S "", S "", S "", S "", S "first_unknown", S "", S "require_word", S "run", S "", S "position_of", S "", S "", S "", S "", S "", S "", S "same", S "", S "", S "", S "", S "", S "", S "", S "", S "", S "", S "", S "", S "", S "", S "", S "", S "", S "", S "", S "", S "", S "", S "", S "", S "", S "", S "", S "", S "", S "", S "", S "", S "", S "", S "", S "", S "", S "", S "", S "", S "", S "", S "", S "", S "", S "", S "", S "", S "", S "", S "", S "", S "", S "", S "", S "", S "", S "", S "", S "", S "", S "", S "", S "", S "", S "", S "", S "", S "", S "", S "", S "", S "", S "", S "", S "", S "", S "", S "", S "", S "", S "", S "", S "", S "", S "", S "", S "", S "", S "", S "", S "", S "", S "_law_numbers", S "_law_pairs", S "_law_graph_of", S "_law_flip", S "_law_after", S "_law_ones", S "_law_flips", S "_law_named", S "", S "", S "", S "", S "", S "", S "_law_exchanged", S "_law_step", S "", S "", S "", S "", S "", S "", S "", S "", S "", S "", S "", S "", S "", S "", S "", S "", S "", S "", S "", S "_law_table", S "_law_turned", S "law"], [S "Graph"], [S "__init__", S "field", S "value", S "index", S "word", S "limit", S "name", S "user", S "node", S "MOST", S "add_pairs", S "is_new_pair", S "has_node", S "pairs_of", S "row", S "ring", S "nodes", S "near", S "free", S "kind", S "links", S "__eq__", S "own_nodes", S "own_kinds", S "replayed", S "is_user", S "missing", S "rest_after", S "check_flip", S "flip", S "undo", S "log", S "position", S "hints", S "attempt", S "blank", S "copy", S "__len__", S "own_graph", S "own_goal", S "own_log", S "own_missing", S "own_ending", S "run", S "store", S "answer", S "own_words"], [(S "LETTERS", (.str (S "abcdefghijklmnopqrstuvwxyz"))), (S "MAX_LENGTH", (.int 8)), (S "FAR", (.int 0)), (S "NEAR", (.int 1)), (S "FREE", (.int 2))], [(0, 26)], [], [(0, 9, (.int 12))]⟩
abbrev prog : Program := PySem.Challenge.pw_flipwords_k12_equal_effects
def top (i : Nat) : Stmt := prog.main.body.getD i (.Pass ⟨0, 0, 0, 0⟩)
abbrev tW : FnT := ⟨.g "_wall", "_wall", "_wall", defArgs (top 0), defBody (top 0), defScope (top 0), [S "k"], [S "k"]⟩
theorem bW : Plain tW := fun _ _ _ _ _ _ us hl => match us, hl with | [_], _ => rfl
theorem sW : FnScope tW.N tW.ps tW.sc := ⟨rfl, rfl, rfl, by decide +kernel, rfl, by decide +kernel, by decide +kernel⟩
theorem kW : fnB md nm wl tW = true := by kernel_rfl
abbrev t0 : FnT := ⟨.g "is_integer", "is_integer", "is_integer", defArgs (top 2), defBody (top 2), defScope (top 2), [S "value"], [S "value"]⟩
theorem b0 : Plain t0 := fun _ _ _ _ _ _ us hl => match us, hl with | [_], _ => rfl
theorem s0 : FnScope t0.N t0.ps t0.sc := ⟨rfl, rfl, rfl, by decide +kernel, rfl, by decide +kernel, by decide +kernel⟩
theorem k0 : fnB md nm f0 t0 = true := by kernel_rfl
abbrev t2 : FnT := ⟨.g "unit_position", "unit_position", "unit_position", defArgs (top 3), defBody (top 3), defScope (top 3), [S "graph", S "node"], [S "graph"]⟩
theorem b2 : Plain t2 := fun _ _ _ _ _ _ us hl => match us, hl with | [_], _ => rfl
theorem s2 : FnScope t2.N t2.ps t2.sc := ⟨rfl, rfl, rfl, by decide +kernel, rfl, by decide +kernel, by decide +kernel⟩
theorem k2 : fnB md nm f2 t2 = true := by kernel_rfl
abbrev t3 : FnT := ⟨.g "flipped", "flipped", "flipped", defArgs (top 4), defBody (top 4), defScope (top 4), [S "graph", S "position", S "node", S "number", S "later", S "other"], [S "graph", S "position", S "node"]⟩
theorem b3 : Plain t3 := fun _ _ _ _ _ _ us hl => match us, hl with | [_, _, _], _ => rfl
theorem s3 : FnScope t3.N t3.ps t3.sc := ⟨rfl, rfl, rfl, by decide +kernel, rfl, by decide +kernel, by decide +kernel⟩
theorem k3 : fnB md nm f3 t3 = true := by kernel_rfl
abbrev t4 : FnT := ⟨.g "after", "after", "after", defArgs (top 5), defBody (top 5), defScope (top 5), [S "graph", S "position", S "word", S "node"], [S "graph", S "position", S "word"]⟩
theorem b4 : Plain t4 := fun _ _ _ _ _ _ us hl => match us, hl with | [_, _, _], _ => rfl
theorem s4 : FnScope t4.N t4.ps t4.sc := ⟨rfl, rfl, rfl, by decide +kernel, rfl, by decide +kernel, by decide +kernel⟩
theorem k4 : fnB md nm f4 t4 = true := by kernel_rfl
abbrev t20 : FnT := ⟨.g "is_position", "is_position", "is_position", defArgs (top 13), defBody (top 13), defScope (top 13), [S "graph", S "value", S "node"], [S "graph", S "value"]⟩
theorem b20 : Plain t20 := fun _ _ _ _ _ _ us hl => match us, hl with | [_, _], _ => rfl
theorem s20 : FnScope t20.N t20.ps t20.sc := ⟨rfl, rfl, rfl, by decide +kernel, rfl, by decide +kernel, by decide +kernel⟩
theorem k20 : fnB md nm f20 t20 = true := by kernel_rfl
abbrev t21 : FnT := ⟨.g "require_position", "require_position", "require_position", defArgs (top 14), defBody (top 14), defScope (top 14), [S "graph", S "value"], [S "graph", S "value"]⟩
theorem b21 : Plain t21 := fun _ _ _ _ _ _ us hl => match us, hl with | [_, _], _ => rfl
theorem s21 : FnScope t21.N t21.ps t21.sc := ⟨rfl, rfl, rfl, by decide +kernel, rfl, by decide +kernel, by decide +kernel⟩
theorem k21 : fnB md nm f21 t21 = true := by kernel_rfl
abbrev t24 : FnT := ⟨.g "is_node", "is_node", "is_node", defArgs (top 28), defBody (top 28), defScope (top 28), [S "value", S "sign"], [S "value"]⟩
theorem b24 : Plain t24 := fun _ _ _ _ _ _ us hl => match us, hl with | [_], _ => rfl
theorem s24 : FnScope t24.N t24.ps t24.sc := ⟨rfl, rfl, rfl, by decide +kernel, rfl, by decide +kernel, by decide +kernel⟩
theorem k24 : fnB md nm f24 t24 = true := by kernel_rfl
abbrev t25 : FnT := ⟨.g "are_nodes", "are_nodes", "are_nodes", defArgs (top 29), defBody (top 29), defScope (top 29), [S "value", S "node"], [S "value"]⟩
theorem b25 : Plain t25 := fun _ _ _ _ _ _ us hl => match us, hl with | [_], _ => rfl
theorem s25 : FnScope t25.N t25.ps t25.sc := ⟨rfl, rfl, rfl, by decide +kernel, rfl, by decide +kernel, by decide +kernel⟩
theorem k25 : fnB md nm f25 t25 = true := by kernel_rfl
abbrev t26 : FnT := ⟨.m "Graph" "__init__", "__init__", "Graph.__init__", defArgs (subS (top 30) 1), defBody (subS (top 30) 1), defScope (subS (top 30) 1), [S "self", S "nodes", S "near", S "free"], [S "self", S "nodes", S "near", S "free"]⟩
theorem b26 : Plain t26 := fun _ _ _ _ _ _ us hl => match us, hl with | [_, _, _, _], _ => rfl
theorem s26 : FnScope t26.N t26.ps t26.sc := ⟨rfl, rfl, rfl, by decide +kernel, rfl, by decide +kernel, by decide +kernel⟩
theorem k26 : fnB md nm f26 t26 = true := by kernel_rfl
abbrev t27 : FnT := ⟨.m "Graph" "add_pairs", "add_pairs", "Graph.add_pairs", defArgs (subS (top 30) 2), defBody (subS (top 30) 2), defScope (subS (top 30) 2), [S "self", S "field", S "pairs", S "kind", S "pair", S "one", S "other"], [S "self", S "field", S "pairs", S "kind"]⟩
theorem b27 : Plain t27 := fun _ _ _ _ _ _ us hl => match us, hl with | [_, _, _, _], _ => rfl
theorem s27 : FnScope t27.N t27.ps t27.sc := ⟨rfl, rfl, rfl, by decide +kernel, rfl, by decide +kernel, by decide +kernel⟩
theorem k27 : fnB md nm f27 t27 = true := by kernel_rfl
abbrev t28 : FnT := ⟨.m "Graph" "is_new_pair", "is_new_pair", "Graph.is_new_pair", defArgs (subS (top 30) 3), defBody (subS (top 30) 3), defScope (subS (top 30) 3), [S "self", S "value", S "node"], [S "self", S "value"]⟩
theorem b28 : Plain t28 := fun _ _ _ _ _ _ us hl => match us, hl with | [_, _], _ => rfl
theorem s28 : FnScope t28.N t28.ps t28.sc := ⟨rfl, rfl, rfl, by decide +kernel, rfl, by decide +kernel, by decide +kernel⟩
theorem k28 : fnB md nm f28 t28 = true := by kernel_rfl
abbrev t29 : FnT := ⟨.m "Graph" "has_node", "has_node", "Graph.has_node", defArgs (subS (top 30) 4), defBody (subS (top 30) 4), defScope (subS (top 30) 4), [S "self", S "value"], [S "self", S "value"]⟩
theorem b29 : Plain t29 := fun _ _ _ _ _ _ us hl => match us, hl with | [_, _], _ => rfl
theorem s29 : FnScope t29.N t29.ps t29.sc := ⟨rfl, rfl, rfl, by decide +kernel, rfl, by decide +kernel, by decide +kernel⟩
theorem k29 : fnB md nm f29 t29 = true := by kernel_rfl
abbrev t30 : FnT := ⟨.m "Graph" "pairs_of", "pairs_of", "Graph.pairs_of", defArgs (subS (top 30) 5), defBody (subS (top 30) 5), defScope (subS (top 30) 5), [S "self", S "kind", S "found", S "place", S "one", S "other"], [S "self", S "kind"]⟩
theorem b30 : Plain t30 := fun _ _ _ _ _ _ us hl => match us, hl with | [_, _], _ => rfl
theorem s30 : FnScope t30.N t30.ps t30.sc := ⟨rfl, rfl, rfl, by decide +kernel, rfl, by decide +kernel, by decide +kernel⟩
theorem k30 : fnB md nm f30 t30 = true := by kernel_rfl
abbrev t33 : FnT := ⟨.p "Graph" "nodes", "nodes", "Graph.nodes", defArgs (subS (top 30) 8), defBody (subS (top 30) 8), defScope (subS (top 30) 8), [S "self"], [S "self"]⟩
theorem b33 : Plain t33 := fun _ _ _ _ _ _ us hl => match us, hl with | [_], _ => rfl
theorem s33 : FnScope t33.N t33.ps t33.sc := ⟨rfl, rfl, rfl, by decide +kernel, rfl, by decide +kernel, by decide +kernel⟩
theorem k33 : fnB md nm f33 t33 = true := by kernel_rfl
abbrev t34 : FnT := ⟨.p "Graph" "near", "near", "Graph.near", defArgs (subS (top 30) 9), defBody (subS (top 30) 9), defScope (subS (top 30) 9), [S "self"], [S "self"]⟩
theorem b34 : Plain t34 := fun _ _ _ _ _ _ us hl => match us, hl with | [_], _ => rfl
theorem s34 : FnScope t34.N t34.ps t34.sc := ⟨rfl, rfl, rfl, by decide +kernel, rfl, by decide +kernel, by decide +kernel⟩
theorem k34 : fnB md nm f34 t34 = true := by kernel_rfl
abbrev t35 : FnT := ⟨.p "Graph" "free", "free", "Graph.free", defArgs (subS (top 30) 10), defBody (subS (top 30) 10), defScope (subS (top 30) 10), [S "self"], [S "self"]⟩
theorem b35 : Plain t35 := fun _ _ _ _ _ _ us hl => match us, hl with | [_], _ => rfl
theorem s35 : FnScope t35.N t35.ps t35.sc := ⟨rfl, rfl, rfl, by decide +kernel, rfl, by decide +kernel, by decide +kernel⟩
theorem k35 : fnB md nm f35 t35 = true := by kernel_rfl
abbrev t36 : FnT := ⟨.m "Graph" "kind", "kind", "Graph.kind", defArgs (subS (top 30) 11), defBody (subS (top 30) 11), defScope (subS (top 30) 11), [S "self", S "one", S "other", S "node"], [S "self", S "one", S "other"]⟩
theorem b36 : Plain t36 := fun _ _ _ _ _ _ us hl => match us, hl with | [_, _, _], _ => rfl
theorem s36 : FnScope t36.N t36.ps t36.sc := ⟨rfl, rfl, rfl, by decide +kernel, rfl, by decide +kernel, by decide +kernel⟩
theorem k36 : fnB md nm f36 t36 = true := by kernel_rfl
abbrev t38 : FnT := ⟨.m "Graph" "__eq__", "__eq__", "Graph.__eq__", defArgs (subS (top 30) 13), defBody (subS (top 30) 13), defScope (subS (top 30) 13), [S "self", S "other"], [S "self", S "other"]⟩
theorem b38 : Plain t38 := fun _ _ _ _ _ _ us hl => match us, hl with | [_, _], _ => rfl
theorem s38 : FnScope t38.N t38.ps t38.sc := ⟨rfl, rfl, rfl, by decide +kernel, rfl, by decide +kernel, by decide +kernel⟩
theorem k38 : fnB md nm f38 t38 = true := by kernel_rfl
abbrev t39 : FnT := ⟨.g "first_unknown", "first_unknown", "first_unknown", defArgs (top 16), defBody (top 16), defScope (top 16), [S "graph", S "nodes", S "index", S "node"], [S "graph", S "nodes"]⟩
theorem b39 : Plain t39 := fun _ _ _ _ _ _ us hl => match us, hl with | [_, _], _ => rfl
theorem s39 : FnScope t39.N t39.ps t39.sc := ⟨rfl, rfl, rfl, by decide +kernel, rfl, by decide +kernel, by decide +kernel⟩
theorem k39 : fnB md nm f39 t39 = true := by kernel_rfl
abbrev t41 : FnT := ⟨.g "require_word", "require_word", "require_word", defArgs (top 17), defBody (top 17), defScope (top 17), [S "graph", S "value", S "index"], [S "graph", S "value"]⟩
theorem b41 : Plain t41 := fun _ _ _ _ _ _ us hl => match us, hl with | [_, _], _ => rfl
theorem s41 : FnScope t41.N t41.ps t41.sc := ⟨rfl, rfl, rfl, by decide +kernel, rfl, by decide +kernel, by decide +kernel⟩
theorem k41 : fnB md nm f41 t41 = true := by kernel_rfl
abbrev t42 : FnT := ⟨.g "run", "run", "run", defArgs (top 18), defBody (top 18), defScope (top 18), [S "graph", S "position", S "word"], [S "graph", S "position", S "word"]⟩
theorem b42 : Plain t42 := fun _ _ _ _ _ _ us hl => match us, hl with | [_, _, _], _ => rfl
theorem s42 : FnScope t42.N t42.ps t42.sc := ⟨rfl, rfl, rfl, by decide +kernel, rfl, by decide +kernel, by decide +kernel⟩
theorem k42 : fnB md nm f42 t42 = true := by kernel_rfl
abbrev t44 : FnT := ⟨.g "position_of", "position_of", "position_of", defArgs (top 19), defBody (top 19), defScope (top 19), [S "graph", S "word"], [S "graph", S "word"]⟩
theorem b44 : Plain t44 := fun _ _ _ _ _ _ us hl => match us, hl with | [_, _], _ => rfl
theorem s44 : FnScope t44.N t44.ps t44.sc := ⟨rfl, rfl, rfl, by decide +kernel, rfl, by decide +kernel, by decide +kernel⟩
theorem k44 : fnB md nm f44 t44 = true := by kernel_rfl
abbrev t51 : FnT := ⟨.g "same", "same", "same", defArgs (top 21), defBody (top 21), defScope (top 21), [S "graph", S "one", S "other"], [S "graph", S "one", S "other"]⟩
theorem b51 : Plain t51 := fun _ _ _ _ _ _ us hl => match us, hl with | [_, _, _], _ => rfl
theorem s51 : FnScope t51.N t51.ps t51.sc := ⟨rfl, rfl, rfl, by decide +kernel, rfl, by decide +kernel, by decide +kernel⟩
theorem k51 : fnB md nm f51 t51 = true := by kernel_rfl
abbrev t145 : FnT := ⟨.g "_law_numbers", "_law_numbers", "_law_numbers", defArgs (top 32), defBody (top 32), defScope (top 32), [S "_law_cell", S "_law_salt", S "_law_sizes", S "_law_number", S "_law_left", S "_law_result", S "_law_k", S "_law_one"], [S "_law_cell", S "_law_salt", S "_law_sizes"]⟩
theorem b145 : Plain t145 := fun _ _ _ _ _ _ us hl => match us, hl with | [_, _, _], _ => rfl
theorem s145 : FnScope t145.N t145.ps t145.sc := ⟨rfl, rfl, rfl, by decide +kernel, rfl, by decide +kernel, by decide +kernel⟩
theorem k145 : fnB md nm f145 t145 = true := by kernel_rfl
abbrev t146 : FnT := ⟨.g "_law_pairs", "_law_pairs", "_law_pairs", defArgs (top 33), defBody (top 33), defScope (top 33), [S "_law_digits", S "_law_many", S "_law_menu", S "_law_nodes", S "_law_result", S "_law_at", S "_law_j", S "_law_i", S "_law_kind"], [S "_law_digits", S "_law_many", S "_law_menu"]⟩
theorem b146 : Plain t146 := fun _ _ _ _ _ _ us hl => match us, hl with | [_, _, _], _ => rfl
theorem s146 : FnScope t146.N t146.ps t146.sc := ⟨rfl, rfl, rfl, by decide +kernel, rfl, by decide +kernel, by decide +kernel⟩
theorem k146 : fnB md nm f146 t146 = true := by kernel_rfl
abbrev t147 : FnT := ⟨.g "_law_graph_of", "_law_graph_of", "_law_graph_of", defArgs (top 34), defBody (top 34), defScope (top 34), [S "_law_kinds", S "_law_nodes", S "_law_pairs_here", S "_law_near", S "_law_one", S "_law_other", S "_law_pair"], [S "_law_kinds", S "_law_nodes"]⟩
theorem b147 : Plain t147 := fun _ _ _ _ _ _ us hl => match us, hl with | [_, _], _ => rfl
theorem s147 : FnScope t147.N t147.ps t147.sc := ⟨rfl, rfl, rfl, by decide +kernel, rfl, by decide +kernel, by decide +kernel⟩
theorem k147 : fnB md nm f147 t147 = true := by kernel_rfl
abbrev t148 : FnT := ⟨.g "_law_flip", "_law_flip", "_law_flip", defArgs (top 35), defBody (top 35), defScope (top 35), [S "_law_kinds", S "_law_nodes", S "_law_position", S "_law_node", S "_law_result", S "_law_other"], [S "_law_kinds", S "_law_nodes", S "_law_position", S "_law_node"]⟩
theorem b148 : Plain t148 := fun _ _ _ _ _ _ us hl => match us, hl with | [_, _, _, _], _ => rfl
theorem s148 : FnScope t148.N t148.ps t148.sc := ⟨rfl, rfl, rfl, by decide +kernel, rfl, by decide +kernel, by decide +kernel⟩
theorem k148 : fnB md nm f148 t148 = true := by kernel_rfl
abbrev t149 : FnT := ⟨.g "_law_after", "_law_after", "_law_after", defArgs (top 36), defBody (top 36), defScope (top 36), [S "_law_kinds", S "_law_nodes", S "_law_position", S "_law_word", S "_law_node"], [S "_law_kinds", S "_law_nodes", S "_law_position", S "_law_word"]⟩
theorem b149 : Plain t149 := fun _ _ _ _ _ _ us hl => match us, hl with | [_, _, _, _], _ => rfl
theorem s149 : FnScope t149.N t149.ps t149.sc := ⟨rfl, rfl, rfl, by decide +kernel, rfl, by decide +kernel, by decide +kernel⟩
theorem k149 : fnB md nm f149 t149 = true := by kernel_rfl
abbrev t150 : FnT := ⟨.g "_law_ones", "_law_ones", "_law_ones", defArgs (top 37), defBody (top 37), defScope (top 37), [S "_law_nodes", S "_law_node"], [S "_law_nodes"]⟩
theorem b150 : Plain t150 := fun _ _ _ _ _ _ us hl => match us, hl with | [_], _ => rfl
theorem s150 : FnScope t150.N t150.ps t150.sc := ⟨rfl, rfl, rfl, by decide +kernel, rfl, by decide +kernel, by decide +kernel⟩
theorem k150 : fnB md nm f150 t150 = true := by kernel_rfl
abbrev t151 : FnT := ⟨.g "_law_flips", "_law_flips", "_law_flips", defArgs (top 38), defBody (top 38), defScope (top 38), [S "_law_digits", S "_law_nodes", S "_law_most", S "_law_j"], [S "_law_digits", S "_law_nodes", S "_law_most"]⟩
theorem b151 : Plain t151 := fun _ _ _ _ _ _ us hl => match us, hl with | [_, _, _], _ => rfl
theorem s151 : FnScope t151.N t151.ps t151.sc := ⟨rfl, rfl, rfl, by decide +kernel, rfl, by decide +kernel, by decide +kernel⟩
theorem k151 : fnB md nm f151 t151 = true := by kernel_rfl
abbrev t152 : FnT := ⟨.g "_law_named", "_law_named", "_law_named", defArgs (top 39), defBody (top 39), defScope (top 39), [S "_law_many"], [S "_law_many"]⟩
theorem b152 : Plain t152 := fun _ _ _ _ _ _ us hl => match us, hl with | [_], _ => rfl
theorem s152 : FnScope t152.N t152.ps t152.sc := ⟨rfl, rfl, rfl, by decide +kernel, rfl, by decide +kernel, by decide +kernel⟩
theorem k152 : fnB md nm f152 t152 = true := by kernel_rfl
abbrev t159 : FnT := ⟨.g "_law_exchanged", "_law_exchanged", "_law_exchanged", defArgs (top 41), defBody (top 41), defScope (top 41), [S "_law_kinds", S "_law_word", S "_law_result", S "_law_at", S "_law_one", S "_law_other"], [S "_law_kinds", S "_law_word"]⟩
theorem b159 : Plain t159 := fun _ _ _ _ _ _ us hl => match us, hl with | [_, _], _ => rfl
theorem s159 : FnScope t159.N t159.ps t159.sc := ⟨rfl, rfl, rfl, by decide +kernel, rfl, by decide +kernel, by decide +kernel⟩
theorem k159 : fnB md nm f159 t159 = true := by kernel_rfl
abbrev t160 : FnT := ⟨.g "_law_step", "_law_step", "_law_step", defArgs (top 42), defBody (top 42), defScope (top 42), [S "_law_kinds", S "_law_one", S "_law_other", S "_law_longer", S "_law_shorter", S "_law_at", S "_law_places"], [S "_law_kinds", S "_law_one", S "_law_other"]⟩
theorem b160 : Plain t160 := fun _ _ _ _ _ _ us hl => match us, hl with | [_, _, _], _ => rfl
theorem s160 : FnScope t160.N t160.ps t160.sc := ⟨rfl, rfl, rfl, by decide +kernel, rfl, by decide +kernel, by decide +kernel⟩
theorem k160 : fnB md nm f160 t160 = true := by kernel_rfl
abbrev t180 : FnT := ⟨.g "_law_table", "_law_table", "_law_table", defArgs (top 40), defBody (top 40), defScope (top 40), [S "_law_kinds", S "_law_nodes", S "_law_word", S "_law_rows", S "_law_node", S "_law_position", S "_law_other"], [S "_law_kinds", S "_law_nodes", S "_law_word"]⟩
theorem b180 : Plain t180 := fun _ _ _ _ _ _ us hl => match us, hl with | [_, _, _], _ => rfl
theorem s180 : FnScope t180.N t180.ps t180.sc := ⟨rfl, rfl, rfl, by decide +kernel, rfl, by decide +kernel, by decide +kernel⟩
theorem k180 : fnB md nm f180 t180 = true := by kernel_rfl
abbrev t181 : FnT := ⟨.g "_law_turned", "_law_turned", "_law_turned", defArgs (top 43), defBody (top 43), defScope (top 43), [S "_law_digits", S "_law_kinds", S "_law_nodes", S "_law_word", S "_law_turn", S "_law_some", S "_law_at", S "_law_node"], [S "_law_digits", S "_law_kinds", S "_law_nodes", S "_law_word"]⟩
theorem b181 : Plain t181 := fun _ _ _ _ _ _ us hl => match us, hl with | [_, _, _, _], _ => rfl
theorem s181 : FnScope t181.N t181.ps t181.sc := ⟨rfl, rfl, rfl, by decide +kernel, rfl, by decide +kernel, by decide +kernel⟩
theorem k181 : fnB md nm f181 t181 = true := by kernel_rfl
abbrev t182 : FnT := ⟨.g "law", "law", "law", defArgs (top 44), defBody (top 44), defScope (top 44), [S "_law_script", S "_law_k", S "_law_cell", S "_law_digits", S "_law_nodes", S "_law_kinds", S "_law_graph", S "_law_word", S "_law_more", S "_law_others", S "_law_start", S "_law_other", S "_law_want", S "_law_told", S "_law_at", S "_law_node"], [S "_law_script"]⟩
theorem b182 : Plain t182 := fun _ _ _ _ _ _ us hl => match us, hl with | [_], _ => rfl
theorem s182 : FnScope t182.N t182.ps t182.sc := ⟨rfl, rfl, rfl, by decide +kernel, rfl, by decide +kernel, by decide +kernel⟩
theorem k182 : fnB md nm f182 t182 = true := by kernel_rfl
def ts : List FnT := [t0, tW, t2, t3, t4, tW, tW, tW, tW, tW, tW, tW, tW, tW, tW, tW, tW, tW, tW, tW, t20, t21, tW, tW, t24, t25, t26, t27, t28, t29, t30, tW, tW, t33, t34, t35, t36, tW, t38, t39, tW, t41, t42, tW, t44, tW, tW, tW, tW, tW, tW, t51, tW, tW, tW, tW, tW, tW, tW, tW, tW, tW, tW, tW, tW, tW, tW, tW, tW, tW, tW, tW, tW, tW, tW, tW, tW, tW, tW, tW, tW, tW, tW, tW, tW, tW, tW, tW, tW, tW, tW, tW, tW, tW, tW, tW, tW, tW, tW, tW, tW, tW, tW, tW, tW, tW, tW, tW, tW, tW, tW, tW, tW, tW, tW, tW, tW, tW, tW, tW, tW, tW, tW, tW, tW, tW, tW, tW, tW, tW, tW, tW, tW, tW, tW, tW, tW, tW, tW, tW, tW, tW, tW, tW, tW, t145, t146, t147, t148, t149, t150, t151, t152, tW, tW, tW, tW, tW, tW, t159, t160, tW, tW, tW, tW, tW, tW, tW, tW, tW, tW, tW, tW, tW, tW, tW, tW, tW, tW, tW, t180, t181, t182]
theorem fnsL : FnsL md nm md.fns ts := .cons k0 s0 b0 (.cons kW sW bW (.cons k2 s2 b2 (.cons k3 s3 b3 (.cons k4 s4 b4 (.cons kW sW bW (.cons kW sW bW (.cons kW sW bW (.cons kW sW bW (.cons kW sW bW (.cons kW sW bW (.cons kW sW bW (.cons kW sW bW (.cons kW sW bW (.cons kW sW bW (.cons kW sW bW (.cons kW sW bW (.cons kW sW bW (.cons kW sW bW (.cons kW sW bW (.cons k20 s20 b20 (.cons k21 s21 b21 (.cons kW sW bW (.cons kW sW bW (.cons k24 s24 b24 (.cons k25 s25 b25 (.cons k26 s26 b26 (.cons k27 s27 b27 (.cons k28 s28 b28 (.cons k29 s29 b29 (.cons k30 s30 b30 (.cons kW sW bW (.cons kW sW bW (.cons k33 s33 b33 (.cons k34 s34 b34 (.cons k35 s35 b35 (.cons k36 s36 b36 (.cons kW sW bW (.cons k38 s38 b38 (.cons k39 s39 b39 (.cons kW sW bW (.cons k41 s41 b41 (.cons k42 s42 b42 (.cons kW sW bW (.cons k44 s44 b44 (.cons kW sW bW (.cons kW sW bW (.cons kW sW bW (.cons kW sW bW (.cons kW sW bW (.cons kW sW bW (.cons k51 s51 b51 (.cons kW sW bW (.cons kW sW bW (.cons kW sW bW (.cons kW sW bW (.cons kW sW bW (.cons kW sW bW (.cons kW sW bW (.cons kW sW bW (.cons kW sW bW (.cons kW sW bW (.cons kW sW bW (.cons kW sW bW (.cons kW sW bW (.cons kW sW bW (.cons kW sW bW (.cons kW sW bW (.cons kW sW bW (.cons kW sW bW (.cons kW sW bW (.cons kW sW bW (.cons kW sW bW (.cons kW sW bW (.cons kW sW bW (.cons kW sW bW (.cons kW sW bW (.cons kW sW bW (.cons kW sW bW (.cons kW sW bW (.cons kW sW bW (.cons kW sW bW (.cons kW sW bW (.cons kW sW bW (.cons kW sW bW (.cons kW sW bW (.cons kW sW bW (.cons kW sW bW (.cons kW sW bW (.cons kW sW bW (.cons kW sW bW (.cons kW sW bW (.cons kW sW bW (.cons kW sW bW (.cons kW sW bW (.cons kW sW bW (.cons kW sW bW (.cons kW sW bW (.cons kW sW bW (.cons kW sW bW (.cons kW sW bW (.cons kW sW bW (.cons kW sW bW (.cons kW sW bW (.cons kW sW bW (.cons kW sW bW (.cons kW sW bW (.cons kW sW bW (.cons kW sW bW (.cons kW sW bW (.cons kW sW bW (.cons kW sW bW (.cons kW sW bW (.cons kW sW bW (.cons kW sW bW (.cons kW sW bW (.cons kW sW bW (.cons kW sW bW (.cons kW sW bW (.cons kW sW bW (.cons kW sW bW (.cons kW sW bW (.cons kW sW bW (.cons kW sW bW (.cons kW sW bW (.cons kW sW bW (.cons kW sW bW (.cons kW sW bW (.cons kW sW bW (.cons kW sW bW (.cons kW sW bW (.cons kW sW bW (.cons kW sW bW (.cons kW sW bW (.cons kW sW bW (.cons kW sW bW (.cons kW sW bW (.cons kW sW bW (.cons kW sW bW (.cons kW sW bW (.cons kW sW bW (.cons kW sW bW (.cons kW sW bW (.cons kW sW bW (.cons kW sW bW (.cons k145 s145 b145 (.cons k146 s146 b146 (.cons k147 s147 b147 (.cons k148 s148 b148 (.cons k149 s149 b149 (.cons k150 s150 b150 (.cons k151 s151 b151 (.cons k152 s152 b152 (.cons kW sW bW (.cons kW sW bW (.cons kW sW bW (.cons kW sW bW (.cons kW sW bW (.cons kW sW bW (.cons k159 s159 b159 (.cons k160 s160 b160 (.cons kW sW bW (.cons kW sW bW (.cons kW sW bW (.cons kW sW bW (.cons kW sW bW (.cons kW sW bW (.cons kW sW bW (.cons kW sW bW (.cons kW sW bW (.cons kW sW bW (.cons kW sW bW (.cons kW sW bW (.cons kW sW bW (.cons kW sW bW (.cons kW sW bW (.cons kW sW bW (.cons kW sW bW (.cons kW sW bW (.cons kW sW bW (.cons k180 s180 b180 (.cons k181 s181 b181 (.cons k182 s182 b182 (.nil)))))))))))))))))))))))))))))))))))))))))))))))))))))))))))))))))))))))))))))))))))))))))))))))))))))))))))))))))))))))))))))))))))))))))))))))))))))))))))))))))))))))))))))))))))))))
theorem mdK : MdK md := mdK_of (by decide +kernel) (by decide +kernel)
def loose0 : List Str := [S "_wall", S "__name__", S "is_integer", S "unit_position", S "flipped", S "after", S "FlipError", S "InvalidGraph", S "InvalidPosition", S "InvalidWord", S "UnknownName", S "is_position", S "require_position", S "first_unknown", S "require_word", S "run", S "position_of", S "same", S "LETTERS", S "MAX_LENGTH", S "FAR", S "NEAR", S "FREE", S "is_node", S "are_nodes", S "Graph", S "_law_numbers", S "_law_pairs", S "_law_graph_of", S "_law_flip"]
def loose1 : List Str := [S "_law_after", S "_law_ones", S "_law_flips", S "_law_named", S "_law_table", S "_law_exchanged", S "_law_step", S "_law_turned"]
abbrev R : PySem.W.OpenRow := PySem.W.OpenLaw.row PySem.Challenge.rw_flipwords_k12_equal_effects
abbrev hk : PySem.W.Hook := hook md nm ts
def ob (s : PySem.W.SharedT) : Al := obsOf md nm ts (HandSHeadRun.getT s)
theorem ob_eq (s : PySem.W.SharedT) : ob s = hk.obs s.abs := obs_eq _ _ _ (HandSHeadRun.getT_eq s)
theorem run (w : World) : HandSHeadRun.RunEq R (PySem.W.view R.prog [44]) hk ob 20000 (loose0 ++ loose1) w := by
  intro os
  kernel_rfl
end Fw.k12
open PySem PySem.W PySem.Calls PyProof.Rows
set_option maxRecDepth 100000 in
set_option maxHeartbeats 0 in
theorem PySem.Challenge.cw_flipwords_k12_equal_effects_holds : PySem.Challenge.rw_flipwords_k12_equal_effects.Holds := by
  w_on; o_law
  refine HandSHeadRun.head_any (r := OpenLaw.row PySem.Challenge.rw_flipwords_k12_equal_effects) (q := view (OpenLaw.row PySem.Challenge.rw_flipwords_k12_equal_effects).prog [44]) (H := Fw.k12.hk) (ob := Fw.k12.ob) (M := 20000) (loose := Fw.k12.loose0 ++ Fw.k12.loose1) (d := HandSHeadRun.topDef (OpenLaw.row PySem.Challenge.rw_flipwords_k12_equal_effects).prog 44) (kwd := []) Fw.k12.ob_eq
    (by kernel_rfl) (fun s => by kernel_rfl) Fw.k12.run (by kernel_rfl) (by kernel_rfl) (by kernel_rfl) (by rfl) (by first | assumption | decide +kernel) (by decide +kernel) ⟨rfl, rfl, rfl, rfl, rfl, by decide +kernel⟩ ?hw ?hc
  case hw => w_witness2
  case hc =>
    exact Fw.walk_G (l := PySem.Challenge.rw_flipwords_k12_equal_effects) (n := 63) (j := 59) (f := Fw.k12.lawF) (x := "_law_script") (t := Fw.k12.t182) rfl (by decide) (by kernel_rfl) ⟨rfl, by decide, by decide⟩ (by decide +kernel) rfl Fw.k12.mdK Fw.k12.fnsL.ok (fd := Fw.k12.f182) rfl rfl Fw.k12.k182 Fw.k12.s182 Fw.k12.b182 rfl rfl (by decide +kernel) Fw.k12.plain

