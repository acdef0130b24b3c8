import PyProof.Rows.All
import Wide.All
import OpenK.AllK
import Wide.FinOn
import HandS.ForMost
import HandS.Words
import HandS.Codes
import HandS.HeadHook2
import HandS.Head0
import HandS.Head2
import KE.KSuper
import KE.KTryMore
import HandS.Exc
import HandS.Slots
import HandS.ExcCtx
import HandS.Wide
import HandS.Deep
import HandS.Style
import HandS.TupAny
import HandS.IsInst
import HandS.Zip
import HandS.RaiseMore
import HandS.SlotsOwn
import HandS.Star
import HandS.ClsMeth
import HandS.IterVal
import HandS.ExcInit
import HandS.TryMany
import KE.KExcSuper
import KE.KExcIs
import HandS.ExcOwn
import HandS.MakeKwOnly
import HandS.Property
import HandS.ExcField
import KE.GoesMore
import KE.GoesZip
import HandS.Iter
import HandS.Comp
import HandS.CallRecv
import HandS.Conv
import HandS.Flow
import HandS.Remove
import HandS.More
import HandS.Defaults
import HandS.Nested
import KE.KStateDown
import HandS.Ends
import HandS.WordsExc
import HandS.Head1
import HandS.HeadEnd
import HandS.HeadHook1
import PySem.Challenge.RW_risingscores_k56_next_groups
set_option Elab.async false
set_option linter.all false
set_option maxRecDepth 100000
set_option maxHeartbeats 2000000
/-! RsData -/
namespace RS
open PySem

/-! ### data: values without addresses -/
inductive D where
  | non | bl (b : Bool) | int (i : Int) | str (x : Str)
  | tup (xs : List D) | lst (xs : List D)
  | ins (c : Nat) (fs : List D)
  | scr (ns : List Int)
  | mut (xs : List D)

mutual
def D.beq : D → D → Bool
  | .non, .non => true
  | .bl a, .bl b => a == b
  | .int a, .int b => a == b
  | .str a, .str b => decide (a = b)
  | .tup xs, .tup ys => D.beqs xs ys
  | .lst xs, .lst ys => D.beqs xs ys
  | .ins c xs, .ins e ys => c == e && D.beqs xs ys
  | .scr a, .scr b => a == b
  | _, _ => false
def D.beqs : List D → List D → Bool
  | [], [] => true
  | x :: xs, y :: ys => D.beq x y && D.beqs xs ys
  | _, _ => false
end
mutual
/-- no list stands within (an instance's fields hold none either) -/
def D.lf : D → Bool
  | .tup xs => D.lfs xs
  | .lst _ => false
  | .ins _ xs => D.lfs xs
  | .scr _ => false
  | .mut _ => false
  | _ => true
def D.lfs : List D → Bool
  | [] => true
  | x :: xs => D.lf x && D.lfs xs
end
mutual
/-- lists and what list-free things stand in them, whole -/
def D.deep : D → Bool
  | .lst xs => D.deeps xs
  | .tup xs => D.lfs xs
  | .ins _ xs => D.lfs xs
  | .mut _ => false
  | _ => true
def D.deeps : List D → Bool
  | [] => true
  | x :: xs => D.deep x && D.deeps xs
end
mutual
def D.py : D → PyData
  | .non => .none
  | .bl b => .bool b
  | .int i => .int i
  | .str x => .str x
  | .tup xs => .tuple (D.pys xs)
  | .lst xs => .list (D.pys xs)
  | .ins _ _ => .dict []
  | .scr _ => .dict []
  | .mut _ => .dict []
def D.pys : List D → List PyData
  | [] => []
  | x :: xs => D.py x :: D.pys xs
end

/-- a list in the making is whole -/
def D.unm : D → D
  | .mut xs => .lst xs
  | d => d
/-! ### results -/
inductive R (α : Type) where
  | ok (a : α) | exc (c : Nat) (fs : List D) | bad
def R.bind {α β : Type} (x : R α) (f : α → R β) : R β := match x with
  | .ok a => f a
  | .exc c fs => .exc c fs
  | .bad => .bad
/-- a value and how it is held: 0 shared, 1 new at its top, 2 new whole, 3 and 4 a name's own (1, 2) looked at, 5 an instance in the making -/
abbrev LD := Nat × D
abbrev En := List (Option LD)

/-! ### the small language -/
inductive Bop where | add | sub | mul | fdiv | mod | pow
inductive Cop where | lt | le | gt | ge | eq | ne | isn | notn | isb (b : Bool) | notb (b : Bool) | inn | nin
inductive Ty where | bool | int | str | list | tuple | cls (c : Nat)
inductive Bi where
  | len | int1 | abs | list | tuple | min2 | max2 | minL | maxL | sum | str1 | sorted | any
inductive Tg where | one (i : Nat) | two (i j : Nat) | three (i j k : Nat)
mutual
inductive E where
  | var (i : Nat)
  | non | bl (b : Bool) | int (i : Int) | str (x : Str)
  | tup (es : Es) | lst (es : Es)
  | bin (op : Bop) (a b : E)
  | neg (a : E)
  | cmp (op : Cop) (a b : E)
  | chain (o1 o2 : Cop) (a b c : E)
  | and_ (a b : E) | or_ (a b : E) | not_ (a : E)
  | ite (t : Tst) (a b : E)
  | idx (a i : E)
  | slc (a : E) (lo hi : Eo)
  | fld (a : E) (f : Nat)
  | con (c f : Nat)
  | call (f : Nat) (as : Es)
  | make (c f sh : Nat) (as ks : Es)
  | meth (a : E) (m : Nat) (as : Es)
  | isi (a : E) (ts : List Ty)
  | bi (b : Bi) (as : Es)
  | comp (tg : Tg) (it : I) (t : To) (e : E)
  | fz (e : E)
  | lrg (e : E)
  | lidx (a e : E)
  | callk (f sh : Nat) (as ks : Es)
  | stat (f sh : Nat) (as ks : Es)
  | eqo (ne : Bool) (a b : E)
  | ino (m : Nat) (ni : Bool) (a b : E)
  | isc (a : E) (c : Nat)
  | glo (g : Nat)
  | sfl (i f : Nat)
  | prop (a : E) (m : Nat)
  | callv (a : E) (as : Es)
  | sup (d m : Nat) (as : Es)
  | no
inductive Es where | nil | cons (e : E) (r : Es)
inductive Eo where | none | some (e : E)
inductive Tst where
  | val (e : E) | tru (e : E) | not_ (t : Tst) | and_ (a b : Tst) | or_ (a b : Tst)
inductive To where | none | some (t : Tst)
inductive I where
  | seq (e : E) | seqO (e : E) | rng1 (a : E) | rng2 (a b : E) | zip (a b : E)
end
/-! ### what an except suite says of the caught exception -/
mutual
inductive XE where
  | str (x : Str) | int (i : Int) | bl (b : Bool) | non
  | fld (f : Nat)
  | isi (cs : List Nat) (tup : Bool)
  | and_ (a b : XE) | not_ (a : XE)
  | lst (es : XEs)
inductive XEs where | nil | cons (e : XE) (r : XEs)
end
/-- an except clause: its classes, a tuple of them or one, its name, its suite: name = .. -/
structure Hx where
  cs : List Nat
  tup : Bool
  nm : Option Nat
  su : List (Nat × Bool × XE)
end RS

/-! RsEval -/
namespace RS
open PySem

/-- what a program's classes are like (by numbers): the fields in their order, the methods, the bases, the constants -/
structure Tb where
  flds : Nat → List Nat
  meth : Nat → Nat → Option Nat
  sub : Nat → Nat → Bool
  con : Nat → Nat → Option D
  glo : Nat → Option D
  asm : Nat → List D → List D → Option (List D)
  sup : Nat → Nat → Nat → Option Nat
  prp : Nat → Nat → Option Nat
  itr : Nat → Option Nat
  eqk : Nat → Option Nat → Bool
  isk : Nat → Option Nat → Option Bool
  exm : Nat → Nat → Option Bool
  xfl : Nat → List Nat
/-- calls: a def (a method: its object first), a class, an __init__, a def called from within the machine -/
inductive Cl where | fn (f : Nat) (ds : List D) | mk (c f : Nat) (ds : List D) | ini (c f : Nat) (ds : List D) | up (f : Nat) (ds : List D) | dep (n : Nat)
/-- the numbers of the methods that the machine calls -/
abbrev mLen : Nat := 1
abbrev mGet : Nat := 2
abbrev mEq : Nat := 4
abbrev mCall : Nat := 5
abbrev mIni : Nat := 3

/-! ### operations on data -/
def lim : Nat := 1000000
/-- how big the factors may be -/
@[irreducible] def bigN : Nat := 2 ^ 4096
theorem bigN_eq : bigN = 2 ^ 4096 := by unfold bigN; rfl
theorem bigN_ge : 2 ^ 250 ≤ bigN := by rw [bigN_eq]; exact Nat.pow_le_pow_right (by decide) (by decide)
def okI (i : Int) : R LD := .ok (0, .int i)
def okB (b : Bool) : R LD := .ok (0, .bl b)
def lvUp (lv : Nat) (ds : List D) : Nat := if D.deeps ds then 2 else 1
/-- a list of which at most the top is one's own -/
def newL (ds : List D) (dp : Bool) : LD := (if dp then 2 else 1, .lst ds)
/-- may the items be shared? -/
def shb (lv : Nat) (xs : List D) : Bool := lv == 0 || lv == 1 || lv == 3 || D.lfs xs
def bopV (op : Bop) (x y : LD) : R LD :=
  match op, x.2, y.2 with
  | .add, .int i, .int j => okI (i + j)
  | .sub, .int i, .int j => okI (i - j)
  | .mul, .int i, .int j => if i.natAbs < bigN ∧ j.natAbs < bigN then okI (i * j) else .bad
  | .fdiv, .int i, .int j => if 0 < j ∧ j.natAbs < bigN then okI (i / j) else .bad
  | .mod, .int i, .int j => if 0 < j then okI (i % j) else .bad
  | .pow, .int i, .int j => if 0 ≤ j ∧ j ≤ 1000000 ∧ i.natAbs < 2 ^ 64 then okI (i ^ j.toNat) else .bad
  | .add, .lst xs, .lst ys => if xs.length + ys.length ≤ lim ∧ shb x.1 xs = true ∧ shb y.1 ys = true then .ok (newL (xs ++ ys) (D.lfs (xs ++ ys))) else .bad
  | .add, .tup xs, .tup ys => if xs.length + ys.length ≤ lim then .ok (0, .tup (xs ++ ys)) else .bad
  | .add, .str a, .str b => if a.length + b.length ≤ lim then .ok (0, .str (a ++ b)) else .bad
  | .mul, .lst xs, .int j => if 0 ≤ j ∧ j ≤ 1000 ∧ xs.length ≤ 1000 ∧ D.lfs xs = true then .ok (2, .lst (List.replicate j.toNat xs).flatten) else .bad
  | _, _, _ => .bad
def sc : D → Bool
  | .non | .bl _ | .int _ | .str _ => true
  | _ => false
def eqD (x y : D) : R Bool := if SeqAt.shaped x.py = true ∧ SeqAt.shaped y.py = true then .ok (PyData.eqv x.py y.py) else .bad
/-- x in xs -/
def inD (x : D) (ys : List D) : R Bool := if SeqAt.shaped x.py = true ∧ SeqAt.shaped (.list (D.pys ys)) = true then .ok (ys.any fun y => PyData.eqv y.py x.py) else .bad
def seqOf : D → Option (List D)
  | .tup xs => some xs
  | .lst xs => some xs
  | _ => none
def copV (op : Cop) (x y : LD) : R LD :=
  match op, x.2, y.2 with
  | .lt, .int i, .int j => okB (decide (i < j))
  | .le, .int i, .int j => okB (decide (i ≤ j))
  | .gt, .int i, .int j => okB (decide (j < i))
  | .ge, .int i, .int j => okB (decide (j ≤ i))
  | .eq, a, b => (eqD a b).bind fun r => okB r
  | .ne, a, b => (eqD a b).bind fun r => okB (!r)
  | .isn, a, .non => (match a with | .non => okB true | _ => okB false)
  | .notn, a, .non => (match a with | .non => okB false | _ => okB true)
  | .isb b, a, .bl c => (match a with | .bl d => if b = c then okB (d == b) else .bad | _ => if b = c then okB false else .bad)
  | .notb b, a, .bl c => (match a with | .bl d => if b = c then okB (!(d == b)) else .bad | _ => if b = c then okB true else .bad)
  | .inn, a, b => (match seqOf b with | some ys => (inD a ys).bind okB | none => .bad)
  | .nin, a, b => (match seqOf b with | some ys => (inD a ys).bind fun r => okB (!r) | none => .bad)
  | _, _, _ => .bad
/-- an item of what is held by lv -/
def part (lv : Nat) (d : D) : R LD :=
  if lv = 0 ∨ lv = 1 ∨ lv = 3 then .ok (0, d) else if lv = 2 then .ok (if d.lf then 0 else 2, d) else if lv = 4 then .ok (if d.lf then 0 else 4, d) else if lv = 5 then .ok (if d.lf then 0 else 4, d) else .bad
def idxV (x i : LD) : R LD :=
  match i.2 with
  | .int k => (match x.2 with
      | .lst xs => (match L2.atI xs k with | some d => part x.1 d | none => .bad)
      | .tup xs => (match L2.atI xs k with | some d => part x.1 d | none => .bad)
      | .scr ns => (match L2.atI ns k with | some i => okI i | none => .bad)
      | _ => .bad)
  | _ => .bad
def cut (xs : List D) (lo hi : Option Int) : List D := (xs.drop (HT.sIx xs.length 0 lo)).take (HT.sIx xs.length xs.length hi - HT.sIx xs.length 0 lo)
def slV (x : LD) (l h : Option Int) : R LD := match x.2 with
    | .lst xs => if shb x.1 xs then .ok (newL (cut xs l h) (D.lfs xs)) else .bad
    | .tup xs => .ok (0, .tup (cut xs l h))
    | _ => .bad
def fldIx : List Nat → Nat → Option Nat
  | [], _ => none
  | g :: r, f => if g = f then some 0 else (fldIx r f).map (· + 1)
def fldV (G : Tb) (x : LD) (f : Nat) : R LD :=
  match x.1, x.2 with
  | 0, .ins c fs => (match fldIx (G.flds c) f with
    | some k => (match fs[k]? with | some d => .ok (0, d) | none => .bad)
    | none => .bad)
  | _, _ => .bad
def isTy (G : Tb) (d : D) : Ty → Bool
  | .bool => (match d with | .bl _ => true | _ => false)
  | .int => (match d with | .bl _ => true | .int _ => true | _ => false)
  | .str => (match d with | .str _ => true | _ => false)
  | .list => (match d with | .lst _ => true | .scr _ => true | _ => false)
  | .tuple => (match d with | .tup _ => true | _ => false)
  | .cls c => (match d with | .ins e _ => G.sub e c | _ => false)
/-- a value's built-in type -/
def dTy : D → Option String
  | .non => some "NoneType"
  | .bl _ => some "bool"
  | .int _ => some "int"
  | .str _ => some "str"
  | .tup _ => some "tuple"
  | .lst _ => some "list"
  | .scr _ => some "list"
  | .ins _ _ => none
  | .mut _ => none
def isiV (G : Tb) (x : LD) (ts : List Ty) : R LD := if x.1 ≤ 4 ∧ dTy x.2 ≠ none then okB (ts.any fun t => isTy G x.2 t) else .bad
def intsOf : List D → Option (List Int)
  | [] => some []
  | .int i :: r => (intsOf r).map (i :: ·)
  | _ :: _ => none
def boolsOf : List D → Option (List Bool)
  | [] => some []
  | .bl i :: r => (boolsOf r).map (i :: ·)
  | _ :: _ => none
def minL : List Int → Option Int
  | [] => none
  | x :: r => some (r.foldl (fun a b => if b < a then b else a) x)
def maxL : List Int → Option Int
  | [] => none
  | x :: r => some (r.foldl (fun a b => if a < b then b else a) x)
/-- sorted numbers -/
def srt (ns : List Int) : List Int := ns.mergeSort fun a b => decide (a ≤ b)
def biV (b : Bi) (as : List LD) : R LD :=
  match b, as with
  | .len, [x] => (match x.2 with
    | .lst xs => okI xs.length
    | .tup xs => okI xs.length
    | .str s => if s.length ≤ lim then okI s.length else .bad
    | .scr ns => okI ns.length
    | _ => .bad)
  | .int1, [x] => (match x.2 with
    | .int i => okI i
    | .bl true => okI 1
    | .bl false => okI 0
    | _ => .bad)
  | .abs, [x] => (match x.2 with
    | .int i => okI (if i < 0 then -i else i)
    | _ => .bad)
  | .list, [x] => (match x.2 with
    | .lst xs => if shb x.1 xs then .ok (newL xs (D.lfs xs)) else .bad
    | .tup xs => .ok (newL xs (D.lfs xs))
    | _ => .bad)
  | .tuple, [x] => (match x.2 with
    | .lst xs => if shb x.1 xs then .ok (0, .tup xs) else .bad
    | .tup xs => .ok (0, .tup xs)
    | _ => .bad)
  | .min2, [x, y] => (match x.2, y.2 with
    | .int i, .int j => okI (if j < i then j else i)
    | _, _ => .bad)
  | .max2, [x, y] => (match x.2, y.2 with
    | .int i, .int j => okI (if j > i then j else i)
    | _, _ => .bad)
  | .minL, [x] => (match x.2 with
    | .lst xs => (match (intsOf xs).bind minL with | some i => okI i | none => .bad)
    | _ => .bad)
  | .maxL, [x] => (match x.2 with
    | .lst xs => (match (intsOf xs).bind maxL with | some i => okI i | none => .bad)
    | _ => .bad)
  | .sum, [x] => (match x.2 with
    | .lst xs => (match intsOf xs with | some is => okI is.sum | none => .bad)
    | .tup xs => (match intsOf xs with | some is => okI is.sum | none => .bad)
    | _ => .bad)
  | .str1, [x] => (match x.2 with
    | .int i => if i.natAbs < 2 ^ 1900 then .ok (0, .str (toString i : String)) else .bad
    | .str s => .ok (0, .str s)
    | _ => .bad)
  | .any, [x] => (match x.2 with
    | .lst xs => (match boolsOf xs with | some bs => okB (bs.any id) | none => .bad)
    | _ => .bad)
  | .sorted, [x] => (match x.2 with
    | .lst xs => (match intsOf xs with | some ns => if ns.length < 64 then .ok (newL ((srt ns).map D.int) (D.lfs ((srt ns).map D.int))) else .bad | none => .bad)
    | _ => .bad)
  | _, _ => .bad
/-- a value becomes shared -/
def shr (x : LD) : R D := if x.1 ≤ 2 then .ok x.2 else .bad
def shrs : List LD → R (List D)
  | [] => .ok []
  | x :: r => (shr x).bind fun d => (shrs r).bind fun ds => .ok (d :: ds)
/-- the items of a new list -/
def packL : List LD → Bool
  | [] => true
  | x :: r => (x.1 == 2 || x.2.lf) && packL r
def pack (xs : List LD) : R LD := (shrs xs).bind fun ds => if ds.length ≤ lim then .ok (if packL xs then 2 else 1, .lst ds) else .bad
def tru (x : LD) : R Bool := match x.2 with
  | .non => .ok false
  | .bl b => .ok b
  | .int i => .ok (i != 0)
  | .lst xs => .ok (!xs.isEmpty)
  | .tup xs => .ok (!xs.isEmpty)
  | _ => .bad
def asB (x : LD) : R Bool := match x.2 with
  | .bl b => .ok b
  | _ => .bad
def getS (ε : En) (i : Nat) : R LD := match ε[i]? with
  | some (some (lv, d)) => if lv = 0 then .ok (0, d) else if lv = 1 then .ok (3, d) else if lv = 2 then .ok (4, d) else .bad
  | _ => .bad
def setTg (tg : Tg) (d : D) (ε : En) : Option En := match tg with
  | .one i => if i < ε.length then some (ε.set i (some (0, d))) else none
  | .two i j => (match d with
    | .tup [a, b] => if i < ε.length ∧ j < ε.length ∧ i ≠ j then some ((ε.set i (some (0, a))).set j (some (0, b))) else none
    | _ => none)
  | .three i j k => (match d with
    | .tup [a, b, c] => if i < ε.length ∧ j < ε.length ∧ k < ε.length ∧ i ≠ j ∧ i ≠ k ∧ j ≠ k then some (((ε.set i (some (0, a))).set j (some (0, b))).set k (some (0, c))) else none
    | _ => none)
def lent (as : List LD) : Bool := as.any fun a => 3 ≤ a.1
def data (as : List LD) : Option (List D) := if as.all (fun a => a.1 ≤ 4) then some (as.map (·.2)) else none
/-- a value becomes shared, and stays a value -/
def fzV (x : LD) : R LD := if x.1 ≤ 2 then .ok (0, x.2) else .bad
/-- a value's kind -/
def hk : D → Nat
  | .non => 0
  | .bl _ => 1
  | .int _ => 2
  | .str _ => 3
  | _ => 4
mutual
/-- no list within is like one whose items' kinds are ks -/
def apD (ks : List Nat) : D → Bool
  | .lst ds => decide (ks ≠ ds.map hk) && apDs ks ds
  | _ => true
def apDs (ks : List Nat) : List D → Bool
  | [] => true
  | d :: r => apD ks d && apDs ks r
end
def apT (ks : List Nat) : D → Bool
  | .lst ds => decide (ks ≠ ds.map hk)
  | _ => false
def apA (ks : List Nat) (a : LD) : Bool := decide (a.1 ≤ 2) || (a.1 == 3 && apT ks a.2) || (a.1 == 4 && apD ks a.2)
/-- a flat list that is none of those lent -/
def apart (as : List LD) : D → Bool
  | .lst xs => D.lfs xs && as.all (apA (xs.map hk))
  | _ => false
/-- what a call hands back: nothing that was only lent -/
def back (as : List LD) (r : R LD) : R LD := match r with
  | .ok x => if x.1 ≤ 2 ∧ (lent as = false ∨ x.1 = 2 ∨ x.2.lf = true ∨ apart as x.2 = true) then .ok x else .bad
  | .exc c fs => if lent as = false ∨ D.lfs fs = true then .exc c fs else .bad
  | .bad => .bad
def zipD : List D → List D → List D
  | a :: r, b :: s => .tup [a, b] :: zipD r s
  | _, _ => []
/-- a range's bounds -/
abbrev inR (j : Int) : Prop := j.natAbs < 2 ^ 62
abbrev inR2 (i j : Int) : Prop := i.natAbs < 2 ^ 62 ∧ j.natAbs < 2 ^ 62
def rngD (lo : Int) : Nat → List D
  | 0 => []
  | n + 1 => .int lo :: rngD (lo + 1) n
/-- what is walked: items that are shared -/
def items (st : Bool) (x : LD) : R (List D) := match x.2 with
  | .lst xs => if shb x.1 xs = true ∧ (st = true → x.1 ≤ 2) then .ok xs else .bad
  | .tup xs => .ok xs
  | _ => .bad
/-- no exception within a block -/
def noX {α : Type} (x : R α) : R α := match x with
  | .exc _ _ => .bad
  | o => o
def compL (f : D → R (Option LD)) : List D → R (List LD)
  | [] => .ok []
  | d :: r => (f d).bind fun o => (compL f r).bind fun ys => .ok (match o with | some y => y :: ys | none => ys)

/-- an item's turn -/
def compF (tg : Tg) (t : En → R Bool) (e : En → R LD) (ε : En) (d : D) : R (Option LD) := match setTg tg d ε with
  | some ε' => (noX (t ε')).bind fun k => if k then (noX (e ε')).bind fun y => .ok (some y) else .ok none
  | none => .bad

/-- a method of an instance -/
def methF (G : Tb) (m : Nat) (x : LD) : Option (Nat × D) := match x.1, x.2 with
    | 0, .ins c fs => (G.meth c m).map fun f => (f, .ins c fs)
    | _, _ => none
def callD (cal : Cl → R LD) (f : Nat) (d : D) (xs : List LD) : R LD := match data xs with
    | some ds => back xs (cal (.fn f (d :: ds)))
    | none => .bad
/-- .. that the machine calls -/
def upV (G : Tb) (cal : Cl → R LD) (m : Nat) (x : LD) (xs : List LD) : R LD := match x.1, x.2, data xs with
    | 0, .ins c fs, some ds => (match G.meth c m with
      | some f => back xs (noX (cal (.up f (.ins c fs :: ds))))
      | none => .bad)
    | _, _, _ => .bad
/-- o.p, a property -/
def prV (G : Tb) (cal : Cl → R LD) (m : Nat) (x : LD) : R LD := match x.1, x.2 with
  | 0, .ins c fs => (match G.prp c m with
    | some f => back [] (noX (cal (.up f [.ins c fs])))
    | none => .bad)
  | _, _ => .bad
def makeV (G : Tb) (cal : Cl → R LD) (c f sh : Nat) (xs ys : List LD) : R LD := match data xs, data ys with
    | some ds, some es => (match G.asm sh ds es with
      | some r => back (xs ++ ys) (cal (.mk c f r))
      | none => .bad)
    | _, _ => .bad
def sflV (G : Tb) (i f : Nat) (ε : En) : R LD := match ε[i]? with
  | some (some (5, .ins c fs)) => (match fldIx (G.flds c) f with
    | some k => (match fs[k]? with | some d => .ok (0, d) | none => .bad)
    | none => .bad)
  | some (some (6, .ins c fs)) => (match fldIx (G.flds c) f with
    | some k => (match fs[k]? with | some (.mut _) => .bad | some d => .ok (0, d) | none => .bad)
    | none => .bad)
  | _ => .bad
/-- super().m(..): self's class is c, the def's is d -/
def supF (G : Tb) (d m : Nat) (ε : En) : Option (Nat × D) := match ε[(0 : Nat)]? with
  | some (some (0, .ins c fs)) => (G.sup c d m).map fun f => (f, .ins c fs)
  | _ => none
/-- super().__init__(..): self's class; f is the def -/
def supJ (G : Tb) (d f : Nat) (ε : En) : Option Nat := match ε[(0 : Nat)]? with
  | some (some (5, .ins c [])) => if G.sup c d mIni = some f then some c else none
  | _ => none
/-- list(range(n)) -/
def lrgV (x : LD) : R LD := match x.2 with
  | .int n => if 0 ≤ n ∧ n ≤ 1000000 then .ok (2, .lst (rngD 0 n.toNat)) else .bad
  | _ => .bad
def isIns : D → Bool
  | .ins _ _ => true
  | _ => false
def idxO (G : Tb) (cal : Cl → R LD) (x y : LD) : R LD := if isIns x.2 then upV G cal mGet x [y] else idxV x y
/-- a length -/
def lenR (r : R LD) : R LD := match r with
  | .ok (_, .int n) => if 0 ≤ n ∧ n ≤ 1000000 then okI n else .bad
  | .exc c fs => .exc c fs
  | _ => .bad
def biO (G : Tb) (cal : Cl → R LD) (b : Bi) (xs : List LD) : R LD := match b, xs with
  | .len, [x] => if isIns x.2 then lenR (upV G cal mLen x []) else if x.1 ≤ 4 then biV .len [x] else .bad
  | b, xs => if xs.all (fun a => a.1 ≤ 4) then biV b xs else .bad
/-- xs.index(y), of numbers -/
def lidxL (x : LD) : Option (List Int) := match x.2 with
  | .lst xs => intsOf xs
  | _ => none
def lidxV (ns : List Int) (y : LD) : R LD := match y.2 with
  | .int i => if i ∈ ns then okI (ns.idxOf i) else .bad
  | _ => .bad
/-- f(.., k = ..): the defaults are filled in -/
def callkV (G : Tb) (cal : Cl → R LD) (f sh : Nat) (xs ys : List LD) : R LD := match data xs, data ys with
    | some ds, some es => (match G.asm sh ds es with
      | some r => back (xs ++ ys) (cal (.fn f r))
      | none => .bad)
    | _, _ => .bad
/-- an instance's class, or none -/
def insOf : D → Option Nat
  | .ins e _ => some e
  | _ => none
def notR (ne : Bool) (r : R LD) : R LD := match r with
  | .ok (_, .bl b) => if ne then .bad else okB b
  | _ => .bad
/-- x == y, where x may be of an own class -/
def eqoV (G : Tb) (cal : Cl → R LD) (ne : Bool) (x y : LD) : R LD := match insOf x.2 with
  | some c => if y.1 ≤ 4 ∧ G.eqk c (insOf y.2) = true then notR ne (upV G cal mEq x [y]) else .bad
  | none => copV (if ne then .ne else .eq) x y
/-- what __contains__ says, or not -/
def inR2' (ni : Bool) (r : R LD) : R LD := match r with
  | .ok (_, .bl b) => okB (b != ni)
  | _ => .bad
/-- x in y, where y may be of an own class -/
def inoV (G : Tb) (cal : Cl → R LD) (m : Nat) (ni : Bool) (x y : LD) : R LD := match insOf y.2 with
  | some _ => if x.1 ≤ 4 then inR2' ni (upV G cal m y [x]) else .bad
  | none => copV (if ni then .nin else .inn) x y
/-- isinstance(x, C), C an own class -/
def iscV (G : Tb) (c : Nat) (x : LD) : R LD := if x.1 ≤ 4 then (match G.isk c (insOf x.2) with | some b => okB b | none => .bad) else .bad
/-- what is walked: an own class by its __iter__, or items -/
def itemsO (G : Tb) (cal : Cl → R LD) (st : Bool) (x : LD) : R (List D) := match x.1, x.2 with
  | 0, .ins c fs => (match G.itr c with
    | some f => (match upV G cal mLen x [] with
      | .ok _ => (match fldIx (G.flds c) f with
        | some k => (match fs[k]? with | some (.tup xs) => .ok xs | _ => .bad)
        | none => .bad)
      | _ => .bad)
    | none => .bad)
  | _, _ => items st x
mutual
def evE (G : Tb) (cal : Cl → R LD) : E → En → R LD
  | .var i, ε => getS ε i
  | .non, _ => .ok (0, .non)
  | .bl b, _ => okB b
  | .int i, _ => okI i
  | .str x, _ => .ok (0, .str x)
  | .tup es, ε => (evEs G cal es ε).bind fun xs => (shrs xs).bind fun ds => if ds.length ≤ lim then .ok (0, .tup ds) else .bad
  | .lst es, ε => (evEs G cal es ε).bind pack
  | .bin op a b, ε => (evE G cal a ε).bind fun x => (evE G cal b ε).bind fun y => bopV op x y
  | .neg a, ε => (evE G cal a ε).bind fun x => match x.2 with | .int i => okI (-i) | _ => .bad
  | .cmp op a b, ε => (evE G cal a ε).bind fun x => (evE G cal b ε).bind fun y => copV op x y
  | .chain o1 o2 a b c, ε => (evE G cal a ε).bind fun x => (evE G cal b ε).bind fun y => (copV o1 x y).bind fun r => (asB r).bind fun k => if k then (evE G cal c ε).bind fun z => copV o2 y z else okB false
  | .and_ a b, ε => (evE G cal a ε).bind fun x => (asB x).bind fun k => if k then evE G cal b ε else okB false
  | .or_ a b, ε => (evE G cal a ε).bind fun x => (asB x).bind fun k => if k then okB true else evE G cal b ε
  | .not_ a, ε => (evE G cal a ε).bind fun x => (asB x).bind fun k => okB (!k)
  | .ite t a b, ε => (evT G cal t ε).bind fun k => if k then evE G cal a ε else evE G cal b ε
  | .idx a i, ε => (evE G cal a ε).bind fun x => (evE G cal i ε).bind fun y => idxO G cal x y
  | .slc a lo hi, ε => (evE G cal a ε).bind fun x => (evEo G cal lo ε).bind fun l => (evEo G cal hi ε).bind fun h => slV x l h
  | .fld a f, ε => (evE G cal a ε).bind fun x => fldV G x f
  | .con c f, _ => (match G.con c f with | some d => .ok (0, d) | none => .bad)
  | .call f as, ε => (evEs G cal as ε).bind fun xs => match data xs with
    | some ds => back xs (cal (.fn f ds))
    | none => .bad
  | .make c f sh as ks, ε => (evEs G cal as ε).bind fun xs => (evEs G cal ks ε).bind fun ys => makeV G cal c f sh xs ys
  | .meth a m as, ε => (evE G cal a ε).bind fun x => match methF G m x with
    | some (f, d) => (evEs G cal as ε).bind fun xs => callD cal f d xs
    | none => .bad
  | .callv a as, ε => (evE G cal a ε).bind fun x => match methF G mCall x with
    | some (f, d) => (evEs G cal as ε).bind fun xs => callD cal f d xs
    | none => .bad
  | .no, _ => .bad
  | .sup d m as, ε => (match supF G d m ε with
    | some (f, x) => (evEs G cal as ε).bind fun xs => callD cal f x xs
    | none => .bad)
  | .prop a m, ε => (evE G cal a ε).bind fun x => prV G cal m x
  | .glo g, _ => (match G.glo g with | some d => .ok (0, d) | none => .bad)
  | .sfl i f, ε => sflV G i f ε
  | .isi a ts, ε => (evE G cal a ε).bind fun x => isiV G x ts
  | .bi b as, ε => (evEs G cal as ε).bind fun xs => biO G cal b xs
  | .comp tg it t e, ε => (evI G cal it false ε).bind fun xs => (compL (compF tg (evTo G cal t) (evE G cal e) ε) xs).bind pack
  | .fz e, ε => (evE G cal e ε).bind fzV
  | .lrg e, ε => (evE G cal e ε).bind lrgV
  | .lidx a e, ε => (evE G cal a ε).bind fun x => match lidxL x with
    | some ns => (evE G cal e ε).bind fun y => lidxV ns y
    | none => .bad
  | .callk f sh as ks, ε => (evEs G cal as ε).bind fun xs => (evEs G cal ks ε).bind fun ys => callkV G cal f sh xs ys
  | .stat f sh as ks, ε => (evEs G cal as ε).bind fun xs => (evEs G cal ks ε).bind fun ys => callkV G cal f sh xs ys
  | .eqo ne a b, ε => (evE G cal a ε).bind fun x => (evE G cal b ε).bind fun y => eqoV G cal ne x y
  | .ino m ni a b, ε => (evE G cal a ε).bind fun x => (evE G cal b ε).bind fun y => inoV G cal m ni x y
  | .isc a c, ε => (evE G cal a ε).bind fun x => iscV G c x
def evEs (G : Tb) (cal : Cl → R LD) : Es → En → R (List LD)
  | .nil, _ => .ok []
  | .cons e r, ε => (evE G cal e ε).bind fun x => (evEs G cal r ε).bind fun xs => .ok (x :: xs)
def evEo (G : Tb) (cal : Cl → R LD) : Eo → En → R (Option Int)
  | .none, _ => .ok none
  | .some e, ε => (evE G cal e ε).bind fun x => match x.2 with | .int i => .ok (some i) | _ => .bad
def evT (G : Tb) (cal : Cl → R LD) : Tst → En → R Bool
  | .val e, ε => (evE G cal e ε).bind asB
  | .tru e, ε => (evE G cal e ε).bind fun x => if x.1 ≤ 4 then tru x else .bad
  | .not_ t, ε => (evT G cal t ε).bind fun k => .ok (!k)
  | .and_ a b, ε => (evT G cal a ε).bind fun k => if k then evT G cal b ε else .ok false
  | .or_ a b, ε => (evT G cal a ε).bind fun k => if k then .ok true else evT G cal b ε
def evTo (G : Tb) (cal : Cl → R LD) : To → En → R Bool
  | .none, _ => .ok true
  | .some t, ε => evT G cal t ε
def evI (G : Tb) (cal : Cl → R LD) : I → Bool → En → R (List D)
  | .seq e, st, ε => (evE G cal e ε).bind (items st)
  | .seqO e, st, ε => (evE G cal e ε).bind (itemsO G cal st)
  | .rng1 a, st, ε => (evE G cal a ε).bind fun x => match x.2 with | .int j => if inR j then .ok (rngD 0 j.toNat) else .bad | _ => .bad
  | .rng2 a b, st, ε => (evE G cal a ε).bind fun x => (evE G cal b ε).bind fun y => match x.2, y.2 with
    | .int i, .int j => if inR2 i j then .ok (rngD i (j - i).toNat) else .bad
    | _, _ => .bad
  | .zip a b, st, ε => (evE G cal a ε).bind fun x => (evE G cal b ε).bind fun y => (items st x).bind fun xs => (items st y).bind fun ys => .ok (zipD xs ys)
end

/-! ### statements -/
inductive Lm where | remove | insert | reverse | pop | pop0 | clear | extend
/-- a list of numbers changed by its method -/
def lmV (m : Lm) (ns : List Int) (ys : List LD) : Option (List Int) := match m, ys with
  | .remove, [y] => (match y.2 with
    | .int k => if k ∈ ns then some (ns.erase k) else none
    | _ => none)
  | .insert, [a, b] => (match a.2, b.2 with
    | .int i, .int y => if 0 ≤ i ∧ i ≤ 1000000 then some (ns.take i.toNat ++ [y] ++ ns.drop i.toNat) else none
    | _, _ => none)
  | .reverse, [] => some ns.reverse
  | _, _ => none
mutual
inductive S where
  | forA (i j p : Nat) (t : Tst) (e : E)
  | forQ (i j : Nat) (t : Tst) (e : E)
  | asg (i : Nat) (fz : Bool) (e : E)
  | asgT (tg : Tg) (e : E)
  | setI (i : Nat) (k : E) (e : E)
  | setI2 (i : Nat) (j k : E) (e : E)
  | aug (i : Nat) (op : Bop) (e : E)
  | app (i : Nat) (e : E)
  | lm (i : Nat) (m : Lm) (as : Es)
  | delI (i : Nat) (k : E)
  | sfld (i : Nat) (f : Nat) (e : E)
  | sfldO (i : Nat) (f : Nat) (e : E)
  | sapp (i : Nat) (f : Nat) (e : E)
  | supi (d f sh : Nat) (as ks : Es)
  | rais (c : Nat) (as : Es) | raim (c : Nat)
  | tryx (b : Ss) (hs : List Hx)
  | ex (e : E)
  | ret (e : E) | retN
  | ife (t : Tst) (a b : Ss)
  | whl (t : Tst) (b : Ss)
  | for_ (tg : Tg) (it : I) (b : Ss)
  | brk | cnt | pas
  | frz (i : Nat) | shl (i : Nat) | shf (i : Nat)
  | rs
inductive Ss where | nil | cons (s : S) (r : Ss)
end
inductive Out where
  | nx (ε : En) | ret (r : LD) (ε : En) | brk (ε : En) | cnt (ε : En)
  | exc (c : Nat) (fs : List D) (ε : En) | bad
def toO {α : Type} (ε : En) (x : R α) (f : α → Out) : Out := match x with
  | .ok a => f a
  | .exc c fs => .exc c fs ε
  | .bad => .bad
def putS (i : Nat) (x : Option LD) (ε : En) : Out := if i < ε.length then .nx (ε.set i x) else .bad
/-- a value is stored at a name -/
def keepV (fz : Bool) (x : LD) : Option LD := if x.1 ≤ 2 then some (if fz ∨ x.2.lf then 0 else x.1, x.2) else none
/-- a list that is a name's own, and how -/
def own (ε : En) (i : Nat) : Option (Nat × List D) := match ε[i]? with
  | some (some (1, .lst xs)) => some (1, xs)
  | some (some (2, .lst xs)) => some (2, xs)
  | _ => none
/-- the level of an own list that takes in one more item -/
def lvWith (lv : Nat) (x : LD) : Nat := if lv = 2 ∧ (x.1 = 2 ∨ x.2.lf = true) then 2 else 1
def forL (b : En → Out) (tg : Tg) : List D → En → Out
  | [], ε => .nx ε
  | d :: r, ε => match setTg tg d ε with
    | none => .bad
    | some ε1 => (match b ε1 with
      | .nx ε2 => forL b tg r ε2
      | .cnt ε2 => forL b tg r ε2
      | .brk ε2 => .nx ε2
      | o => o)
def whlL (t : En → R Bool) (b : En → Out) : Nat → En → Out
  | 0, _ => .bad
  | n + 1, ε => toO ε (t ε) fun k => if k then (match b ε with
      | .nx ε2 => whlL t b n ε2
      | .cnt ε2 => whlL t b n ε2
      | .brk ε2 => .nx ε2
      | o => o) else .nx ε
/-- the most turns of a while -/
def turns : Nat := 100000
/-- name op= e, of integers -/
def augV (op : Bop) (i j : Int) : R LD := match op with
  | .add => okI (i + j)
  | .sub => okI (i - j)
  | .mul => if (-(2 ^ 64) < i ∧ i < 2 ^ 64) ∨ (-(2 ^ 64) < j ∧ j < 2 ^ 64) then okI (i * j) else .bad
  | _ => .bad
/-- p = e, shared -/
def asgF (p : Nat) (r : R LD) (ε : En) : Out := toO ε r fun x => match keepV true x with | some y => putS p (some y) ε | none => .bad
/-- for j in a name's own list: if t: p = e -/
def forA (i j p : Nat) (t : En → R Bool) (e : En → R LD) (ε : En) : Out := match own ε i with
  | some (_, xs) => if D.lfs xs = true ∧ i ≠ j ∧ i ≠ p then forL (fun ε => toO ε (t ε) fun c => if c then asgF p (e ε) ε else .nx ε) (.one j) xs ε else .bad
  | none => .bad
/-- for j in a name's own list: if t: return e -/
def forQ (i j : Nat) (t : En → R Bool) (e : En → R LD) (ε : En) : Out := match own ε i with
  | some (_, xs) => if D.lfs xs = true ∧ i ≠ j then forL (fun ε => toO ε (t ε) fun c => if c then toO ε (e ε) fun x => .ret x ε else .nx ε) (.one j) xs ε else .bad
  | none => .bad
/-- .. its arguments are shared -/
def makeS (G : Tb) (cal : Cl → R LD) (c f sh : Nat) (xs ys : List LD) : R LD := (shrs xs).bind fun ds => (shrs ys).bind fun es => match G.asm sh ds es with
  | some r => cal (.mk c f r)
  | none => .bad
/-- what a base's __init__ has made -/
def supI (c : Nat) (ε : En) (x : LD) : Out := match x with
  | (0, .ins e fs) => if e = c then .nx (ε.set 0 (some (5, .ins c fs))) else .bad
  | _ => .bad
/-- a field that is an own list, of an instance in the making -/
def ownF (G : Tb) (f : Nat) (s : Option (Option LD)) : Option (Nat × List D × Nat × List D) := match s with
  | some (some (6, .ins c fs)) => (match fldIx (G.flds c) f with
    | some j => (match fs[j]? with | some (.mut xs) => some (c, fs, j, xs) | _ => none)
    | none => none)
  | _ => none
/-- its own lists are whole -/
def shf (i : Nat) (ε : En) : Out := match ε[i]? with
  | some (some (6, .ins c fs)) => .nx (ε.set i (some (5, .ins c (fs.map D.unm))))
  | _ => .nx ε
/-- is an exception of the class c of one of these classes? -/
def xis (G : Tb) (c : Nat) : List Nat → Option Bool
  | [] => some false
  | d :: r => match G.exm d c, xis G c r with
    | some b, some e => some (b || e)
    | _, _ => none
mutual
/-- a caught exception of the class c with the fields fs is spoken of -/
def evX (G : Tb) (c : Nat) (fs : List D) : XE → R LD
  | .str x => .ok (0, .str x)
  | .int i => okI i
  | .bl b => okB b
  | .non => .ok (0, .non)
  | .fld f => (match fldIx (G.xfl c) f with
    | some j => (match fs[j]? with | some d => .ok (0, d) | none => .bad)
    | none => .bad)
  | .isi cs _ => (match xis G c cs with | some b => okB b | none => .bad)
  | .and_ a b => (evX G c fs a).bind fun x => (asB x).bind fun k => if k then evX G c fs b else okB false
  | .not_ a => (evX G c fs a).bind fun x => (asB x).bind fun k => okB (!k)
  | .lst es => (evXs G c fs es).bind pack
def evXs (G : Tb) (c : Nat) (fs : List D) : XEs → R (List LD)
  | .nil => .ok []
  | .cons e r => (evX G c fs e).bind fun x => (evXs G c fs r).bind fun xs => .ok (x :: xs)
end
/-- a suite -/
def suX (G : Tb) (c : Nat) (fs : List D) : List (Nat × Bool × XE) → En → Out
  | [], ε => .nx ε
  | (i, fz, e) :: r, ε => match evX G c fs e with
    | .ok x => (match keepV fz x with
      | some y => if i < ε.length then suX G c fs r (ε.set i (some y)) else .bad
      | none => .bad)
    | _ => .bad
/-- the clauses -/
def hdX (G : Tb) (c : Nat) (fs : List D) : List Hx → En → Out
  | [], ε => .exc c fs ε
  | h :: r, ε => match xis G c h.cs with
    | some true => (match h.nm with
      | none => suX G c fs h.su ε
      | some i => if i < ε.length ∧ (h.su.all fun p => p.1 != i) = true then (match suX G c fs h.su (ε.set i none) with
        | .nx ε' => .nx (ε'.set i none)
        | _ => .bad) else .bad)
    | some false => hdX G c fs r ε
    | none => .bad
mutual
def run (G : Tb) (cal : Cl → R LD) : S → En → Out
  | .asg i fz e, ε => toO ε (evE G cal e ε) fun x => match keepV fz x with | some y => putS i (some y) ε | none => .bad
  | .asgT tg e, ε => toO ε (evE G cal e ε) fun x => match x.1, x.2 with
    | 0, .tup xs => (match setTg tg (.tup xs) ε with | some ε' => .nx ε' | none => .bad)
    | _, _ => .bad
  | .setI i k e, ε => toO ε (evE G cal e ε) fun x => match own ε i with
    | some (lv, xs) => toO ε (evE G cal k ε) fun y => (match y.2 with
      | .int j => (match L2.ixN xs.length j with
        | some n => if x.1 ≤ 2 then putS i (some (lvWith lv x, .lst (xs.set n x.2))) ε else .bad
        | none => .bad)
      | _ => .bad)
    | none => .bad
  | .setI2 i j k e, ε => toO ε (evE G cal e ε) fun x => match own ε i with
    | some (2, xs) => toO ε (evE G cal j ε) fun y => (match y.2 with
      | .int p => (match L2.ixN xs.length p with
        | some n => (match xs[n]? with
          | some (.lst ys) => toO ε (evE G cal k ε) fun z => (match z.2 with
            | .int q => (match L2.ixN ys.length q with
              | some m => if x.2.lf = true ∧ x.1 ≤ 2 ∧ D.lfs ys = true then putS i (some (2, .lst (xs.set n (.lst (ys.set m x.2))))) ε else .bad
              | none => .bad)
            | _ => .bad)
          | _ => .bad)
        | none => .bad)
      | _ => .bad)
    | _ => .bad
  | .aug i op e, ε => toO ε (getS ε i) fun x => toO ε (evE G cal e ε) fun y => match x.2, y.2 with
    | .int m, .int n => toO ε (augV op m n) fun z => putS i (some z) ε
    | _, _ => .bad
  | .app i e, ε => (match own ε i with
    | some (lv, xs) => toO ε (evE G cal e ε) fun x => if x.1 ≤ 2 ∧ xs.length < lim then putS i (some (lvWith lv x, .lst (xs ++ [x.2]))) ε else .bad
    | none => .bad)
  | .lm i m as, ε => (match own ε i with
    | some (lv, xs) => (match intsOf xs with
      | some ns => toO ε (evEs G cal as ε) fun ys => (match lmV m ns ys with
        | some ms => if ns.length < lim then putS i (some (lv, .lst (ms.map D.int))) ε else .bad
        | none => .bad)
      | none => .bad)
    | none => .bad)
  | .delI i k, ε => (match own ε i with
    | some (lv, xs) => toO ε (evE G cal k ε) fun y => (match y.2 with
      | .int j => (match L2.ixN xs.length j with
        | some n => if xs.length ≤ lim then putS i (some (lv, .lst (xs.eraseIdx n))) ε else .bad
        | none => .bad)
      | _ => .bad)
    | none => .bad)
  | .sfld i f e, ε => toO ε (evE G cal e ε) fun x => match ε[i]? with
    | some (some (5, .ins c fs)) => if (G.flds c)[fs.length]? = some f ∧ x.1 ≤ 2 then putS i (some (5, .ins c (fs ++ [x.2]))) ε else .bad
    | _ => .bad
  | .sfldO i f e, ε => toO ε (evE G cal e ε) fun x => match ε[i]?, x.2 with
    | some (some (lv, .ins c fs)), .lst xs => if (lv = 5 ∨ lv = 6) ∧ (G.flds c)[fs.length]? = some f ∧ (x.1 = 1 ∨ (x.1 = 2 ∧ D.lfs xs = true)) then putS i (some (6, .ins c (fs ++ [.mut xs]))) ε else .bad
    | _, _ => .bad
  | .sapp i f e, ε => (match ownF G f ε[i]? with
    | some (c, fs, j, xs) => toO ε (evE G cal e ε) fun x => if x.1 ≤ 2 ∧ xs.length < lim then putS i (some (6, .ins c (fs.set j (.mut (xs ++ [x.2]))))) ε else .bad
    | none => .bad)
  | .rs, _ => .bad
  | .supi d f sh as ks, ε => (match supJ G d f ε with
    | some c => toO (ε.set 0 none) ((evEs G cal as ε).bind fun xs => (evEs G cal ks ε).bind fun ys => makeS G cal c f sh xs ys) fun x => supI c ε x
    | none => .bad)
  | .rais c as, ε => (match cal (.dep 1) with
    | .ok _ => toO ε (evEs G cal as ε) fun xs => toO ε (shrs xs) fun ds => if ds.length = (G.xfl c).length ∧ ds ≠ [] ∧ ds.length ≤ 900 then .exc c ds.reverse ε else .bad
    | _ => .bad)
  | .raim c, ε => .exc c [] ε
  | .tryx b hs, ε => (match runs G cal b ε with
    | .exc c fs ε' => hdX G c fs hs ε'
    | o => o)
  | .ex e, ε => toO ε (evE G cal e ε) fun _ => .nx ε
  | .ret e, ε => toO ε (evE G cal e ε) fun x => .ret x ε
  | .retN, ε => .ret (0, .non) ε
  | .ife t a b, ε => toO ε (evT G cal t ε) fun k => if k then runs G cal a ε else runs G cal b ε
  | .whl t b, ε => whlL (fun ε => evT G cal t ε) (fun ε => runs G cal b ε) turns ε
  | .for_ tg it b, ε => toO ε (evI G cal it true ε) fun xs => forL (fun ε => runs G cal b ε) tg xs ε
  | .forA i j p t e, ε => forA i j p (fun ε => evT G cal t ε) (fun ε => evE G cal e ε) ε
  | .forQ i j t e, ε => forQ i j (fun ε => evT G cal t ε) (fun ε => evE G cal e ε) ε
  | .brk, ε => .brk ε
  | .cnt, ε => .cnt ε
  | .pas, ε => .nx ε
  | .frz i, ε => (match ε[i]? with
    | some (some (lv, d)) => if lv ≤ 2 then .nx (ε.set i (some (0, d))) else .bad
    | _ => .nx ε)
  | .shl i, ε => (match ε[i]? with
    | some (some (2, .lst xs)) => .nx (ε.set i (some (1, .lst xs)))
    | _ => .nx ε)
  | .shf i, ε => shf i ε
def runs (G : Tb) (cal : Cl → R LD) : Ss → En → Out
  | .nil, ε => .nx ε
  | .cons s r, ε => match run G cal s ε with
    | .nx ε' => runs G cal r ε'
    | o => o
end
/-- a value goes out of a def: the names' own are handed over -/
def retV (r : LD) : R LD := if r.1 ≤ 2 then .ok r else if r.1 ≤ 4 then .ok (r.1 - 2, r.2) else .bad
/-- a def: how many parameters, how many names, its body -/
structure Fd where
  np : Nat
  ns : Nat
  b : Ss
/-- what an __init__ has made -/
def finI (G : Tb) (c : Nat) : Out → R LD
  | .nx ε => (match ε with
    | some (5, .ins e fs) :: _ => if e = c ∧ fs.length = (G.flds c).length then .ok (0, .ins c fs) else .bad
    | _ => .bad)
  | .exc e fs _ => .exc e fs
  | _ => .bad
def callI (G : Tb) (F : Nat → Option Fd) : Nat → Cl → R LD
  | 0, _ => .bad
  | n + 1, .fn f ds => (match F f with
    | none => .bad
    | some d => if ds.length = d.np then (match runs G (callI G F n) d.b (ds.map (fun d => some (0, d)) ++ List.replicate (d.ns - d.np) none) with
      | .nx _ => .ok (0, .non)
      | .ret r _ => retV r
      | .exc c fs _ => .exc c fs
      | _ => .bad) else .bad)
  | n + 1, .mk c f ds => callI G F n (.ini c f ds)
  | n + 1, .up f ds => callI G F n (.fn f ds)
  | _ + 1, .dep 0 => .ok (0, .non)
  | n + 1, .dep (m + 1) => callI G F n (.dep m)
  | n + 1, .ini c f ds => match F f with
    | none => .bad
    | some d => if ds.length + 1 = d.np then finI G c (runs G (callI G F n) d.b (some (5, .ins c []) :: (ds.map (fun d => some (0, d)) ++ List.replicate (d.ns - d.np) none))) else .bad
end RS

/-! RsHd -/
namespace RS
open PySem PySem.Spec
open PyProof.Rows L2
def glB (sc : Scope) (x : Str) : Bool := decide (sc.names.lookup x = some .globalImplicit) && !(x == ("__debug__" : Str))
def visB (sc : Scope) (x : Str) : Bool := (match sc.names.lookup x with
  | some .local | some .cell | some .free => true
  | _ => false) && !(x == ("__debug__" : Str)) && !(x == ("__classdict__" : Str))
/-- the built-ins' names that the program leaves alone -/
def freeN : List Str := ["len", "int", "abs", "list", "tuple", "min", "max", "sum", "str", "sorted", "any", "range", "zip", "isinstance", "bool", "set", "iter", "super", "ValueError"]
def isFn (sc : Scope) : Bool := match sc.kind with | .function => true | _ => false
/-- the built-in types of data -/
def dTys : List String := ["NoneType", "bool", "int", "str", "tuple", "list"]
/-- the def's text -/
def itB (N : List Str) (sc : Scope) (f : Str) : List Stmt → Bool
  | [.Return (some (.Call (.Name i _) [.Attribute (.Name x _) y _] [] _)) _] => decide (i = ("iter" : Str)) && decide (y = f) && glB sc "iter" && visB sc x && decide (N[0]? = some x)
  | _ => false
/-- the cell's name -/
abbrev clsN : Str := "__class__"
/-- a def: its name, its qualified name, where it stands, its names, its parameters, defaults -/
structure DefT where
  x : Str
  q : Str
  at_ : Str × Option Str
  N : List Str
  ps : List Str
  args : Arguments
  body : List Stmt
  scope : Scope
  dv : List He.Dv
  kw : List (Str × He.Dv)
  su : Option (Nat × Str × Str) := none
  inn : Bool := false
/-- what a property (a static method) holds -/
def innA (K : PySem.W.Frag) (p : Addr) : Addr := match K.lookup p with
  | some ⟨_, _, .fields vs, _⟩ => (match (vs[0]? : Option Value) with
    | some (.ref g) => g
    | _ => 0)
  | _ => 0
/-- where the def stands -/
def DefT.ad (t : DefT) (K : PySem.W.Frag) : Addr := if t.inn then innA K (He.fAd K t.at_) else He.fAd K t.at_
/-- a class: its name, its fields by number and name in the order of their setting, whether it has slots -/
structure ClT where
  x : Str
  fs : List Nat
  fl : List Str
  sl : Bool
structure Txt where
  tab : List (Nat × DefT × Fd)
  cls : List (Nat × ClT)
  ats : List (Nat × Str)
  mth : List (Nat × Nat × Nat)
  shs : List (Nat × Nat × Nat × Nat × List Str)
  gls : List (Nat × Str × D)
  con : List (Nat × Nat × Int)
  sub : List (Nat × Nat)
  sups : List (Nat × Nat × Nat × Nat)
  prs : List (Nat × Nat × Nat)
  its : List (Nat × Nat × Nat)
  fks : List (Nat × Nat × Str × Nat × List Str)
  sts : List (Nat × Nat × Nat × Nat × Nat × List Str)
  eqs : List (Nat × Option Nat)
  isl : List (Nat × Nat × Bool)
  isd : List Nat
  ets : List (PySem.W.Frag → Addr)
  xcs : List (Nat × ClT)
  xms : List (Nat × Nat × Bool)
  xtb : List (Nat × DefT)
  xin : List (Nat × Nat)
  xos : List Nat
  asm : Nat → List D → List D → Option (List D)
/-- a table of two numbers -/
def look2 {α : Type} : List (Nat × Nat × α) → Nat → Nat → Option α
  | [], _, _ => none
  | (a, b, x) :: r, c, d => if a = c ∧ b = d then some x else look2 r c d
def look3 {α : Type} : List (Nat × Nat × Nat × α) → Nat → Nat → Nat → Option α
  | [], _, _, _ => none
  | (a, b, e, x) :: r, c, d, f => if a = c ∧ b = d ∧ e = f then some x else look3 r c d f
def plainD (t : DefT) : Bool := t.dv.isEmpty && t.kw.isEmpty && t.args.vararg.isNone
/-- an empty tuple of the module (a default) -/
def emT (K : PySem.W.Frag) (a : Addr) : Bool := match K.lookup a with
  | some ⟨.type c, _, .seq its _, _⟩ => c == "tuple" && its.toList.isEmpty
  | _ => false
/-- the default of the keyword-only parameter x of the def at f, if it is an object -/
def kwdAt (f : Str × Option Str) (x : Str) (K : PySem.W.Frag) : Addr := match K.lookup (He.fAd K f) with
  | some ⟨_, _, .func fd, _⟩ => (match fd.kwdefaults with
    | .ref D => (match PySem.W.nsIn K D x with
      | some (some (.ref a)) => a
      | _ => 0)
    | _ => 0)
  | _ => 0
namespace Txt
variable (T : Txt)
def cl (c : Nat) : ClT := match T.cls.lookup c with
  | some q => q
  | none => (match T.xcs.lookup c with
    | some q => ⟨q.x, [], q.fl, false⟩
    | none => ⟨"", [], [], false⟩)
def fnN (f : Nat) : Option Str := match T.tab.lookup f with
  | some (t, _) => (match t.at_ with | (x, none) => if plainD t && !t.inn then some x else none | _ => none)
  | none => none
def Fs : Nat → Option Fd := fun f => (T.tab.lookup f).map (·.2)
def Ts : Nat → Option DefT := fun f => match T.tab.lookup f with
  | some p => some p.1
  | none => T.xtb.lookup f
def np : Nat → Nat := fun f => ((T.tab.lookup f).map (·.1.ps.length)).getD 0
def G : Tb := ⟨fun c => (T.cl c).fs, look2 T.mth, fun a b => a == b || T.sub.contains (a, b), fun c f => (look2 T.con c f).map .int, fun g => (T.gls.lookup g).map (·.2), T.asm, look3 T.sups, look2 T.prs, fun c => (T.its.lookup c).map (·.1), fun c o => T.eqs.contains (c, o), fun c o => match o with | some e => look2 T.isl c e | none => if T.isd.contains c then some false else none, look2 T.xms, fun c => ((T.xcs.lookup c).map (·.fs)).getD []⟩
def ca (K : PySem.W.Frag) (c : Nat) : Addr := He.ga K (T.cl c).x
end Txt
def scB (N P : List Str) (sc : Scope) : Bool := isFn sc && !sc.isCoroutine && !sc.isGenerator && decide N.Nodup && decide (N.take P.length = P) && (P.all fun x => match sc.names.lookup x with | some .local => true | some .cell => true | _ => false) &&
  sc.names.all fun y => match y.2 with | .free => false | _ => true
def toD (t : DefT) : He.DefD := ⟨t.at_, t.x, t.q, t.args, t.body, t.scope, t.dv, t.kw⟩
def eqF (K : PySem.W.Frag) (a : Addr) (x : Str) (b : Addr) : Bool := He.eqO (PySem.W.findIn K (.ref a) x) (some (some (.ref b)))
def slotB (K : PySem.W.Frag) (C : Addr) (f : Str) : Bool :=
  eqF K C f (He.ma K C f) && He.eqO (PySem.W.specialIn K (.ref (He.ma K C f)) "__get__") (some (some (.builtin "member_descriptor.__get__"))) && decide (PySem.W.takesIn K (.ref (He.ma K C f)) = some true) &&
  decide (PySem.W.typeIn K (.ref (He.ma K C f)) = some (.type "member_descriptor")) && (match PySem.W.slotIn K (He.ma K C f) C with | some i => decide (i < 1000) | none => false)
def sclsB (K : PySem.W.Frag) (C : Addr) : Bool := PySem.W.plainGet K C Str.empty && PySem.W.isClsIn K C && PySem.W.plainOver K C && He.eqO (PySem.W.findIn K (.ref C) "__setattr__") (some (some (.builtin "object.__setattr__")))
namespace Txt
variable (T : Txt)
/-- a class's fields -/
def clsB (K : PySem.W.Frag) (p : Nat × ClT) : Bool :=
  let C := He.ga K p.2.x
  decide p.2.fs.Nodup && (decide (p.2.fl.length = p.2.fs.length) && (decide (p.2.fs.map (fun f => T.ats.lookup f) = p.2.fl.map some) && (decide p.2.fl.Nodup && (decide (p.2.fl.length < 1000) &&
  (if p.2.sl then sclsB K C && (decide (p.2.fl.map fun f => (PySem.W.slotIn K (He.ma K C f) C).getD 0).Nodup && p.2.fl.all (slotB K C))
   else He.Fa.ok K (.cls p.2.x) && p.2.fl.all fun f => He.eqO (PySem.W.findIn K (.ref C) f) (some none))))))
/-- a method -/
def mthB (K : PySem.W.Frag) (p : Nat × Nat × Nat) : Bool := match T.ats.lookup p.2.1, T.tab.lookup p.2.2 with
  | some x, some (t, _) =>
    let C := T.ca K p.1
    let g := t.ad K
    plainD t && (eqF K C x g && (PySem.W.isFn K (.ref g) && (PySem.W.keepIn K (.ref g) && (PySem.W.fnIn K g && (if (T.cl p.1).sl then sclsB K C else He.Fa.ok K (.cls (T.cl p.1).x) && !((T.cl p.1).fl.contains x))))))
  | _, _ => false
/-- a call shape of a class -/
def shB (K : PySem.W.Frag) (p : Nat × Nat × Nat × Nat × List Str) : Bool := match T.cls.lookup p.2.1, T.tab.lookup p.2.2.1 with
  | some q, some (t, _) =>
    let C := He.ga K q.x
    let g := t.ad K
    He.Fa.ok K (.glo q.x) && (PySem.W.makesIn K C && (eqF K C "__init__" g && (PySem.W.isFn K (.ref g) && PySem.W.keepIn K (.ref C))))
  | _, _ => false
def glB (K : PySem.W.Frag) (p : Nat × Str × D) : Bool := match p.2.2 with
  | .int i => He.Fa.ok K (.int p.2.1 i)
  | .str y => He.Fa.ok K (.str p.2.1 y)
  | _ => false
def conB (K : PySem.W.Frag) (p : Nat × Nat × Int) : Bool := match T.cls.lookup p.1, T.ats.lookup p.2.1 with
  | some q, some y =>
    let C := He.ga K q.x
    He.Fa.ok K (.glo q.x) && (PySem.W.readsIn K C (.type "type") && (He.eqO (PySem.W.specialIn K (.ref C) "__getattribute__") (some (some (.builtin "type.__getattribute__"))) &&
      (match PySem.W.findCls K (.ref C) (.type "type") y with
      | some (.val (.int j _)) => decide (j = p.2.2)
      | _ => false)))
  | _, _ => false
/-- a method that super() finds -/
def supB (K : PySem.W.Frag) (p : Nat × Nat × Nat × Nat) : Bool := match T.ats.lookup p.2.2.1, T.tab.lookup p.2.2.2 with
  | some x, some (t, _) =>
    let C := T.ca K p.1
    let D := T.ca K p.2.1
    let g := t.ad K
    decide (PySem.W.mroIn K C (.ref D) = some true) && (He.eqO (PySem.W.ks_superIn K C D x) (some (some (.ref g))) && (decide (PySem.W.typeIn K (.ref g) = some (.type "function")) && (PySem.W.fnIn K g && (!(x == ("__class__" : Str)) &&
      (if p.2.2.1 = mIni then !(T.cl p.1).sl else plainD t)))))
  | _, _ => false
/-- a property -/
def prB (K : PySem.W.Frag) (p : Nat × Nat × Nat) : Bool := match T.ats.lookup p.2.1, T.tab.lookup p.2.2 with
  | some x, some (t, _) =>
    let C := T.ca K p.1
    let q := He.ma K C x
    plainD t && (!(T.cl p.1).sl && (He.Fa.ok K (.cls (T.cl p.1).x) && (eqF K C x q && (He.eqO (PySem.W.specialIn K (.ref q) "__get__") (some (some (.builtin "property.__get__"))) && (decide (PySem.W.takesIn K (.ref q) = some true) &&
      (match PySem.W.recIn K q "property" with
      | some (.ref g :: _) => decide (g = t.ad K)
      | _ => false))))))
  | _, _ => false
/-- a class's __iter__ -/
def iterB (K : PySem.W.Frag) (p : Nat × Nat × Nat) : Bool := match T.ats.lookup p.2.1, T.tab.lookup p.2.2 with
  | some y, some (t, _) =>
    let C := T.ca K p.1
    let g := t.ad K
    plainD t && (t.su.isNone && (eqF K C "__iter__" g && (PySem.W.isFn K (.ref g) && (PySem.W.fnIn K g && (scB t.N t.ps t.scope && (decide (t.ps.length = 1) && itB t.N t.scope y t.body))))))
  | _, _ => false
/-- a def that is called with keywords -/
def fkB (p : Nat × Nat × Str × Nat × List Str) : Bool := match T.tab.lookup p.2.1 with
  | some (t, _) => (match t.at_ with | (y, none) => decide (y = p.2.2.1) | _ => false) && !t.inn
  | none => false
/-- a static method -/
def stB (K : PySem.W.Frag) (p : Nat × Nat × Nat × Nat × Nat × List Str) : Bool := match T.cls.lookup p.2.1, T.ats.lookup p.2.2.1, T.tab.lookup p.2.2.2.1 with
  | some q, some y, some (t, _) =>
    let C := He.ga K q.x
    He.Fa.ok K (.glo q.x) && (PySem.W.readsIn K C (.type "type") && (He.eqO (PySem.W.specialIn K (.ref C) "__getattribute__") (some (some (.builtin "type.__getattribute__"))) &&
      (match PySem.W.findCls K (.ref C) (.type "type") y with
      | some (.get (.builtin b) (.ref p) .none (.ref C')) => decide (b = "staticmethod.__get__") && (decide (C' = C) && (match PySem.W.recIn K p "staticmethod" with
        | some (.ref g :: _) => decide (g = t.ad K)
        | _ => false))
      | _ => false)))
  | _, _, _ => false
/-- == by an own __eq__ -/
def eqB (K : PySem.W.Frag) (p : Nat × Option Nat) : Bool := match p.2 with
  | some e => PySem.W.notFirst K (T.ca K p.1) (.ref (T.ca K e))
  | none => dTys.all fun t => PySem.W.notFirst K (T.ca K p.1) (.type t)
/-- isinstance of an own class -/
def isiB (K : PySem.W.Frag) (p : Nat × Nat × Bool) : Bool := match T.cls.lookup p.1 with
  | some q =>
    let C := He.ga K q.x
    let E := T.ca K p.2.1
    He.Fa.ok K (.glo q.x) && (decide (PySem.W.kitOne K (.ref E) (.ref C) = some p.2.2) && (PySem.W.isClsIn K E && (PySem.W.plainGet K E "__class__" && (He.eqO (PySem.W.findIn K (.ref E) "__class__") (some (some (.builtin "object.__class__"))) &&
      (He.eqO (PySem.W.specialIn K (.builtin "object.__class__") "__get__") (some (some (.builtin "getset_descriptor.__get__"))) && (decide (PySem.W.takesIn K (.builtin "object.__class__") = some true) && decide (PySem.W.mroIn K E (.type "object") = some true)))))))
  | none => false
def isdB (K : PySem.W.Frag) (c : Nat) : Bool := match T.cls.lookup c with
  | some q => He.Fa.ok K (.glo q.x) && dTys.all fun t => decide (PySem.W.kitOne K (.type t) (.ref (He.ga K q.x)) = some false)
  | none => false
/-- the address of an exception's class, by its name -/
def xcB (K : PySem.W.Frag) (p : Nat × ClT) : Bool :=
  let C := He.ga K p.2.x
  !(p.1 == 900) && ((T.cls.lookup p.1).isNone && (decide p.2.fl.Nodup && (decide (p.2.fl.length = p.2.fs.length) && (decide (p.2.fs.map (fun f => T.ats.lookup f) = p.2.fl.map some) && (He.Fa.ok K (.glo p.2.x) &&
  ((match K.lookup C with
    | some ⟨.type "type", _, .cls cd, sl⟩ => (match cd.mro, sl.toList with
      | .ref C' :: bm, [_, _, _, _, some (.builtin n), _] => decide (C' = C) && decide (n = "ValueError.__new__") && cd.hasDict && !cd.hasDel && PySem.HandSPX.refsVE bm
      | _, _ => false)
    | _ => false) &&
  (He.eqO (PySem.W.findIn K (.ref C) "__setattr__") (some (some (.builtin "object.__setattr__"))) && (decide (PySem.W.subIn K (.ref C) (.type "BaseException") = some true) && (decide (PySem.W.typeIn K (.ref C) = some (.type "type")) && (PySem.W.keepIn K (.ref C) &&
  (He.eqO (PySem.W.findIn K (.ref C) "__getattribute__") (some (some (.builtin "BaseException.__getattribute__"))) && (He.eqO (PySem.W.findIn K (.ref C) "__getattr__") (some none) && (PySem.W.hasDictIn K C &&
  (He.eqO (PySem.W.findIn K (.ref C) "__class__") (some (some (.builtin "object.__class__"))) && (He.eqO (PySem.W.specialIn K (.builtin "object.__class__") "__get__") (some (some (.builtin "getset_descriptor.__get__"))) && (decide (PySem.W.takesIn K (.builtin "object.__class__") = some true) && (decide (PySem.W.mroIn K C (.type "object") = some true) &&
  p.2.fl.all fun f => He.eqO (PySem.W.findIn K (.ref C) f) (some none))))))))))))))))))
def xvV (K : PySem.W.Frag) (d : Nat) : Value := if d = 900 then .type "ValueError" else .ref (T.ca K d)
/-- is an exception of the class c of the class d? -/
def xmB (K : PySem.W.Frag) (p : Nat × Nat × Bool) : Bool :=
  (p.1 == 900 || (T.xcs.lookup p.1).isSome) && ((T.xcs.lookup p.2.1).isSome && (decide (PySem.W.exmOne K (.ref (T.ca K p.2.1)) (xvV T K p.1) = some p.2.2) && decide (PySem.W.kitOne K (.ref (T.ca K p.2.1)) (xvV T K p.1) = some p.2.2)))
/-- an exception's own __init__ -/
def xiB (K : PySem.W.Frag) (p : Nat × Nat) : Bool := match T.xcs.lookup p.1, T.xtb.lookup p.2 with
  | some q, some t => (match t.su with
    | some su =>
      let C := He.ga K q.x
      let D := He.ga K su.2.1
      let g := t.ad K
      eqF K C "__init__" g && (decide (PySem.W.typeIn K (.ref g) = some (.type "function")) && (decide (PySem.W.mroIn K C (.ref D) = some true) && (He.eqO (PySem.W.ks_superIn K C D "__init__") (some (some (.builtin "ValueError.__init__"))) && (decide (PySem.W.subIn K (.ref C) (.type "ValueError") = some true) && (PySem.W.clsIn K D).isSome))))
    | none => false)
  | _, _ => false
def xoB (K : PySem.W.Frag) (c : Nat) : Bool := (T.xcs.lookup c).isSome && PySem.W.excIn K (T.ca K c) [.type "ValueError", .type "Exception", .type "BaseException", .type "object"] "ValueError.__new__"
/-- a def's own class -/
def ownB (K : PySem.W.Frag) (p : Nat × DefT × Fd) : Bool := match p.2.1.su with
  | none => true
  | some q => decide ((T.cl q.1).x = q.2.1) && (PySem.W.clsIn K (T.ca K q.1)).isSome
def fnB (K : PySem.W.Frag) (p : Nat × DefT × Fd) : Bool := match p.2.1.at_.2 with
  | none => He.Fa.ok K (.glo p.2.1.at_.1)
  | some _ => true
def okK (K : PySem.W.Frag) : Bool :=
  freeN.all (fun x => He.Fa.ok K (.free x)) && (T.tab.all (fnB K) && (T.cls.all (T.clsB K) && (T.mth.all (T.mthB K) && (T.shs.all (T.shB K) && (T.gls.all (glB K) && (T.con.all (T.conB K) && (T.sups.all (T.supB K) && (T.tab.all (T.ownB K) && (T.prs.all (T.prB K) && (T.its.all (T.iterB K) && (T.fks.all T.fkB && (T.sts.all (T.stB K) && (T.eqs.all (T.eqB K) && (T.isl.all (T.isiB K) && (T.isd.all (T.isdB K) && (T.xcs.all (T.xcB K) && (T.xms.all (T.xmB K) && (T.xin.all (T.xiB K) && (T.xos.all (T.xoB K) && (He.eqO (PySem.W.nsIn K cStatics "thirdparty.any") (some none) && T.ets.all fun p => emT K (p K)))))))))))))))))))))
end Txt
/-- a def that says super(), as it stands -/
abbrev FnWS : Type := Option (Str × Str × Arguments × FuncBody × Scope × Addr × List Str × Addr)
def fnWS (K : PySem.W.Frag) (a : Addr) : FnWS := match K.lookup a with
  | some ⟨_, _, .func fd, _⟩ => some (fd.name, fd.qualname, fd.params, fd.body, fd.scope, fd.globals, fd.closure.map (·.1), fd.builtins)
  | _ => none
def valS (t : DefT) : FnWS := some (t.x, t.q, t.args, .stmts t.body, t.scope, mainGlobals, (if t.su.isSome then [clsN] else []), builtinsNs)
def codeB (K : PySem.W.Frag) (v : Value) (file : Str) : Bool := match v with
  | .ref c => (match K.lookup c with
    | some ⟨_, _, .fields vs, _⟩ => (match (vs[2]? : Option Value) with
      | some (.str y _) => decide (y = file)
      | _ => false)
    | _ => false)
  | _ => false
def cellB (K : PySem.W.Frag) (l : List (Str × Addr)) (D : Addr) : Bool := match l with
  | [q] => (match K.lookup q.2 with
    | some ⟨_, _, .cell (some (.ref E)), _⟩ => decide (E = D)
    | _ => false)
  | _ => false
def okS (K : PySem.W.Frag) (t : DefT) : Bool := PySem.W.keepIn K (.ref (t.ad K)) && (match K.lookup (t.ad K) with
  | some ⟨_, _, .func fd, _⟩ => PySem.W.codeIn K fd.code t.q && (He.dflB K fd.defaults (t.dv.map (He.Dv.v K)) && (He.kwdB K fd.kwdefaults (t.kw.map fun q => (q.1, q.2.v K)) && (match t.su with
    | none => true
    | some q => codeB K fd.code q.2.2 && cellB K fd.closure (He.ga K q.2.1))))
  | _ => false)
namespace Txt
variable (T : Txt)
abbrev AlO : Type := He.AlD × Bool × List FnWS
def fns : List He.DefD := (T.tab.filter fun p => p.2.1.su.isNone && !p.2.1.inn).map fun p => toD p.2.1
def sus : List (Nat × DefT) := ((T.tab.filter fun p => p.2.1.su.isSome || p.2.1.inn).map fun p => (p.1, p.2.1)) ++ T.xtb
def obsO (K : PySem.W.Frag) : AlO := (He.obsD [] T.fns K, T.okK K && T.sus.all fun p => okS K p.2, T.sus.map fun p => fnWS K (p.2.ad K))
def asO (n : Nat) (g : Addr → Option Obj) : List Addr := He.asD g n ++ [cStatics]
def obsOG (n : Nat) (g : Addr → Option Obj) : AlO := T.obsO (He.frG g (asO n g))
def valO : AlO := (He.valD T.fns, true, T.sus.map fun p => valS p.2)
def hook (n : Nat) : PySem.W.Hook where
  α := AlO
  obs := fun s => T.obsOG n s.heap.get?
  val := fun _ => T.valO
  says := fun _ h => ∃ K : PySem.W.Frag, K.In h ∧ T.obsO K = T.valO
  of := fun _ _ e => ⟨_, He.frG_in, e⟩
  keeps := fun _ _ _ ⟨K, hK, c⟩ k => ⟨K, PySem.W.Frag.In.keeps hK k, c⟩
theorem obs_eq {n : Nat} {g : Addr → Option Obj} {s : Shared} (h : ∀ a, g a = s.heap.get? a) : T.obsOG n g = (T.hook n).obs s := by
  have e : g = s.heap.get? := funext h
  rw [e] <;> rfl
/-- the heap's objects, looked up in a tree -/
def getA (s : Shared) : Addr → Option Obj := match HandSHeadRun.putAll s.heap.objs.toList .nil 0 with
  | some (t, n) => fun a => HandSHeadRun.getT ⟨t, n, s.heap.life, s.gens, s.drawn, s.toks, s.os⟩ a
  | none => s.heap.get?
theorem getA_eq (s : Shared) : getA s = s.heap.get? := by
  unfold getA
  cases e : HandSHeadRun.putAll s.heap.objs.toList .nil 0 with
  | none => rfl
  | some p =>
    obtain ⟨t, n⟩ := p
    funext a
    have h := HandSHeadRun.putAll_heap (h := s.heap) e
    show HandSHeadRun.getT ⟨t, n, s.heap.life, s.gens, s.drawn, s.toks, s.os⟩ a = _
    rw [HandSHeadRun.getT_eq]
    show (PySem.W.absHeap t n s.heap.life).get? a = _
    rw [h]
/-- .. the Hook of a head in pieces -/
def hook2 (n : Nat) : PySem.W.Hook where
  α := AlO
  obs := fun s => T.obsOG n (getA s)
  val := fun _ => T.valO
  says := fun _ h => ∃ K : PySem.W.Frag, K.In h ∧ T.obsO K = T.valO
  of := fun w s e => (T.hook n).of w s (by
    show T.obsOG n s.heap.get? = T.valO
    rw [← getA_eq]
    exact e)
  keeps := (T.hook n).keeps
end Txt
end RS

namespace RS
open PySem PySem.Spec
open PyProof.Rows L2
def top (i : Nat) : Stmt := PySem.Challenge.pw_risingscores_k56_next_groups.main.body.getD i (.Pass ⟨0, 0, 0, 0⟩)
def mth (s : Stmt) (j : Nat) : Stmt := (C8.clsBody s).getD j (.Pass ⟨0, 0, 0, 0⟩)
def s_p__wall_1 : S := .pas
def b_p__wall_1 : Ss := .cons s_p__wall_1 .nil
def s_p__wall_0 : S := .whl (.tru (.bl true)) b_p__wall_1
def b_p__wall_0 : Ss := .cons s_p__wall_0 .nil
def d_p__wall : Fd := ⟨1, 1, b_p__wall_0⟩
def t_p__wall : DefT := ⟨"_wall", "_wall", ("_wall", none), ["k"], ["k"], defArgs (top 0), defBody (top 0), defScope (top 0), [], [], none, false⟩
def s_p_is_number_2 : S := .ret (.chain .le .le (.var 1) (.var 0) (.var 2))
def b_p_is_number_2 : Ss := .cons s_p_is_number_2 .nil
def s_p_is_number_1 : S := .ret (.bl false)
def b_p_is_number_1 : Ss := .cons s_p_is_number_1 .nil
def s_p_is_number_0 : S := .ife (.or_ (.tru (.isi (.var 0) [.bool])) (.not_ (.tru (.isi (.var 0) [.int])))) b_p_is_number_1 .nil
def b_p_is_number_0 : Ss := .cons s_p_is_number_0 b_p_is_number_2
def d_p_is_number : Fd := ⟨3, 3, b_p_is_number_0⟩
def t_p_is_number : DefT := ⟨"is_number", "is_number", ("is_number", none), ["value", "least", "most"], ["value", "least", "most"], defArgs (top 10), defBody (top 10), defScope (top 10), [], [], none, false⟩
def s_p_check_row_1 : S := .rais 5 (.cons (.var 0) .nil)
def b_p_check_row_1 : Ss := .cons s_p_check_row_1 .nil
def s_p_check_row_0 : S := .ife (.not_ (.tru (.call 0 (.cons (.var 0) (.cons (.int 0) (.cons (.bin .sub (.var 1) (.int 1)) .nil)))))) b_p_check_row_1 .nil
def b_p_check_row_0 : Ss := .cons s_p_check_row_0 .nil
def d_p_check_row : Fd := ⟨2, 2, b_p_check_row_0⟩
def t_p_check_row : DefT := ⟨"check_row", "check_row", ("check_row", none), ["row", "size"], ["row", "size"], defArgs (top 11), defBody (top 11), defScope (top 11), [], [], none, false⟩
def s_p_check_column_1 : S := .rais 6 (.cons (.var 0) .nil)
def b_p_check_column_1 : Ss := .cons s_p_check_column_1 .nil
def s_p_check_column_0 : S := .ife (.not_ (.tru (.call 0 (.cons (.var 0) (.cons (.int 0) (.cons (.bin .sub (.var 1) (.int 1)) .nil)))))) b_p_check_column_1 .nil
def b_p_check_column_0 : Ss := .cons s_p_check_column_0 .nil
def d_p_check_column : Fd := ⟨2, 2, b_p_check_column_0⟩
def t_p_check_column : DefT := ⟨"check_column", "check_column", ("check_column", none), ["column", "columns"], ["column", "columns"], defArgs (top 12), defBody (top 12), defScope (top 12), [], [], none, false⟩
def s_p_marks_tuple_5 : S := .ret (.bi .tuple (.cons (.var 0) .nil))
def b_p_marks_tuple_5 : Ss := .cons s_p_marks_tuple_5 .nil
def s_p_marks_tuple_4 : S := .raim 1
def b_p_marks_tuple_4 : Ss := .cons s_p_marks_tuple_4 .nil
def s_p_marks_tuple_3 : S := .ife (.not_ (.tru (.call 0 (.cons (.var 3) (.cons (.int 0) (.cons (.var 2) .nil)))))) b_p_marks_tuple_4 .nil
def b_p_marks_tuple_3 : Ss := .cons s_p_marks_tuple_3 .nil
def s_p_marks_tuple_2 : S := .for_ (.one 3) (.seq (.var 0)) b_p_marks_tuple_3
def b_p_marks_tuple_2 : Ss := .cons s_p_marks_tuple_2 b_p_marks_tuple_5
def s_p_marks_tuple_1 : S := .raim 1
def b_p_marks_tuple_1 : Ss := .cons s_p_marks_tuple_1 .nil
def s_p_marks_tuple_0 : S := .ife (.or_ (.not_ (.tru (.isi (.var 0) [.list, .tuple]))) (.val (.cmp .ne (.bi .len (.cons (.var 0) .nil)) (.var 1)))) b_p_marks_tuple_1 .nil
def b_p_marks_tuple_0 : Ss := .cons s_p_marks_tuple_0 b_p_marks_tuple_2
def d_p_marks_tuple : Fd := ⟨3, 4, b_p_marks_tuple_0⟩
def t_p_marks_tuple : DefT := ⟨"marks_tuple", "marks_tuple", ("marks_tuple", none), ["marks", "columns", "top", "mark"], ["marks", "columns", "top"], defArgs (top 14), defBody (top 14), defScope (top 14), [], [], none, false⟩
def s_p_width_of_4 : S := .ret (.bi .len (.cons (.idx (.var 0) (.int 0)) .nil))
def b_p_width_of_4 : Ss := .cons s_p_width_of_4 .nil
def s_p_width_of_3 : S := .raim 1
def b_p_width_of_3 : Ss := .cons s_p_width_of_3 .nil
def s_p_width_of_2 : S := .ife (.not_ (.tru (.isi (.idx (.var 0) (.int 0)) [.list, .tuple]))) b_p_width_of_3 .nil
def b_p_width_of_2 : Ss := .cons s_p_width_of_2 b_p_width_of_4
def s_p_width_of_1 : S := .ret (.int 1)
def b_p_width_of_1 : Ss := .cons s_p_width_of_1 .nil
def s_p_width_of_0 : S := .ife (.not_ (.tru (.var 0))) b_p_width_of_1 .nil
def b_p_width_of_0 : Ss := .cons s_p_width_of_0 b_p_width_of_2
def d_p_width_of : Fd := ⟨1, 1, b_p_width_of_0⟩
def t_p_width_of : DefT := ⟨"width_of", "width_of", ("width_of", none), ["rows"], ["rows"], defArgs (top 15), defBody (top 15), defScope (top 15), [], [], none, false⟩
def s_m_Table_init_10 : S := .sfld 0 15 (.var 3)
def b_m_Table_init_10 : Ss := .cons s_m_Table_init_10 .nil
def s_m_Table_init_9 : S := .sfld 0 14 (.var 2)
def b_m_Table_init_9 : Ss := .cons s_m_Table_init_9 b_m_Table_init_10
def c_m_Table_init_0 : E := .comp (.one 4) (.seq (.var 1)) .none (.call 18 (.cons (.var 4) (.cons (.var 2) (.cons (.var 3) .nil))))
def s_m_Table_init_8 : S := .sfld 0 13 (.bi .tuple (.cons (c_m_Table_init_0) .nil))
def b_m_Table_init_8 : Ss := .cons s_m_Table_init_8 b_m_Table_init_9
def s_m_Table_init_7 : S := .raim 1
def b_m_Table_init_7 : Ss := .cons s_m_Table_init_7 .nil
def s_m_Table_init_6 : S := .ife (.not_ (.tru (.call 0 (.cons (.var 2) (.cons (.int 1) (.cons (.con 13 25) .nil)))))) b_m_Table_init_7 .nil
def b_m_Table_init_6 : Ss := .cons s_m_Table_init_6 b_m_Table_init_8
def s_m_Table_init_5 : S := .asg 2 true (.call 19 (.cons (.var 1) .nil))
def b_m_Table_init_5 : Ss := .cons s_m_Table_init_5 .nil
def s_m_Table_init_4 : S := .ife (.val (.cmp .isn (.var 2) (.non))) b_m_Table_init_5 .nil
def b_m_Table_init_4 : Ss := .cons s_m_Table_init_4 b_m_Table_init_6
def s_m_Table_init_3 : S := .raim 1
def b_m_Table_init_3 : Ss := .cons s_m_Table_init_3 .nil
def s_m_Table_init_2 : S := .ife (.or_ (.not_ (.tru (.isi (.var 1) [.list, .tuple]))) (.val (.cmp .gt (.bi .len (.cons (.var 1) .nil)) (.con 13 24)))) b_m_Table_init_3 .nil
def b_m_Table_init_2 : Ss := .cons s_m_Table_init_2 b_m_Table_init_4
def s_m_Table_init_1 : S := .raim 1
def b_m_Table_init_1 : Ss := .cons s_m_Table_init_1 .nil
def s_m_Table_init_0 : S := .ife (.not_ (.tru (.call 0 (.cons (.var 3) (.cons (.int 0) (.cons (.con 13 26) .nil)))))) b_m_Table_init_1 .nil
def b_m_Table_init_0 : Ss := .cons s_m_Table_init_0 b_m_Table_init_2
def d_m_Table_init : Fd := ⟨4, 5, b_m_Table_init_0⟩
def t_m_Table_init : DefT := ⟨"__init__", "Table.__init__", ("Table", some "__init__"), ["self", "rows", "columns", "top", "marks"], ["self", "rows", "columns", "top"], defArgs (mth (top 16) 4), defBody (mth (top 16) 4), defScope (mth (top 16) 4), [], [("columns", .non), ("top", .int 9)], none, false⟩
def s_m_Table_len_0 : S := .ret (.bi .len (.cons (.fld (.var 0) 13) .nil))
def b_m_Table_len_0 : Ss := .cons s_m_Table_len_0 .nil
def d_m_Table_len : Fd := ⟨1, 1, b_m_Table_len_0⟩
def t_m_Table_len : DefT := ⟨"__len__", "Table.__len__", ("Table", some "__len__"), ["self"], ["self"], defArgs (mth (top 16) 5), defBody (mth (top 16) 5), defScope (mth (top 16) 5), [], [], none, false⟩
def s_m_Table_getitem_1 : S := .ret (.idx (.fld (.var 0) 13) (.var 1))
def b_m_Table_getitem_1 : Ss := .cons s_m_Table_getitem_1 .nil
def s_m_Table_getitem_0 : S := .ex (.call 1 (.cons (.var 1) (.cons (.bi .len (.cons (.fld (.var 0) 13) .nil)) .nil)))
def b_m_Table_getitem_0 : Ss := .cons s_m_Table_getitem_0 b_m_Table_getitem_1
def d_m_Table_getitem : Fd := ⟨2, 2, b_m_Table_getitem_0⟩
def t_m_Table_getitem : DefT := ⟨"__getitem__", "Table.__getitem__", ("Table", some "__getitem__"), ["self", "row"], ["self", "row"], defArgs (mth (top 16) 6), defBody (mth (top 16) 6), defScope (mth (top 16) 6), [], [], none, false⟩
def s_m_Table_iter_0 : S := .rs
def b_m_Table_iter_0 : Ss := .cons s_m_Table_iter_0 .nil
def d_m_Table_iter : Fd := ⟨1, 1, b_m_Table_iter_0⟩
def t_m_Table_iter : DefT := ⟨"__iter__", "Table.__iter__", ("Table", some "__iter__"), ["self"], ["self"], defArgs (mth (top 16) 7), defBody (mth (top 16) 7), defScope (mth (top 16) 7), [], [], none, false⟩
def s_m_Table_eq_0 : S := .ret (.and_ (.isc (.var 1) 13) (.and_ (.cmp .eq (.fld (.var 0) 13) (.fld (.var 1) 13)) (.and_ (.cmp .eq (.fld (.var 0) 14) (.fld (.var 1) 14)) (.cmp .eq (.fld (.var 0) 15) (.fld (.var 1) 15)))))
def b_m_Table_eq_0 : Ss := .cons s_m_Table_eq_0 .nil
def d_m_Table_eq : Fd := ⟨2, 2, b_m_Table_eq_0⟩
def t_m_Table_eq : DefT := ⟨"__eq__", "Table.__eq__", ("Table", some "__eq__"), ["self", "other"], ["self", "other"], defArgs (mth (top 16) 8), defBody (mth (top 16) 8), defScope (mth (top 16) 8), [], [], none, false⟩
def d_m_Table_with_row : Fd := ⟨2, 2, .cons .rs .nil⟩
def t_m_Table_with_row : DefT := ⟨"with_row", "Table.with_row", ("Table", some "with_row"), ["self", "marks"], ["self", "marks"], defArgs (mth (top 16) 9), defBody (mth (top 16) 9), defScope (mth (top 16) 9), [], [], none, false⟩
def d_m_Table_without : Fd := ⟨2, 2, .cons .rs .nil⟩
def t_m_Table_without : DefT := ⟨"without", "Table.without", ("Table", some "without"), ["self", "row"], ["self", "row"], defArgs (mth (top 16) 10), defBody (mth (top 16) 10), defScope (mth (top 16) 10), [], [], none, false⟩
def d_m_Table_with_mark : Fd := ⟨4, 4, .cons .rs .nil⟩
def t_m_Table_with_mark : DefT := ⟨"with_mark", "Table.with_mark", ("Table", some "with_mark"), ["self", "row", "column", "mark"], ["self", "row", "column", "mark"], defArgs (mth (top 16) 11), defBody (mth (top 16) 11), defScope (mth (top 16) 11), [], [], none, false⟩
def c_m_Table_column_marks_0 : E := .comp (.one 2) (.seq (.fld (.var 0) 13)) .none (.idx (.var 2) (.var 1))
def s_m_Table_column_marks_1 : S := .ret (c_m_Table_column_marks_0)
def b_m_Table_column_marks_1 : Ss := .cons s_m_Table_column_marks_1 .nil
def s_m_Table_column_marks_0 : S := .ex (.call 2 (.cons (.var 1) (.cons (.fld (.var 0) 14) .nil)))
def b_m_Table_column_marks_0 : Ss := .cons s_m_Table_column_marks_0 b_m_Table_column_marks_1
def d_m_Table_column_marks : Fd := ⟨2, 3, b_m_Table_column_marks_0⟩
def t_m_Table_column_marks : DefT := ⟨"column_marks", "Table.column_marks", ("Table", some "column_marks"), ["self", "column", "marks"], ["self", "column"], defArgs (mth (top 16) 12), defBody (mth (top 16) 12), defScope (mth (top 16) 12), [], [], none, false⟩
def d_m_Table_written : Fd := ⟨1, 1, .cons .rs .nil⟩
def t_m_Table_written : DefT := ⟨"written", "Table.written", ("Table", some "written"), ["self"], ["self"], defArgs (mth (top 16) 13), defBody (mth (top 16) 13), defScope (mth (top 16) 13), [], [], none, false⟩
def d_m_Table_parse : Fd := ⟨1, 1, .cons .rs .nil⟩
def t_m_Table_parse : DefT := ⟨"parse", "Table.parse", ("Table", some "parse"), ["text"], ["text"], defArgs (mth (top 16) 14), defBody (mth (top 16) 14), defScope (mth (top 16) 14), [], [], none, true⟩
def c_p_next_group_0 : E := .comp (.one 7) (.rng1 (.bi .len (.cons (.var 3) .nil))) (.some (.val (.cmp .eq (.idx (.var 3) (.var 7)) (.var 5)))) (.var 7)
def s_p_next_group_5 : S := .ret (.tup (.cons (.var 5) (.cons (.bi .tuple (.cons (c_p_next_group_0) .nil)) .nil)))
def b_p_next_group_5 : Ss := .cons s_p_next_group_5 .nil
def s_p_next_group_4 : S := .asg 5 true (.bi .maxL (.cons (.var 4) .nil))
def b_p_next_group_4 : Ss := .cons s_p_next_group_4 b_p_next_group_5
def s_p_next_group_3 : S := .rais 9 (.cons (.var 1) .nil)
def b_p_next_group_3 : Ss := .cons s_p_next_group_3 .nil
def s_p_next_group_2 : S := .ife (.not_ (.tru (.var 4))) b_p_next_group_3 .nil
def b_p_next_group_2 : Ss := .cons s_p_next_group_2 b_p_next_group_4
def c_p_next_group_1 : E := .comp (.one 6) (.seq (.var 3)) (.some (.val (.cmp .lt (.var 6) (.var 2)))) (.var 6)
def s_p_next_group_1 : S := .asg 4 true (c_p_next_group_1)
def b_p_next_group_1 : Ss := .cons s_p_next_group_1 b_p_next_group_2
def s_p_next_group_0 : S := .asg 3 true (.meth (.var 0) 21 (.cons (.var 1) .nil))
def b_p_next_group_0 : Ss := .cons s_p_next_group_0 b_p_next_group_1
def d_p_next_group : Fd := ⟨3, 8, b_p_next_group_0⟩
def t_p_next_group : DefT := ⟨"next_group", "next_group", ("next_group", none), ["table", "column", "level", "marks", "lower", "most", "mark", "row"], ["table", "column", "level"], defArgs (top 18), defBody (top 18), defScope (top 18), [], [], none, false⟩
def s_l_read_2 : S := .ret (.int 0)
def b_l_read_2 : Ss := .cons s_l_read_2 .nil
def s_l_read_1 : S := .ret (.idx (.var 0) (.var 1))
def b_l_read_1 : Ss := .cons s_l_read_1 .nil
def s_l_read_0 : S := .ife (.val (.cmp .lt (.var 1) (.bi .len (.cons (.var 0) .nil)))) b_l_read_1 .nil
def b_l_read_0 : Ss := .cons s_l_read_0 b_l_read_2
def d_l_read : Fd := ⟨2, 2, b_l_read_0⟩
def t_l_read : DefT := ⟨"_law_read", "_law_read", ("_law_read", none), ["_law_script", "_law_k"], ["_law_script", "_law_k"], defArgs (top 20), defBody (top 20), defScope (top 20), [], [], none, false⟩
def s_l_draws_9 : S := .ret (.var 5)
def b_l_draws_9 : Ss := .cons s_l_draws_9 .nil
def s_l_draws_6 : S := .app 5 (.bin .mod (.bin .mod (.bi .int1 (.cons (.bin .mul (.var 7) (.var 7)) .nil)) (.int 1000000000000000003)) (.var 2))
def b_l_draws_6 : Ss := .cons s_l_draws_6 .nil
def s_l_draws_5 : S := .asg 7 true (.bin .mod (.bi .int1 (.cons (.bin .mul (.var 3) (.bin .add (.int 904381726353411577) (.bin .mul (.int 517230984406128813) (.var 6)))) .nil)) (.int 2305843009213693951))
def b_l_draws_5 : Ss := .cons s_l_draws_5 b_l_draws_6
def s_l_draws_8 : S := .asg 3 true (.bin .fdiv (.var 3) (.var 2))
def b_l_draws_8 : Ss := .cons s_l_draws_8 .nil
def s_l_draws_7 : S := .app 5 (.bin .mod (.bi .int1 (.cons (.var 3) .nil)) (.var 2))
def b_l_draws_7 : Ss := .cons s_l_draws_7 b_l_draws_8
def s_l_draws_4 : S := .ife (.tru (.var 4)) b_l_draws_5 b_l_draws_7
def b_l_draws_4 : Ss := .cons s_l_draws_4 .nil
def s_l_draws_3 : S := .for_ (.one 6) (.rng1 (.var 1)) b_l_draws_4
def b_l_draws_3 : Ss := .cons s_l_draws_3 b_l_draws_9
def s_l_draws_2 : S := .asg 5 false (.lst .nil)
def b_l_draws_2 : Ss := .cons s_l_draws_2 b_l_draws_3
def s_l_draws_1 : S := .asg 4 true (.cmp .lt (.var 3) (.bin .pow (.int 10) (.int 18)))
def b_l_draws_1 : Ss := .cons s_l_draws_1 b_l_draws_2
def s_l_draws_0 : S := .asg 3 true (.bi .abs (.cons (.bi .int1 (.cons (.var 0) .nil)) .nil))
def b_l_draws_0 : Ss := .cons s_l_draws_0 b_l_draws_1
def d_l_draws : Fd := ⟨3, 8, b_l_draws_0⟩
def t_l_draws : DefT := ⟨"_law_draws", "_law_draws", ("_law_draws", none), ["_law_cell", "_law_many", "_law_base", "_law_rest", "_law_plain", "_law_found", "_law_k", "_law_mixed"], ["_law_cell", "_law_many", "_law_base"], defArgs (top 21), defBody (top 21), defScope (top 21), [], [], none, false⟩
def s_l_linked_13 : S := .ret (.var 6)
def b_l_linked_13z : Ss := .cons s_l_linked_13 .nil
def b_l_linked_13 : Ss := .cons (.frz 6) b_l_linked_13z
def s_l_linked_12 : S := .setI 6 (.var 5) (.idx (.var 1) (.var 5))
def b_l_linked_12 : Ss := .cons s_l_linked_12 b_l_linked_13
def s_l_linked_11 : S := .asg 6 false (.bi .list (.cons (.var 4) .nil))
def b_l_linked_11 : Ss := .cons s_l_linked_11 b_l_linked_12
def s_l_linked_10 : S := .asg 5 true (.bin .mod (.bi .int1 (.cons (.bin .fdiv (.bin .fdiv (.var 2) (.int 10)) (.bi .len (.cons (.var 0) .nil))) .nil)) (.bi .len (.cons (.var 1) .nil)))
def b_l_linked_10 : Ss := .cons s_l_linked_10 b_l_linked_11
def c_l_linked_0 : E := .comp (.one 7) (.rng1 (.bi .len (.cons (.var 1) .nil))) .none (.bi .max2 (.cons (.idx (.var 1) (.var 7)) (.cons (.idx (.var 4) (.var 7)) .nil)))
def s_l_linked_9 : S := .ret (.fz (c_l_linked_0))
def b_l_linked_9 : Ss := .cons s_l_linked_9 .nil
def s_l_linked_8 : S := .ife (.val (.cmp .eq (.var 3) (.int 3))) b_l_linked_9 .nil
def b_l_linked_8 : Ss := .cons s_l_linked_8 b_l_linked_10
def c_l_linked_1 : E := .comp (.one 7) (.rng1 (.bi .len (.cons (.var 1) .nil))) .none (.bi .min2 (.cons (.idx (.var 1) (.var 7)) (.cons (.idx (.var 4) (.var 7)) .nil)))
def s_l_linked_7 : S := .ret (.fz (c_l_linked_1))
def b_l_linked_7 : Ss := .cons s_l_linked_7 .nil
def s_l_linked_6 : S := .ife (.val (.cmp .eq (.var 3) (.int 2))) b_l_linked_7 .nil
def b_l_linked_6 : Ss := .cons s_l_linked_6 b_l_linked_8
def s_l_linked_5 : S := .ret (.fz (.bi .list (.cons (.var 4) .nil)))
def b_l_linked_5 : Ss := .cons s_l_linked_5 .nil
def s_l_linked_4 : S := .ife (.val (.cmp .eq (.var 3) (.int 1))) b_l_linked_5 .nil
def b_l_linked_4 : Ss := .cons s_l_linked_4 b_l_linked_6
def s_l_linked_3 : S := .asg 4 true (.idx (.var 0) (.bin .mod (.bi .int1 (.cons (.bin .fdiv (.var 2) (.int 10)) .nil)) (.bi .len (.cons (.var 0) .nil))))
def b_l_linked_3 : Ss := .cons s_l_linked_3 b_l_linked_4
def s_l_linked_2 : S := .ret (.var 1)
def b_l_linked_2 : Ss := .cons s_l_linked_2 .nil
def s_l_linked_1 : S := .ife (.or_ (.val (.cmp .eq (.bi .len (.cons (.var 0) .nil)) (.int 0))) (.or_ (.val (.cmp .eq (.var 3) (.int 0))) (.val (.cmp .gt (.var 3) (.int 4))))) b_l_linked_2 .nil
def b_l_linked_1 : Ss := .cons s_l_linked_1 b_l_linked_3
def s_l_linked_0 : S := .asg 3 true (.bin .mod (.bi .int1 (.cons (.var 2) .nil)) (.int 10))
def b_l_linked_0 : Ss := .cons s_l_linked_0 b_l_linked_1
def d_l_linked : Fd := ⟨3, 8, b_l_linked_0⟩
def t_l_linked : DefT := ⟨"_law_linked", "_law_linked", ("_law_linked", none), ["_law_rows", "_law_own", "_law_link", "_law_kind", "_law_other", "_law_spot", "_law_changed", "_law_k"], ["_law_rows", "_law_own", "_law_link"], defArgs (top 22), defBody (top 22), defScope (top 22), [], [], none, false⟩
def s_l_table_14 : S := .ret (.tup (.cons (.var 7) (.cons (.var 3) (.cons (.var 2) .nil))))
def b_l_table_14z : Ss := .cons s_l_table_14 .nil
def b_l_table_14 : Ss := .cons (.frz 7) b_l_table_14z
def s_l_table_13 : S := .app 7 (.call 12 (.cons (.var 7) (.cons (.var 9) (.cons (.idx (.var 6) (.var 8)) .nil))))
def b_l_table_13 : Ss := .cons s_l_table_13 .nil
def c_l_table_0 : E := .comp (.one 10) (.rng1 (.var 3)) .none (.idx (.var 5) (.bin .add (.bin .mul (.int 4) (.var 8)) (.var 10)))
def s_l_table_12 : S := .asg 9 true (c_l_table_0)
def b_l_table_12 : Ss := .cons s_l_table_12 b_l_table_13
def s_l_table_11 : S := .for_ (.one 8) (.rng1 (.var 4)) b_l_table_12
def b_l_table_11 : Ss := .cons s_l_table_11 b_l_table_14
def s_l_table_10 : S := .asg 7 false (.lst .nil)
def b_l_table_10 : Ss := .cons s_l_table_10 b_l_table_11
def s_l_table_9 : S := .asg 6 true (.call 5 (.cons (.call 4 (.cons (.var 0) (.cons (.int 2) .nil))) (.cons (.int 12) (.cons (.int 1000) .nil))))
def b_l_table_9 : Ss := .cons s_l_table_9 b_l_table_10
def s_l_table_8 : S := .asg 5 true (.call 5 (.cons (.call 4 (.cons (.var 0) (.cons (.int 1) .nil))) (.cons (.int 48) (.cons (.bin .add (.var 2) (.int 1)) .nil))))
def b_l_table_8 : Ss := .cons s_l_table_8 b_l_table_9
def s_l_table_7 : S := .asg 4 true (.bin .add (.int 2) (.bin .mod (.var 4) (.int 4)))
def b_l_table_7 : Ss := .cons s_l_table_7 .nil
def s_l_table_6 : S := .ife (.val (.cmp .gt (.var 4) (.int 12))) b_l_table_7 .nil
def b_l_table_6 : Ss := .cons s_l_table_6 b_l_table_8
def s_l_table_5 : S := .asg 4 true (.bin .mod (.bi .int1 (.cons (.idx (.var 1) (.int 0)) .nil)) (.int 30))
def b_l_table_5 : Ss := .cons s_l_table_5 b_l_table_6
def s_l_table_4 : S := .asg 3 true (.bin .add (.int 1) (.bin .mod (.bi .int1 (.cons (.idx (.var 1) (.int 1)) .nil)) (.int 4)))
def b_l_table_4 : Ss := .cons s_l_table_4 b_l_table_5
def s_l_table_3 : S := .asg 2 true (.idx (.call 5 (.cons (.call 4 (.cons (.var 0) (.cons (.int 3) .nil))) (.cons (.int 1) (.cons (.bin .add (.bin .pow (.int 10) (.int 12)) (.int 1)) .nil)))) (.int 0))
def b_l_table_3 : Ss := .cons s_l_table_3 .nil
def s_l_table_2 : S := .ife (.val (.cmp .eq (.bin .mod (.bi .int1 (.cons (.idx (.var 1) (.int 2)) .nil)) (.int 8)) (.int 7))) b_l_table_3 .nil
def b_l_table_2 : Ss := .cons s_l_table_2 b_l_table_4
def s_l_table_1 : S := .asg 2 true (.idx (.lst (.cons (.int 9) (.cons (.int 9) (.cons (.int 1) (.cons (.int 2) (.cons (.int 3) (.cons (.int 0) (.cons (.bin .pow (.int 10) (.int 12)) (.cons (.int 9) .nil))))))))) (.bin .mod (.bi .int1 (.cons (.idx (.var 1) (.int 2)) .nil)) (.int 8)))
def b_l_table_1 : Ss := .cons s_l_table_1 b_l_table_2
def s_l_table_0 : S := .asg 1 true (.call 5 (.cons (.call 4 (.cons (.var 0) (.cons (.int 0) .nil))) (.cons (.int 3) (.cons (.int 1000) .nil))))
def b_l_table_0 : Ss := .cons s_l_table_0 b_l_table_1
def d_l_table : Fd := ⟨1, 11, b_l_table_0⟩
def t_l_table : DefT := ⟨"_law_table", "_law_table", ("_law_table", none), ["_law_script", "_law_shape", "_law_high", "_law_wide", "_law_size", "_law_marks", "_law_links", "_law_rows", "_law_row", "_law_own", "_law_k"], ["_law_script"], defArgs (top 23), defBody (top 23), defScope (top 23), [], [], none, false⟩
def s_l_levels_14 : S := .ret (.var 6)
def b_l_levels_14 : Ss := .cons s_l_levels_14 .nil
def s_l_levels_13 : S := .app 6 (.var 8)
def b_l_levels_13 : Ss := .cons s_l_levels_13 .nil
def s_l_levels_12 : S := .asg 8 true (.bin .add (.int 1) (.bin .mod (.bi .int1 (.cons (.idx (.var 5) (.var 7)) .nil)) (.bin .add (.var 3) (.int 1))))
def b_l_levels_12 : Ss := .cons s_l_levels_12 .nil
def s_l_levels_11 : S := .ife (.val (.cmp .gt (.idx (.var 4) (.var 7)) (.int 7))) b_l_levels_12 .nil
def b_l_levels_11 : Ss := .cons s_l_levels_11 b_l_levels_13
def s_l_levels_10 : S := .asg 8 true (.bin .mod (.bi .int1 (.cons (.idx (.var 5) (.var 7)) .nil)) (.int 2))
def b_l_levels_10 : Ss := .cons s_l_levels_10 .nil
def s_l_levels_9 : S := .ife (.val (.cmp .eq (.idx (.var 4) (.var 7)) (.int 6))) b_l_levels_10 .nil
def b_l_levels_9 : Ss := .cons s_l_levels_9 b_l_levels_11
def s_l_levels_8 : S := .asg 8 true (.bin .add (.idx (.idx (.var 1) (.bin .mod (.bi .int1 (.cons (.idx (.var 5) (.var 7)) .nil)) (.bi .len (.cons (.var 1) .nil)))) (.var 7)) (.bi .int1 (.cons (.cmp .eq (.idx (.var 4) (.var 7)) (.int 5)) .nil)))
def b_l_levels_8 : Ss := .cons s_l_levels_8 .nil
def s_l_levels_7 : S := .ife (.and_ (.val (.cmp .inn (.idx (.var 4) (.var 7)) (.tup (.cons (.int 2) (.cons (.int 3) (.cons (.int 4) (.cons (.int 5) .nil))))))) (.val (.cmp .gt (.bi .len (.cons (.var 1) .nil)) (.int 0)))) b_l_levels_8 .nil
def b_l_levels_7 : Ss := .cons s_l_levels_7 b_l_levels_9
def s_l_levels_6 : S := .asg 8 true (.bin .mod (.bi .int1 (.cons (.idx (.var 5) (.var 7)) .nil)) (.bin .add (.var 3) (.int 2)))
def b_l_levels_6 : Ss := .cons s_l_levels_6 .nil
def s_l_levels_5 : S := .ife (.val (.cmp .inn (.idx (.var 4) (.var 7)) (.tup (.cons (.int 1) (.cons (.int 7) .nil))))) b_l_levels_6 .nil
def b_l_levels_5 : Ss := .cons s_l_levels_5 b_l_levels_7
def s_l_levels_4 : S := .asg 8 true (.bin .add (.var 3) (.int 1))
def b_l_levels_4 : Ss := .cons s_l_levels_4 b_l_levels_5
def s_l_levels_3 : S := .for_ (.one 7) (.rng1 (.var 2)) b_l_levels_4
def b_l_levels_3 : Ss := .cons s_l_levels_3 b_l_levels_14
def s_l_levels_2 : S := .asg 6 false (.lst .nil)
def b_l_levels_2 : Ss := .cons s_l_levels_2 b_l_levels_3
def s_l_levels_1 : S := .asg 5 true (.call 5 (.cons (.call 4 (.cons (.var 0) (.cons (.int 4) .nil))) (.cons (.int 4) (.cons (.bin .pow (.int 10) (.int 13)) .nil))))
def b_l_levels_1 : Ss := .cons s_l_levels_1 b_l_levels_2
def s_l_levels_0 : S := .asg 4 true (.call 5 (.cons (.call 4 (.cons (.var 0) (.cons (.int 5) .nil))) (.cons (.int 4) (.cons (.int 10) .nil))))
def b_l_levels_0 : Ss := .cons s_l_levels_0 b_l_levels_1
def d_l_levels : Fd := ⟨4, 9, b_l_levels_0⟩
def t_l_levels : DefT := ⟨"_law_levels", "_law_levels", ("_law_levels", none), ["_law_script", "_law_rows", "_law_wide", "_law_high", "_law_kinds", "_law_numbers", "_law_levels_here", "_law_k", "_law_level"], ["_law_script", "_law_rows", "_law_wide", "_law_high"], defArgs (top 24), defBody (top 24), defScope (top 24), [], [], none, false⟩
def s_l_whole_0 : S := .ret (.and_ (.isi (.var 0) [.int]) (.not_ (.isi (.var 0) [.bool])))
def b_l_whole_0 : Ss := .cons s_l_whole_0 .nil
def d_l_whole : Fd := ⟨1, 1, b_l_whole_0⟩
def t_l_whole : DefT := ⟨"_law_whole", "_law_whole", ("_law_whole", none), ["_law_value"], ["_law_value"], defArgs (top 25), defBody (top 25), defScope (top 25), [], [], none, false⟩
def s_l_tuple_5 : S := .ret (.bl true)
def b_l_tuple_5 : Ss := .cons s_l_tuple_5 .nil
def s_l_tuple_4 : S := .ret (.bl false)
def b_l_tuple_4 : Ss := .cons s_l_tuple_4 .nil
def s_l_tuple_3 : S := .ife (.or_ (.not_ (.tru (.call 21 (.cons (.idx (.var 0) (.var 2)) .nil)))) (.val (.cmp .ne (.idx (.var 0) (.var 2)) (.idx (.var 1) (.var 2))))) b_l_tuple_4 .nil
def b_l_tuple_3 : Ss := .cons s_l_tuple_3 .nil
def s_l_tuple_2 : S := .for_ (.one 2) (.rng1 (.bi .len (.cons (.var 1) .nil))) b_l_tuple_3
def b_l_tuple_2 : Ss := .cons s_l_tuple_2 b_l_tuple_5
def s_l_tuple_1 : S := .ret (.bl false)
def b_l_tuple_1 : Ss := .cons s_l_tuple_1 .nil
def s_l_tuple_0 : S := .ife (.or_ (.not_ (.tru (.isi (.var 0) [.tuple]))) (.val (.cmp .ne (.bi .len (.cons (.var 0) .nil)) (.bi .len (.cons (.var 1) .nil))))) b_l_tuple_1 .nil
def b_l_tuple_0 : Ss := .cons s_l_tuple_0 b_l_tuple_2
def d_l_tuple : Fd := ⟨2, 3, b_l_tuple_0⟩
def t_l_tuple : DefT := ⟨"_law_tuple", "_law_tuple", ("_law_tuple", none), ["_law_value", "_law_due", "_law_k"], ["_law_value", "_law_due"], defArgs (top 26), defBody (top 26), defScope (top 26), [], [], none, false⟩
def s_l_bad_2_1 : S := .ret (.idx (.var 3) (.bin .mod (.bi .int1 (.cons (.var 0) .nil)) (.int 11)))
def b_l_bad_2_1 : Ss := .cons s_l_bad_2_1 .nil
def s_l_bad_2_0 : S := .asg 3 true (.lst (.cons (.bin .sub (.neg (.int 1)) (.var 1)) (.cons (.var 2) (.cons (.bin .add (.var 2) (.var 1)) (.cons (.non) (.cons (.bl true) (.cons (.str "0") (.cons (.lst (.cons (.int 0) .nil)) (.cons (.tup (.cons (.int 0) .nil)) (.cons (.bin .add (.bin .pow (.int 10) (.int 30)) (.var 1)) (.cons (.str "") (.cons (.bl false) .nil))))))))))))
def b_l_bad_2_0 : Ss := .cons s_l_bad_2_0 b_l_bad_2_1
def d_l_bad_2 : Fd := ⟨3, 4, b_l_bad_2_0⟩
def t_l_bad_2 : DefT := ⟨"_law_bad", "_law_bad", ("_law_bad", none), ["_law_choice", "_law_number", "_law_beyond", "_law_menu"], ["_law_choice", "_law_number", "_law_beyond"], defArgs (top 27), defBody (top 27), defScope (top 27), [], [], none, false⟩
def s_l_group_outcome_3 : S := .ret (.var 3)
def b_l_group_outcome_3 : Ss := .cons s_l_group_outcome_3 .nil
def s_l_group_outcome_2 : S := .asg 3 true (.lst (.cons (.str "group") (.cons (.call 253 (.cons (.var 0) (.cons (.var 1) (.cons (.var 2) .nil)))) (.cons (.bl true) (.cons (.bl false) .nil)))))
def b_l_group_outcome_2 : Ss := .cons s_l_group_outcome_2 .nil
def s_l_group_outcome_1 : S := .tryx b_l_group_outcome_2 [⟨[9], false, some 4, [(3, true, .lst (.cons (.str "out") (.cons (.fld 8) (.cons (.isi [0] false) (.cons (.isi [6, 10, 5] true) .nil)))))]⟩, ⟨[6], false, some 5, [(3, true, .lst (.cons (.str "bad") (.cons (.fld 8) (.cons (.isi [0] false) (.cons (.isi [9, 7, 5] true) .nil)))))]⟩]
def b_l_group_outcome_1 : Ss := .cons s_l_group_outcome_1 b_l_group_outcome_3
def s_l_group_outcome_0 : S := .asg 3 true (.lst (.cons (.str "group") (.cons (.non) (.cons (.bl true) (.cons (.bl false) .nil)))))
def b_l_group_outcome_0 : Ss := .cons s_l_group_outcome_0 b_l_group_outcome_1
def d_l_group_outcome : Fd := ⟨3, 6, b_l_group_outcome_0⟩
def t_l_group_outcome : DefT := ⟨"_law_group_outcome", "_law_group_outcome", ("_law_group_outcome", none), ["_law_table_here", "_law_column", "_law_level", "_law_seen", "one", "two"], ["_law_table_here", "_law_column", "_law_level"], defArgs (top 28), defBody (top 28), defScope (top 28), [], [], none, false⟩
def s_l_group_good_9 : S := .ret (.and_ (.call 21 (.cons (.idx (.var 5) (.int 0)) .nil)) (.and_ (.cmp .eq (.idx (.var 5) (.int 0)) (.bi .maxL (.cons (.var 4) .nil))) (.call 22 (.cons (.idx (.var 5) (.int 1)) (.cons (.var 6) .nil)))))
def b_l_group_good_9 : Ss := .cons s_l_group_good_9 .nil
def c_l_group_good_0 : E := .comp (.one 8) (.rng1 (.bi .len (.cons (.var 1) .nil))) (.some (.val (.cmp .eq (.idx (.idx (.var 1) (.var 8)) (.var 2)) (.bi .maxL (.cons (.var 4) .nil))))) (.var 8)
def s_l_group_good_8 : S := .asg 6 true (c_l_group_good_0)
def b_l_group_good_8 : Ss := .cons s_l_group_good_8 b_l_group_good_9
def s_l_group_good_7 : S := .ret (.bl false)
def b_l_group_good_7 : Ss := .cons s_l_group_good_7 .nil
def s_l_group_good_6 : S := .ife (.or_ (.val (.cmp .ne (.idx (.var 0) (.int 0)) (.str "group"))) (.or_ (.not_ (.tru (.isi (.var 5) [.tuple]))) (.val (.cmp .ne (.bi .len (.cons (.var 5) .nil)) (.int 2))))) b_l_group_good_7 .nil
def b_l_group_good_6 : Ss := .cons s_l_group_good_6 b_l_group_good_8
def s_l_group_good_5 : S := .asg 5 true (.idx (.var 0) (.int 1))
def b_l_group_good_5 : Ss := .cons s_l_group_good_5 b_l_group_good_6
def s_l_group_good_4 : S := .ret (.and_ (.cmp .eq (.idx (.var 0) (.int 0)) (.str "out")) (.and_ (.call 21 (.cons (.idx (.var 0) (.int 1)) .nil)) (.cmp .eq (.idx (.var 0) (.int 1)) (.var 2))))
def b_l_group_good_4 : Ss := .cons s_l_group_good_4 .nil
def s_l_group_good_3 : S := .ife (.val (.cmp .eq (.bi .len (.cons (.var 4) .nil)) (.int 0))) b_l_group_good_4 .nil
def b_l_group_good_3 : Ss := .cons s_l_group_good_3 b_l_group_good_5
def s_l_group_good_2 : S := .ret (.bl false)
def b_l_group_good_2 : Ss := .cons s_l_group_good_2 .nil
def s_l_group_good_1 : S := .ife (.or_ (.not_ (.tru (.idx (.var 0) (.int 2)))) (.tru (.idx (.var 0) (.int 3)))) b_l_group_good_2 .nil
def b_l_group_good_1 : Ss := .cons s_l_group_good_1 b_l_group_good_3
def c_l_group_good_1 : E := .comp (.one 7) (.seq (.var 1)) (.some (.val (.cmp .lt (.idx (.var 7) (.var 2)) (.var 3)))) (.idx (.var 7) (.var 2))
def s_l_group_good_0 : S := .asg 4 true (c_l_group_good_1)
def b_l_group_good_0 : Ss := .cons s_l_group_good_0 b_l_group_good_1
def d_l_group_good : Fd := ⟨4, 9, b_l_group_good_0⟩
def t_l_group_good : DefT := ⟨"_law_group_good", "_law_group_good", ("_law_group_good", none), ["_law_seen", "_law_rows", "_law_column", "_law_level", "_law_lower", "_law_group", "_law_holders", "_law_marks", "_law_row"], ["_law_seen", "_law_rows", "_law_column", "_law_level"], defArgs (top 29), defBody (top 29), defScope (top 29), [], [], none, false⟩
def s_law_k56_22 : S := .ret (.bl true)
def b_law_k56_22 : Ss := .cons s_law_k56_22 .nil
def s_law_k56_21 : S := .ret (.bl false)
def b_law_k56_21 : Ss := .cons s_law_k56_21 .nil
def s_law_k56_20 : S := .ife (.or_ (.val (.cmp .ne (.isi (.idx (.var 11) (.int 1)) [.bool]) (.isi (.var 5) [.bool]))) (.val (.cmp .ne (.idx (.var 11) (.int 1)) (.var 5)))) b_law_k56_21 .nil
def b_law_k56_20 : Ss := .cons s_law_k56_20 .nil
def s_law_k56_19 : S := .ret (.bl false)
def b_law_k56_19 : Ss := .cons s_law_k56_19 .nil
def s_law_k56_18 : S := .ife (.or_ (.val (.cmp .ne (.idx (.var 11) (.int 0)) (.str "bad"))) (.or_ (.not_ (.tru (.idx (.var 11) (.int 2)))) (.tru (.idx (.var 11) (.int 3))))) b_law_k56_19 .nil
def b_law_k56_18 : Ss := .cons s_law_k56_18 b_law_k56_20
def s_law_k56_17 : S := .asg 11 true (.call 254 (.cons (.var 2) (.cons (.var 5) (.cons (.var 6) .nil))))
def b_law_k56_17 : Ss := .cons s_law_k56_17 b_law_k56_18
def s_law_k56_16 : S := .for_ (.one 6) (.seq (.lst (.cons (.bin .add (.var 9) (.int 1)) (.cons (.int 0) .nil)))) b_law_k56_17
def b_law_k56_16 : Ss := .cons s_law_k56_16 b_law_k56_22
def s_law_k56_15 : S := .asg 5 true (.call 196 (.cons (.idx (.var 4) (.int 0)) (.cons (.idx (.var 4) (.int 1)) (.cons (.var 8) .nil))))
def b_law_k56_15 : Ss := .cons s_law_k56_15 b_law_k56_16
def s_law_k56_14 : S := .asg 4 true (.call 5 (.cons (.call 4 (.cons (.var 0) (.cons (.int 12) .nil))) (.cons (.int 2) (.cons (.int 1000) .nil))))
def b_law_k56_14 : Ss := .cons s_law_k56_14 b_law_k56_15
def s_law_k56_13 : S := .ret (.bl false)
def b_law_k56_13 : Ss := .cons s_law_k56_13 .nil
def s_law_k56_12 : S := .ife (.or_ (.val (.cmp .ne (.idx (.var 11) (.int 0)) (.str "out"))) (.not_ (.tru (.call 255 (.cons (.call 254 (.cons (.var 2) (.cons (.var 3) (.cons (.int 0) .nil)))) (.cons (.var 7) (.cons (.var 3) (.cons (.int 0) .nil)))))))) b_law_k56_13 .nil
def b_law_k56_12 : Ss := .cons s_law_k56_12 .nil
def s_law_k56_11 : S := .asg 6 true (.idx (.idx (.var 11) (.int 1)) (.int 0))
def b_law_k56_11 : Ss := .cons s_law_k56_11 .nil
def s_law_k56_10 : S := .brk
def b_law_k56_10 : Ss := .cons s_law_k56_10 .nil
def s_law_k56_9 : S := .ife (.val (.cmp .eq (.idx (.var 11) (.int 0)) (.str "out"))) b_law_k56_10 .nil
def b_law_k56_9 : Ss := .cons s_law_k56_9 b_law_k56_11
def s_law_k56_8 : S := .ret (.bl false)
def b_law_k56_8 : Ss := .cons s_law_k56_8 .nil
def s_law_k56_7 : S := .ife (.not_ (.tru (.call 255 (.cons (.var 11) (.cons (.var 7) (.cons (.var 3) (.cons (.var 6) .nil))))))) b_law_k56_8 .nil
def b_law_k56_7 : Ss := .cons s_law_k56_7 b_law_k56_9
def s_law_k56_6 : S := .asg 11 true (.call 254 (.cons (.var 2) (.cons (.var 3) (.cons (.var 6) .nil))))
def b_law_k56_6 : Ss := .cons s_law_k56_6 b_law_k56_7
def s_law_k56_5 : S := .for_ (.one 10) (.rng1 (.int 14)) b_law_k56_6
def b_law_k56_5 : Ss := .cons s_law_k56_5 b_law_k56_12
def s_law_k56_4 : S := .asg 6 true (.idx (.var 1) (.var 3))
def b_law_k56_4 : Ss := .cons s_law_k56_4 b_law_k56_5
def s_law_k56_3 : S := .for_ (.one 3) (.rng1 (.var 8)) b_law_k56_4
def b_law_k56_3 : Ss := .cons s_law_k56_3 b_law_k56_14
def c_law_k56_0 : E := .comp (.one 12) (.seq (.var 7)) .none (.bi .list (.cons (.var 12) .nil))
def s_law_k56_2 : S := .asg 2 true (.make 13 399 3 (.cons (c_law_k56_0) .nil) (.cons (.var 8) (.cons (.var 9) .nil)))
def b_law_k56_2 : Ss := .cons s_law_k56_2 b_law_k56_3
def s_law_k56_1 : S := .asg 1 true (.call 117 (.cons (.var 0) (.cons (.var 7) (.cons (.var 8) (.cons (.var 9) .nil)))))
def b_law_k56_1 : Ss := .cons s_law_k56_1 b_law_k56_2
def s_law_k56_0 : S := .asgT (.three 7 8 9) (.call 20 (.cons (.var 0) .nil))
def b_law_k56_0 : Ss := .cons s_law_k56_0 b_law_k56_1
def d_law_k56 : Fd := ⟨1, 13, b_law_k56_0⟩
def t_law_k56 : DefT := ⟨"law", "law", ("law", none), ["_law_script", "_law_levels_here", "_law_table_here", "_law_column", "_law_extra", "_law_bad_column", "_law_level", "_law_rows", "_law_wide", "_law_high", "_law_step", "_law_seen", "_law_marks"], ["_law_script"], defArgs (top 30), defBody (top 30), defScope (top 30), [], [], none, false⟩
def t_m_BadRow_init : DefT := ⟨"__init__", "BadRow.__init__", ("BadRow", some "__init__"), ["self", "row", "__class__"], ["self", "row"], defArgs (mth (top 4) 0), defBody (mth (top 4) 0), defScope (mth (top 4) 0), [], [], some (5, "BadRow", (PySem.Challenge.pw_risingscores_k56_next_groups.main.file : Str)), false⟩
def t_m_BadColumn_init : DefT := ⟨"__init__", "BadColumn.__init__", ("BadColumn", some "__init__"), ["self", "column", "__class__"], ["self", "column"], defArgs (mth (top 5) 0), defBody (mth (top 5) 0), defScope (mth (top 5) 0), [], [], some (6, "BadColumn", (PySem.Challenge.pw_risingscores_k56_next_groups.main.file : Str)), false⟩
def t_m_BadPage_init : DefT := ⟨"__init__", "BadPage.__init__", ("BadPage", some "__init__"), ["self", "number", "__class__"], ["self", "number"], defArgs (mth (top 6) 0), defBody (mth (top 6) 0), defScope (mth (top 6) 0), [], [], some (7, "BadPage", (PySem.Challenge.pw_risingscores_k56_next_groups.main.file : Str)), false⟩
def t_m_ReadOut_init : DefT := ⟨"__init__", "ReadOut.__init__", ("ReadOut", some "__init__"), ["self", "column", "__class__"], ["self", "column"], defArgs (mth (top 7) 0), defBody (mth (top 7) 0), defScope (mth (top 7) 0), [], [], some (9, "ReadOut", (PySem.Challenge.pw_risingscores_k56_next_groups.main.file : Str)), false⟩
def t_m_NotEnough_init : DefT := ⟨"__init__", "NotEnough.__init__", ("NotEnough", some "__init__"), ["self", "row", "__class__"], ["self", "row"], defArgs (mth (top 8) 0), defBody (mth (top 8) 0), defScope (mth (top 8) 0), [], [], some (10, "NotEnough", (PySem.Challenge.pw_risingscores_k56_next_groups.main.file : Str)), false⟩
def tabT : List (Nat × DefT × Fd) := [(17, t_p__wall, d_p__wall), (0, t_p_is_number, d_p_is_number), (1, t_p_check_row, d_p_check_row), (2, t_p_check_column, d_p_check_column), (18, t_p_marks_tuple, d_p_marks_tuple), (19, t_p_width_of, d_p_width_of), (399, t_m_Table_init, d_m_Table_init), (400, t_m_Table_len, d_m_Table_len), (401, t_m_Table_getitem, d_m_Table_getitem), (402, t_m_Table_iter, d_m_Table_iter), (403, t_m_Table_eq, d_m_Table_eq), (404, t_m_Table_with_row, d_m_Table_with_row), (405, t_m_Table_without, d_m_Table_without), (406, t_m_Table_with_mark, d_m_Table_with_mark), (407, t_m_Table_column_marks, d_m_Table_column_marks), (408, t_m_Table_written, d_m_Table_written), (498, t_m_Table_parse, d_m_Table_parse), (253, t_p_next_group, d_p_next_group), (4, t_l_read, d_l_read), (5, t_l_draws, d_l_draws), (12, t_l_linked, d_l_linked), (20, t_l_table, d_l_table), (117, t_l_levels, d_l_levels), (21, t_l_whole, d_l_whole), (22, t_l_tuple, d_l_tuple), (196, t_l_bad_2, d_l_bad_2), (254, t_l_group_outcome, d_l_group_outcome), (255, t_l_group_good, d_l_group_good), (256, t_law_k56, d_law_k56)]
def clsT : List (Nat × ClT) := [(13, ⟨"Table", [13, 14, 15], ["rows", "columns", "top"], true⟩)]
def atsT : List (Nat × Str) := [(0, ("_0" : Str)), (1, ("__len__" : Str)), (2, ("__getitem__" : Str)), (3, ("__init__" : Str)), (4, ("__eq__" : Str)), (5, ("__call__" : Str)), (6, ("row" : Str)), (7, ("_ini" : Str)), (8, ("column" : Str)), (9, ("number" : Str)), (10, ("rank" : Str)), (11, ("many" : Str)), (12, ("line" : Str)), (13, ("rows" : Str)), (14, ("columns" : Str)), (15, ("top" : Str)), (16, ("__iter__" : Str)), (17, ("_eq" : Str)), (18, ("with_row" : Str)), (19, ("without" : Str)), (20, ("with_mark" : Str)), (21, ("column_marks" : Str)), (22, ("written" : Str)), (23, ("parse" : Str)), (24, ("MOST_ROWS" : Str)), (25, ("MOST_COLUMNS" : Str)), (26, ("MOST_TOP" : Str)), (27, ("worth" : Str)), (28, ("__add__" : Str)), (29, ("__mul__" : Str)), (30, ("weights" : Str)), (31, ("scale" : Str)), (32, ("first" : Str)), (33, ("second" : Str)), (34, ("inner" : Str)), (35, ("factor" : Str)), (36, ("bonus" : Str)), (37, ("target" : Str)), (38, ("_core" : Str)), (39, ("_shields" : Str)), (40, ("__contains__" : Str)), (41, ("shield" : Str)), (42, ("core" : Str)), (43, ("levels" : Str)), (44, ("shown" : Str)), (45, ("size" : Str)), (46, ("mark" : Str)), (47, ("floor" : Str)), (48, ("ceiling" : Str)), (49, ("loose" : Str)), (50, ("knows" : Str)), (51, ("unread" : Str)), (52, ("asked" : Str)), (53, ("known_rows" : Str)), (54, ("after" : Str)), (55, ("at" : Str)), (56, ("start" : Str)), (57, ("score" : Str)), (58, ("_table" : Str)), (59, ("_page" : Str)), (60, ("_view" : Str)), (61, ("_log" : Str)), (62, ("turn" : Str)), (63, ("is_done" : Str)), (64, ("decide" : Str)), (65, ("choose" : Str)), (66, ("noted" : Str)), (67, ("step" : Str)), (68, ("run" : Str)), (69, ("walk" : Str)), (70, ("stream" : Str)), (71, ("log" : Str)), (72, ("page" : Str)), (73, ("view" : Str)), (74, ("_pattern" : Str)), (75, ("_place" : Str)), (76, ("_picks" : Str)), (77, ("_reasons" : Str)), (78, ("reasons" : Str)), (79, ("_notes" : Str)), (80, ("_asks" : Str)), (81, ("ask" : Str)), (82, ("asks" : Str)), (83, ("notes" : Str)), (84, ("_state" : Str)), (85, ("_past" : Str)), (86, ("keep" : Str)), (87, ("put" : Str)), (88, ("drop" : Str)), (89, ("change" : Str)), (90, ("read" : Str)), (91, ("read_on" : Str)), (92, ("undo" : Str)), (93, ("__iadd__" : Str)), (94, ("__setitem__" : Str)), (95, ("do_deed" : Str)), (96, ("outcome" : Str)), (97, ("band" : Str)), (98, ("counts" : Str)), (99, ("table" : Str)), (100, ("board" : Str)), (101, ("state" : Str)), (102, ("past" : Str)), (103, ("__enter__" : Str)), (104, ("__exit__" : Str)), (105, ("_board" : Str)), (106, ("_lines" : Str)), (107, ("fits" : Str)), (108, ("do" : Str)), (109, ("obey" : Str)), (110, ("tell" : Str))]
def mthT : List (Nat × Nat × Nat) := [(13, 1, 400), (13, 2, 401), (13, 16, 402), (13, 4, 403), (13, 21, 407)]
def shsT : List (Nat × Nat × Nat × Nat × List Str) := [(3, 13, 399, 1, ["columns", "top"]), (4, 13, 399, 1, ["top"]), (5, 13, 399, 1, ["columns"])]
def glsT : List (Nat × Str × D) := []
def conT : List (Nat × Nat × Int) := [(13, 24, 12), (13, 25, 4), (13, 26, 1000000000000)]
def subT : List (Nat × Nat) := []
def prsT : List (Nat × Nat × Nat) := []
def supT : List (Nat × Nat × Nat × Nat) := []
def asmD : Nat → List D → List D → Option (List D)
  | 3, [a0], [b0, b1] => some [a0, b0, b1]
  | 4, [a0], [b0] => some [a0, .non, b0]
  | 5, [a0], [b0] => some [a0, b0, .int 9]
  | _, _, _ => none
def itsT : List (Nat × Nat × Nat) := [(13, 13, 402)]
def eqsT : List (Nat × Option Nat) := [(13, none), (13, some 13)]
def islT : List (Nat × Nat × Bool) := [(13, 13, true)]
def isdT : List Nat := [13]
def fksT : List (Nat × Nat × Str × Nat × List Str) := []
def stsT : List (Nat × Nat × Nat × Nat × Nat × List Str) := []
def etsT : List (PySem.W.Frag → Addr) := []
def xcsT : List (Nat × ClT) := [(0, ⟨"RisingError", [], [], false⟩), (1, ⟨"BadTable", [], [], false⟩), (5, ⟨"BadRow", [6], ["row"], false⟩), (6, ⟨"BadColumn", [8], ["column"], false⟩), (7, ⟨"BadPage", [9], ["number"], false⟩), (9, ⟨"ReadOut", [8], ["column"], false⟩), (10, ⟨"NotEnough", [6], ["row"], false⟩)]
def xtbT : List (Nat × DefT) := [(391, t_m_BadRow_init), (392, t_m_BadColumn_init), (393, t_m_BadPage_init), (395, t_m_ReadOut_init), (396, t_m_NotEnough_init)]
def xinT : List (Nat × Nat) := [(5, 391), (6, 392), (7, 393), (9, 395), (10, 396)]
def xosT : List Nat := [0, 1]
def xmsT : List (Nat × Nat × Bool) := [(9, 0, false), (9, 1, false), (9, 5, false), (9, 6, false), (9, 7, false), (9, 9, true), (9, 10, false), (6, 0, false), (6, 1, false), (6, 5, false), (6, 6, true), (6, 7, false), (6, 9, false), (6, 10, false), (0, 0, true), (0, 1, true), (0, 5, true), (0, 6, true), (0, 7, true), (0, 9, true), (0, 10, true), (10, 0, false), (10, 1, false), (10, 5, false), (10, 6, false), (10, 7, false), (10, 9, false), (10, 10, true), (5, 0, false), (5, 1, false), (5, 5, true), (5, 6, false), (5, 7, false), (5, 9, false), (5, 10, false), (7, 0, false), (7, 1, false), (7, 5, false), (7, 6, false), (7, 7, true), (7, 9, false), (7, 10, false)]
def T : Txt := ⟨tabT, clsT, atsT, mthT, shsT, glsT, conT, subT, supT, prsT, itsT, fksT, stsT, eqsT, islT, isdT, etsT, xcsT, xmsT, xtbT, xinT, xosT, asmD⟩
def FS : Nat → Option Fd := T.Fs
def GA : Tb := T.G
theorem F_p__wall : FS 17 = some d_p__wall := by rfl
theorem F_p_is_number : FS 0 = some d_p_is_number := by rfl
theorem F_p_check_row : FS 1 = some d_p_check_row := by rfl
theorem F_p_check_column : FS 2 = some d_p_check_column := by rfl
theorem F_p_marks_tuple : FS 18 = some d_p_marks_tuple := by rfl
theorem F_p_width_of : FS 19 = some d_p_width_of := by rfl
theorem F_m_Table_init : FS 399 = some d_m_Table_init := by rfl
theorem F_m_Table_len : FS 400 = some d_m_Table_len := by rfl
theorem F_m_Table_getitem : FS 401 = some d_m_Table_getitem := by rfl
theorem F_m_Table_iter : FS 402 = some d_m_Table_iter := by rfl
theorem F_m_Table_eq : FS 403 = some d_m_Table_eq := by rfl
theorem F_m_Table_column_marks : FS 407 = some d_m_Table_column_marks := by rfl
theorem F_p_next_group : FS 253 = some d_p_next_group := by rfl
theorem F_l_read : FS 4 = some d_l_read := by rfl
theorem F_l_draws : FS 5 = some d_l_draws := by rfl
theorem F_l_linked : FS 12 = some d_l_linked := by rfl
theorem F_l_table : FS 20 = some d_l_table := by rfl
theorem F_l_levels : FS 117 = some d_l_levels := by rfl
theorem F_l_whole : FS 21 = some d_l_whole := by rfl
theorem F_l_tuple : FS 22 = some d_l_tuple := by rfl
theorem F_l_bad_2 : FS 196 = some d_l_bad_2 := by rfl
theorem F_l_group_outcome : FS 254 = some d_l_group_outcome := by rfl
theorem F_l_group_good : FS 255 = some d_l_group_good := by rfl
theorem F_law_k56 : FS 256 = some d_law_k56 := by rfl
@[simp] theorem ga_flds_13 : GA.flds 13 = [13, 14, 15] := by rfl
@[simp] theorem ga_meth_13_1 : GA.meth 13 1 = some 400 := by rfl
@[simp] theorem ga_meth_13_2 : GA.meth 13 2 = some 401 := by rfl
@[simp] theorem ga_meth_13_16 : GA.meth 13 16 = some 402 := by rfl
@[simp] theorem ga_meth_13_4 : GA.meth 13 4 = some 403 := by rfl
@[simp] theorem ga_meth_13_21 : GA.meth 13 21 = some 407 := by rfl
@[simp] theorem ga_con_13_24 : GA.con 13 24 = some (.int 12) := by rfl
@[simp] theorem ga_con_13_25 : GA.con 13 25 = some (.int 4) := by rfl
@[simp] theorem ga_con_13_26 : GA.con 13 26 = some (.int 1000000000000) := by rfl
@[simp] theorem ga_asm_3 {a0 b0 b1 : D} : GA.asm 3 [a0] [b0, b1] = some [a0, b0, b1] := by rfl
@[simp] theorem ga_asm_4 {a0 b0 : D} : GA.asm 4 [a0] [b0] = some [a0, .non, b0] := by rfl
@[simp] theorem ga_asm_5 {a0 b0 : D} : GA.asm 5 [a0] [b0] = some [a0, b0, .int 9] := by rfl
@[simp] theorem ga_itr_13 : GA.itr 13 = some 13 := by rfl
@[simp] theorem ga_eqk_13_n : GA.eqk 13 (none) = true := by rfl
@[simp] theorem ga_eqk_13_13 : GA.eqk 13 (some 13) = true := by rfl
@[simp] theorem ga_isk_13_13 : GA.isk 13 (some 13) = some true := by rfl
@[simp] theorem ga_isk_13_n : GA.isk 13 none = some false := by rfl
@[simp] theorem ga_xfl_0 : GA.xfl 0 = [] := by rfl
@[simp] theorem ga_xfl_1 : GA.xfl 1 = [] := by rfl
@[simp] theorem ga_xfl_5 : GA.xfl 5 = [6] := by rfl
@[simp] theorem ga_xfl_6 : GA.xfl 6 = [8] := by rfl
@[simp] theorem ga_xfl_7 : GA.xfl 7 = [9] := by rfl
@[simp] theorem ga_xfl_9 : GA.xfl 9 = [8] := by rfl
@[simp] theorem ga_xfl_10 : GA.xfl 10 = [6] := by rfl
@[simp] theorem ga_exm_9_0 : GA.exm 9 0 = some false := by rfl
@[simp] theorem ga_exm_9_1 : GA.exm 9 1 = some false := by rfl
@[simp] theorem ga_exm_9_5 : GA.exm 9 5 = some false := by rfl
@[simp] theorem ga_exm_9_6 : GA.exm 9 6 = some false := by rfl
@[simp] theorem ga_exm_9_7 : GA.exm 9 7 = some false := by rfl
@[simp] theorem ga_exm_9_9 : GA.exm 9 9 = some true := by rfl
@[simp] theorem ga_exm_9_10 : GA.exm 9 10 = some false := by rfl
@[simp] theorem ga_exm_6_0 : GA.exm 6 0 = some false := by rfl
@[simp] theorem ga_exm_6_1 : GA.exm 6 1 = some false := by rfl
@[simp] theorem ga_exm_6_5 : GA.exm 6 5 = some false := by rfl
@[simp] theorem ga_exm_6_6 : GA.exm 6 6 = some true := by rfl
@[simp] theorem ga_exm_6_7 : GA.exm 6 7 = some false := by rfl
@[simp] theorem ga_exm_6_9 : GA.exm 6 9 = some false := by rfl
@[simp] theorem ga_exm_6_10 : GA.exm 6 10 = some false := by rfl
@[simp] theorem ga_exm_0_0 : GA.exm 0 0 = some true := by rfl
@[simp] theorem ga_exm_0_1 : GA.exm 0 1 = some true := by rfl
@[simp] theorem ga_exm_0_5 : GA.exm 0 5 = some true := by rfl
@[simp] theorem ga_exm_0_6 : GA.exm 0 6 = some true := by rfl
@[simp] theorem ga_exm_0_7 : GA.exm 0 7 = some true := by rfl
@[simp] theorem ga_exm_0_9 : GA.exm 0 9 = some true := by rfl
@[simp] theorem ga_exm_0_10 : GA.exm 0 10 = some true := by rfl
@[simp] theorem ga_exm_10_0 : GA.exm 10 0 = some false := by rfl
@[simp] theorem ga_exm_10_1 : GA.exm 10 1 = some false := by rfl
@[simp] theorem ga_exm_10_5 : GA.exm 10 5 = some false := by rfl
@[simp] theorem ga_exm_10_6 : GA.exm 10 6 = some false := by rfl
@[simp] theorem ga_exm_10_7 : GA.exm 10 7 = some false := by rfl
@[simp] theorem ga_exm_10_9 : GA.exm 10 9 = some false := by rfl
@[simp] theorem ga_exm_10_10 : GA.exm 10 10 = some true := by rfl
@[simp] theorem ga_exm_5_0 : GA.exm 5 0 = some false := by rfl
@[simp] theorem ga_exm_5_1 : GA.exm 5 1 = some false := by rfl
@[simp] theorem ga_exm_5_5 : GA.exm 5 5 = some true := by rfl
@[simp] theorem ga_exm_5_6 : GA.exm 5 6 = some false := by rfl
@[simp] theorem ga_exm_5_7 : GA.exm 5 7 = some false := by rfl
@[simp] theorem ga_exm_5_9 : GA.exm 5 9 = some false := by rfl
@[simp] theorem ga_exm_5_10 : GA.exm 5 10 = some false := by rfl
@[simp] theorem ga_exm_7_0 : GA.exm 7 0 = some false := by rfl
@[simp] theorem ga_exm_7_1 : GA.exm 7 1 = some false := by rfl
@[simp] theorem ga_exm_7_5 : GA.exm 7 5 = some false := by rfl
@[simp] theorem ga_exm_7_6 : GA.exm 7 6 = some false := by rfl
@[simp] theorem ga_exm_7_7 : GA.exm 7 7 = some true := by rfl
@[simp] theorem ga_exm_7_9 : GA.exm 7 9 = some false := by rfl
@[simp] theorem ga_exm_7_10 : GA.exm 7 10 = some false := by rfl
abbrev hR : PySem.W.OpenRow := PySem.W.OpenLaw.row PySem.Challenge.rw_risingscores_k56_next_groups
abbrev hkO : PySem.W.Hook := T.hook 6
def hob (s : PySem.W.SharedT) : Txt.AlO := T.obsOG 6 (HandSHeadRun.getT s)
theorem hob_eq (s : PySem.W.SharedT) : hob s = hkO.obs s.abs := T.obs_eq (HandSHeadRun.getT_eq s)
def loose : List Str := [("_wall" : Str), ("RisingError" : Str), ("BadTable" : Str), ("BadRow" : Str), ("BadColumn" : Str), ("BadPage" : Str), ("ReadOut" : Str), ("NotEnough" : Str), ("is_number" : Str), ("check_row" : Str), ("check_column" : Str), ("marks_tuple" : Str), ("width_of" : Str), ("Table" : Str), ("next_group" : Str), ("_law_read" : Str), ("_law_draws" : Str), ("_law_linked" : Str), ("_law_table" : Str), ("_law_levels" : Str), ("_law_whole" : Str), ("_law_tuple" : Str), ("_law_bad" : Str), ("_law_group_outcome" : Str), ("_law_group_good" : Str)]
theorem hrun (w : World) : HandSHeadRun.RunEq hR (PySem.W.view hR.prog [30]) hkO hob 100000 loose w := by
  intro os
  kernel_rfl
end RS
/-! RsRel -/
namespace RS
open PySem PySem.Spec
open PyProof.Rows L2

/-! ### what stands in the heap for a D -/
/-- what is known of the classes: where they stand, their fields' names, whether they have slots -/
structure Kc where
  K : PySem.W.Frag
  ca : Nat → Addr
  fl : Nat → List Str
  sl : Nat → Bool
  ix : Nat → List Nat
  G : Tb
  me : Addr
/-- .. with another instance in the making -/
def Kc.at_ (k : Kc) (x : Addr) : Kc := ⟨k.K, k.ca, k.fl, k.sl, k.ix, k.G, x⟩
/-- the slots, some of them set: in the order ix -/
def layS (ix : List Nat) (vs : List V) : List (Option V) := (ix.zip vs).foldl (fun acc p => SlX.putS p.1 p.2 acc) []
/-- an instance of class c at a, its fields' values vs -/
def InsAt (k : Kc) (Z : Hp) (c : Nat) (a : Addr) (vs : List V) : Prop := ∃ dx,
  vs.length ≤ (k.fl c).length ∧ ((k.sl c = false ∧ Z a = some (.ins (k.ca c) dx ((k.fl c).zip vs))) ∨
  (k.sl c = true ∧ SlX.Slt Z a (k.ca c) dx (layS (k.ix c) vs)))
/-- an instance in the making, its dict at dx -/
structure Mak (k : Kc) (H : Hp) (c : Nat) (a dx : Addr) (vs : List V) : Prop where
  len : vs.length ≤ (k.fl c).length
  ne : dx ≠ a
  pl : k.sl c = false → H a = some (.ins (k.ca c) dx ((k.fl c).zip vs)) ∧ H dx = some (.own a)
  st : k.sl c = true → SlX.Slt H a (k.ca c) dx (layS (k.ix c) vs)
  th : ∃ o, H a = some o
  td : ∃ o, H dx = some o
mutual
/-- v is d, and stays so: all of it stands in Z, which never changes -/
inductive Sh (k : Kc) (Z : Hp) : V → D → Prop
  | non : Sh k Z .non .non
  | bl (b : Bool) : Sh k Z (.bl b) (.bl b)
  | int (i : Int) : Sh k Z (.int i) (.int i)
  | str (x : Str) : Sh k Z (.str x) (.str x)
  | tup {a : Addr} {xs : List V} {ds : List D} : SqT k.K Z a xs → Shs k Z xs ds → Sh k Z (.ref a) (.tup ds)
  | lst {a : Addr} {xs : List V} {ds : List D} : Z a = some (.lst xs) → Shs k Z xs ds → Sh k Z (.ref a) (.lst ds)
  | scr {a : Addr} {ns : List Int} : SqL k.K Z a (ns.map V.int) → Sh k Z (.ref a) (.scr ns)
  | ins {a : Addr} {c : Nat} {xs : List V} {ds : List D} : InsAt k Z c a xs → Shs k Z xs ds → Sh k Z (.ref a) (.ins c ds)
inductive Shs (k : Kc) (Z : Hp) : List V → List D → Prop
  | nil : Shs k Z [] []
  | cons {v : V} {vs : List V} {d : D} {ds : List D} : Sh k Z v d → Shs k Z vs ds → Shs k Z (v :: vs) (d :: ds)
end
mutual
/-- v is d, its lists at fp are one's own -/
inductive Ow (k : Kc) (Z H : Hp) : V → D → List Addr → Prop
  | sh {v : V} {d : D} : Sh k Z v d → d.lf = true → Ow k Z H v d []
  | lst {a : Addr} {xs : List V} {ds : List D} {fp : List Addr} : H a = some (.lst xs) → Ows k Z H xs ds fp → Ow k Z H (.ref a) (.lst ds) (a :: fp)
inductive Ows (k : Kc) (Z H : Hp) : List V → List D → List Addr → Prop
  | nil : Ows k Z H [] [] []
  | cons {v : V} {vs : List V} {d : D} {ds : List D} {f fp : List Addr} : Ow k Z H v d f → Ows k Z H vs ds fp → Ows k Z H (v :: vs) (d :: ds) (f ++ fp)
end
/-- a field of an instance in the making: shared, or an own list -/
inductive Fw (k : Kc) (Z H : Hp) : V → D → List Addr → Prop
  | sh {v : V} {d : D} : Sh k Z v d → Fw k Z H v d []
  | ow {a : Addr} {xs : List V} {ds : List D} : H a = some (.lst xs) → Shs k Z xs ds → Fw k Z H (.ref a) (.mut ds) [a]
inductive Fws (k : Kc) (Z H : Hp) : List V → List D → List Addr → Prop
  | nil : Fws k Z H [] [] []
  | cons {v : V} {vs : List V} {d : D} {ds : List D} {f fp : List Addr} : Fw k Z H v d f → Fws k Z H vs ds fp → Fws k Z H (v :: vs) (d :: ds) (f ++ fp)
/-- held by the level 0, 1, 2 -/
def Hd (k : Kc) (Z H : Hp) (lv : Nat) (v : V) (d : D) (fp : List Addr) : Prop :=
  match lv with
  | 0 => Sh k Z v d ∧ fp = []
  | 1 => ∃ a xs ds, v = .ref a ∧ d = .lst ds ∧ H a = some (.lst xs) ∧ Shs k Z xs ds ∧ fp = [a]
  | 2 => Ow k Z H v d fp
  | 5 => ∃ a dx c vs ds, (v = .ref a ∧ a = k.me) ∧ d = .ins c ds ∧ Mak k H c a dx vs ∧ Shs k Z vs ds ∧ fp = [a, dx]
  | 6 => ∃ a dx c vs ds fq, (v = .ref a ∧ a = k.me) ∧ d = .ins c ds ∧ Mak k H c a dx vs ∧ Fws k Z H vs ds fq ∧ fp = a :: dx :: fq
  | _ => False
/-- a name's slot -/
def RelSl (k : Kc) (Z H : Hp) (o : Option V) (s : Option LD) (fp : List Addr) : Prop :=
  match s with
  | none => fp = []
  | some (lv, d) => ∃ v, o = some v ∧ Hd k Z H lv v d fp
/-- the names' values, the heap: Z_0, H_0 at the entry -/
structure RelS (k : Kc) (Z_0 H_0 Z H : Hp) (σ : L2.St) (ε : En) (F : Nat → List Addr) : Prop where
  len : σ.length = ε.length
  sl : ∀ i s, ε[i]? = some s → RelSl k Z H (σ[i]?.getD none) s (F i)
  out : ∀ i, ε.length ≤ i → F i = []
  nd : ∀ i, (F i).Nodup
  dj : ∀ i j a, a ∈ F i → a ∈ F j → i = j
  zf : ∀ i a, a ∈ F i → Z a = none
  zh : ∀ a o, Z a = some o → H a = some o
  h0 : ∀ a o, H_0 a = some o → H a = some o
  z0 : ∀ a o, Z_0 a = some o → Z a = some o
  zn : ∀ a o, H_0 a = some o → Z a = Z_0 a
  fn : ∀ i a, a ∈ F i → H_0 a = none
/-- an expression's step: things are made, Z grows by what is new -/
structure Ext (Z H Z' H' : Hp) : Prop where
  h : ∀ a o, H a = some o → H' a = some o
  z : ∀ a o, Z a = some o → Z' a = some o
  n : ∀ a o, H a = some o → Z' a = Z a
  zh : ∀ a o, Z' a = some o → H' a = some o
theorem Ext.refl {Z H : Hp} (zh : ∀ a o, Z a = some o → H a = some o) : Ext Z H Z H := ⟨fun _ _ e => e, fun _ _ e => e, fun _ _ _ => rfl, zh⟩
theorem Ext.trans {Z H Z1 H1 Z2 H2 : Hp} (a : Ext Z H Z1 H1) (b : Ext Z1 H1 Z2 H2) : Ext Z H Z2 H2 :=
  ⟨fun x o e => b.h x o (a.h x o e), fun x o e => b.z x o (a.z x o e), fun x o e => (b.n x o (a.h x o e)).trans (a.n x o e), b.zh⟩
/-- what is new and one's own -/
structure New (Z' : Hp) (H : Hp) (fp : List Addr) : Prop where
  nd : fp.Nodup
  n : ∀ a ∈ fp, H a = none
  z : ∀ a ∈ fp, Z' a = none
theorem New.nil {Z H : Hp} : New Z H [] := ⟨List.nodup_nil, fun _ h => by simp at h, fun _ h => by simp at h⟩

section mono
variable {k : Kc} {Z Z' H H' : Hp}
theorem Rd.mono {a : Addr} {u : HO} (h : ∀ a o, Z a = some o → Z' a = some o) (r : L2.Rd Z a u) : L2.Rd Z' a u := by
  rcases r with r | ⟨o, r⟩
  · exact .inl (h _ _ r)
  · exact .inr ⟨o, h _ _ r⟩
theorem SqT.mono {K : PySem.W.Frag} {a : Addr} {xs : List V} (h : ∀ a o, Z a = some o → Z' a = some o) (r : SqT K Z a xs) : SqT K Z' a xs := r.imp (Rd.mono h) id
theorem SqL.mono {K : PySem.W.Frag} {a : Addr} {xs : List V} (h : ∀ a o, Z a = some o → Z' a = some o) (r : SqL K Z a xs) : SqL K Z' a xs := r.imp (Rd.mono h) id
theorem Slt.mono {a C dx : Addr} {vs : List (Option V)} (h1 : ∀ o, H a = some o → H' a = some o) (h2 : ∀ o, H dx = some o → H' dx = some o) (r : SlX.Slt H a C dx vs) : SlX.Slt H' a C dx vs := by
  rcases r with ⟨r1, r2⟩ | ⟨r1, r2⟩
  · exact .inl ⟨h1 _ r1, r2⟩
  · exact .inr ⟨h1 _ r1, h2 _ r2⟩
theorem InsAt.mono {c : Nat} {a : Addr} {vs : List V} (h : ∀ a o, Z a = some o → Z' a = some o) (r : InsAt k Z c a vs) : InsAt k Z' c a vs := by
  obtain ⟨dx, l, r⟩ := r
  refine ⟨dx, l, ?_⟩
  rcases r with ⟨r1, r2⟩ | ⟨r1, r2⟩
  · exact .inl ⟨r1, h _ _ r2⟩
  · exact .inr ⟨r1, Slt.mono (h a) (h dx) r2⟩
theorem Mak.mono {c : Nat} {a dx : Addr} {vs : List V} (h1 : ∀ o, H a = some o → H' a = some o) (h2 : ∀ o, H dx = some o → H' dx = some o) (m : Mak k H c a dx vs) : Mak k H' c a dx vs :=
  ⟨m.len, m.ne, fun e => ⟨h1 _ (m.pl e).1, h2 _ (m.pl e).2⟩, fun e => Slt.mono h1 h2 (m.st e), let ⟨o, e⟩ := m.th; ⟨o, h1 _ e⟩, let ⟨o, e⟩ := m.td; ⟨o, h2 _ e⟩⟩
/-- it is whole, and stays -/
theorem Mak.insAt {c : Nat} {a dx : Addr} {vs : List V} (h1 : Z a = H a) (h2 : Z dx = H dx) (m : Mak k H c a dx vs) : InsAt k Z c a vs := by
  refine ⟨dx, m.len, ?_⟩
  cases e : k.sl c with
  | false => exact .inl ⟨rfl, h1.trans (m.pl e).1⟩
  | true => exact .inr ⟨rfl, Slt.mono (fun o q => h1.trans q) (fun o q => h2.trans q) (m.st e)⟩
mutual
theorem Sh.mono (h : ∀ a o, Z a = some o → Z' a = some o) : ∀ {v : V} {d : D}, Sh k Z v d → Sh k Z' v d
  | _, _, .non => .non
  | _, _, .bl b => .bl b
  | _, _, .int b => .int b
  | _, _, .str b => .str b
  | _, _, .tup s r => .tup (SqT.mono h s) (Shs.mono h r)
  | _, _, .lst s r => .lst (h _ _ s) (Shs.mono h r)
  | _, _, .scr s => .scr (SqL.mono h s)
  | _, _, .ins s r => .ins (InsAt.mono h s) (Shs.mono h r)
theorem Shs.mono (h : ∀ a o, Z a = some o → Z' a = some o) : ∀ {v : List V} {d : List D}, Shs k Z v d → Shs k Z' v d
  | _, _, .nil => .nil
  | _, _, .cons a r => .cons (Sh.mono h a) (Shs.mono h r)
end
mutual
theorem Ow.mono (h : ∀ a o, Z a = some o → Z' a = some o) : ∀ {v : V} {d : D} {fp : List Addr}, (∀ a ∈ fp, ∀ o, H a = some o → H' a = some o) → Ow k Z H v d fp → Ow k Z' H' v d fp
  | _, _, _, _, .sh s l => .sh (s.mono h) l
  | _, _, _, hh, .lst e r => .lst (hh _ (List.mem_cons_self ..) _ e) (Ows.mono h (fun a m => hh a (List.mem_cons_of_mem _ m)) r)
theorem Ows.mono (h : ∀ a o, Z a = some o → Z' a = some o) : ∀ {v : List V} {d : List D} {fp : List Addr}, (∀ a ∈ fp, ∀ o, H a = some o → H' a = some o) → Ows k Z H v d fp → Ows k Z' H' v d fp
  | _, _, _, _, .nil => .nil
  | _, _, _, hh, .cons a r => .cons (Ow.mono h (fun x m => hh x (List.mem_append_left _ m)) a) (Ows.mono h (fun x m => hh x (List.mem_append_right _ m)) r)
end
/-- what was one's own becomes shared -/
theorem sqL_now {a : Addr} {xs : List V} (e : H a = some (.lst xs)) (h : Z' a = H a) : Z' a = some (.lst xs) := h.trans e
mutual
theorem Ow.share (h : ∀ a o, Z a = some o → Z' a = some o) : ∀ {v : V} {d : D} {fp : List Addr}, (∀ a ∈ fp, Z' a = H a) → Ow k Z H v d fp → Sh k Z' v d
  | _, _, _, _, .sh s _ => s.mono h
  | _, _, _, hf, .lst e r => .lst (sqL_now e (hf _ (List.mem_cons_self ..))) (Ows.share h (fun a m => hf a (List.mem_cons_of_mem _ m)) r)
theorem Ows.share (h : ∀ a o, Z a = some o → Z' a = some o) : ∀ {v : List V} {d : List D} {fp : List Addr}, (∀ a ∈ fp, Z' a = H a) → Ows k Z H v d fp → Shs k Z' v d
  | _, _, _, _, .nil => .nil
  | _, _, _, hf, .cons a r => .cons (Ow.share h (fun x m => hf x (List.mem_append_left _ m)) a) (Ows.share h (fun x m => hf x (List.mem_append_right _ m)) r)
end
mutual
theorem Ow.there : ∀ {v : V} {d : D} {fp : List Addr}, Ow k Z H v d fp → ∀ a ∈ fp, ∃ xs, H a = some (.lst xs)
  | _, _, _, .sh _ _, a, m => by simp at m
  | _, _, _, .lst e r, a, m => by
    rcases List.mem_cons.mp m with rfl | m
    · exact ⟨_, e⟩
    · exact Ows.there r a m
theorem Ows.there : ∀ {v : List V} {d : List D} {fp : List Addr}, Ows k Z H v d fp → ∀ a ∈ fp, ∃ xs, H a = some (.lst xs)
  | _, _, _, .nil, a, m => by simp at m
  | _, _, _, .cons x r, a, m => by
    rcases List.mem_append.mp m with m | m
    · exact Ow.there x a m
    · exact Ows.there r a m
end
theorem Fw.mono (h : ∀ a o, Z a = some o → Z' a = some o) {v : V} {d : D} {fp : List Addr} (hh : ∀ a ∈ fp, ∀ o, H a = some o → H' a = some o) : Fw k Z H v d fp → Fw k Z' H' v d fp
  | .sh s => .sh (s.mono h)
  | .ow e s => .ow (hh _ (List.mem_singleton.mpr rfl) _ e) (s.mono h)
theorem Fws.mono (h : ∀ a o, Z a = some o → Z' a = some o) : ∀ {v : List V} {d : List D} {fp : List Addr}, (∀ a ∈ fp, ∀ o, H a = some o → H' a = some o) → Fws k Z H v d fp → Fws k Z' H' v d fp
  | _, _, _, _, .nil => .nil
  | _, _, _, hh, .cons a r => .cons (Fw.mono h (fun x m => hh x (List.mem_append_left _ m)) a) (Fws.mono h (fun x m => hh x (List.mem_append_right _ m)) r)
theorem Fws.at {v : List V} {d : List D} {fp : List Addr} (hh : ∀ a ∈ fp, H' a = H a) (x : Fws k Z H v d fp) : Fws k Z H' v d fp := Fws.mono (fun _ _ e => e) (fun a m o e => (hh a m).trans e) x
theorem Fws.there : ∀ {v : List V} {d : List D} {fp : List Addr}, Fws k Z H v d fp → ∀ a ∈ fp, ∃ xs, H a = some (.lst xs)
  | _, _, _, .nil, a, m => by simp at m
  | _, _, _, .cons x r, a, m => by
    rcases List.mem_append.mp m with m | m
    · cases x with
      | sh s => simp at m
      | ow e s => rw [List.mem_singleton.mp m]; exact ⟨_, e⟩
    · exact Fws.there r a m
theorem Fws.length : ∀ {vs : List V} {ds : List D} {fp : List Addr}, Fws k Z H vs ds fp → vs.length = ds.length
  | _, _, _, .nil => rfl
  | _, _, _, .cons _ r => congrArg (· + 1) r.length
theorem Fws.get : ∀ {vs : List V} {ds : List D} {fp : List Addr} {i : Nat} {d : D}, Fws k Z H vs ds fp → ds[i]? = some d → ∃ v f, vs[i]? = some v ∧ Fw k Z H v d f ∧ ∀ a ∈ f, a ∈ fp
  | _, _, _, _, _, .nil, e => by simp at e
  | _, _, _, 0, _, .cons a _, e => by simp at e; subst e; exact ⟨_, _, rfl, a, fun _ m => List.mem_append_left _ m⟩
  | _, _, _, i + 1, _, .cons _ r, e => by
    obtain ⟨v, f, h1, h2, h3⟩ := Fws.get (i := i) r (by simpa using e)
    exact ⟨v, f, by simpa using h1, h2, fun a m => List.mem_append_right _ (h3 a m)⟩
theorem Fws.of : ∀ {vs : List V} {ds : List D}, Shs k Z vs ds → Fws k Z H vs ds []
  | _, _, .nil => .nil
  | _, _, .cons a r => .cons (f := []) (.sh a) (Fws.of r)
theorem Fws.snoc {v : V} {d : D} {f : List Addr} (x : Fw k Z H v d f) : ∀ {vs : List V} {ds : List D} {fp : List Addr}, Fws k Z H vs ds fp → Fws k Z H (vs ++ [v]) (ds ++ [d]) (fp ++ f)
  | _, _, _, .nil => by simpa using Fws.cons x .nil
  | _, _, _, .cons (f := g) (fp := fq) a r => by
    have := Fws.cons a (Fws.snoc x r)
    rw [← List.append_assoc] at this
    exact this
/-- all of it becomes shared -/
theorem Fws.share (h : ∀ a o, Z a = some o → Z' a = some o) : ∀ {v : List V} {d : List D} {fp : List Addr}, (∀ a ∈ fp, Z' a = H a) → Fws k Z H v d fp → Shs k Z' v (d.map D.unm)
  | _, _, _, _, .nil => .nil
  | _, _, _, hf, .cons a r => by
    refine .cons ?_ (Fws.share h (fun x m => hf x (List.mem_append_right _ m)) r)
    cases a with
    | sh s =>
      have q := s.mono h
      cases q <;> constructor <;> assumption
    | ow e s => exact .lst ((hf _ (List.mem_append_left _ (List.mem_singleton.mpr rfl))).trans e) (s.mono h)
/-- an own list is another one, or other things stand in it -/
theorem Fws.put {b : Addr} {ws : List V} {xs : List D} (e : H' b = some (.lst ws)) (s : Shs k Z ws xs) : ∀ {vs : List V} {ds : List D} {fp : List Addr} {j : Nat} {ys : List D}, Fws k Z H vs ds fp → fp.Nodup → vs[j]? = some (.ref b) → ds[j]? = some (.mut ys) → b ∈ fp → (∀ a ∈ fp, a ≠ b → H' a = H a) → Fws k Z H' vs (ds.set j (.mut xs)) fp
  | _, _, _, _, _, .nil, _, e1, _, _, _ => by simp at e1
  | _, _, _, 0, ys, .cons (f := f) (fp := fq) a r, nd, e1, e2, m, h => by
    simp at e1 e2
    subst e1 e2
    obtain ⟨nd1, nd2, nd3⟩ := List.nodup_append.mp nd
    cases a with
    | sh s => cases s
    | ow e' s' =>
      exact .cons (.ow e s) (r.at fun c mc => h c (List.mem_append_right _ mc) fun z => nd3 b (List.mem_singleton.mpr rfl) c mc z.symm)
  | _, _, _, j + 1, ys, .cons (f := f) (fp := fq) a r, nd, e1, e2, m, h => by
    obtain ⟨nd1, nd2, nd3⟩ := List.nodup_append.mp nd
    have e1 : _ := (by simpa using e1 : _[j]? = some (V.ref b))
    have e2 : _ := (by simpa using e2 : _[j]? = some (D.mut ys))
    obtain ⟨v, g, g1, g2, g3⟩ := r.get e2
    rw [e1] at g1
    cases g1
    have mb : b ∈ fq := by
      cases g2 with
      | sh s => cases s
      | ow _ _ => exact g3 b (List.mem_singleton.mpr rfl)
    exact .cons (Fw.mono (fun _ _ e => e) (fun c mc o q => (h c (List.mem_append_left _ mc) (nd3 c mc b mb)).trans q) a) (Fws.put e s r nd2 e1 e2 mb fun c mc hc => h c (List.mem_append_right _ mc) hc)
theorem Shs.length : ∀ {vs : List V} {ds : List D}, Shs k Z vs ds → vs.length = ds.length
  | _, _, .nil => rfl
  | _, _, .cons _ r => congrArg (· + 1) r.length
theorem Ows.length : ∀ {vs : List V} {ds : List D} {fp : List Addr}, Ows k Z H vs ds fp → vs.length = ds.length
  | _, _, _, .nil => rfl
  | _, _, _, .cons _ r => congrArg (· + 1) r.length
theorem Shs.get : ∀ {vs : List V} {ds : List D} {i : Nat} {d : D}, Shs k Z vs ds → ds[i]? = some d → ∃ v, vs[i]? = some v ∧ Sh k Z v d
  | _, _, _, _, .nil, e => by simp at e
  | _, _, 0, _, .cons a _, e => by simp at e; subst e; exact ⟨_, rfl, a⟩
  | _, _, i + 1, _, .cons _ r, e => by
    obtain ⟨v, h1, h2⟩ := Shs.get (i := i) r (by simpa using e)
    exact ⟨v, by simpa using h1, h2⟩
theorem Ows.get : ∀ {vs : List V} {ds : List D} {fp : List Addr} {i : Nat} {d : D}, Ows k Z H vs ds fp → ds[i]? = some d → ∃ v f, vs[i]? = some v ∧ Ow k Z H v d f ∧ ∀ a ∈ f, a ∈ fp
  | _, _, _, _, _, .nil, e => by simp at e
  | _, _, _, 0, _, .cons a _, e => by simp at e; subst e; exact ⟨_, _, rfl, a, fun _ m => List.mem_append_left _ m⟩
  | _, _, _, i + 1, _, .cons _ r, e => by
    obtain ⟨v, f, h1, h2, h3⟩ := Ows.get (i := i) r (by simpa using e)
    exact ⟨v, f, by simpa using h1, h2, fun a m => List.mem_append_right _ (h3 a m)⟩
/-- a list-free thing is shared however it is held -/
theorem Ow.free : ∀ {v : V} {d : D} {fp : List Addr}, Ow k Z H v d fp → d.lf = true → Sh k Z v d ∧ fp = []
  | _, _, _, .sh s _, _ => ⟨s, rfl⟩
  | _, _, _, .lst _ _, l => by simp [D.lf] at l
theorem Ows.free : ∀ {v : List V} {d : List D} {fp : List Addr}, Ows k Z H v d fp → D.lfs d = true → Shs k Z v d ∧ fp = []
  | _, _, _, .nil, _ => ⟨.nil, rfl⟩
  | _, _, _, .cons a r, l => by
    simp only [D.lfs, Bool.and_eq_true] at l
    obtain ⟨h1, rfl⟩ := a.free l.1
    obtain ⟨h2, rfl⟩ := Ows.free r l.2
    exact ⟨.cons h1 h2, rfl⟩
theorem Shs.ows : ∀ {v : List V} {d : List D}, Shs k Z v d → D.lfs d = true → Ows k Z H v d []
  | _, _, .nil, _ => .nil
  | _, _, .cons a r, l => by
    simp only [D.lfs, Bool.and_eq_true] at l
    exact .cons (f := []) (.sh a l.1) (Shs.ows r l.2)
theorem Shs.append : ∀ {v w : List V} {d e : List D}, Shs k Z v d → Shs k Z w e → Shs k Z (v ++ w) (d ++ e)
  | _, _, _, _, .nil, s => s
  | _, _, _, _, .cons a r, s => .cons a (Shs.append r s)
theorem Shs.set {v : V} {d : D} (a : Sh k Z v d) : ∀ {vs : List V} {ds : List D} (i : Nat), Shs k Z vs ds → Shs k Z (vs.set i v) (ds.set i d)
  | _, _, _, .nil => .nil
  | _, _, 0, .cons _ r => .cons a r
  | _, _, i + 1, .cons b r => .cons b (Shs.set a i r)
theorem Shs.take : ∀ {vs : List V} {ds : List D} (n : Nat), Shs k Z vs ds → Shs k Z (vs.take n) (ds.take n)
  | _, _, 0, _ => .nil
  | _, _, _ + 1, .nil => .nil
  | _, _, n + 1, .cons r t => .cons r (Shs.take n t)
theorem Shs.drop : ∀ {vs : List V} {ds : List D} (n : Nat), Shs k Z vs ds → Shs k Z (vs.drop n) (ds.drop n)
  | _, _, 0, r => r
  | _, _, _ + 1, .nil => .nil
  | _, _, n + 1, .cons _ t => Shs.drop n t
theorem Shs.erase : ∀ {vs : List V} {ds : List D} (n : Nat), Shs k Z vs ds → Shs k Z (vs.eraseIdx n) (ds.eraseIdx n)
  | _, _, _, .nil => .nil
  | _, _, 0, .cons r t => t
  | _, _, n + 1, .cons r t => .cons r (Shs.erase n t)
end mono
theorem RelS.ext {k : Kc} {Z0 H0 Z H Z' H' : Hp} {σ : L2.St} {ε : En} {F : Nat → List Addr} (r : RelS k Z0 H0 Z H σ ε F) (x : Ext Z H Z' H') : RelS k Z0 H0 Z' H' σ ε F := by
  have lk : ∀ i a, a ∈ F i → ∃ o, H a = some o := fun i a m => by
    have hi : i < ε.length := by
      rcases Nat.lt_or_ge i ε.length with h | h
      · exact h
      · rw [r.out i h] at m; simp at m
    have q := r.sl i _ (List.getElem?_eq_getElem hi)
    cases e : ε[i] with
    | none => rw [e] at q; simp only [RelSl] at q; rw [q] at m; simp at m
    | some p =>
      obtain ⟨lv, d⟩ := p
      rw [e] at q
      obtain ⟨v, _, hd⟩ := q
      match lv, hd with
      | 0, hd => rw [hd.2] at m; simp at m
      | 1, ⟨b, xs, _, _, _, hb, _, hf⟩ => rw [hf] at m; simp at m; subst m; exact ⟨_, hb⟩
      | 2, hd => obtain ⟨xs, e⟩ := Ow.there hd a m; exact ⟨_, e⟩
      | 5, ⟨b, dx, _, _, _, _, _, hm, _, hf⟩ =>
        rw [hf] at m
        rcases List.mem_cons.mp m with rfl | m
        · exact hm.th
        · rw [List.mem_singleton.mp m]; exact hm.td
      | 6, ⟨b, dx, _, _, _, fq, _, _, hm, hw, hf⟩ =>
        rw [hf] at m
        rcases List.mem_cons.mp m with rfl | m
        · exact hm.th
        · rcases List.mem_cons.mp m with rfl | m
          · exact hm.td
          · obtain ⟨xs, e⟩ := hw.there a m; exact ⟨_, e⟩
      | 3, hd => exact hd.elim
      | 4, hd => exact hd.elim
      | n + 7, hd => exact hd.elim
  refine ⟨r.len, fun i s e => ?_, r.out, r.nd, r.dj, fun i a m => ?_, x.zh, fun a o e => x.h a o (r.h0 a o e), fun a o e => x.z a o (r.z0 a o e), fun a o e => (x.n a o (r.h0 a o e)).trans (r.zn a o e), r.fn⟩
  · have q := r.sl i s e
    cases s with
    | none => exact q
    | some p =>
      obtain ⟨lv, d⟩ := p
      obtain ⟨v, e1, hd⟩ := q
      refine ⟨v, e1, ?_⟩
      match lv, hd with
      | 0, hd => exact ⟨hd.1.mono x.z, hd.2⟩
      | 1, ⟨b, xs, ds, h1, h2, h3, h4, h5⟩ => exact ⟨b, xs, ds, h1, h2, x.h _ _ h3, h4.mono x.z, h5⟩
      | 2, hd => exact Ow.mono x.z (fun a _ o e => x.h a o e) hd
      | 5, ⟨b, dx, c, vs, ds, h1, h2, h3, h4, h5⟩ => exact ⟨b, dx, c, vs, ds, h1, h2, h3.mono (x.h _) (x.h _), h4.mono x.z, h5⟩
      | 6, ⟨b, dx, c, vs, ds, fq, h1, h2, h3, h4, h5⟩ => exact ⟨b, dx, c, vs, ds, fq, h1, h2, h3.mono (x.h _) (x.h _), h4.mono x.z (fun a _ o e => x.h a o e), h5⟩
      | 3, hd => exact hd.elim
      | 4, hd => exact hd.elim
      | n + 7, hd => exact hd.elim
  · obtain ⟨o, e⟩ := lk i a m
    exact (x.n a o e).trans (r.zf i a m)
/-- what a looked-at value is: part of what the names own -/
def Bo (k : Kc) (Z H : Hp) (F : Nat → List Addr) (lv : Nat) (v : V) (d : D) : Prop := ∃ fp, Hd k Z H lv v d fp ∧ (∀ a ∈ fp, ∃ i, a ∈ F i) ∧ fp.Nodup
/-- a value of an expression -/
def RelT (k : Kc) (Z H : Hp) (F : Nat → List Addr) (lv : Nat) (v : V) (d : D) (fp : List Addr) : Prop :=
  match lv with
  | 0 => Hd k Z H 0 v d fp
  | 1 => Hd k Z H 1 v d fp
  | 2 => Hd k Z H 2 v d fp
  | 3 => fp = [] ∧ Bo k Z H F 1 v d
  | 4 => fp = [] ∧ Bo k Z H F 2 v d
  | _ => False
theorem Hd.mono {k : Kc} {Z H Z' H' : Hp} {lv : Nat} {v : V} {d : D} {fp : List Addr} (z : ∀ a o, Z a = some o → Z' a = some o) (h : ∀ a o, H a = some o → H' a = some o) (x : Hd k Z H lv v d fp) : Hd k Z' H' lv v d fp := by
  match lv, x with
  | 0, x => exact ⟨x.1.mono z, x.2⟩
  | 1, ⟨b, xs, ds, h1, h2, h3, h4, h5⟩ => exact ⟨b, xs, ds, h1, h2, h _ _ h3, h4.mono z, h5⟩
  | 2, x => exact Ow.mono z (fun a _ o e => h a o e) x
  | 5, ⟨b, dx, c, vs, ds, h1, h2, h3, h4, h5⟩ => exact ⟨b, dx, c, vs, ds, h1, h2, h3.mono (h _) (h _), h4.mono z, h5⟩
  | 6, ⟨b, dx, c, vs, ds, fq, h1, h2, h3, h4, h5⟩ => exact ⟨b, dx, c, vs, ds, fq, h1, h2, h3.mono (h _) (h _), h4.mono z (fun a _ o e => h a o e), h5⟩
  | 3, x => exact x.elim
  | 4, x => exact x.elim
  | n + 7, x => exact x.elim
theorem RelT.mono {k : Kc} {Z H Z' H' : Hp} {F : Nat → List Addr} {lv : Nat} {v : V} {d : D} {fp : List Addr} (e : Ext Z H Z' H') (x : RelT k Z H F lv v d fp) : RelT k Z' H' F lv v d fp := by
  match lv, x with
  | 0, x => exact Hd.mono (lv := 0) e.z e.h x
  | 1, x => exact Hd.mono (lv := 1) e.z e.h x
  | 2, x => exact Hd.mono (lv := 2) e.z e.h x
  | 3, ⟨h1, fp', h2, h3⟩ => exact ⟨h1, fp', Hd.mono e.z e.h h2, h3⟩
  | 4, ⟨h1, fp', h2, h3⟩ => exact ⟨h1, fp', Hd.mono e.z e.h h2, h3⟩
  | n + 5, x => exact x.elim
theorem Hd.there {k : Kc} {Z H : Hp} {lv : Nat} {v : V} {d : D} {fp : List Addr} (x : Hd k Z H lv v d fp) : ∀ a ∈ fp, ∃ o, H a = some o := fun a m => by
  match lv, x with
  | 0, x => rw [x.2] at m; simp at m
  | 1, ⟨b, xs, ds, h1, h2, h3, h4, h5⟩ => rw [h5] at m; simp at m; subst m; exact ⟨_, h3⟩
  | 2, x => obtain ⟨xs, e⟩ := Ow.there x a m; exact ⟨_, e⟩
  | 5, ⟨b, dx, _, _, _, _, _, hm, _, hf⟩ =>
    rw [hf] at m
    rcases List.mem_cons.mp m with rfl | m
    · exact hm.th
    · rw [List.mem_singleton.mp m]; exact hm.td
  | 6, ⟨b, dx, _, _, _, fq, _, _, hm, hw, hf⟩ =>
    rw [hf] at m
    rcases List.mem_cons.mp m with rfl | m
    · exact hm.th
    · rcases List.mem_cons.mp m with rfl | m
      · exact hm.td
      · obtain ⟨xs, e⟩ := hw.there a m; exact ⟨_, e⟩
  | 3, x => exact x.elim
  | 4, x => exact x.elim
  | n + 7, x => exact x.elim
/-- what is owned by 0, 1, 2: lists -/
theorem Hd.lists {k : Kc} {Z H : Hp} {lv : Nat} {v : V} {d : D} {fp : List Addr} (hl : lv ≤ 2) (x : Hd k Z H lv v d fp) : ∀ a ∈ fp, ∃ xs, H a = some (.lst xs) := fun a m => by
  match lv, x, hl with
  | 0, x, _ => rw [x.2] at m; simp at m
  | 1, ⟨b, xs, ds, h1, h2, h3, h4, h5⟩, _ => rw [h5] at m; simp at m; subst m; exact ⟨_, h3⟩
  | 2, x, _ => exact Ow.there x a m
theorem RelT.there {k : Kc} {Z H : Hp} {F : Nat → List Addr} {lv : Nat} {v : V} {d : D} {fp : List Addr} (x : RelT k Z H F lv v d fp) : ∀ a ∈ fp, ∃ o, H a = some o := fun a m => by
  match lv, x with
  | 0, x => exact Hd.there (lv := 0) x a m
  | 1, x => exact Hd.there (lv := 1) x a m
  | 2, x => exact Hd.there (lv := 2) x a m
  | 3, ⟨h1, _⟩ => rw [h1] at m; simp at m
  | 4, ⟨h1, _⟩ => rw [h1] at m; simp at m
  | n + 5, x => exact x.elim
/-- what is new stays apart -/
theorem New.ext {Z1 H H1 Z2 H2 : Hp} {fp : List Addr} (n : New Z1 H fp) (th : ∀ a ∈ fp, ∃ o, H1 a = some o) (x : Ext Z1 H1 Z2 H2) : New Z2 H fp := ⟨n.nd, n.n, fun a m => by
  obtain ⟨o, e⟩ := th a m
  exact (x.n a o e).trans (n.z a m)⟩
theorem New.back {Z' H H1 : Hp} {fp : List Addr} (n : New Z' H1 fp) (h : ∀ a o, H a = some o → H1 a = some o) : New Z' H fp := by
  refine ⟨n.nd, fun a m => ?_, n.z⟩
  cases e : H a with
  | none => rfl
  | some o =>
    have q := n.n a m
    rw [h a o e] at q
    cases q
theorem New.join {Z' H H1 : Hp} {fp f2 : List Addr} (a : New Z' H fp) (th : ∀ a ∈ fp, ∃ o, H1 a = some o) (b : New Z' H1 f2) (h : ∀ a o, H a = some o → H1 a = some o) : New Z' H (fp ++ f2) := by
  refine ⟨List.nodup_append.mpr ⟨a.nd, b.nd, fun x mx y my e => ?_⟩, fun x m => ?_, fun x m => ?_⟩
  · subst e
    obtain ⟨o, q⟩ := th x mx
    rw [b.n x my] at q; cases q
  · rcases List.mem_append.mp m with m | m
    · exact a.n x m
    · exact (b.back h).n x m
  · rcases List.mem_append.mp m with m | m
    · exact a.z x m
    · exact b.z x m
/-! ### the instance in the making does not matter elsewhere -/
section
variable {k : Kc} {Z H : Hp} {x : Addr}
mutual
theorem Sh.me : ∀ {v : V} {d : D}, Sh k Z v d → Sh (k.at_ x) Z v d
  | _, _, .non => .non
  | _, _, .bl b => .bl b
  | _, _, .int b => .int b
  | _, _, .str b => .str b
  | _, _, .tup s r => .tup s (Shs.me r)
  | _, _, .lst s r => .lst s (Shs.me r)
  | _, _, .scr s => .scr s
  | _, _, .ins s r => .ins s (Shs.me r)
theorem Shs.me : ∀ {v : List V} {d : List D}, Shs k Z v d → Shs (k.at_ x) Z v d
  | _, _, .nil => .nil
  | _, _, .cons a r => .cons (Sh.me a) (Shs.me r)
end
theorem Sh.em {v : V} {d : D} (h : Sh (k.at_ x) Z v d) : Sh k Z v d := (Sh.me (k := k.at_ x) (x := k.me) h :)
theorem Shs.em {v : List V} {d : List D} (h : Shs (k.at_ x) Z v d) : Shs k Z v d := (Shs.me (k := k.at_ x) (x := k.me) h :)
mutual
theorem Ow.me : ∀ {v : V} {d : D} {fp : List Addr}, Ow k Z H v d fp → Ow (k.at_ x) Z H v d fp
  | _, _, _, .sh s l => .sh s.me l
  | _, _, _, .lst e r => .lst e (Ows.me r)
theorem Ows.me : ∀ {v : List V} {d : List D} {fp : List Addr}, Ows k Z H v d fp → Ows (k.at_ x) Z H v d fp
  | _, _, _, .nil => .nil
  | _, _, _, .cons a r => .cons (Ow.me a) (Ows.me r)
end
theorem Hd.me {lv : Nat} {v : V} {d : D} {fp : List Addr} (hl : lv ≤ 2) (h : Hd k Z H lv v d fp) : Hd (k.at_ x) Z H lv v d fp := by
  match lv, h, hl with
  | 0, h, _ => exact ⟨h.1.me, h.2⟩
  | 1, ⟨a, xs, ds, h1, h2, h3, h4, h5⟩, _ => exact ⟨a, xs, ds, h1, h2, h3, h4.me, h5⟩
  | 2, h, _ => exact Ow.me h
end
end RS

/-! RsSnd1 -/
namespace RS
open PySem PySem.Spec
open PyProof.Rows L2

theorem PE.imp {X : Cx} {e : Expr} {t t' : TE} (h : PE X e t) (i : ∀ σ H Q, t' σ H Q → t σ H Q) : PE X e t' := ⟨fun pins s σ H Q I q => h.run pins s σ H Q I (i σ H Q q)⟩
theorem PE.of {X : Cx} {e : Expr} {t : TE} (h : ∀ σ H Q, t σ H Q → ∃ t', PE X e t' ∧ t' σ H Q) : PE X e t := ⟨fun pins s σ H Q I q => by
  obtain ⟨t', h1, h2⟩ := h σ H Q q
  exact h1.run pins s σ H Q I h2⟩
theorem PT.imp {X : Cx} {e : Expr} {t t' : TT} (h : PT X e t) (i : ∀ σ H Q, t' σ H Q → t σ H Q) : PT X e t' := ⟨fun pins s σ H Q I q => h.run pins s σ H Q I (i σ H Q q)⟩
theorem PW.imp {X : Cx} {e : Expr} {t t' : TT} (h : PW X e t) (i : ∀ σ H Q, t' σ H Q → t σ H Q) : PW X e t' := ⟨fun wh pins s σ H Q I q => h.run wh pins s σ H Q I (i σ H Q q)⟩
theorem PA.imp {X : Cx} {e : List Expr} {t t' : TA} (h : PA X e t) (i : ∀ σ H Q, t' σ H Q → t σ H Q) : PA X e t' := ⟨fun pos pins s σ H Q I q => h.run pos pins s σ H Q I (i σ H Q q)⟩
theorem PS.imp {X : Cx} {e : Stmt} {t t' : TS} (h : PS X e t) (i : ∀ σ H Q, t' σ H Q → t σ H Q) : PS X e t' := ⟨fun pins s σ H D I q => h.run pins s σ H D I (i D σ H q)⟩
theorem PSs.imp {X : Cx} {e : List Stmt} {t t' : TS} (h : PSs X e t) (i : ∀ D σ H, t' D σ H → t D σ H) : PSs X e t' := ⟨fun pins s σ H D I q => h.run pins s σ H D I (i D σ H q)⟩

/-- what is wished of an exception: its class, its own dict, the names, the heap -/
abbrev WX := Value → Option Addr → L2.St → Hp → Prop
/-- an exception as it leaves -/
def XRep (k : Kc) (Z H : Hp) (c : Nat) (fs : List D) (cls : Value) (dd : Option Addr) : Prop :=
  cls = .ref (k.ca c) ∧ ((fs = [] ∧ dd = none) ∨ ∃ d vs, dd = some d ∧ H d = some (.xd ((k.fl c).zip vs)) ∧ Shs k Z vs fs)
/-- what a result asks of the wish: a value, an exception -/
def After (k : Kc) (W : WX) (σ : L2.St) (Z H : Hp) {α : Type} (r : R α) (q : α → Prop) : Prop :=
  match r with
  | .ok a => q a
  | .exc c fs => ∀ cls dd Z' H', Ext Z H Z' H' → XRep k Z' H' c fs cls dd → W cls dd σ H'
  | .bad => False
/-- a value is made: what is wanted of it -/
def Gets (k : Kc) (F : Nat → List Addr) (Z H : Hp) (Q : VK) (x : LD) : Prop := ∀ v Z' H' fp, Ext Z H Z' H' → RelT k Z' H' F x.1 v x.2 fp → New Z' H fp → Q v H'
def tE (k : Kc) (Z0 H0 : Hp) (W : WX) (r : En → R LD) : TE := fun σ H Q => ∃ Z ε F, RelS k Z0 H0 Z H σ ε F ∧ After k W σ Z H (r ε) (Gets k F Z H Q)
def tT (k : Kc) (Z0 H0 : Hp) (W : WX) (r : En → R Bool) : TT := fun σ H Q => ∃ Z ε F, RelS k Z0 H0 Z H σ ε F ∧ After k W σ Z H (r ε) fun b => ∀ Z' H', Ext Z H Z' H' → Q b H'
/-- several values: each held as it is, apart from one another -/
inductive RelTs (k : Kc) (Z H : Hp) (F : Nat → List Addr) : List V → List LD → List Addr → Prop
  | nil : RelTs k Z H F [] [] []
  | cons {v : V} {vs : List V} {x : LD} {xs : List LD} {f fp : List Addr} : RelT k Z H F x.1 v x.2 f → RelTs k Z H F vs xs fp → RelTs k Z H F (v :: vs) (x :: xs) (f ++ fp)
theorem RelTs.mono {k : Kc} {Z H Z' H' : Hp} {F : Nat → List Addr} (e : Ext Z H Z' H') : ∀ {vs : List V} {xs : List LD} {fp : List Addr}, RelTs k Z H F vs xs fp → RelTs k Z' H' F vs xs fp
  | _, _, _, .nil => .nil
  | _, _, _, .cons a r => .cons (a.mono e) (RelTs.mono e r)
theorem RelTs.there {k : Kc} {Z H : Hp} {F : Nat → List Addr} : ∀ {vs : List V} {xs : List LD} {fp : List Addr}, RelTs k Z H F vs xs fp → ∀ a ∈ fp, ∃ o, H a = some o
  | _, _, _, .nil, a, m => by simp at m
  | _, _, _, .cons x r, a, m => by
    rcases List.mem_append.mp m with m | m
    · exact x.there a m
    · exact RelTs.there r a m
def tA (k : Kc) (Z0 H0 : Hp) (W : WX) (r : En → R (List LD)) : TA := fun σ H Q => ∃ Z ε F, RelS k Z0 H0 Z H σ ε F ∧ After k W σ Z H (r ε) fun xs => ∀ vs Z' H' fp, Ext Z H Z' H' → RelTs k Z' H' F vs xs fp → New Z' H fp → Q vs H'

section
variable {k : Kc} {Z0 H0 Z H Z' H' : Hp} {W : WX} {σ : L2.St} {ε : En} {F : Nat → List Addr}
theorem After.ext {α : Type} {r : R α} {q q' : α → Prop} (x : Ext Z H Z' H') (h : After k W σ Z H r q) (i : ∀ a, r = .ok a → q a → q' a) : After k W σ Z' H' r q' := by
  cases r with
  | ok a => exact i a rfl h
  | exc c fs => exact fun cls dd Z2 H2 e2 => h cls dd Z2 H2 (x.trans e2)
  | bad => exact h
theorem After.imp {α : Type} {r : R α} {q q' : α → Prop} (h : After k W σ Z H r q) (i : ∀ a, r = .ok a → q a → q' a) : After k W σ Z H r q' := by
  cases r with
  | ok a => exact i a rfl h
  | exc c fs => exact h
  | bad => exact h
theorem After.bind {α β : Type} {r : R α} {f : α → R β} {q : β → Prop} (h : After k W σ Z H (r.bind f) q) : After k W σ Z H r fun a => After k W σ Z H (f a) q := by
  cases r with
  | ok a => exact h
  | exc c fs => exact h
  | bad => exact h
end

/-! ### reading what is held -/
section
variable {k : Kc} {Z H : Hp} {F : Nat → List Addr} {lv : Nat} {v : V} {fp : List Addr}
theorem Ow.int {i : Int} (h : Ow k Z H v (.int i) fp) : v = .int i := by
  cases h with
  | sh s _ => cases s; rfl
theorem RelT.sh_of {d : D} (h : RelT k Z H F lv v d fp) (hl : ∀ xs, d ≠ .lst xs) : Sh k Z v d := by
  have ow : ∀ {f}, Ow k Z H v d f → Sh k Z v d := fun o => by
    cases o with
    | sh s _ => exact s
    | lst _ _ => exact absurd rfl (hl _)
  match lv, h with
  | 0, h => exact h.1
  | 1, ⟨_, _, ds, _, e, _⟩ => exact absurd e (hl _)
  | 2, h => exact ow h
  | 3, ⟨_, _, ⟨_, _, ds, _, e, _⟩, _⟩ => exact absurd e (hl _)
  | 4, ⟨_, _, h, _⟩ => exact ow h
  | n + 5, h => exact h.elim
theorem RelT.int {i : Int} (h : RelT k Z H F lv v (.int i) fp) : v = .int i := by cases h.sh_of (fun _ z => nomatch z); rfl
theorem RelT.bl {b : Bool} (h : RelT k Z H F lv v (.bl b) fp) : v = .bl b := by cases h.sh_of (fun _ z => nomatch z); rfl
theorem RelT.non (h : RelT k Z H F lv v .non fp) : v = .non := by cases h.sh_of (fun _ z => nomatch z); rfl
theorem RelT.str {x : Str} (h : RelT k Z H F lv v (.str x) fp) : v = .str x := by cases h.sh_of (fun _ z => nomatch z); rfl
theorem RelT.tup {ds : List D} (zh : ∀ a o, Z a = some o → H a = some o) (h : RelT k Z H F lv v (.tup ds) fp) : ∃ a xs, v = .ref a ∧ SqT k.K Z a xs ∧ SqT k.K H a xs ∧ Shs k Z xs ds := by
  cases h.sh_of (fun _ z => nomatch z) with
  | tup s r => exact ⟨_, _, rfl, s, SqT.mono zh s, r⟩
/-- a list, whatever holds it: its items are some values -/
theorem RelT.lst {ds : List D} (zh : ∀ a o, Z a = some o → H a = some o) (h : RelT k Z H F lv v (.lst ds) fp) : ∃ a xs, v = .ref a ∧ H a = some (.lst xs) ∧
    (((lv = 0 ∨ lv = 1 ∨ lv = 3) ∧ Shs k Z xs ds) ∨ ((lv = 2 ∨ lv = 4) ∧ ∃ f, Ows k Z H xs ds f ∧ (∀ a ∈ f, lv = 2 → a ∈ fp) ∧ (∀ a ∈ f, lv = 4 → ∃ i, a ∈ F i) ∧ (lv = 4 → f.Nodup))) := by
  match lv, h with
  | 0, h =>
    cases h.1 with
    | lst s r => exact ⟨_, _, rfl, zh _ _ s, .inl ⟨.inl rfl, r⟩⟩
  | 1, ⟨a, xs, ds', h1, h2, h3, h4, h5⟩ => cases h2; exact ⟨a, xs, h1, h3, .inl ⟨.inr (.inl rfl), h4⟩⟩
  | 2, h =>
    cases h with
    | sh s l => simp [D.lf] at l
    | lst e r => exact ⟨_, _, rfl, e, .inr ⟨.inl rfl, _, r, fun a m _ => List.mem_cons_of_mem _ m, fun a _ z => absurd z (by decide), fun z => absurd z (by decide)⟩⟩
  | 3, ⟨_, _, ⟨a, xs, ds', h1, h2, h3, h4, h5⟩, _⟩ => cases h2; exact ⟨a, xs, h1, h3, .inl ⟨.inr (.inr rfl), h4⟩⟩
  | 4, ⟨_, f, h, hf⟩ =>
    cases h with
    | sh s l => simp [D.lf] at l
    | lst e r => exact ⟨_, _, rfl, e, .inr ⟨.inr rfl, _, r, fun a _ z => absurd z (by decide), fun a m _ => hf.1 a (List.mem_cons_of_mem _ m), fun _ => (List.nodup_cons.mp hf.2).2⟩⟩
  | n + 5, h => exact h.elim
/-- a list whose items may be shared -/
theorem RelT.lstS {ds : List D} (zh : ∀ a o, Z a = some o → H a = some o) (h : RelT k Z H F lv v (.lst ds) fp) (s : shb lv ds = true) : ∃ a xs, v = .ref a ∧ H a = some (.lst xs) ∧ Shs k Z xs ds := by
  obtain ⟨a, xs, e, hs, q⟩ := h.lst zh
  refine ⟨a, xs, e, hs, ?_⟩
  rcases q with ⟨_, q⟩ | ⟨l, f, q, _⟩
  · exact q
  · unfold shb at s
    rcases l with l | l <;> (subst l; exact (q.free (by simpa using s)).1)
mutual
/-- data for == -/
theorem Sh.dp {k : Kc} {Z H : Hp} (zh : ∀ a o, Z a = some o → H a = some o) : ∀ {v : V} {d : D}, Sh k Z v d → PyData.canLay0 d.py = true → Dp k.K H v d.py
  | _, _, .non, _ => .non
  | _, _, .bl b, _ => .bl b
  | _, _, .int i, _ => .int i
  | _, _, .str x, _ => .str x
  | _, _, .tup s r, l => .tup (SqT.mono zh s) (Shs.dp zh r (by simpa [D.py, PyData.canLay0] using l))
  | _, _, .lst s r, l => .lst (.inl (.inl (zh _ _ s))) (Shs.dp zh r (by simpa [D.py, PyData.canLay0] using l))
  | _, _, .ins _ _, l => by simp [D.py, PyData.canLay0] at l
  | _, _, .scr _, l => by simp [D.py, PyData.canLay0] at l
theorem Shs.dp {k : Kc} {Z H : Hp} (zh : ∀ a o, Z a = some o → H a = some o) : ∀ {v : List V} {d : List D}, Shs k Z v d → PyData.canLayAll0 (D.pys d) = true → DpAll k.K H v (D.pys d)
  | _, _, .nil, _ => .nil
  | _, _, .cons a r, l => by
    simp only [D.pys, PyData.canLayAll0, Bool.and_eq_true] at l
    exact .cons (Sh.dp zh a l.1) (Shs.dp zh r l.2)
end
mutual
theorem Ow.dp {k : Kc} {Z H : Hp} (zh : ∀ a o, Z a = some o → H a = some o) : ∀ {v : V} {d : D} {fp : List Addr}, Ow k Z H v d fp → PyData.canLay0 d.py = true → Dp k.K H v d.py
  | _, _, _, .sh s _, l => s.dp zh l
  | _, _, _, .lst e r, l => .lst (.inl (.inl e)) (Ows.dp zh r (by simpa [D.py, PyData.canLay0] using l))
theorem Ows.dp {k : Kc} {Z H : Hp} (zh : ∀ a o, Z a = some o → H a = some o) : ∀ {v : List V} {d : List D} {fp : List Addr}, Ows k Z H v d fp → PyData.canLayAll0 (D.pys d) = true → DpAll k.K H v (D.pys d)
  | _, _, _, .nil, _ => .nil
  | _, _, _, .cons a r, l => by
    simp only [D.pys, PyData.canLayAll0, Bool.and_eq_true] at l
    exact .cons (Ow.dp zh a l.1) (Ows.dp zh r l.2)
end
theorem RelT.dp {d : D} (zh : ∀ a o, Z a = some o → H a = some o) (h : RelT k Z H F lv v d fp) (l : PyData.canLay0 d.py = true) : Dp k.K H v d.py := by
  have one : ∀ {f}, Hd k Z H 1 v d f → Dp k.K H v d.py := fun ⟨a, xs, ds', h1, h2, h3, h4, h5⟩ => by
    subst h1; subst h2
    exact .lst (.inl (.inl h3)) (Shs.dp zh h4 (by simpa [D.py, PyData.canLay0] using l))
  match lv, h with
  | 0, h => exact h.1.dp zh l
  | 1, h => exact one h
  | 2, h => exact Ow.dp zh h l
  | 3, ⟨_, _, h, _⟩ => exact one h
  | 4, ⟨_, _, h, _⟩ => exact Ow.dp zh h l
  | n + 5, h => exact h.elim
end
end RS

/-! RsSnd2 -/
namespace RS
open PySem PySem.Spec
open PyProof.Rows L2

/-! ### something new is laid -/
section
variable {k : Kc} {Z H : Hp} {p : Addr}
abbrev Zh (Z H : Hp) : Prop := ∀ a o, Z a = some o → H a = some o
theorem Ext.layZ {o : HO} (zh : Zh Z H) (hp : H p = none) : Ext Z H (upd Z p o) (upd H p o) := by
  have zp : Z p = none := by
    cases e : Z p with
    | none => rfl
    | some u => rw [zh _ _ e] at hp; cases hp
  refine ⟨fun a u e => ?_, fun a u e => ?_, fun a u e => ?_, fun a u e => ?_⟩
  · rw [upd_ne (ne_of_none e hp)]; exact e
  · rw [upd_ne (ne_of_none e zp)]; exact e
  · rw [upd_ne (ne_of_none e hp)]
  · by_cases q : a = p
    · subst q; rw [upd_same] at e ⊢; exact e
    · rw [upd_ne q] at e ⊢; exact zh _ _ e
theorem Ext.layH {o : HO} (zh : Zh Z H) (hp : H p = none) : Ext Z H Z (upd H p o) := by
  refine ⟨fun a u e => ?_, fun a u e => e, fun a u e => rfl, fun a u e => ?_⟩
  · rw [upd_ne (ne_of_none e hp)]; exact e
  · have q := zh _ _ e
    rw [upd_ne (ne_of_none q hp)]; exact q
theorem zn (zh : Zh Z H) (hp : H p = none) : Z p = none := by
  cases e : Z p with
  | none => rfl
  | some u => rw [zh _ _ e] at hp; cases hp
/-- a new tuple of shared things -/
theorem new_tup {F : Nat → List Addr} {xs : List V} {ds : List D} (zh : Zh Z H) (hp : H p = none) (r : Shs k Z xs ds) : RelT k (upd Z p (.tup xs)) (upd H p (.tup xs)) F 0 (.ref p) (.tup ds) [] :=
  ⟨.tup (.inl (.inl upd_same)) (r.mono (Ext.layZ zh hp).z), rfl⟩
/-- a new list of shared things -/
theorem new_lst {F : Nat → List Addr} {xs : List V} {ds : List D} (r : Shs k Z xs ds) : RelT k Z (upd H p (.lst xs)) F 1 (.ref p) (.lst ds) [p] := ⟨p, xs, ds, rfl, rfl, upd_same, r, rfl⟩
theorem new_lst2 {F : Nat → List Addr} {xs : List V} {ds : List D} (r : Shs k Z xs ds) (l : D.lfs ds = true) : RelT k Z (upd H p (.lst xs)) F 2 (.ref p) (.lst ds) [p] := by
  have q : Ows k Z (upd H p (.lst xs)) xs ds [] := r.ows l
  exact Ow.lst upd_same q
theorem new_one (zh : Zh Z H) (hp : H p = none) : New Z H [p] := ⟨by simp, fun a m => by simp at m; subst m; exact hp, fun a m => by simp at m; subst m; exact zn zh hp⟩
end
/-- a value made of operands that own fx -/
def Got (k : Kc) (F : Nat → List Addr) (Z H : Hp) (fx : List Addr) (Q : VK) (z : LD) : Prop := ∀ v Z' H' fp, Ext Z H Z' H' → RelT k Z' H' F z.1 v z.2 fp → fp.Nodup → (∀ a ∈ fp, (a ∈ fx ∨ H a = none) ∧ Z' a = none) → Q v H'
section
variable {k : Kc} {F : Nat → List Addr} {Z H : Hp} {fx : List Addr} {Q : VK}
theorem Got.sc {d : D} {v : V} (zh : Zh Z H) (h : Got k F Z H fx Q (0, d)) (s : Sh k Z v d) : Q v H := h v Z H [] (Ext.refl zh) ⟨s, rfl⟩ List.nodup_nil (fun _ m => by simp at m)
theorem Got.int {i : Int} (zh : Zh Z H) (h : Got k F Z H fx Q (0, .int i)) : Q (.int i) H := h.sc zh (.int i)
theorem Got.bl {b : Bool} (zh : Zh Z H) (h : Got k F Z H fx Q (0, .bl b)) : Q (.bl b) H := h.sc zh (.bl b)
theorem Got.tup {xs : List V} {ds : List D} (zh : Zh Z H) (h : Got k F Z H fx Q (0, .tup ds)) (r : Shs k Z xs ds) : ∀ p, H p = none → Q (.ref p) (upd H p (.tup xs)) := fun p hp =>
  h (.ref p) (upd Z p (.tup xs)) (upd H p (.tup xs)) [] (Ext.layZ zh hp) (new_tup zh hp r) List.nodup_nil (fun _ m => by simp at m)
theorem Got.lst {xs : List V} {ds : List D} {b : Bool} (zh : Zh Z H) (h : Got k F Z H fx Q (newL ds b)) (hb : b = true → D.lfs ds = true) (r : Shs k Z xs ds) : ∀ p, H p = none → Q (.ref p) (upd H p (.lst xs)) := fun p hp => by
  have n := new_one zh hp
  refine h (.ref p) Z (upd H p (.lst xs)) [p] (Ext.layH zh hp) ?_ n.nd fun a m => ⟨.inr (n.n a m), n.z a m⟩
  unfold newL
  cases b with
  | true => exact new_lst2 r (hb rfl)
  | false => exact new_lst r
end
/-- a rule for operands held so -/
def OpGet (k : Kc) (o : LD → LD → R LD) (r : R2) : Prop := ∀ (Z H : Hp) (F : Nat → List Addr) (x y : LD) (vx vy : V) (fx fy : List Addr) (Q : VK), Zh Z H → RelT k Z H F x.1 vx x.2 fx → RelT k Z H F y.1 vy y.2 fy →
  ∀ z, o x y = .ok z → Got k F Z H (fx ++ fy) Q z → r vx vy H Q
/-- no exception comes of it -/
def Calm {α : Type} (r : R α) : Prop := ∀ c fs, r ≠ .exc c fs
theorem tE_two {k : Kc} {Z0 H0 : Hp} {W : WX} {ra rb : En → R LD} {o : LD → LD → R LD} {r : R2} (hr : OpGet k o r) (hc : ∀ x y, Calm (o x y)) (σ : L2.St) (H : Hp) (Q : VK)
    (h : tE k Z0 H0 W (fun ε => (ra ε).bind fun x => (rb ε).bind fun y => o x y) σ H Q) : tOp r (tE k Z0 H0 W ra) (tE k Z0 H0 W rb) σ H Q := by
  obtain ⟨Z, ε, F, rel, h⟩ := h
  refine ⟨Z, ε, F, rel, (After.bind h).imp fun x ex h => ?_⟩
  intro v1 Z1 H1 f1 e1 t1 n1
  refine ⟨Z1, ε, F, rel.ext e1, (After.bind h).ext e1 fun y ey h => ?_⟩
  intro v2 Z2 H2 f2 e2 t2 n2
  cases eo : o x y with
  | bad => rw [eo] at h; exact h.elim
  | exc c fs => exact absurd eo (hc x y c fs)
  | ok z =>
    rw [eo] at h
    refine hr Z2 H2 F x y v1 v2 f1 f2 Q e2.zh (t1.mono e2) t2 z eo fun v Z3 H3 fp e3 t3 nd hfp => ?_
    have n1' : New Z2 H f1 := n1.ext t1.there e2
    have nn : New Z2 H (f1 ++ f2) := n1'.join t1.there n2 e1.h
    refine h v Z3 H3 fp ((e1.trans e2).trans e3) t3 ⟨nd, fun a m => ?_, fun a m => (hfp a m).2⟩
    rcases (hfp a m).1 with q | q
    · exact nn.n a q
    · cases e : H a with
      | none => rfl
      | some u => rw [(e1.trans e2).h a u e] at q; cases q
/-- one operand -/
def UnGet (k : Kc) (o : LD → R LD) (r : V → Hp → VK → Prop) : Prop := ∀ (Z H : Hp) (F : Nat → List Addr) (x : LD) (vx : V) (fx : List Addr) (Q : VK), Zh Z H → RelT k Z H F x.1 vx x.2 fx → ∀ z, o x = .ok z → Got k F Z H fx Q z → r vx H Q
theorem tE_one {k : Kc} {Z0 H0 : Hp} {W : WX} {ra : En → R LD} {o : LD → R LD} {r : V → Hp → VK → Prop} (hr : UnGet k o r) (hc : ∀ x, Calm (o x)) (σ : L2.St) (H : Hp) (Q : VK)
    (h : tE k Z0 H0 W (fun ε => (ra ε).bind fun x => o x) σ H Q) : tUn r (tE k Z0 H0 W ra) σ H Q := by
  obtain ⟨Z, ε, F, rel, h⟩ := h
  refine ⟨Z, ε, F, rel, (After.bind h).imp fun x ex h => ?_⟩
  intro v1 Z1 H1 f1 e1 t1 n1
  cases eo : o x with
  | bad => rw [eo] at h; exact h.elim
  | exc c fs => exact absurd eo (hc x c fs)
  | ok z =>
    rw [eo] at h
    refine hr Z1 H1 F x v1 f1 Q e1.zh t1 z eo fun v Z3 H3 fp e3 t3 nd hfp => ?_
    refine h v Z3 H3 fp (e1.trans e3) t3 ⟨nd, fun a m => ?_, fun a m => (hfp a m).2⟩
    rcases (hfp a m).1 with q | q
    · exact n1.n a q
    · cases e : H a with
      | none => rfl
      | some u => rw [e1.h a u e] at q; cases q
/-- any rule that holds -/
def anyR (X : Cx) (f : Value → Value → Sem Value) : R2 := fun x y H Q => ∃ r, OpR X f r ∧ r x y H Q
theorem anyR_ok {X : Cx} {f : Value → Value → Sem Value} : OpR X f (anyR X f) := fun pins s σ H x y v u Q I rx ry ⟨r, h, q⟩ => h pins s σ H x y v u Q I rx ry q

def opP : Bop → Operator
  | .add => .Add | .sub => .Sub | .mul => .Mult | .fdiv => .FloorDiv | .mod => .Mod | .pow => .Pow
theorem log2_lt {n b : Nat} (h : n < 2 ^ b) (hb : 0 < b) : n.log2 < b := PySem.Flt.log2_lt_of hb h
theorem Shs.rep {k : Kc} {Z : Hp} {xs : List V} {ds : List D} (r : Shs k Z xs ds) : ∀ n, Shs k Z (List.replicate n xs).flatten (List.replicate n ds).flatten
  | 0 => .nil
  | n + 1 => by
    rw [List.replicate_succ, List.replicate_succ, List.flatten_cons, List.flatten_cons]
    exact r.append (Shs.rep r n)
theorem lfs_append : ∀ xs ys : List D, D.lfs (xs ++ ys) = (D.lfs xs && D.lfs ys)
  | [], ys => by simp [D.lfs]
  | x :: xs, ys => by simp [D.lfs, lfs_append xs ys, Bool.and_assoc]
theorem lfs_rep {ds : List D} (h : D.lfs ds = true) : ∀ n, D.lfs (List.replicate n ds).flatten = true
  | 0 => by simp [D.lfs]
  | n + 1 => by rw [List.replicate_succ, List.flatten_cons, lfs_append, h, lfs_rep h n]; rfl
theorem lim_line {n : Nat} (h : n ≤ lim) : n ≤ sizeLine := Nat.le_trans h (by rw [sizeLine_eq]; decide)
theorem bop_calm (op : Bop) (x y : LD) : Calm (bopV op x y) := by
  intro c fs e
  obtain ⟨lx, dx⟩ := x
  obtain ⟨ly, dy⟩ := y
  unfold bopV at e
  split at e <;> (try split at e) <;> simp [okI] at e
theorem bop_get {X : Cx} {kc : Kc} (hK : kc.K = X.K) (op : Bop) : OpGet kc (bopV op) (anyR X (binaryOp (opP op))) := by
  intro Z H F x y vx vy fx fy Q zh tx ty z ez g
  obtain ⟨lx, dx⟩ := x
  obtain ⟨ly, dy⟩ := y
  dsimp only at tx ty
  unfold bopV at ez
  dsimp only at ez
  split at ez
  · rename_i i j
    cases tx.int; cases ty.int
    cases ez
    exact ⟨_, op_add, i, j, rfl, rfl, g.int zh⟩
  · rename_i i j
    cases tx.int; cases ty.int
    cases ez
    exact ⟨_, op_sub, i, j, rfl, rfl, g.int zh⟩
  · rename_i i j
    cases tx.int; cases ty.int
    split at ez
    · rename_i hc
      cases ez
      exact ⟨_, op_mulW, i, j, rfl, rfl, wide_mul (a := 4096) (b := 4096) (bigN_eq ▸ hc.1) (bigN_eq ▸ hc.2) (by decide) (by decide) (by decide), g.int zh⟩
    · cases ez
  · rename_i i j
    cases tx.int; cases ty.int
    split at ez
    · rename_i hc
      cases ez
      exact ⟨_, op_fdivW, i, j, rfl, rfl, wide_div (b := 4096) hc.1 (bigN_eq ▸ hc.2) (by decide) (by decide), g.int zh⟩
    · cases ez
  · rename_i i j
    cases tx.int; cases ty.int
    split at ez
    · rename_i hc
      cases ez
      exact ⟨_, op_mod, i, j, rfl, rfl, hc, g.int zh⟩
    · cases ez
  · rename_i i j
    cases tx.int; cases ty.int
    split at ez
    · rename_i hc
      cases ez
      exact ⟨_, op_pow, i, j, rfl, rfl, ⟨hc.1, hc.2.1, hc.2.2⟩, g.int zh⟩
    · cases ez
  · rename_i xs ys
    split at ez
    · rename_i hc
      cases ez
      obtain ⟨a, vs, rfl, ha, rs⟩ := tx.lstS zh hc.2.1
      obtain ⟨b, ws, rfl, hb, rt⟩ := ty.lstS zh hc.2.2
      have l1 := rs.length
      have l2 := rt.length
      exact ⟨_, op_cat, a, b, vs, ws, rfl, rfl, ha, hb, lim_line (by rw [l1, l2]; exact hc.1), g.lst zh id (rs.append rt)⟩
    · cases ez
  · rename_i xs ys
    split at ez
    · rename_i hc
      cases ez
      obtain ⟨a, vs, rfl, az, ha, rs⟩ := tx.tup zh
      obtain ⟨b, ws, rfl, bz, hb, rt⟩ := ty.tup zh
      have l1 := rs.length
      have l2 := rt.length
      rw [hK] at ha hb
      refine ⟨_, op_catA, a, b, vs, ws, rfl, rfl, ha, hb, lim_line (by rw [l1, l2]; exact hc), fun e => ?_, fun _ e => ?_, fun _ _ => g.tup zh (rs.append rt)⟩
      · subst e
        cases rs
        exact g.sc zh (.tup bz rt)
      · subst e
        cases rt
        rw [List.append_nil] at g
        exact g.sc zh (.tup az rs)
    · cases ez
  · rename_i a b
    split at ez
    · rename_i hc
      cases ez
      cases tx.str; cases ty.str
      exact ⟨_, op_add_str, a, b, rfl, rfl, lim_line hc, g.sc zh (.str _)⟩
    · cases ez
  · rename_i xs j
    split at ez
    · rename_i hc
      cases ez
      cases ty.int
      obtain ⟨a, vs, rfl, ha, rs⟩ := tx.lstS zh (by unfold shb; rw [hc.2.2.2]; simp)
      have l1 := rs.length
      have hj : j.toNat ≤ 1000 := by omega
      refine ⟨_, op_rep, a, j, vs, rfl, rfl, ha, by omega, by omega, ?_, Got.lst (b := true) (fx := fx ++ fy) zh g (fun _ => lfs_rep hc.2.2.2 _) (rs.rep _)⟩
      have : vs.length * j.toNat ≤ 1000 * 1000 := Nat.mul_le_mul (by omega) hj
      have hs := sizeLine_eq
      omega
    · cases ez
  · cases ez
end RS

/-! RsSnd3 -/
namespace RS
open PySem PySem.Spec
open PyProof.Rows L2

/-! ### comparisons -/
def copP : Cop → CmpOp
  | .lt => .Lt | .le => .LtE | .gt => .Gt | .ge => .GtE | .eq => .Eq | .ne => .NotEq | .isn => .Is | .notn => .IsNot | .isb _ => .Is | .notb _ => .IsNot | .inn => .In | .nin => .NotIn
theorem eqD_calm (x y : D) : Calm (eqD x y) := by
  intro c fs e
  unfold eqD at e
  split at e <;> cases e
theorem inD_calm (x : D) (ys : List D) : Calm (inD x ys) := by
  intro c fs e
  unfold inD at e
  split at e <;> cases e
theorem Calm.bindB {x : R Bool} {f : Bool → R LD} (h : Calm x) (hf : ∀ b, Calm (f b)) : Calm (x.bind f) := by
  intro c fs e
  cases x with
  | ok b => exact hf b c fs e
  | exc c' fs' => exact h c' fs' rfl
  | bad => cases e
theorem okB_calm (b : Bool) : Calm (okB b) := fun c fs e => by cases e
theorem cop_calm (op : Cop) (x y : LD) : Calm (copV op x y) := by
  obtain ⟨lx, dx⟩ := x
  obtain ⟨ly, dy⟩ := y
  unfold copV
  dsimp only
  split <;> first
    | exact okB_calm _
    | exact (eqD_calm _ _).bindB fun b => okB_calm _
    | (split <;> first | exact okB_calm _ | (split <;> first | exact okB_calm _ | (intro c fs e; cases e)) | exact (inD_calm _ _).bindB fun b => okB_calm _ | (intro c fs e; cases e))
    | (intro c fs e; cases e)
theorem bindB_ok {x : R Bool} {f : Bool → R LD} {z : LD} (h : x.bind f = .ok z) : ∃ b, x = .ok b ∧ f b = .ok z := by
  cases x with
  | ok b => exact ⟨b, rfl, h⟩
  | exc _ _ => cases h
  | bad => cases h
theorem eqD_ok {x y : D} {b : Bool} (h : eqD x y = .ok b) : SeqAt.shaped x.py = true ∧ SeqAt.shaped y.py = true ∧ b = PyData.eqv x.py y.py := by
  unfold eqD at h
  split at h
  · rename_i hc
    cases h
    exact ⟨hc.1, hc.2, rfl⟩
  · cases h
theorem inD_ok {x : D} {ys : List D} {b : Bool} (h : inD x ys = .ok b) : SeqAt.shaped x.py = true ∧ SeqAt.shaped (.list (D.pys ys)) = true ∧ b = ys.any fun y => PyData.eqv y.py x.py := by
  unfold inD at h
  split at h
  · rename_i hc
    cases h
    exact ⟨hc.1, hc.2, rfl⟩
  · cases h
theorem any_pys (f : PyData → Bool) : ∀ ys : List D, (D.pys ys).any f = ys.any fun y => f y.py
  | [] => by simp [D.pys]
  | y :: ys => by simp [D.pys, any_pys f ys]
theorem plain_bool {x : V} {v : Value} {b : Bool} (r : RelV x v) : plainIs v (.bool b) = true := by
  cases x <;> first
    | (cases r; rfl)
    | (obtain ⟨t, rfl⟩ := r; rfl)
theorem op_isB {X : Cx} {b : Bool} : OpR X (compareOp .Is) (fun x y H Q => y = .bl b ∧ Q (.bl (decide (x = .bl b))) H) := by
  intro pins s σ H x y v u Q I rx ry h
  obtain ⟨rfl, q⟩ := h
  cases (show u = Value.bool b from ry)
  by_cases e : x = .bl b
  · subst e
    cases (show v = Value.bool b from rx)
    exact wpAny_is_self rfl ⟨.bl true, H, I, rfl, by simpa using q⟩
  · refine wpAny_is_other (plain_bool rx) (fun z => e ?_) ⟨.bl false, H, I, rfl, by simpa [e] using q⟩
    subst z
    exact rx.inj (show RelV (.bl b) (Value.bool b) from rfl)
theorem op_notB {X : Cx} {b : Bool} : OpR X (compareOp .IsNot) (fun x y H Q => y = .bl b ∧ Q (.bl (!decide (x = .bl b))) H) := by
  intro pins s σ H x y v u Q I rx ry h
  obtain ⟨rfl, q⟩ := h
  cases (show u = Value.bool b from ry)
  by_cases e : x = .bl b
  · subst e
    cases (show v = Value.bool b from rx)
    exact wpAny_isNot_self rfl ⟨.bl false, H, I, rfl, by simpa using q⟩
  · refine wpAny_isNot_other (plain_bool rx) (fun z => e ?_) ⟨.bl true, H, I, rfl, by simpa [e] using q⟩
    subst z
    exact rx.inj (show RelV (.bl b) (Value.bool b) from rfl)
/-- x in a tuple of data -/
def rInT (K : PySem.W.Frag) : R2 := fun x y H Q => ∃ d ds, Dp K H x d ∧ Dp K H y (.tuple ds) ∧ SeqAt.shaped d = true ∧ SeqAt.shaped (.list ds) = true ∧ Q (.bl (ds.any fun z => PyData.eqv z d)) H
def rNotInT (K : PySem.W.Frag) : R2 := fun x y H Q => ∃ d ds, Dp K H x d ∧ Dp K H y (.tuple ds) ∧ SeqAt.shaped d = true ∧ SeqAt.shaped (.list ds) = true ∧ Q (.bl (!ds.any fun z => PyData.eqv z d)) H
theorem shaped_tup {ds : List PyData} : SeqAt.shaped (.tuple ds) = SeqAt.shaped (.list ds) := by
  unfold SeqAt.shaped
  simp only [PyData.canLay0, PyData.depth]
  congr 1
theorem op_inT {X : Cx} (hu : X.A.units + 65 < cLine) : OpR X (compareOp .In) (rInT X.K) := by
  intro pins s σ H x y v u Q I rx ry h
  obtain ⟨d, ds, hd, he, sd, se, q⟩ := h
  obtain ⟨as, r1⟩ := Dp.reads I d x v hd rx
  obtain ⟨bs, r2⟩ := Dp.reads I (.tuple ds) y u he ry
  exact SeqAt.in_tuple_reads r2 r1 (SeqAt.canLay_of_shaped se) (SeqAt.canLay_of_shaped sd) (room_in_shaped sd hu) ⟨.bl _, H, I, rfl, q⟩
theorem op_notInT {X : Cx} (hu : X.A.units + 65 < cLine) : OpR X (compareOp .NotIn) (rNotInT X.K) := by
  intro pins s σ H x y v u Q I rx ry h
  obtain ⟨d, ds, hd, he, sd, se, q⟩ := h
  obtain ⟨as, r1⟩ := Dp.reads I d x v hd rx
  obtain ⟨bs, r2⟩ := Dp.reads I (.tuple ds) y u he ry
  exact SeqAt.notIn_tuple_reads r2 r1 (SeqAt.canLay_of_shaped se) (SeqAt.canLay_of_shaped sd) (room_in_shaped sd hu) ⟨.bl _, H, I, rfl, q⟩
section
variable {k : Kc} {Z H : Hp} {F : Nat → List Addr} {lv : Nat} {v : V} {fp : List Addr}
theorem RelT.none_iff {d : D} (h : RelT k Z H F lv v d fp) : v = .non ↔ d = .non := by
  constructor
  · intro e
    subst e
    cases d with
    | lst ds =>
      match lv, h with
      | 0, h => cases h.1
      | 1, ⟨a, xs, ds', h1, _⟩ => cases h1
      | 2, h => cases h; rename_i s _; cases s
      | 3, ⟨_, _, ⟨a, xs, ds', h1, _⟩, _⟩ => cases h1
      | 4, ⟨_, _, h, _⟩ => cases h; rename_i s _; cases s
      | n + 5, h => exact h.elim
    | non => rfl
    | _ => have s := h.sh_of (fun _ z => nomatch z); cases s
  · intro e
    subst e
    exact h.non
theorem RelT.bl_iff {d : D} {b : Bool} (h : RelT k Z H F lv v d fp) : v = .bl b ↔ d = .bl b := by
  constructor
  · intro e
    subst e
    cases d with
    | lst ds =>
      match lv, h with
      | 0, h => cases h.1
      | 1, ⟨a, xs, ds', h1, _⟩ => cases h1
      | 2, h => cases h; rename_i s _; cases s
      | 3, ⟨_, _, ⟨a, xs, ds', h1, _⟩, _⟩ => cases h1
      | 4, ⟨_, _, h, _⟩ => cases h; rename_i s _; cases s
      | n + 5, h => exact h.elim
    | bl c => cases h.bl; rfl
    | _ => have s := h.sh_of (fun _ z => nomatch z); cases s
  · intro e
    subst e
    exact h.bl
end
theorem cop_get {X : Cx} {kc : Kc} (hK : kc.K = X.K) (hu : X.A.units + 65 < cLine) (op : Cop) : OpGet kc (copV op) (anyR X (compareOp (copP op))) := by
  intro Z H F x y vx vy fx fy Q zh tx ty z ez g
  obtain ⟨lx, dx⟩ := x
  obtain ⟨ly, dy⟩ := y
  dsimp only at tx ty
  unfold copV at ez
  dsimp only at ez
  have hu0 : X.A.units + 64 < cLine := by omega
  split at ez
  · cases tx.int; cases ty.int; cases ez
    exact ⟨_, op_lt, _, _, rfl, rfl, g.bl zh⟩
  · cases tx.int; cases ty.int; cases ez
    exact ⟨_, op_le, _, _, rfl, rfl, g.bl zh⟩
  · cases tx.int; cases ty.int; cases ez
    exact ⟨_, op_gt, _, _, rfl, rfl, g.bl zh⟩
  · cases tx.int; cases ty.int; cases ez
    exact ⟨_, op_ge, _, _, rfl, rfl, g.bl zh⟩
  · obtain ⟨b, h1, h2⟩ := bindB_ok ez
    obtain ⟨s1, s2, rfl⟩ := eqD_ok h1
    cases h2
    have d1 := tx.dp zh (SeqAt.canLay_of_shaped s1)
    have d2 := ty.dp zh (SeqAt.canLay_of_shaped s2)
    rw [hK] at d1 d2
    exact ⟨_, op_eqD hu0, _, _, d1, d2, s1, s2, g.bl zh⟩
  · obtain ⟨b, h1, h2⟩ := bindB_ok ez
    obtain ⟨s1, s2, rfl⟩ := eqD_ok h1
    cases h2
    have d1 := tx.dp zh (SeqAt.canLay_of_shaped s1)
    have d2 := ty.dp zh (SeqAt.canLay_of_shaped s2)
    rw [hK] at d1 d2
    exact ⟨_, op_neD hu0, _, _, d1, d2, s1, s2, g.bl zh⟩
  · cases ty.non
    split at ez <;> cases ez
    · cases tx.non
      exact ⟨_, op_isN, rfl, g.bl zh⟩
    · rename_i hn
      refine ⟨_, op_isN, rfl, ?_⟩
      rw [decide_eq_false fun e => hn (tx.none_iff.mp e)]
      exact g.bl zh
  · cases ty.non
    split at ez <;> cases ez
    · cases tx.non
      exact ⟨_, op_notN, rfl, g.bl zh⟩
    · rename_i hn
      refine ⟨_, op_notN, rfl, ?_⟩
      rw [decide_eq_false fun e => hn (tx.none_iff.mp e)]
      exact g.bl zh
  · rename_i b c
    cases ty.bl
    split at ez
    · rename_i d
      cases tx.bl
      split at ez
      · rename_i e
        subst e
        cases ez
        refine ⟨_, op_isB (b := b), rfl, ?_⟩
        have : decide (V.bl d = V.bl b) = (d == b) := by cases d <;> cases b <;> rfl
        rw [this]
        exact g.bl zh
      · cases ez
    · rename_i hn
      split at ez
      · rename_i e
        subst e
        cases ez
        refine ⟨_, op_isB (b := b), rfl, ?_⟩
        rw [decide_eq_false fun e => hn _ (tx.bl_iff.mp e)]
        exact g.bl zh
      · cases ez
  · rename_i b c
    cases ty.bl
    split at ez
    · rename_i d
      cases tx.bl
      split at ez
      · rename_i e
        subst e
        cases ez
        refine ⟨_, op_notB (b := b), rfl, ?_⟩
        have : decide (V.bl d = V.bl b) = (d == b) := by cases d <;> cases b <;> rfl
        rw [this]
        exact g.bl zh
      · cases ez
    · rename_i hn
      split at ez
      · rename_i e
        subst e
        cases ez
        refine ⟨_, op_notB (b := b), rfl, ?_⟩
        rw [decide_eq_false fun e => hn _ (tx.bl_iff.mp e)]
        exact g.bl zh
      · cases ez
  · split at ez
    · rename_i ys hs
      obtain ⟨b, h1, h2⟩ := bindB_ok ez
      obtain ⟨s1, s2, rfl⟩ := inD_ok h1
      cases h2
      have d1 := tx.dp zh (SeqAt.canLay_of_shaped s1)
      have lay : PyData.canLayAll0 (D.pys ys) = true := by
        have q := SeqAt.canLay_of_shaped s2
        simpa [PyData.canLay0] using q
      have e : (D.pys ys).any (fun z => PyData.eqv z dx.py) = ys.any fun y => PyData.eqv y.py dx.py := any_pys (fun z => PyData.eqv z dx.py) ys
      cases dy with
      | tup zs =>
        cases hs
        have d2 := ty.dp zh (by simpa [D.py, PyData.canLay0] using lay)
        rw [hK] at d1 d2
        exact ⟨_, op_inT hu, _, _, d1, d2, s1, s2, by rw [e]; exact g.bl zh⟩
      | lst zs =>
        cases hs
        have d2 := ty.dp zh (by simpa [D.py, PyData.canLay0] using lay)
        rw [hK] at d1 d2
        exact ⟨_, op_inD hu, _, _, d1, d2, s1, s2, by rw [e]; exact g.bl zh⟩
      | _ => cases hs
    · cases ez
  · split at ez
    · rename_i ys hs
      obtain ⟨b, h1, h2⟩ := bindB_ok ez
      obtain ⟨s1, s2, rfl⟩ := inD_ok h1
      cases h2
      have d1 := tx.dp zh (SeqAt.canLay_of_shaped s1)
      have lay : PyData.canLayAll0 (D.pys ys) = true := by
        have q := SeqAt.canLay_of_shaped s2
        simpa [PyData.canLay0] using q
      have e : (D.pys ys).any (fun z => PyData.eqv z dx.py) = ys.any fun y => PyData.eqv y.py dx.py := any_pys (fun z => PyData.eqv z dx.py) ys
      cases dy with
      | tup zs =>
        cases hs
        have d2 := ty.dp zh (by simpa [D.py, PyData.canLay0] using lay)
        rw [hK] at d1 d2
        exact ⟨_, op_notInT hu, _, _, d1, d2, s1, s2, by rw [e]; exact g.bl zh⟩
      | lst zs =>
        cases hs
        have d2 := ty.dp zh (by simpa [D.py, PyData.canLay0] using lay)
        rw [hK] at d1 d2
        exact ⟨_, op_notInD hu, _, _, d1, d2, s1, s2, by rw [e]; exact g.bl zh⟩
      | _ => cases hs
    · cases ez
  · cases ez
end RS

/-! RsSum -/
namespace RS
open PySem PySem.Spec
open PyProof.Rows L2
/-! ### sum of a tuple -/
section
variable {prog : Program} {w : World} {A : Around} {E : Value → Shared → Prop} {s : Shared} {l : Addr}
theorem sum_intTup {xs : Array (Int × Tok)} {Q : Value → Shared → Prop} (hh : A.handled = none) (hl : s.heap.IsTuple l (intItems xs))
    (h : ∀ h' tk t', (∀ b o, s.heap.get? b = some o → h'.get? b = some o) → Q (.int (preSum (numAt xs) xs.size) t') { s with heap := h', toks := tk }) :
    wpAny (model prog w) A (call (.builtin "sum") [.ref l]) Q E s := by
  have hlt : l < s.heap.objs.size := by obtain ⟨_, e, _⟩ := hl; exact Heap.lt_size e
  refine call_sum_walkG (wpAny_pyIter_tuple hl ?_)
  refine ⟨_, _, _, _, _, _, numAt xs, rfl, Walks.tuple (A := A.in1) hh _ l (Nat.ne_of_lt hlt) (intItems xs), ⟨⟨_, Heap.get?_push_size _ rfl, rfl, rfl⟩, hl.push _⟩, fun b hb => ?_, (fun _ _ => intItems_at), fun h' tk t' hk => ?_⟩
  · show b < (s.heap.push _).objs.size
    rw [Heap.size_push]
    rcases List.mem_cons.mp hb with rfl | hb
    · exact Nat.lt_succ_self _
    · rcases List.mem_cons.mp hb with rfl | hb
      · exact Nat.lt_succ_of_lt hlt
      · cases hb
  · have hold : ∀ b o, s.heap.get? b = some o → h'.get? b = some o := fun b o e => by
      refine hk b o (fun hm => ?_) (Heap.get?_push_of_some _ e)
      rcases List.mem_cons.mp hm with e1 | hm
      · exact absurd (e1 ▸ Heap.lt_size e) (Nat.lt_irrefl _)
      · cases hm
    have := h h' tk t' hold
    simpa [intItems] using this
theorem sum_rawT {its : List Value} {ns : List Int} {Q : Value → Shared → Prop} (hh : A.handled = none) (hl : s.heap.IsTuple l its.toArray) (hi : IntsAre its ns)
    (h : ∀ h' tk t', (∀ b o, s.heap.get? b = some o → h'.get? b = some o) → Q (.int ns.sum t') { s with heap := h', toks := tk }) : wpAny (model prog w) A (call (.builtin "sum") [.ref l]) Q E s := by
  obtain ⟨xs, e⟩ := hi.allInts.items
  have hn : numsOf (intItems xs).toList = ns := by rw [← e]; exact hi.numsOf
  rw [nums_intItems] at hn
  rw [e] at hl
  refine sum_intTup hh hl fun h' tk t' hk => ?_
  have := h h' tk t' hk
  rw [preSum_eq, List.take_of_length_le (by simp), hn]; exact this
end
def rSumT (K : PySem.W.Frag) : List V → Hp → VK → Prop := fun vs H Q => ∃ (a : Addr) (ns : List Int), vs = [V.ref a] ∧ SqT K H a (ns.map V.int) ∧ Q (.int ns.sum) H
theorem cr_sumT {X : Cx} (hc : X.calm = true) : CallR X (.builtin "sum") (rSumT X.K) := by
  intro pins s σ H vs us Q I r h
  obtain ⟨a, ns, rfl, hs, q⟩ := h
  obtain ⟨its, rv, hl, _⟩ := I.tuple hs
  rw [Vals.ref1 r]
  exact sum_rawT (I.ok.hd hc) hl rv.ints fun h' tk t' hk => ⟨.int _, H, I.kept hk, ⟨_, rfl⟩, q⟩
end RS

/-! RsSnd4 -/
namespace RS
open PySem PySem.Spec
open PyProof.Rows L2

/-! ### parts -/
section
variable {k : Kc} {Z H : Hp} {F : Nat → List Addr} {Q : VK}
theorem ixN_lt {n j : Nat} {i : Int} (h : ixN n i = some j) : j < n := by
  unfold ixN at h
  split at h
  · split at h
    · cases h; omega
    · cases h
  · split at h
    · cases h; omega
    · cases h
theorem Shs.atI {xs : List V} {ds : List D} {i : Int} {d : D} (r : Shs k Z xs ds) (h : L2.atI ds i = some d) : ∃ v, L2.atI xs i = some v ∧ Sh k Z v d := by
  unfold L2.atI at h ⊢
  rw [r.length]
  cases e : ixN ds.length i with
  | none => rw [e] at h; cases h
  | some j =>
    rw [e] at h
    exact r.get h
theorem Ows.atI {xs : List V} {ds : List D} {fp : List Addr} {i : Int} {d : D} (r : Ows k Z H xs ds fp) (h : L2.atI ds i = some d) : ∃ v f, L2.atI xs i = some v ∧ Ow k Z H v d f ∧ ∀ a ∈ f, a ∈ fp := by
  unfold L2.atI at h ⊢
  rw [r.length]
  cases e : ixN ds.length i with
  | none => rw [e] at h; cases h
  | some j =>
    rw [e] at h
    exact r.get h
theorem Ow.sub : ∀ {xs : List V} {ds : List D} {fp : List Addr} {i : Nat} {d : D}, Ows k Z H xs ds fp → fp.Nodup → ds[i]? = some d → ∃ v f, xs[i]? = some v ∧ Ow k Z H v d f ∧ (∀ a ∈ f, a ∈ fp) ∧ f.Nodup
  | _, _, _, _, _, .nil, _, e => by simp at e
  | _, _, _, 0, _, .cons a _, nd, e => by simp at e; subst e; exact ⟨_, _, rfl, a, fun _ m => List.mem_append_left _ m, (List.nodup_append.mp nd).1⟩
  | _, _, _, i + 1, _, .cons _ r, nd, e => by
    obtain ⟨v, f, h1, h2, h3, h4⟩ := Ow.sub (i := i) r (List.nodup_append.mp nd).2.1 (by simpa using e)
    exact ⟨v, f, by simpa using h1, h2, fun a m => List.mem_append_right _ (h3 a m), h4⟩
theorem Ows.atI2 {xs : List V} {ds : List D} {fp : List Addr} {i : Int} {d : D} (r : Ows k Z H xs ds fp) (nd : fp.Nodup) (h : L2.atI ds i = some d) : ∃ v f, L2.atI xs i = some v ∧ Ow k Z H v d f ∧ (∀ a ∈ f, a ∈ fp) ∧ f.Nodup := by
  unfold L2.atI at h ⊢
  rw [r.length]
  cases e : ixN ds.length i with
  | none => rw [e] at h; cases h
  | some j =>
    rw [e] at h
    exact Ow.sub r nd h
end
theorem idx_calm (x y : LD) : Calm (idxV x y) := by
  intro c fs e
  unfold idxV part at e
  repeat' split at e
  all_goals (first | cases e | (simp [okI] at e))
/-- subscripts, by any rule -/
def anyIx (X : Cx) : R2 := fun x y H Q => ∃ r, IxR X r ∧ r x y H Q
theorem anyIx_ok {X : Cx} : IxR X (anyIx X) := fun a b pins s σ H x y v u Q I rx ry ⟨r, h, q⟩ hs => h a b pins s σ H x y v u Q I rx ry q hs
theorem idx_get {X : Cx} {kc : Kc} (hK : kc.K = X.K) {Z H : Hp} {F : Nat → List Addr} {x y : LD} {vx vy : V} {fx fy : List Addr} {Q : VK} (zh : Zh Z H) (tx : RelT kc Z H F x.1 vx x.2 fx) (nx : fx.Nodup) (zx : ∀ a ∈ fx, Z a = none) (ty : RelT kc Z H F y.1 vy y.2 fy)
    {z : LD} (ez : idxV x y = .ok z) (g : Got kc F Z H (fx ++ fy) Q z) : anyIx X vx vy H Q := by
  obtain ⟨lx, dx⟩ := x
  obtain ⟨ly, dy⟩ := y
  dsimp only at tx ty
  unfold idxV at ez
  dsimp only at ez
  split at ez
  · rename_i i
    cases ty.int
    cases dx with
    | lst xs =>
      dsimp only at ez
      cases ea : L2.atI xs i with
      | none => rw [ea] at ez; cases ez
      | some d =>
        rw [ea] at ez
        dsimp only at ez
        obtain ⟨a, vs, rfl, ha, q⟩ := tx.lst zh
        have hs : SqL X.K H a vs := .inl (.inl ha)
        rcases q with ⟨hl, rs⟩ | ⟨hl, f, rs, hf2, hf4, nd4⟩
        · obtain ⟨v, hv, sv⟩ := rs.atI ea
          refine ⟨_, ix_list, a, vs, i, v, rfl, rfl, hs, hv, ?_⟩
          unfold part at ez
          rw [if_pos hl] at ez
          cases ez
          exact g.sc zh sv
        · rcases hl with rfl | rfl
          · -- new and whole
            have tx' := tx
            cases tx' with
            | sh s l => simp [D.lf] at l
            | @lst b ys _ fp e r =>
              rw [ha] at e
              cases e
              obtain ⟨v, f', hv, ov, hf', nd'⟩ := r.atI2 (List.nodup_cons.mp nx).2 ea
              refine ⟨_, ix_list, a, vs, i, v, rfl, rfl, hs, hv, ?_⟩
              unfold part at ez
              rw [if_neg (by omega), if_pos rfl] at ez
              cases ez
              by_cases hlf : d.lf = true
              · rw [if_pos hlf] at g
                exact g.sc zh (ov.free hlf).1
              · rw [if_neg hlf] at g
                exact g v Z H f' (Ext.refl zh) ov nd' fun c m => ⟨.inl (List.mem_append_left _ (List.mem_cons_of_mem _ (hf' c m))), zx c (List.mem_cons_of_mem _ (hf' c m))⟩
          · obtain ⟨v, f', hv, ov, hf', nd'⟩ := rs.atI2 (nd4 rfl) ea
            refine ⟨_, ix_list, a, vs, i, v, rfl, rfl, hs, hv, ?_⟩
            unfold part at ez
            rw [if_neg (by omega), if_neg (by omega), if_pos rfl] at ez
            cases ez
            by_cases hlf : d.lf = true
            · rw [if_pos hlf] at g
              exact g.sc zh (ov.free hlf).1
            · rw [if_neg hlf] at g
              exact g v Z H [] (Ext.refl zh) ⟨rfl, f', ov, fun c m => hf4 c (hf' c m) rfl, nd'⟩ List.nodup_nil fun _ m => by simp at m
    | tup xs =>
      dsimp only at ez
      cases ea : L2.atI xs i with
      | none => rw [ea] at ez; cases ez
      | some d =>
        rw [ea] at ez
        dsimp only at ez
        obtain ⟨a, vs, rfl, az, ha, rs⟩ := tx.tup zh
        rw [hK] at ha
        obtain ⟨v, hv, sv⟩ := rs.atI ea
        refine ⟨_, ix_tup, a, vs, i, v, rfl, rfl, ha, hv, ?_⟩
        have hz : z.2 = d ∧ (z.1 = 0 ∨ (z.1 = 2 ∨ z.1 = 4) ∧ d.lf = false) := by
          unfold part at ez
          repeat' split at ez
          all_goals first
            | (cases ez; done)
            | (cases ez; refine ⟨rfl, ?_⟩; dsimp only; first | exact .inl rfl | exact .inr ⟨by simp, by simp_all⟩)
        obtain ⟨l3, d3⟩ := z
        obtain ⟨rfl, hz⟩ := hz
        rcases hz with h0 | ⟨h0, hlf⟩
        · dsimp only at h0
          subst h0
          exact g.sc zh sv
        · -- a tuple with a list in it is never one's own
          exfalso
          have lf : D.lf (.tup xs) = true := by
            have noown : ∀ {f}, Ow kc Z H (.ref a) (.tup xs) f → D.lf (.tup xs) = true := fun o => by cases o; assumption
            unfold part at ez
            match lx, tx with
            | 0, tx => rw [if_pos (.inl rfl)] at ez; cases ez; rcases h0 with h0 | h0 <;> cases h0
            | 1, ⟨_, _, _, _, e, _⟩ => cases e
            | 2, tx => exact noown tx
            | 3, ⟨_, _, ⟨_, _, _, _, e, _⟩, _⟩ => cases e
            | 4, ⟨_, _, tx, _⟩ => exact noown tx
            | n + 5, tx => exact tx.elim
          have hall : ∀ {l : List D} {j : Nat} {e : D}, D.lfs l = true → l[j]? = some e → e.lf = true := by
            intro l
            induction l with
            | nil => intro j e _ h; simp at h
            | cons b r ih =>
              intro j e hl h
              simp only [D.lfs, Bool.and_eq_true] at hl
              cases j with
              | zero => simp at h; subst h; exact hl.1
              | succ j => exact ih hl.2 (by simpa using h)
          unfold L2.atI at ea
          cases ej : ixN xs.length i with
          | none => rw [ej] at ea; cases ea
          | some j =>
            rw [ej] at ea
            have := hall (by simpa [D.lf] using lf) (show xs[j]? = some d3 from ea)
            rw [this] at hlf
            cases hlf
    | scr ns =>
      dsimp only at ez
      cases ea : L2.atI ns i with
      | none => rw [ea] at ez; cases ez
      | some m =>
        rw [ea] at ez
        cases ez
        have s := tx.sh_of (fun _ z => nomatch z)
        cases s with
        | scr sq =>
          rename_i a
          have hv : L2.atI (ns.map V.int) i = some (V.int m) := by
            unfold L2.atI at ea ⊢
            rw [List.length_map]
            cases ej : ixN ns.length i with
            | none => rw [ej] at ea; cases ea
            | some j =>
              rw [ej] at ea
              show (ns.map V.int)[j]? = _
              rw [List.getElem?_map, show ns[j]? = some m from ea]
              rfl
          rw [hK] at sq
          exact ⟨_, ix_list, a, _, i, _, rfl, rfl, SqL.mono zh sq, hv, g.int zh⟩
    | _ => cases ez
  · cases ez
/-! ### slices -/
def anySl (X : Cx) : V → Option Int → Option Int → Hp → VK → Prop := fun x lo hi H Q => ∃ r, SlR X r ∧ r x lo hi H Q
theorem anySl_ok {X : Cx} : SlR X (anySl X) := fun pins s σ H x v vl vu lo hi sl Q I rx hs pl pu ⟨r, h, q⟩ => h pins s σ H x v vl vu lo hi sl Q I rx hs pl pu q
theorem Shs.cut {k : Kc} {Z : Hp} {xs : List V} {ds : List D} (r : Shs k Z xs ds) (l h : Option Int) : Shs k Z (cutV xs l h) (RS.cut ds l h) := by
  unfold cutV RS.cut
  rw [r.length]
  exact (r.drop _).take _
theorem lfs_sub : ∀ {xs ys : List D}, D.lfs xs = true → (∀ y ∈ ys, y ∈ xs) → D.lfs ys = true := by
  have mem : ∀ {l : List D} {e : D}, D.lfs l = true → e ∈ l → e.lf = true := by
    intro l
    induction l with
    | nil => intro e _ h; simp at h
    | cons b r ih =>
      intro e hl h
      simp only [D.lfs, Bool.and_eq_true] at hl
      rcases List.mem_cons.mp h with rfl | h
      · exact hl.1
      · exact ih hl.2 h
  intro xs ys
  induction ys with
  | nil => intro _ _; simp [D.lfs]
  | cons y r ih =>
    intro hl hm
    simp only [D.lfs, Bool.and_eq_true]
    exact ⟨mem hl (hm y (List.mem_cons_self ..)), ih hl fun z hz => hm z (List.mem_cons_of_mem _ hz)⟩
theorem slc_get {X : Cx} {kc : Kc} (hK : kc.K = X.K) {Z H : Hp} {F : Nat → List Addr} {x : LD} {vx : V} {fx : List Addr} {Q : VK} (zh : Zh Z H) (tx : RelT kc Z H F x.1 vx x.2 fx) {l h : Option Int}
    {z : LD} (ez : slV x l h = .ok z) (g : Got kc F Z H fx Q z) : anySl X vx l h H Q := by
  obtain ⟨lx, dx⟩ := x
  unfold slV at ez
  dsimp only at ez tx
  cases dx with
  | lst xs =>
    dsimp only at ez
    split at ez
    · rename_i hc
      cases ez
      obtain ⟨a, vs, rfl, ha, rs⟩ := tx.lstS zh hc
      exact ⟨_, sl_list, a, vs, rfl, .inl (.inl ha), g.lst zh (fun hl => lfs_sub hl fun y hy => List.mem_of_mem_drop (List.mem_of_mem_take hy)) (rs.cut l h)⟩
    · cases ez
  | tup xs =>
    cases ez
    obtain ⟨a, vs, rfl, az, ha, rs⟩ := tx.tup zh
    rw [hK] at ha
    refine ⟨_, sl_tupA, a, vs, rfl, ha, fun ⟨e1, e2⟩ => ?_, fun _ => g.tup zh (rs.cut l h)⟩
    have : RS.cut xs l h = xs := by
      unfold RS.cut
      rw [← rs.length, e1, e2, rs.length]
      simp
    rw [this] at g
    exact g.sc zh (.tup az rs)
  | _ => cases ez
/-! ### built-ins -/
def biP : Bi → Value
  | .len => .builtin "len" | .int1 => .type "int" | .abs => .builtin "abs" | .list => .type "list" | .tuple => .type "tuple" | .min2 => .builtin "min" | .max2 => .builtin "max" | .minL => .builtin "min" | .maxL => .builtin "max"
  | .sum => .builtin "sum" | .str1 => .type "str" | .sorted => .builtin "sorted" | .any => .builtin "any"
def anyC (X : Cx) (f : Value) : List V → Hp → VK → Prop := fun xs H Q => ∃ r, CallR X f r ∧ r xs H Q
theorem anyC_ok {X : Cx} {f : Value} : CallR X f (anyC X f) := fun pins s σ H xs us Q I r ⟨c, h, q⟩ => h pins s σ H xs us Q I r q
theorem intsOf_shs {k : Kc} {Z : Hp} : ∀ {ds : List D} {ns : List Int} {xs : List V}, intsOf ds = some ns → Shs k Z xs ds → xs = ns.map V.int
  | [], ns, _, h, .nil => by cases h; rfl
  | .int i :: r, ns, _, h, .cons a t => by
    unfold intsOf at h
    cases e : intsOf r with
    | none => rw [e] at h; cases h
    | some ms =>
      rw [e] at h
      cases h
      cases a
      rw [intsOf_shs e t]
      rfl
  | .non :: _, _, _, h, _ => by simp [intsOf] at h
  | .bl _ :: _, _, _, h, _ => by simp [intsOf] at h
  | .str _ :: _, _, _, h, _ => by simp [intsOf] at h
  | .tup _ :: _, _, _, h, _ => by simp [intsOf] at h
  | .lst _ :: _, _, _, h, _ => by simp [intsOf] at h
  | .ins _ _ :: _, _, _, h, _ => by simp [intsOf] at h
  | .scr _ :: _, _, _, h, _ => by simp [intsOf] at h
theorem boolsOf_shs {k : Kc} {Z : Hp} : ∀ {ds : List D} {ns : List Bool} {xs : List V}, boolsOf ds = some ns → Shs k Z xs ds → xs = ns.map V.bl
  | [], ns, _, h, .nil => by cases h; rfl
  | .bl i :: r, ns, _, h, .cons a t => by
    unfold boolsOf at h
    cases e : boolsOf r with
    | none => rw [e] at h; cases h
    | some ms =>
      rw [e] at h
      cases h
      cases a
      rw [boolsOf_shs e t]
      rfl
  | .non :: _, _, _, h, _ => by simp [boolsOf] at h
  | .int _ :: _, _, _, h, _ => by simp [boolsOf] at h
  | .str _ :: _, _, _, h, _ => by simp [boolsOf] at h
  | .tup _ :: _, _, _, h, _ => by simp [boolsOf] at h
  | .lst _ :: _, _, _, h, _ => by simp [boolsOf] at h
  | .ins _ _ :: _, _, _, h, _ => by simp [boolsOf] at h
  | .scr _ :: _, _, _, h, _ => by simp [boolsOf] at h
theorem intsOf_lfs : ∀ {ds : List D} {ns : List Int}, intsOf ds = some ns → D.lfs ds = true
  | [], _, _ => by simp [D.lfs]
  | .int i :: r, ns, h => by
    unfold intsOf at h
    cases e : intsOf r with
    | none => rw [e] at h; cases h
    | some ms => simp [D.lfs, D.lf, intsOf_lfs e]
  | .non :: _, _, h => by simp [intsOf] at h
  | .bl _ :: _, _, h => by simp [intsOf] at h
  | .str _ :: _, _, h => by simp [intsOf] at h
  | .tup _ :: _, _, h => by simp [intsOf] at h
  | .lst _ :: _, _, h => by simp [intsOf] at h
  | .ins _ _ :: _, _, h => by simp [intsOf] at h
  | .scr _ :: _, _, h => by simp [intsOf] at h
theorem boolsOf_lfs : ∀ {ds : List D} {ns : List Bool}, boolsOf ds = some ns → D.lfs ds = true
  | [], _, _ => by simp [D.lfs]
  | .bl i :: r, ns, h => by
    unfold boolsOf at h
    cases e : boolsOf r with
    | none => rw [e] at h; cases h
    | some ms => simp [D.lfs, D.lf, boolsOf_lfs e]
  | .non :: _, _, h => by simp [boolsOf] at h
  | .int _ :: _, _, h => by simp [boolsOf] at h
  | .str _ :: _, _, h => by simp [boolsOf] at h
  | .tup _ :: _, _, h => by simp [boolsOf] at h
  | .lst _ :: _, _, h => by simp [boolsOf] at h
  | .ins _ _ :: _, _, h => by simp [boolsOf] at h
  | .scr _ :: _, _, h => by simp [boolsOf] at h
theorem foldl_min : ∀ (r : List Int) (x m : Int), (m = x ∨ m ∈ r) → m ≤ x → (∀ y ∈ r, m ≤ y) → r.foldl (fun a b => if b < a then b else a) x = m
  | [], x, m, h, _, _ => by
    rcases h with h | h
    · exact h.symm
    · simp at h
  | y :: r, x, m, h, hx, hr => by
    rw [List.foldl_cons]
    have hy := hr y (List.mem_cons_self ..)
    refine foldl_min r _ m ?_ (by split <;> assumption) fun z hz => hr z (List.mem_cons_of_mem _ hz)
    rcases h with h | h
    · split
      · omega
      · exact .inl h
    · rcases List.mem_cons.mp h with h | h
      · split
        · exact .inl h
        · exact .inl (by omega)
      · exact .inr h
theorem foldl_max : ∀ (r : List Int) (x m : Int), (m = x ∨ m ∈ r) → x ≤ m → (∀ y ∈ r, y ≤ m) → r.foldl (fun a b => if a < b then b else a) x = m
  | [], x, m, h, _, _ => by
    rcases h with h | h
    · exact h.symm
    · simp at h
  | y :: r, x, m, h, hx, hr => by
    rw [List.foldl_cons]
    have hy := hr y (List.mem_cons_self ..)
    refine foldl_max r _ m ?_ (by split <;> assumption) fun z hz => hr z (List.mem_cons_of_mem _ hz)
    rcases h with h | h
    · split
      · omega
      · exact .inl h
    · rcases List.mem_cons.mp h with h | h
      · split
        · exact .inl h
        · exact .inl (by omega)
      · exact .inr h
theorem minL_eq {ns : List Int} {i m : Int} (h : minL ns = some i) (h1 : m ∈ ns) (h2 : ∀ y ∈ ns, m ≤ y) : m = i := by
  cases ns with
  | nil => cases h
  | cons x r =>
    cases h
    exact (foldl_min r x m (List.mem_cons.mp h1) (h2 x (List.mem_cons_self ..)) fun y hy => h2 y (List.mem_cons_of_mem _ hy)).symm
theorem maxL_eq {ns : List Int} {i m : Int} (h : maxL ns = some i) (h1 : m ∈ ns) (h2 : ∀ y ∈ ns, y ≤ m) : m = i := by
  cases ns with
  | nil => cases h
  | cons x r =>
    cases h
    exact (foldl_max r x m (List.mem_cons.mp h1) (h2 x (List.mem_cons_self ..)) fun y hy => h2 y (List.mem_cons_of_mem _ hy)).symm
theorem shs_intsS {k : Kc} {Z : Hp} : ∀ (ns : List Int), Shs k Z (ns.map V.int) (ns.map D.int)
  | [] => .nil
  | n :: r => .cons (.int n) (shs_intsS r)
theorem srt_eq {ns ms : List Int} (h : ms.Perm ns) (s : ms.Pairwise (· ≤ ·)) : ms = srt ns := by
  refine List.Perm.eq_of_pairwise (le := fun a b => a ≤ b) (fun a b _ _ h1 h2 => Int.le_antisymm h1 h2) s ?_ (h.trans (List.mergeSort_perm ns _).symm)
  have := List.pairwise_mergeSort (le := fun a b : Int => decide (a ≤ b)) (fun a b c h1 h2 => by simp at *; omega) (fun a b => by simp; omega) ns
  exact this.imp fun h => of_decide_eq_true h
theorem bi_calm (b : Bi) (as : List LD) : Calm (biV b as) := by
  intro c fs e
  unfold biV at e
  repeat' split at e
  all_goals (first | cases e | (simp [okI, okB, newL] at e))
theorem bi_get {X : Cx} {kc : Kc} (hK : kc.K = X.K) (hc : X.calm = true) {Z H : Hp} {F : Nat → List Addr} {b : Bi} {as : List LD} {vs : List V} {fp : List Addr} {Q : VK} (zh : Zh Z H) (ts : RelTs kc Z H F vs as fp)
    {z : LD} (ez : biV b as = .ok z) (g : Got kc F Z H fp Q z) : anyC X (biP b) vs H Q := by
  unfold biV at ez
  split at ez
  · -- len
    rename_i x
    obtain ⟨lx, dx⟩ := x
    cases ts with
    | cons tx tr =>
      cases tr
      dsimp only at tx ez
      split at ez
      · rename_i xs
        cases ez
        obtain ⟨a, ws, rfl, ha, q⟩ := tx.lst zh
        have hl : ws.length = xs.length := by
          rcases q with ⟨_, q⟩ | ⟨_, f, q, _⟩
          · exact q.length
          · exact q.length
        exact ⟨_, call_len_seq, a, ws, rfl, .inl (.inl (.inl ha)), by rw [hl]; exact g.int zh⟩
      · cases ez
        obtain ⟨a, ws, rfl, az, ha, rs⟩ := tx.tup zh
        rw [hK] at ha
        exact ⟨_, call_len_seq, a, ws, rfl, .inr ha, by rw [rs.length]; exact g.int zh⟩
      · split at ez
        · rename_i hz
          cases ez
          cases tx.str
          exact ⟨_, call_len_str, _, rfl, lim_line hz, g.int zh⟩
        · cases ez
      · cases ez
        have s := tx.sh_of (fun _ z => nomatch z)
        cases s with
        | scr sq =>
          rw [hK] at sq
          exact ⟨_, call_len_seq, _, _, rfl, .inl (SqL.mono zh sq), by rw [List.length_map]; exact g.int zh⟩
      · cases ez
  · -- int
    rename_i x
    obtain ⟨lx, dx⟩ := x
    cases ts with
    | cons tx tr =>
      cases tr
      dsimp only at tx ez
      split at ez
      · cases ez
        cases tx.int
        exact ⟨_, call_int1, .inl ⟨_, rfl, g.int zh⟩⟩
      · cases ez
        cases tx.bl
        exact ⟨_, call_int1, .inr ⟨true, rfl, g.int zh⟩⟩
      · cases ez
        cases tx.bl
        exact ⟨_, call_int1, .inr ⟨false, rfl, g.int zh⟩⟩
      · cases ez
  · -- abs
    rename_i x
    obtain ⟨lx, dx⟩ := x
    cases ts with
    | cons tx tr =>
      cases tr
      dsimp only at tx ez
      split at ez
      · cases ez
        cases tx.int
        exact ⟨_, call_abs, _, rfl, g.int zh⟩
      · cases ez
  · -- list
    rename_i x
    obtain ⟨lx, dx⟩ := x
    cases ts with
    | cons tx tr =>
      cases tr
      dsimp only at tx ez
      split at ez
      · split at ez
        · rename_i hs
          cases ez
          obtain ⟨a, ws, rfl, ha, rs⟩ := tx.lstS zh hs
          exact ⟨_, call_list_of, a, ws, rfl, .inl (.inl (.inl ha)), g.lst zh id rs⟩
        · cases ez
      · cases ez
        obtain ⟨a, ws, rfl, az, ha, rs⟩ := tx.tup zh
        rw [hK] at ha
        exact ⟨_, call_list_of, a, ws, rfl, .inr ha, g.lst zh id rs⟩
      · cases ez
  · -- tuple
    rename_i x
    obtain ⟨lx, dx⟩ := x
    cases ts with
    | cons tx tr =>
      cases tr
      dsimp only at tx ez
      split at ez
      · split at ez
        · rename_i hs
          cases ez
          obtain ⟨a, ws, rfl, ha, rs⟩ := tx.lstS zh hs
          exact ⟨_, call_tuple_of, a, ws, rfl, .inl ⟨.inl (.inl ha), g.tup zh rs⟩⟩
        · cases ez
      · cases ez
        obtain ⟨a, ws, rfl, az, ha, rs⟩ := tx.tup zh
        rw [hK] at ha
        exact ⟨_, call_tuple_of, a, ws, rfl, .inr ⟨ha, g.sc zh (.tup az rs)⟩⟩
      · cases ez
  · -- min2
    rename_i x y
    obtain ⟨lx, dx⟩ := x
    obtain ⟨ly, dy⟩ := y
    cases ts with
    | cons tx tr =>
      cases tr with
      | cons ty tr =>
        cases tr
        dsimp only at tx ty ez
        split at ez
        · cases ez
          cases tx.int; cases ty.int
          exact ⟨_, call_min2 hc, _, _, rfl, g.int zh⟩
        · cases ez
  · -- max2
    rename_i x y
    obtain ⟨lx, dx⟩ := x
    obtain ⟨ly, dy⟩ := y
    cases ts with
    | cons tx tr =>
      cases tr with
      | cons ty tr =>
        cases tr
        dsimp only at tx ty ez
        split at ez
        · cases ez
          cases tx.int; cases ty.int
          exact ⟨_, call_max2 hc, _, _, rfl, g.int zh⟩
        · cases ez
  · -- min
    rename_i x
    obtain ⟨lx, dx⟩ := x
    cases ts with
    | cons tx tr =>
      cases tr
      dsimp only at tx ez
      split at ez
      · rename_i xs
        cases ei : intsOf xs with
        | none => rw [ei] at ez; cases ez
        | some ns =>
          rw [ei] at ez
          dsimp only [Option.bind] at ez
          cases em : minL ns with
          | none => rw [em] at ez; cases ez
          | some i =>
            rw [em] at ez
            cases ez
            obtain ⟨a, ws, rfl, ha, rs⟩ := tx.lstS zh (by unfold shb; rw [intsOf_lfs ei]; simp)
            have ew := intsOf_shs ei rs
            subst ew
            have hne : 0 < ns.length := by
              cases ns with
              | nil => cases em
              | cons _ _ => exact Nat.succ_pos _
            exact ⟨_, cr_min hc, a, ns, rfl, .inl (.inl ha), hne, fun m h1 h2 => by rw [minL_eq em h1 h2]; exact g.int zh⟩
      · cases ez
  · -- max
    rename_i x
    obtain ⟨lx, dx⟩ := x
    cases ts with
    | cons tx tr =>
      cases tr
      dsimp only at tx ez
      split at ez
      · rename_i xs
        cases ei : intsOf xs with
        | none => rw [ei] at ez; cases ez
        | some ns =>
          rw [ei] at ez
          dsimp only [Option.bind] at ez
          cases em : maxL ns with
          | none => rw [em] at ez; cases ez
          | some i =>
            rw [em] at ez
            cases ez
            obtain ⟨a, ws, rfl, ha, rs⟩ := tx.lstS zh (by unfold shb; rw [intsOf_lfs ei]; simp)
            have ew := intsOf_shs ei rs
            subst ew
            have hne : 0 < ns.length := by
              cases ns with
              | nil => cases em
              | cons _ _ => exact Nat.succ_pos _
            exact ⟨_, cr_max hc, a, ns, rfl, .inl (.inl ha), hne, fun m h1 h2 => by rw [maxL_eq em h1 h2]; exact g.int zh⟩
      · cases ez
  · -- sum
    rename_i x
    obtain ⟨lx, dx⟩ := x
    cases ts with
    | cons tx tr =>
      cases tr
      dsimp only at tx ez
      split at ez
      · rename_i xs
        cases ei : intsOf xs with
        | none => rw [ei] at ez; cases ez
        | some ns =>
          rw [ei] at ez
          cases ez
          obtain ⟨a, ws, rfl, ha, rs⟩ := tx.lstS zh (by unfold shb; rw [intsOf_lfs ei]; simp)
          have ew := intsOf_shs ei rs
          subst ew
          exact ⟨_, cr_sum hc, a, ns, rfl, .inl (.inl ha), g.int zh⟩
      · rename_i xs
        cases ei : intsOf xs with
        | none => rw [ei] at ez; cases ez
        | some ns =>
          rw [ei] at ez
          cases ez
          obtain ⟨a, ws, rfl, az, ha, rs⟩ := tx.tup zh
          have ew := intsOf_shs ei rs
          subst ew
          rw [hK] at ha
          exact ⟨_, cr_sumT hc, a, ns, rfl, ha, g.int zh⟩
      · cases ez
  · -- str
    rename_i x
    obtain ⟨lx, dx⟩ := x
    cases ts with
    | cons tx tr =>
      cases tr
      dsimp only at tx ez
      split at ez
      · split at ez
        · rename_i hz
          cases ez
          cases tx.int
          exact ⟨_, call_str_int, _, rfl, Nat.lt_trans (log2_lt hz (by decide)) (by decide), g.sc zh (.str _)⟩
        · cases ez
      · cases ez
        cases tx.str
        exact ⟨_, SkE.call_str_str, _, rfl, g.sc zh (.str _)⟩
      · cases ez
  · -- any
    rename_i x
    obtain ⟨lx, dx⟩ := x
    cases ts with
    | cons tx tr =>
      cases tr
      dsimp only at tx ez
      split at ez
      · rename_i xs
        cases ei : boolsOf xs with
        | none => rw [ei] at ez; cases ez
        | some ns =>
          rw [ei] at ez
          cases ez
          obtain ⟨a, ws, rfl, ha, rs⟩ := tx.lstS zh (by unfold shb; rw [boolsOf_lfs ei]; simp)
          have ew := boolsOf_shs ei rs
          subst ew
          exact ⟨_, cr_any hc, a, ns, rfl, .inl (.inl ha), g.bl zh⟩
      · cases ez
  · -- sorted
    rename_i x
    obtain ⟨lx, dx⟩ := x
    cases ts with
    | cons tx tr =>
      cases tr
      dsimp only at tx ez
      split at ez
      · rename_i xs
        cases ei : intsOf xs with
        | none => rw [ei] at ez; cases ez
        | some ns =>
          rw [ei] at ez
          dsimp only at ez
          split at ez
          · rename_i h64
            cases ez
            obtain ⟨a, ws, rfl, ha, rs⟩ := tx.lstS zh (by unfold shb; rw [intsOf_lfs ei]; simp)
            have ew := intsOf_shs ei rs
            subst ew
            refine ⟨_, cr_sorted, a, ns, rfl, .inl (.inl ha), h64, fun ms p h1 h2 hp => ?_⟩
            have em := srt_eq h1 h2
            subst em
            exact g.lst zh id (shs_intsS _) p hp
          · cases ez
      · cases ez
  · cases ez
end RS

/-! RsIt0 -/
namespace RS
open PySem PySem.Spec
open PyProof.Rows L2
/-- a field's value -/
def FldAt (K : PySem.W.Frag) (H : Hp) (a : Addr) (f : Str) (v : V) : Prop :=
  (∃ C dx fs, H a = some (.ins C dx fs) ∧ Cls K C ∧ NoAttr K C f ∧ fs.lookup f = some v) ∨
  ∃ C dx p vs i, SlX.Slt H a C dx vs ∧ SlX.SCls K C ∧ SlX.Slot1 K C f p i ∧ vs[i]? = some (some v)
/-- what a class must have for a call by the machine -/
structure OwnM (K : PySem.W.Frag) (C : Addr) (m : Str) (g : Addr) : Prop where
  at_ : PySem.W.findIn K (.ref C) m = some (some (.ref g))
  fn : PySem.W.isFn K (.ref g) = true
  fi : PySem.W.fnIn K g = true
/-- the same heap, longer -/
def padH (h : Heap) (k : Nat) : Heap := { h with objs := h.objs ++ Array.replicate k { cls := .none, data := .freed } }
/-- at it an iterator over the tuple at t, ahead of its first item -/
abbrev itT (t : Addr) : Obj := { cls := .type "tuple_iterator", data := .fields #[.ref t, .int 0 0] }
def ItT (t it : Addr) : HO := .ext fun h => h.get? it = some (itT t)
/-- what such a def keeps -/
def spIt (K : PySem.W.Frag) (n : Nat) (f : Str) : Sp := fun vs H Q E => ∃ a t zs, vs = [.ref a] ∧ FldAt K H a f (.ref t) ∧ SqT K H t zs ∧ ∀ it, H it = none → n ≤ it → Q (.ref it) (upd H it (ItT t it))
/-- a class whose __iter__ is such a def -/
structure ItK (k : Kc) (at_ : Nat → Option Str) (X : Cx) (c F : Nat) : Prop where
  ex : ∃ g fd ps f, at_ F = some f ∧ OwnM k.K (k.ca c) "__iter__" g ∧ Binds X.K fd ps [] ∧ ∀ n, FnOk X.prog X.w X.K X.mg (padH X.base n) (L2.CX X.prog X.w) 1 g fd ps (spIt k.K (padH X.base n).objs.size f)
/-- what isinstance asks of an instance's class -/
structure IsE (K : PySem.W.Frag) (C : Addr) : Prop where
  ic : PySem.W.isClsIn K C = true
  pg : PySem.W.plainGet K C "__class__" = true
  si : SlX.SIsi K C
end RS

/-! RsX0 -/
namespace RS
open PySem PySem.Spec
open PyProof.Rows L2
/-! ### a clause's test over a tuple of classes -/
section
variable {M : Model} {A : Around} {E : Value → Shared → Prop} {β : Type}
theorem loopY {body : Value → β → Sem (ForInStep β)} {b0 : β} : ∀ {cs : List Value} {Q : β → Shared → Prop} {s : Shared}, (∀ c ∈ cs, ∀ (Q' : ForInStep β → Shared → Prop), Q' (.yield b0) s → wpAny M A (body c b0) Q' E s) → Q b0 s → wpAny M A (forIn cs b0 body) Q E s
  | [], Q, s, _, q => by
    rw [List.forIn_nil]
    exact wpAny_pure q
  | c :: r, Q, s, h, q => by
    rw [List.forIn_cons]
    refine wpAny_bind (h c (List.mem_cons_self ..) _ ?_)
    exact loopY (fun d m => h d (List.mem_cons_of_mem _ m)) q
theorem loopF {body : Value → β → Sem (ForInStep β)} {b0 b1 : β} (f : Value → Bool) : ∀ {cs : List Value} {Q : β → Shared → Prop} {s : Shared}, (∀ c ∈ cs, ∀ (Q' : ForInStep β → Shared → Prop), (f c = true → Q' (.done b1) s) → (f c = false → Q' (.yield b0) s) → wpAny M A (body c b0) Q' E s) → (cs.any f = true → Q b1 s) → (cs.any f = false → Q b0 s) → wpAny M A (forIn cs b0 body) Q E s
  | [], Q, s, _, _, q => by
    rw [List.forIn_nil]
    exact wpAny_pure (q rfl)
  | c :: r, Q, s, h, q1, q0 => by
    rw [List.forIn_cons]
    refine wpAny_bind (h c (List.mem_cons_self ..) _ (fun e => ?_) fun e => ?_)
    · exact wpAny_pure (q1 (by rw [List.any_cons, e]; rfl))
    · rw [List.any_cons, e, Bool.false_or] at q1 q0
      exact loopF f (fun d m => h d (List.mem_cons_of_mem _ m)) q1 q0
end
theorem exm_any {K : PySem.W.Frag} {cls : Value} : ∀ {cs : List Value} {b : Bool}, PySem.W.exmAny K cls cs = some b → (∀ c ∈ cs, PySem.W.exmOne K cls c = some ((PySem.W.exmOne K cls c).getD false)) ∧ b = cs.any fun c => (PySem.W.exmOne K cls c).getD false
  | [], b, h => by
    cases h
    exact ⟨fun _ m => by simp at m, rfl⟩
  | c :: r, b, h => by
    obtain ⟨b1, d1, h1, h2, rfl⟩ := PySem.W.exmAny_cons h
    obtain ⟨hf, rfl⟩ := exm_any h2
    refine ⟨fun v m => ?_, ?_⟩
    · rcases List.mem_cons.mp m with rfl | m
      · rw [h1]; rfl
      · exact hf v m
    · rw [List.any_cons, h1]; rfl
theorem exm_tup {M : Model} {K : PySem.W.Frag} {h : Heap} {cls : Value} {cs : List Value} {tp e : Addr} {b : Bool} (X : K.In h) (LT : PySem.W.Looks M h (typeOf (.ref e)) cls) (hp : h.get? tp = some { cls := .type "tuple", data := .seq cs.toArray }) (hx : PySem.W.exmAny K cls cs = some b) :
    PySem.W.Looks M h (excMatches (.ref e) (.ref tp)) b := by
  intro A Q E s k₀ q
  obtain ⟨hh, g, d, tk, os⟩ := s
  have kk : ∀ b o, h.get? b = some o → hh.get? b = some o := k₀
  have LT0 : PySem.W.Looks M h (isInstance (.ref tp) (.type "tuple")) true := ((PySem.W.Looks.ld hp).andThen .now).andThen (PySem.W.Looks.of_pure isSubtype_tuple_tuple)
  obtain ⟨hf, rfl⟩ := exm_any hx
  have LT := LT.keeps kk
  have LT0 := LT0.keeps kk
  have hp' := kk _ _ hp
  unfold excMatches
  refine wpAny_bind (LT0.at ?_)
  dsimp only
  rw [if_pos rfl]
  first
    | refine wpAny_bind (wpAny_seqItems hp' rfl ?_)
    | refine wpAny_bind (wpAny_bind (wpAny_seqItems hp' rfl (wpAny_pure ?_)))
  dsimp only [Option.getD_some, Option.getD]
  refine wpAny_bind (wpAny_pure ?_)
  refine wpAny_bind (loopY (fun c m Q' q' => ?_) ?_)
  · obtain ⟨e1, S1⟩ := PySem.W.exm_cls (M := M) X (hf c m)
    refine wpAny_bind ((e1.keeps kk).at ?_)
    simp only [Bool.not_true, Bool.false_eq_true, if_false]
    exact wpAny_pure q'
  · refine wpAny_bind (LT.at ?_)
    refine wpAny_bind (loopF (b1 := (some true, ())) (fun c => (PySem.W.exmOne K cls c).getD false) (fun c m Q' q1 q0 => ?_) (fun e => ?_) fun e => ?_)
    rotate_left
    · dsimp only
      rw [e] at q
      exact wpAny_pure q
    · dsimp only
      rw [e] at q
      exact wpAny_pure q
    · obtain ⟨e1, S1⟩ := PySem.W.exm_cls (M := M) X (hf c m)
      refine wpAny_bind ((S1.keeps kk).at ?_)
      cases e : (PySem.W.exmOne K cls c).getD false with
      | true =>
        simp only [e, if_true] 
        exact wpAny_pure (q1 e)
      | false =>
        simp only [e, Bool.false_eq_true, if_false] 
        exact wpAny_pure (q0 e)
/-! ### try, with clauses of one class or several, named or not -/
/-- the names of classes -/
inductive NamesL (X : Cx) : List Expr → List Value → Prop
  | nil : NamesL X [] []
  | cons {x : Str} {c : Value} {np : Pos} {es : List Expr} {cs : List Value} : Names X x c → NamesL X es cs → NamesL X (.Name x np :: es) (c :: cs)
/-- a clause's test -/
inductive TestX (X : Cx) : Expr → Bool → List Value → Prop
  | one {x : Str} {c : Value} {np : Pos} : Names X x c → TestX X (.Name x np) false [c]
  | tup {es : List Expr} {cs : List Value} {kk : Nat} {pos : Pos} : NamesL X es cs → cs.length ≤ sizeLine → TestX X (.Tuple es kk pos) true cs
def exmT (K : PySem.W.Frag) (cls : Value) : Bool → List Value → Option Bool
  | true, cs => PySem.W.exmAny K cls cs
  | false, [c] => PySem.W.exmOne K cls c
  | false, _ => none
/-- a clause as it is told: its classes, its name's slot, its suite -/
structure Hnd where
  tup : Bool
  cs : List Value
  nm : Option Nat
  ts : Addr → Value → Option Addr → TS
def Ends.gone (D : Ends) (i : Nat) : Ends := { nx := fun σ' H' => D.nx (σ'.set i none) H', rt := D.rt, bk := fun σ' H' => D.bk (σ'.set i none) H', ct := fun σ' H' => D.ct (σ'.set i none) H' }
def Hnd.go (h : Hnd) (a : Addr) (cls : Value) (d : Option Addr) : TS := fun D σ H => match h.nm with
  | none => h.ts a cls d D σ H
  | some i => h.ts a cls d (Ends.gone D i) (σ.set i (some (.ref a))) H
/-- what is wished of an exception -/
def wHs (K : PySem.W.Frag) (Wout : WX) (D : Ends) : List Hnd → WX
  | [] => Wout
  | h :: r => fun cls d σ H => ∃ b, exmT K cls h.tup h.cs = some b ∧ (b = true → ∀ a, H a = none → h.go a cls d D σ H) ∧ (b = false → wHs K Wout D r cls d σ H)
inductive HdsX (X : Cx) : List ExceptHandler → List Hnd → Prop
  | nil : HdsX X [] []
  | cons0 {te : Expr} {tup : Bool} {cs : List Value} {ts : Addr → Value → Option Addr → TS} {b₀ : Stmt} {suite : List Stmt} {pos' : Pos} {hds : List ExceptHandler} {l : List Hnd} (ht : TestX X te tup cs)
      (hsu : ∀ (a : Addr) (oe : Obj) (cls : Value) (d : Option Addr) (pn : List (Addr × Obj)), Zc cls d oe → (∃ vs, oe.data = .fields vs) → PSs (X.suite a ((a, oe) :: pn)) (b₀ :: suite) (ts a cls d)) (r : HdsX X hds l) :
      HdsX X (.ExceptHandler (some te) none (b₀ :: suite) pos' :: hds) (⟨tup, cs, none, ts⟩ :: l)
  | consA {te : Expr} {tup : Bool} {cs : List Value} {ts : Addr → Value → Option Addr → TS} {b₀ : Stmt} {suite : List Stmt} {pos' : Pos} {n : Str} {i : Nat} {hds : List ExceptHandler} {l : List Hnd} (ht : TestX X te tup cs) (hi : X.N[i]? = some n) (hln : X.env.kindOf n = some .local)
      (hsu : ∀ (a : Addr) (oe : Obj) (cls : Value) (d : Option Addr) (pn : List (Addr × Obj)), Zc cls d oe → (∃ vs, oe.data = .fields vs) → PSs (X.suite a ((a, oe) :: pn)) (b₀ :: suite) (ts a cls d)) (r : HdsX X hds l) :
      HdsX X (.ExceptHandler (some te) (some n) (b₀ :: suite) pos' :: hds) (⟨tup, cs, some i, ts⟩ :: l)
section
variable {X : Cx} {pins : List (Addr × Obj)} {σ : L2.St} {H : Hp} {s : Shared} {a : Addr} {oe : Obj}
theorem name_is {x : Str} {c : Value} {np : Pos} {pn : List (Addr × Obj)} (S : Inv (X.suite a pn) pins σ H s) (h : Names X x c) {Q : Value → Shared → Prop} {E : Value → Shared → Prop} (q : Q c s) :
    wpAny (model X.prog X.w) (X.A.mark (some (.ref a))) (eval (.Name x np) X.env) Q E s := by
  obtain ⟨hg, hdbg, hm | ⟨hm, hv, hnn⟩⟩ := h
  · exact ld_glob (X := X.suite a pn) S hg hm q hdbg
  · exact ld_blt (X := X.suite a pn) S hg hm hv q hnn hdbg
theorem names_are {pos : Pos} {pn : List (Addr × Obj)} (S : Inv (X.suite a pn) pins σ H s) {es : List Expr} {cs : List Value} (h : NamesL X es cs) : ∀ {Q : List Value → Shared → Prop} {E : Value → Shared → Prop}, Q cs s →
    wpAny (model X.prog X.w) (X.A.mark (some (.ref a))) (spliced (backTo pos (starEach es X.env))) Q E s := by
  induction h with
  | nil => exact fun q => wpAny_items_nil q
  | cons n r ih => exact fun q => wpAny_items_cons (name_is S n (ih q))
/-- the test is made: its answer, what it lays -/
theorem test_is {te : Expr} {tup : Bool} {cs : List Value} {cls : Value} {b : Bool} {pn : List (Addr × Obj)} (S : Inv (X.suite a pn) pins σ H s) (ht : TestX X te tup cs) (hb : exmT X.K cls tup cs = some b) (LT : PySem.W.Looks (model X.prog X.w) s.heap (typeOf (.ref a)) cls)
    {Q : Bool → Shared → Prop} {E : Value → Shared → Prop} (q : ∀ h', (∀ b o, s.heap.get? b = some o → h'.get? b = some o) → Q b { s with heap := h' }) :
    wpAny (model X.prog X.w) (X.A.mark (some (.ref a))) (eval te X.env) (fun c s1 => wpAny (model X.prog X.w) (X.A.mark (some (.ref a))) (excMatches (.ref a) c) Q E s1) E s := by
  cases ht with
  | one h => exact name_is S h ((PySem.W.exm_one S.kIn LT hb).here (q _ fun _ _ z => z))
  | tup h hl =>
    refine wpAny_Tuple (names_are S h ⟨hl, ?_⟩)
    have kp : ∀ q o, s.heap.get? q = some o → (s.heap.push { cls := .type "tuple", data := .seq cs.toArray }).get? q = some o := fun _ _ z => Heap.get?_push_of_some _ z
    exact (exm_tup (S.kIn.keeps kp) (LT.keeps kp) (Heap.get?_push_size s.heap rfl) hb).here (q _ kp)
end
theorem flyZ_keeps {B : Heap} {l : List Env} {e : Addr} {Z : Obj → Prop} {h h' : Heap} (R : HandSPX.FlyingZ B l e Z h) (kk : ∀ b o, h.get? b = some o → h'.get? b = some o) : HandSPX.FlyingZ B l e Z h' := by
  obtain ⟨f1, f2, f3, oe, ws, T, oT, ts, he, hc, hd, h1, hn, hne, hT, hdT, h3⟩ := R
  exact ⟨fun b o q => kk b o (f1 b o q), f2, f3.of_keeps fun b o q _ => ⟨o, kk b o q, rfl⟩, oe, ws, T, oT, ts, kk _ _ he, hc, hd, h1, hn, hne, kk _ _ hT, hdT, h3⟩
section
variable {X : Cx} {body : List Stmt} {h₀ : ExceptHandler} {hds : List ExceptHandler} {l : List Hnd} {pos : Pos} {tb : WX → TS} {Wout : WX}
theorem ps_tryX (hs : X.stack = X.env :: X.outer) (hf : X.env.frame = some X.env.locals) (hN : X.N.Nodup) (tk : Takes X Wout)
    (hb : ∀ (W : WX) (pn : List (Addr × Obj)) (xe : Value → Shared → Prop), Takes (X.tr pn xe) W → PassesOwn (model X.prog X.w) X.A X.env xe → PSs (X.tr pn xe) body (tb W))
    (hh : HdsX X (h₀ :: hds) l) : PS X (.Try body (h₀ :: hds) [] [] pos) (fun D σ H => tb (wHs X.K Wout D l) D σ H) := by
  refine ⟨fun pins s σ H D I h => ?_⟩
  have ok := I.ok
  have hfr : X.A.frames = some (X.env :: X.outer) := by rw [ok.frames, hs]
  refine wpAny_Try_except ?_
  refine wpAny_mono ((hb (wHs X.K Wout D l) (X.pn ++ pins) (fun e s₁ => wpAny (model X.prog X.w) X.A (noteFrame e X.env) (fun _ s₂ => wpAny (model X.prog X.w) X.A (setFlight e none) (fun _ s₃ =>
    wpAny (model X.prog X.w) X.A (handleBy e X.env (h₀ :: hds)) (SP X pins D) X.xe s₃) X.xe s₂) X.xe s₁) (fun u s' xx => ?_) PassesOwn.looking).run [] s σ H D (I.toTry _) h) (fun f s1 hsp => ?_) (fun e s1 he => he)
  · obtain ⟨a, B, sI, pins', σ', H', cls, d, rfl, J', nb, up, sky, na, os, ag, w⟩ := xx
    have J : Inv X pins σ' H' sI := J'.ofTry ok
    have sky' : Sky B (X.env :: X.outer) a (Zc cls d) X.env.locals s'.heap := by rw [← hs]; exact sky
    show wpAny (model X.prog X.w) X.A (noteFrame (.ref a) X.env) _ _ _
    refine Sky.land Zc.steady hfr hf sky' fun h3 fl3 up3 => ?_
    have notFr : ∀ {h : Heap} {o : Obj} {vs : Array Value}, h.FunFrames B (X.env :: X.outer) → h.get? a = some o → o.data = .fields vs → a ∉ frs (X.env :: X.outer) := fun {h o vs} ff e dd hm => by
      obtain ⟨_, o', e', hnf⟩ := ff.mem hm
      rw [e] at e'; cases e'
      exact hnf _ dd
    have go : ∀ {hds' : List ExceptHandler} {l' : List Hnd}, HdsX X hds' l' → wHs X.K Wout D l' cls d σ' H' → ∀ (h : Heap), HandSPX.FlyingZ B (X.env :: X.outer) a (Zc cls d) h → sI.heap.UpToSlots h →
        wpAny (model X.prog X.w) X.A (handleBy (.ref a) X.env hds') (SP X pins D) X.xe { s' with heap := h } := by
      intro hds' l' hk
      induction hk with
      | nil =>
        intro w h fl upT
        refine wpAny_handleBy_nil ?_
        obtain ⟨k1, k2, k3, oe, vs, T, oT, ts', he, hz, hd, h1, hr⟩ := id fl
        unfold PySem.passOn
        refine wpAny_bind (wpAny_field he hd h1 ?_)
        rw [if_neg (show ¬ ((Value.ref T == Value.none) = true) from by simp)]
        have fin : wpAny (model X.prog X.w) X.A (setFlight (.ref a) X.env.frame) (fun _ s4 => wpAny (model X.prog X.w) X.A (throw (.ref a) : Sem Flow) (SP X pins D) X.xe s4) X.xe { s' with heap := h } := by
          rw [hf]
          refine HandSPX.setFlight_upZ fl fun h4 hh4 up4 => wpAny_throw (tk _ _ ?_)
          exact ⟨a, B, sI, pins, σ', H', cls, d, rfl, J, nb, upT.trans up4, .inr (.inr (by rw [hs]; exact hh4)), na, os, ag, w⟩
        first
          | exact wpAny_bind (wpAny_pure (wpAny_bind fin))
          | exact wpAny_bind fin
      | @cons0 te tup cs ts b₀ suite pos' hds2 l2 ht hsu r ih =>
        intro w h fl upT
        obtain ⟨b, hb1, hyes, hno⟩ := w
        obtain ⟨oe, vs, he, hz, hd⟩ := fl.there
        have J3 : Inv X pins σ' H' { s' with heap := h } := J.landed nb fl.1 upT os ag
        have nfr := notFr fl.2.2.1 he hd
        have nL : a ≠ X.env.locals := fun z => nfr (List.mem_filterMap.mpr ⟨X.env, List.mem_cons_self, by rw [hf, z]⟩)
        have nF : a ∉ X.fs := fun hm => by
          obtain ⟨e, he, q⟩ := List.mem_filterMap.mp hm
          exact nfr (List.mem_filterMap.mpr ⟨e, List.mem_cons_of_mem _ he, q⟩)
        have S3 := J3.suite he hd na nL nF
        have LT : PySem.W.Looks (model X.prog X.w) h (typeOf (.ref a)) cls := fun A Q E s k q => wpAny_typeOf_ref (k _ _ he) (by rw [hz.1]; exact q)
        refine wpAny_handleBy_cons (codeAny_handlers_test ?_) (by intro q; cases q)
        refine test_is S3 ht hb1 LT fun h5 kp => ?_
        have fl5 := flyZ_keeps fl kp
        have up5 : sI.heap.UpToSlots h5 := upT.trans (Heap.UpToSlots.of_keeps kp)
        cases b with
        | true =>
          refine codeAny_handlers_suite ?_
          refine HandSPX.lands_againZ fl5 fun h4 fl4 up4 => ?_
          have J4 : Inv X pins σ' H' { s' with heap := h4 } := J.landed nb fl4.1 (up5.trans up4) os ag
          obtain ⟨oe4, vs4, he4, hz4, hd4⟩ := fl4.there
          have S4 := J4.suite he4 hd4 na nL nF
          refine wpAny_mono ((hsu a oe4 cls d (X.pn ++ pins) hz4 ⟨_, hd4⟩).run [] _ _ H' _ S4 (hyes rfl a na)) (fun f s6 hsp => ?_) (fun _ _ z => False.elim z)
          cases f with
          | next =>
            obtain ⟨σ6, H6, S6, q6⟩ := hsp
            exact ⟨_, _, S6.unsuite ok, q6⟩
          | brk =>
            obtain ⟨σ6, H6, S6, q6⟩ := hsp
            exact ⟨_, _, S6.unsuite ok, q6⟩
          | cont =>
            obtain ⟨σ6, H6, S6, q6⟩ := hsp
            exact ⟨_, _, S6.unsuite ok, q6⟩
          | ret u =>
            obtain ⟨v6, σ6, H6, S6, r6, q6⟩ := hsp
            exact ⟨_, _, _, S6.unsuite ok, r6, q6⟩
        | false =>
          show wpAny _ X.A (handleBy (.ref a) X.env hds2) _ _ _
          exact ih (hno rfl) h5 fl5 up5
      | @consA te tup cs ts b₀ suite pos' n i hds2 l2 ht hi hln hsu r ih =>
        intro w h fl upT
        obtain ⟨b, hb1, hyes, hno⟩ := w
        obtain ⟨oe, vs, he, hz, hd⟩ := fl.there
        have J3 : Inv X pins σ' H' { s' with heap := h } := J.landed nb fl.1 upT os ag
        have nfr := notFr fl.2.2.1 he hd
        have nL : a ≠ X.env.locals := fun z => nfr (List.mem_filterMap.mpr ⟨X.env, List.mem_cons_self, by rw [hf, z]⟩)
        have nF : a ∉ X.fs := fun hm => by
          obtain ⟨e, he, q⟩ := List.mem_filterMap.mp hm
          exact nfr (List.mem_filterMap.mpr ⟨e, List.mem_cons_of_mem _ he, q⟩)
        have S3 := J3.suite he hd na nL nF
        have LT : PySem.W.Looks (model X.prog X.w) h (typeOf (.ref a)) cls := fun A Q E s k q => wpAny_typeOf_ref (k _ _ he) (by rw [hz.1]; exact q)
        refine wpAny_handleBy_cons (codeAny_handlers_test ?_) (by intro q; cases q)
        refine test_is S3 ht hb1 LT fun h5 kp => ?_
        have fl5 := flyZ_keeps fl kp
        have up5 : sI.heap.UpToSlots h5 := upT.trans (Heap.UpToSlots.of_keeps kp)
        cases b with
        | true =>
          refine codeAny_handlers_suite_as ?_
          refine HandSPX.lands_againZ fl5 fun h4 fl4 up4 => ?_
          have J4 : Inv X pins σ' H' { s' with heap := h4 } := J.landed nb fl4.1 (up5.trans up4) os ag
          obtain ⟨oe4, vs4, he4, hz4, hd4⟩ := fl4.there
          have S4 := J4.suite he4 hd4 na nL nF
          refine store_ok (X := X.suite a ((a, oe4) :: (X.pn ++ pins))) (v := .ref a) S4 hN hi (.inl hln) rfl (fun s5 S5 => ?_) (.inr hln)
          refine wpAny_mono ((hsu a oe4 cls d (X.pn ++ pins) hz4 ⟨_, hd4⟩).run [] s5 _ H' _ S5 (hyes rfl a na)) (fun f s6 hsp => ?_) (fun _ _ z => False.elim z)
          have end_ : ∀ {σ6 : L2.St} {H6 : Hp} {Q : Shared → Prop}, Inv (X.suite a ((a, oe4) :: (X.pn ++ pins))) [] σ6 H6 s6 → (∀ s7, Inv X pins (σ6.set i none) H6 s7 → Q s7) →
              wpAny (model X.prog X.w) X.A (do bindName X.env n .none; unbindBehindTheSuite X.env n pos') (fun _ s7 => Q s7) X.xe s6 := fun {σ6 H6 Q} S6 hq => gone_ok (S6.unsuite ok) hN hi hln hq
          cases f with
          | next =>
            obtain ⟨σ6, H6, S6, q6⟩ := hsp
            exact end_ S6 fun s7 J7 => ⟨_, _, J7, q6⟩
          | brk =>
            obtain ⟨σ6, H6, S6, q6⟩ := hsp
            exact end_ S6 fun s7 J7 => ⟨_, _, J7, q6⟩
          | cont =>
            obtain ⟨σ6, H6, S6, q6⟩ := hsp
            exact end_ S6 fun s7 J7 => ⟨_, _, J7, q6⟩
          | ret u =>
            obtain ⟨v6, σ6, H6, S6, r6, q6⟩ := hsp
            exact end_ S6 fun s7 J7 => ⟨_, _, _, J7, r6, q6⟩
        | false =>
          show wpAny _ X.A (handleBy (.ref a) X.env hds2) _ _ _
          exact ih (hno rfl) h5 fl5 up5
    exact go hh w h3 fl3 (up.trans up3)
  · cases f with
    | next =>
      obtain ⟨σ', H', J', q⟩ := hsp
      exact wpAny_execs_nil ⟨σ', H', J'.ofTry ok, q⟩
    | brk =>
      obtain ⟨σ', H', J', q⟩ := hsp
      exact ⟨σ', H', J'.ofTry ok, q⟩
    | cont =>
      obtain ⟨σ', H', J', q⟩ := hsp
      exact ⟨σ', H', J'.ofTry ok, q⟩
    | ret u =>
      obtain ⟨v, σ', H', J', r, q⟩ := hsp
      exact ⟨v, σ', H', J'.ofTry ok, r, q⟩
end
end RS

/-! RsSnd5 -/
namespace RS
open PySem PySem.Spec
open PyProof.Rows L2

/-! ### the text's names by numbers -/
structure Nm where
  fn : Nat → Option Str
  cl : Nat → Option Str
  at_ : Nat → Option Str
  sh : Nat → Option (Nat × Nat × Nat × List Str)
  gl : Nat → Option Str
  fk : Nat → Option (Nat × Str × Nat × List Str)
  st : Nat → Option (Nat × Nat × Nat × Nat × List Str)
  xn : Nat → Option Str
  xi : Nat → Option Nat
  xo : Nat → Bool
theorem vis_of {sc : Scope} {x : Str} (h : visB sc x = true) : Vis sc x ∧ (x == ("__debug__" : Str)) = false ∧ (x == ("__classdict__" : Str)) = false := by
  unfold visB at h
  simp only [Bool.and_eq_true, Bool.not_eq_true'] at h
  obtain ⟨⟨h1, h2⟩, h3⟩ := h
  refine ⟨?_, h2, h3⟩
  cases e : sc.names.lookup x with
  | none => rw [e] at h1; cases h1
  | some k =>
    cases k with
    | «local» => exact .inl e
    | cell => exact .inr (.inl e)
    | free => exact .inr (.inr e)
    | _ => rw [e] at h1; cases h1
/-- what a called def keeps: from shared arguments, by the interpreter -/
def spF (k : Kc) (cal : Cl → R LD) (c : List D → Cl) : Sp := fun vs H Q E => ∃ Z ds, Zh Z H ∧ Shs k Z vs ds ∧ (match cal (c ds) with
  | .ok (lv, d) => lv ≤ 2 ∧ ∀ v Z' H' fp, Ext Z H Z' H' → Hd k Z' H' lv v d fp → New Z' H fp → Q v H'
  | .exc c fs => ∀ cls dd Z' H', Ext Z H Z' H' → XRep k Z' H' c fs cls dd → E cls dd H'
  | .bad => False)
/-- a def that is called by its name -/
structure FnKnown (k : Kc) (cal : Cl → R LD) (X : Cx) (lv : Nat) (f : Nat) (name : Str) (np : Nat) : Prop where
  ex : ∃ fa fd ps, X.mg name = some (.ref fa) ∧ PySem.W.keepIn X.K (.ref fa) = true ∧ Binds X.K fd ps [] ∧ ps.length = np ∧ FnOk X.prog X.w X.K X.mg X.base (L2.CX X.prog X.w) lv fa fd ps (spF k cal (.fn f))
/-- what an __init__ keeps -/
def spI (k : Kc) (cal : Cl → R LD) (c f : Nat) : Sp := fun vs H Q E => ∃ x dx Hb Z ds ws, vs = .ref x :: ws ∧ H = upd (upd Hb dx (.own x)) x (.ins (k.ca c) dx []) ∧ Hb x = none ∧ Hb dx = none ∧ dx ≠ x ∧ Zh Z Hb ∧ Shs k Z ws ds ∧ (match cal (.mk c f ds) with
  | .ok (lv, d) => ∀ Z' H' fp, lv = 0 → Ext Z Hb Z' H' → Hd (k.at_ x) Z' H' 5 (.ref x) d fp → New Z' Hb fp → Q .non H'
  | .exc c fs => ∀ cls dd Z' H', Ext Z Hb Z' H' → XRep k Z' H' c fs cls dd → E cls dd H'
  | .bad => False)
/-- a class's fields -/
structure ClsFacts (k : Kc) (nm : Nm) (c : Nat) : Prop where
  nd : (k.G.flds c).Nodup
  fld : ∀ f j x, fldIx (k.G.flds c) f = some j → nm.at_ f = some x →
    (k.sl c = false → Cls k.K (k.ca c) ∧ NoAttr k.K (k.ca c) x ∧ (k.fl c)[j]? = some x ∧ (k.fl c).Nodup ∧ (k.fl c).length = (k.G.flds c).length ∧ (k.fl c).length < 1000) ∧
    (k.sl c = true → SlX.SCls k.K (k.ca c) ∧ (k.fl c).length = (k.G.flds c).length ∧ (k.ix c).length = (k.G.flds c).length ∧ ∃ p i, SlX.Slot1 k.K (k.ca c) x p i ∧ (k.ix c)[j]? = some i ∧ (k.ix c).Nodup)
/-- a class's method -/
structure MethK (k : Kc) (cal : Cl → R LD) (X : Cx) (lv : Nat) (c : Nat) (x : Str) (f : Nat) : Prop where
  ex : ∃ g fd ps, Meth k.K (k.ca c) x g ∧ PySem.W.fnIn k.K g = true ∧ (k.sl c = false → Cls k.K (k.ca c) ∧ x ∉ k.fl c) ∧ (k.sl c = true → SlX.SCls k.K (k.ca c)) ∧ Binds X.K fd ps [] ∧
    FnOk X.prog X.w X.K X.mg X.base (L2.CX X.prog X.w) lv g fd ps (spF k cal (.fn f)) ∧ ∀ n, lv = n + 1 → FnOk X.prog X.w X.K X.mg X.base (L2.CX X.prog X.w) n g fd ps (spF k cal (.up f))
/-- a class that is called -/
structure MakeK (k : Kc) (cal : Cl → R LD) (X : Cx) (lv : Nat) (c f : Nat) (x : Str) (sh n : Nat) (ks : List Str) : Prop where
  ex : ∃ g fd ps gg gV, X.mg x = some (.ref (k.ca c)) ∧ Mk X.K (k.ca c) g ∧ KBn X.K fd ps (n + 1) ks gg gV ∧
    (∀ (Z : Hp) (y : V) (vs zs : List V) (ds es r : List D), k.G.asm sh ds es = some r → Shs k Z vs ds → Shs k Z zs es → vs.length = n → zs.length = ks.length → ∃ ws, gV (y :: vs) zs = y :: ws ∧ Shs k Z ws r) ∧
    ∀ m, lv = m + 1 → FnOk X.prog X.w X.K X.mg X.base (L2.CX X.prog X.w) m g fd ps (spI k cal c f)
/-- a def that is called with keywords, or with fewer values -/
structure FkK (k : Kc) (cal : Cl → R LD) (X : Cx) (lv : Nat) (f : Nat) (x : Str) (sh n : Nat) (ks : List Str) : Prop where
  ex : ∃ ga fd ps gg gV, X.mg x = some (.ref ga) ∧ PySem.W.keepIn X.K (.ref ga) = true ∧ KBn X.K fd ps n ks gg gV ∧
    (∀ (Z : Hp) (vs zs : List V) (ds es r : List D), k.G.asm sh ds es = some r → Shs k Z vs ds → Shs k Z zs es → vs.length = n → zs.length = ks.length → Shs k Z (gV vs zs) r) ∧
    FnOk X.prog X.w X.K X.mg X.base (L2.CX X.prog X.w) lv ga fd ps (spF k cal (.fn f))
/-- a static method: its record at p -/
structure StM (K : PySem.W.Frag) (C : Addr) (m : Str) (ga : Addr) : Prop where
  ex : ∃ mc p rest, ClX.CRead K C mc ∧ PySem.W.findCls K (.ref C) mc m = some (.get (.builtin "staticmethod.__get__") (.ref p) .none (.ref C)) ∧ PySem.W.recIn K p "staticmethod" = some (.ref ga :: rest)
structure StK (k : Kc) (cal : Cl → R LD) (X : Cx) (lv : Nat) (c f : Nat) (x m : Str) (sh n : Nat) (ks : List Str) : Prop where
  ex : ∃ ga fd ps gg gV, X.mg x = some (.ref (k.ca c)) ∧ StM X.K (k.ca c) m ga ∧ PySem.W.keepIn X.K (.ref ga) = true ∧ KBn X.K fd ps n ks gg gV ∧
    (∀ (Z : Hp) (vs zs : List V) (ds es r : List D), k.G.asm sh ds es = some r → Shs k Z vs ds → Shs k Z zs es → vs.length = n → zs.length = ks.length → Shs k Z (gV vs zs) r) ∧
    FnOk X.prog X.w X.K X.mg X.base (L2.CX X.prog X.w) lv ga fd ps (spF k cal (.fn f))
/-- a property -/
structure PropK (k : Kc) (cal : Cl → R LD) (X : Cx) (lv : Nat) (c : Nat) (x : Str) (f : Nat) : Prop where
  sl : k.sl c = false
  ex : ∃ p g fd ps, Cls k.K (k.ca c) ∧ PropOf k.K (k.ca c) x p g ∧ Binds X.K fd ps [] ∧ ∀ n, lv = n + 1 → FnOk X.prog X.w X.K X.mg X.base (L2.CX X.prog X.w) n g fd ps (spF k cal (.up f))
/-- the method m behind D, for the class C, at g -/
structure SupM (K : PySem.W.Frag) (C D : Addr) (m : Str) (g : Addr) : Prop where
  sub : PySem.W.mroIn K C (.ref D) = some true
  at_ : PySem.W.ks_superIn K C D m = some (some (.ref g))
  ty : PySem.W.typeIn K (.ref g) = some (.type "function")
  fi : PySem.W.fnIn K g = true
  nc : (m == ("__class__" : Str)) = false
/-- .. as it is known -/
structure SupK (k : Kc) (cal : Cl → R LD) (X : Cx) (lv : Nat) (c d : Nat) (x : Str) (f : Nat) : Prop where
  ex : ∃ g fd ps, SupM X.K (k.ca c) (k.ca d) x g ∧ Binds X.K fd ps [] ∧ FnOk X.prog X.w X.K X.mg X.base (L2.CX X.prog X.w) lv g fd ps (spF k cal (.fn f))
/-- a base's __init__ -/
structure SuiK (k : Kc) (cal : Cl → R LD) (X : Cx) (lv : Nat) (c d sh n : Nat) (ks : List Str) (f : Nat) : Prop where
  sl : k.sl c = false
  ex : ∃ g fd ps gg gV, SupM X.K (k.ca c) (k.ca d) "__init__" g ∧ KBn X.K fd ps (n + 1) ks gg gV ∧
    (∀ (Z : Hp) (y : V) (vs zs : List V) (ds es r : List D), k.G.asm sh ds es = some r → Shs k Z vs ds → Shs k Z zs es → vs.length = n → zs.length = ks.length → ∃ ws, gV (y :: vs) zs = y :: ws ∧ Shs k Z ws r) ∧
    ∀ m, lv = m + 1 → FnOk X.prog X.w X.K X.mg X.base (L2.CX X.prog X.w) m g fd ps (spI k cal c f)
/-! ### exceptions -/
/-- the number of ValueError -/
abbrev cVE : Nat := 900
def clV (k : Kc) (c : Nat) : Value := if c = cVE then .type "ValueError" else .ref (k.ca c)
/-- what isinstance asks of an exception's class -/
structure IxC (K : PySem.W.Frag) (C : Addr) : Prop where
  cl : (PySem.W.clsIn K C).isSome = true
  cc : PySem.W.findIn K (.ref C) "__class__" = some (some (.builtin "object.__class__"))
  cg : PySem.W.specialIn K (.builtin "object.__class__") "__get__" = some (some (.builtin "getset_descriptor.__get__"))
  ct : PySem.W.takesIn K (.builtin "object.__class__") = some true
  cm : PySem.W.mroIn K C (.type "object") = some true
/-- an exception's class -/
structure XcC (k : Kc) (nm : Nm) (c : Nat) : Prop where
  ox : OexC k.K (k.ca c)
  xf : XfC k.K (k.ca c)
  ix : IxC k.K (k.ca c)
  fl : ∀ f j y, fldIx (k.G.xfl c) f = some j → nm.at_ f = some y → (k.fl c)[j]? = some y ∧ PySem.W.findIn k.K (.ref (k.ca c)) y = some none
  nd : (k.fl c).Nodup ∧ (k.fl c).length = (k.G.xfl c).length
/-- what an exception's own __init__ keeps: self is an exception that is being made, its class at C; fl: the fields, the last one first -/
def spX (C : Addr) (fl : List Str) : Sp := fun vs H Q E => ∃ a ws, vs = .ref a :: ws ∧ ws.length = fl.length ∧ H a = some (exo a C none) ∧ ∀ d, H d = none → d ≠ a → Q .non (upd (upd H d (exd d (fl.zip ws.reverse))) a (exo a C (some d)))
/-- an exception with fields is made -/
structure XiK (k : Kc) (X : Cx) (c n : Nat) : Prop where
  ex : ∃ fI fd ps, PySem.W.findIn k.K (.ref (k.ca c)) "__init__" = some (some (.ref fI)) ∧ PySem.W.typeIn k.K (.ref fI) = some (.type "function") ∧ Binds X.K fd ps [] ∧ n = (k.fl c).length ∧ FnOk X.prog X.w X.K X.mg X.base (L2.CX X.prog X.w) 1 fI fd ps (spX (k.ca c) (k.fl c))
/-- .. with a text alone -/
def xoIn (K : PySem.W.Frag) (C : Addr) : Bool := PySem.W.excIn K C [.type "ValueError", .type "Exception", .type "BaseException", .type "object"] "ValueError.__new__"
/-- the context of a piece of text -/
structure Gd (k : Kc) (nm : Nm) (cal : Cl → R LD) (np : Nat → Nat) (lv : Nat) (N : List Str) (sc : Scope) (X : Cx) (W : WX) : Prop where
  hK : k.K = X.K
  hN : X.N = N
  nd : N.Nodup
  sc : X.env.scope = sc
  calm : X.calm = true
  room : Room lv X.A
  free : ∀ x ∈ freeN, X.mg x = none
  tk : Takes X W
  own : PassesOwn (model X.prog X.w) X.A X.env X.xe
  fns : ∀ f x, nm.fn f = some x → FnKnown k cal X lv f x (np f)
  spc : nm.at_ mLen = some "__len__" ∧ nm.at_ mGet = some "__getitem__" ∧ nm.at_ mCall = some "__call__"
  low : lv = 0 → ∀ c, cal c = .bad
  cls : ∀ c, ClsFacts k nm c
  mth : ∀ c m f x, k.G.meth c m = some f → nm.at_ m = some x → MethK k cal X lv c x f
  mks : ∀ c sh n ks f x, nm.cl c = some x → nm.sh sh = some (c, f, n, ks) → MakeK k cal X lv c f x sh n ks
  con : ∀ gn x d, nm.gl gn = some x → k.G.glo gn = some d → (∃ i t, d = .int i ∧ X.mg x = some (.int i t)) ∨ ∃ y t, d = .str y ∧ X.mg x = some (.str y t)
  sup : ∀ c d m f x, k.G.sup c d m = some f → nm.at_ m = some x → m ≠ mIni → SupK k cal X lv c d x f
  sui : ∀ c d sh cb n ks f, k.G.sup c d mIni = some f → nm.sh sh = some (cb, f, n, ks) → SuiK k cal X lv c d sh n ks f
  prp : ∀ c m f x, k.G.prp c m = some f → nm.at_ m = some x → PropK k cal X lv c x f
  itr : ∀ c F, k.G.itr c = some F → ItK k nm.at_ X c F
  fks : ∀ sh f x n ks, nm.fk sh = some (f, x, n, ks) → FkK k cal X lv f x sh n ks
  sts : ∀ sh c m f n ks x y, nm.st sh = some (c, m, f, n, ks) → nm.cl c = some x → nm.at_ m = some y → StK k cal X lv c f x y sh n ks
  eqn : nm.at_ mEq = some "__eq__"
  eqi : ∀ c e, k.G.eqk c (some e) = true → PySem.W.notFirst X.K (k.ca c) (.ref (k.ca e)) = true
  eqd : ∀ c, k.G.eqk c none = true → ∀ T ∈ dTys, PySem.W.notFirst X.K (k.ca c) (.type T) = true
  isi : ∀ c e b x, nm.cl c = some x → k.G.isk c (some e) = some b → X.mg x = some (.ref (k.ca c)) ∧ PySem.W.kitOne X.K (.ref (k.ca e)) (.ref (k.ca c)) = some b ∧ IsE X.K (k.ca e)
  isd : ∀ c b x, nm.cl c = some x → k.G.isk c none = some b → X.mg x = some (.ref (k.ca c)) ∧ ∀ T ∈ dTys, PySem.W.kitOne X.K (.type T) (.ref (k.ca c)) = some b
  ccn : ∀ c f x y d, nm.cl c = some x → nm.at_ f = some y → k.G.con c f = some d → ∃ i mc u, d = .int i ∧ X.mg x = some (.ref (k.ca c)) ∧ ClX.CRead X.K (k.ca c) mc ∧ ClX.CVal X.K (k.ca c) mc y (.int i) u
  dep : ∀ m, cal (.dep m) ≠ .bad → m < lv
  xnm : ∀ c x, c ≠ cVE → nm.xn c = some x → X.mg x = some (.ref (k.ca c))
  xcs : ∀ c x, c ≠ cVE → nm.xn c = some x → XcC k nm c
  xve : ∀ x, nm.xn cVE = some x → x = "ValueError"
  exm : ∀ d c b, k.G.exm d c = some b → c ≠ cVE ∧ (∃ x, nm.xn c = some x) ∧ (∃ x, nm.xn d = some x) ∧ PySem.W.exmOne k.K (.ref (k.ca c)) (clV k d) = some b ∧ PySem.W.kitOne k.K (.ref (k.ca c)) (clV k d) = some b
  xos : ∀ c, nm.xo c = true → xoIn k.K (k.ca c) = true
  xis : ∀ c n, nm.xi c = some n → XiK k X c n
section
variable {k : Kc} {nm : Nm} {cal : Cl → R LD} {np : Nat → Nat} {lv : Nat} {N : List Str} {sc : Scope} {X : Cx} {W : WX} {Z0 H0 : Hp}
theorem Gd.gl (g : Gd k nm cal np lv N sc X W) {x : Str} (h : glB sc x = true) : Gl X x ∧ (x == ("__debug__" : Str)) = false := by
  unfold glB at h
  simp only [Bool.and_eq_true, decide_eq_true_eq, Bool.not_eq_true'] at h
  refine ⟨?_, h.2⟩
  show X.env.scope.names.lookup x = _
  rw [g.sc]
  exact h.1
theorem Gd.blk (g : Gd k nm cal np lv N sc X W) (s : Shared) (H : Hp) (scope : Scope) (C : Addr) (cl : List (Str × Addr)) (fp : List Addr) :
    Gd k nm cal np lv N (relS scope sc) (X.blk s H scope (compEnvC scope cl C X.env) fp) (fun _ _ _ _ => False) where
  hK := g.hK
  hN := g.hN
  nd := g.nd
  sc := by rw [← g.sc]; rfl
  calm := g.calm
  room := g.room
  free := g.free
  tk := fun u s' ⟨_, _, _, _, _, _, _, _, _, _, _, _, _, _, _, _, w⟩ => w.elim
  own := PassesOwn.never
  fns := fun f x h => ⟨(g.fns f x h).ex⟩
  spc := g.spc
  low := g.low
  cls := g.cls
  mth := fun c m f x h1 h2 => ⟨(g.mth c m f x h1 h2).ex⟩
  mks := fun c sh n ks f x h1 h2 => ⟨(g.mks c sh n ks f x h1 h2).ex⟩
  con := g.con
  sup := fun c d m f x h1 h2 h3 => ⟨(g.sup c d m f x h1 h2 h3).ex⟩
  sui := fun c d sh cb n ks f h1 h2 => ⟨(g.sui c d sh cb n ks f h1 h2).sl, (g.sui c d sh cb n ks f h1 h2).ex⟩
  prp := fun c m f x h1 h2 => ⟨(g.prp c m f x h1 h2).sl, (g.prp c m f x h1 h2).ex⟩
  itr := fun c F h => ⟨(g.itr c F h).ex⟩
  fks := fun sh f x n ks h => ⟨(g.fks sh f x n ks h).ex⟩
  sts := fun sh c m f n ks x y h1 h2 h3 => ⟨(g.sts sh c m f n ks x y h1 h2 h3).ex⟩
  eqn := g.eqn
  eqi := g.eqi
  eqd := g.eqd
  isi := g.isi
  isd := g.isd
  ccn := g.ccn
  dep := g.dep
  xnm := g.xnm
  xcs := g.xcs
  xve := g.xve
  exm := g.exm
  xos := g.xos
  xis := fun c n h => ⟨(g.xis c n h).ex⟩

/-! ### values -/
theorem snd_const {e : Expr} {v : V} {d : D} (hs : ∀ Z, Sh k Z v d) (h : PE X e (tC v)) : PE X e (tE k Z0 H0 W (fun _ => .ok (0, d))) := PE.imp h fun σ H Q ⟨Z, ε, F, rel, q⟩ =>
  q v Z H [] (Ext.refl rel.zh) ⟨hs Z, rfl⟩ New.nil
theorem snd_var (g : Gd k nm cal np lv N sc X W) {i : Nat} {x : Str} {pos : Pos} (hx : N[i]? = some x) (hv : visB sc x = true) : PE X (.Name x pos) (tE k Z0 H0 W fun ε => getS ε i) := by
  obtain ⟨v1, v2, v3⟩ := vis_of hv
  refine PE.imp (pe_var (i := i) (by rw [g.hN]; exact hx) (by rw [g.sc]; exact v1) v2 v3) fun σ H Q ⟨Z, ε, F, rel, q⟩ => ?_
  have q : After k W σ Z H (getS ε i) (Gets k F Z H Q) := q
  unfold getS at q
  cases e : ε[i]? with
  | none => rw [e] at q; exact q.elim
  | some o =>
    cases o with
    | none => rw [e] at q; exact q.elim
    | some p =>
      obtain ⟨l, d⟩ := p
      rw [e] at q
      obtain ⟨v, ev, hd⟩ := rel.sl i _ e
      have hv : σ[i]? = some (some v) := by
        cases e2 : σ[i]? with
        | none => rw [e2] at ev; cases ev
        | some o => rw [e2] at ev; rw [show o = some v from ev]
      refine ⟨v, hv, ?_⟩
      match l, hd with
      | 0, hd => exact q v Z H [] (Ext.refl rel.zh) ⟨hd.1, rfl⟩ New.nil
      | 1, hd => exact q v Z H [] (Ext.refl rel.zh) ⟨rfl, F i, hd, fun a m => ⟨i, m⟩, rel.nd i⟩ New.nil
      | 2, hd => exact q v Z H [] (Ext.refl rel.zh) ⟨rfl, F i, hd, fun a m => ⟨i, m⟩, rel.nd i⟩ New.nil
      | 5, hd => exact q.elim
      | 6, hd => exact q.elim
      | 3, hd => exact hd.elim
      | 4, hd => exact hd.elim
      | n + 7, hd => exact hd.elim
theorem snd_bin (g : Gd k nm cal np lv N sc X W) {a b : Expr} {ra rb : En → R LD} {op : Bop} {pos : Pos} (ha : PE X a (tE k Z0 H0 W ra)) (hb : PE X b (tE k Z0 H0 W rb)) :
    PE X (.BinOp a (opP op) b pos) (tE k Z0 H0 W fun ε => (ra ε).bind fun x => (rb ε).bind fun y => bopV op x y) :=
  PE.imp (pe_op anyR_ok ha hb) (tE_two (bop_get g.hK op) (bop_calm op))
theorem Gd.units (g : Gd k nm cal np lv N sc X W) : X.A.units + 65 < cLine := by
  have := g.room.un
  omega
theorem snd_cmp (g : Gd k nm cal np lv N sc X W) {a b : Expr} {ra rb : En → R LD} {op : Cop} {pos : Pos} (ha : PE X a (tE k Z0 H0 W ra)) (hb : PE X b (tE k Z0 H0 W rb)) (hm : behindInMarks (copP op) b = false) :
    PE X (.Compare a [copP op] [b] pos) (tE k Z0 H0 W fun ε => (ra ε).bind fun x => (rb ε).bind fun y => copV op x y) :=
  PE.imp (pe_cmpR anyR_ok ha hb hm) (tE_two (cop_get g.hK g.units op) (cop_calm op))
/-- a value made, as a truth value -/
theorem tE_asB {r : En → R LD} (σ : L2.St) (H : Hp) (Q : Bool → Hp → Prop) (h : tT k Z0 H0 W (fun ε => (r ε).bind asB) σ H Q) : tE k Z0 H0 W r σ H fun x H1 => ∃ c, x = .bl c ∧ Q c H1 := by
  obtain ⟨Z, ε, F, rel, h⟩ := h
  refine ⟨Z, ε, F, rel, (After.bind h).imp fun x ex h => ?_⟩
  intro v Z1 H1 fp e1 t1 n1
  obtain ⟨l, d⟩ := x
  cases d with
  | bl b => exact ⟨b, t1.bl, h Z1 H1 e1⟩
  | _ => exact h.elim
theorem snd_cmpT (g : Gd k nm cal np lv N sc X W) {a b : Expr} {ra rb : En → R LD} {op : Cop} {pos : Pos} (ha : PE X a (tE k Z0 H0 W ra)) (hb : PE X b (tE k Z0 H0 W rb)) (hm : behindInMarks (copP op) b = false) :
    PT X (.Compare a [copP op] [b] pos) (tT k Z0 H0 W fun ε => ((ra ε).bind fun x => (rb ε).bind fun y => copV op x y).bind asB) :=
  PT.imp (pt_cmpR anyR_ok ha hb hm) fun σ H Q h => tE_two (cop_get g.hK g.units op) (cop_calm op) σ H _ (tE_asB σ H Q h)
theorem cop_bl {op : Cop} {y z q : LD} (eo2 : copV op y z = .ok q) : ∃ b, q = (0, .bl b) := by
  obtain ⟨ly, dy⟩ := y
  obtain ⟨lz, dz⟩ := z
  unfold copV at eo2
  dsimp only at eo2
  have bb : ∀ {x : R Bool} {f : Bool → R LD}, x.bind f = .ok q → (∀ b, ∃ b', f b = .ok (0, .bl b') ∨ f b = .bad) → ∃ b, q = (0, .bl b) := fun {x f} e hf => by
    obtain ⟨b, _, e2⟩ := bindB_ok e
    obtain ⟨b', hb | hb⟩ := hf b
    · rw [hb] at e2; cases e2; exact ⟨_, rfl⟩
    · rw [hb] at e2; cases e2
  repeat' split at eo2
  all_goals first
    | (cases eo2; exact ⟨_, rfl⟩)
    | (cases eo2; done)
    | exact bb eo2 fun b => ⟨_, .inl rfl⟩
/-- a chain of two -/
theorem chain_imp (g : Gd k nm cal np lv N sc X W) {o1 o2 : Cop} {ra rb rc : En → R LD} (σ : L2.St) (H : Hp) (Q : VK)
    (h : tE k Z0 H0 W (fun ε => (ra ε).bind fun x => (rb ε).bind fun y => (copV o1 x y).bind fun r => (asB r).bind fun c => if c then (rc ε).bind fun z => copV o2 y z else okB false) σ H Q) :
    tChain (anyR X (compareOp (copP o1))) (anyR X (compareOp (copP o2))) (tE k Z0 H0 W ra) (tE k Z0 H0 W rb) (tE k Z0 H0 W rc) σ H Q := by
  obtain ⟨Z, ε, F, rel, h⟩ := h
  refine ⟨Z, ε, F, rel, (After.bind h).imp fun x ex h => ?_⟩
  intro v1 Z1 H1 f1 e1 t1 n1
  refine ⟨Z1, ε, F, rel.ext e1, (After.bind h).ext e1 fun y ey h => ?_⟩
  intro v2 Z2 H2 f2 e2 t2 n2
  cases eo : copV o1 x y with
  | bad => rw [eo] at h; exact h.elim
  | exc c fs => exact absurd eo (cop_calm o1 x y c fs)
  | ok r =>
    rw [eo] at h
    refine cop_get g.hK g.units o1 Z2 H2 F x y v1 v2 f1 f2 _ e2.zh (t1.mono e2) t2 r eo fun v Z3 H3 fp e3 t3 nd hfp => ?_
    obtain ⟨l, d⟩ := r
    cases d with
    | bl c =>
      refine ⟨c, t3.bl, ?_⟩
      have h : After k W σ Z H (if c = true then (rc ε).bind fun z => copV o2 y z else okB false) (Gets k F Z H Q) := h
      have n2' : New Z2 H (f1 ++ f2) := (n1.ext t1.there e2).join t1.there n2 e1.h
      cases c with
      | false =>
        simp only [Bool.false_eq_true, if_false] at h ⊢
        exact h (.bl false) Z3 H3 [] ((e1.trans e2).trans e3) ⟨.bl _, rfl⟩ New.nil
      | true =>
        simp only [if_true] at h ⊢
        refine ⟨Z3, ε, F, ((rel.ext e1).ext e2).ext e3, (After.bind h).ext ((e1.trans e2).trans e3) fun z ez h => ?_⟩
        intro v4 Z4 H4 f4 e4 t4 n4
        cases eo2 : copV o2 y z with
        | bad => rw [eo2] at h; exact h.elim
        | exc c fs => exact absurd eo2 (cop_calm o2 y z c fs)
        | ok q =>
          rw [eo2] at h
          refine cop_get g.hK g.units o2 Z4 H4 F y z v2 v4 f2 f4 Q e4.zh ((t2.mono e3).mono e4) t4 q eo2 fun v5 Z5 H5 f5 e5 t5 nd5 h5 => ?_
          have hq : f5 = [] := by
            obtain ⟨b, e⟩ := cop_bl eo2
            subst e
            exact t5.2
          subst hq
          exact h v5 Z5 H5 [] ((((e1.trans e2).trans e3).trans e4).trans e5) t5 New.nil
    | _ => exact h.elim
end
end RS

/-! RsSnd6 -/
namespace RS
open PySem PySem.Spec
open PyProof.Rows L2
section
variable {k : Kc} {nm : Nm} {cal : Cl → R LD} {np : Nat → Nat} {lv : Nat} {N : List Str} {sc : Scope} {X : Cx} {W : WX} {Z0 H0 : Hp}

/-! ### sharing -/
/-- what stands at fp is fixed from now on -/
def zjoin (Z H : Hp) (fp : List Addr) : Hp := fun a => if a ∈ fp then H a else Z a
theorem zjoin_in {Z H : Hp} {fp : List Addr} {a : Addr} (m : a ∈ fp) : zjoin Z H fp a = H a := if_pos m
theorem zjoin_out {Z H : Hp} {fp : List Addr} {a : Addr} (m : a ∉ fp) : zjoin Z H fp a = Z a := if_neg m
theorem zjoin_sub {Z H : Hp} {fp : List Addr} (zh : Zh Z H) : ∀ a o, Z a = some o → zjoin Z H fp a = some o := fun a o e => by
  by_cases m : a ∈ fp
  · rw [zjoin_in m]; exact zh a o e
  · rw [zjoin_out m]; exact e
theorem zjoin_zh {Z H : Hp} {fp : List Addr} (zh : Zh Z H) : Zh (zjoin Z H fp) H := fun a o e => by
  by_cases m : a ∈ fp
  · rw [zjoin_in m] at e; exact e
  · rw [zjoin_out m] at e; exact zh a o e
theorem Ext.freeze {Z H Z' H' : Hp} {fp : List Addr} (e : Ext Z H Z' H') (n : ∀ a ∈ fp, H a = none) : Ext Z H (zjoin Z' H' fp) H' := by
  refine ⟨e.h, fun a o q => zjoin_sub e.zh a o (e.z a o q), fun a o q => ?_, zjoin_zh e.zh⟩
  rw [zjoin_out fun m => by rw [n a m] at q; cases q]
  exact e.n a o q
theorem Hd.share {Z H Z' : Hp} {lv : Nat} {v : V} {d : D} {fp : List Addr} (x : Hd k Z H lv v d fp) (z : ∀ a o, Z a = some o → Z' a = some o) (h : ∀ a ∈ fp, Z' a = H a) (hl : lv ≤ 5 := by omega) : Sh k Z' v d := by
  match lv, x, hl with
  | 0, x, _ => exact x.1.mono z
  | 1, ⟨b, xs, ds, h1, h2, h3, h4, h5⟩, _ => subst h1; subst h2; exact .lst ((h b (by rw [h5]; simp)).trans h3) (h4.mono z)
  | 2, x, _ => exact Ow.share z h x
  | 5, ⟨b, dx, c, vs, ds, ⟨h1, _⟩, h2, h3, h4, h5⟩, _ => subst h1; subst h2; exact .ins (h3.insAt (h b (by rw [h5]; simp)) (h dx (by rw [h5]; simp))) (h4.mono z)
  | 3, x, _ => exact x.elim
  | 4, x, _ => exact x.elim
  | n + 6, x, hl => omega
/-- a value at most new: it may be shared -/
theorem RelT.hd {Z H : Hp} {F : Nat → List Addr} {lv : Nat} {v : V} {d : D} {fp : List Addr} (x : RelT k Z H F lv v d fp) (h : lv ≤ 2) : Hd k Z H lv v d fp := by
  match lv, x with
  | 0, x => exact x
  | 1, x => exact x
  | 2, x => exact x
  | n + 3, x => omega
theorem shrs_ok {Z H Z' : Hp} {F : Nat → List Addr} : ∀ {xs : List LD} {ds : List D} {vs : List V} {fp : List Addr}, shrs xs = .ok ds → RelTs k Z H F vs xs fp → (∀ a o, Z a = some o → Z' a = some o) → (∀ a ∈ fp, Z' a = H a) → Shs k Z' vs ds
  | [], ds, _, _, h, .nil, _, _ => by cases h; exact .nil
  | x :: r, ds, _, _, h, .cons t tr, z, hf => by
    unfold shrs at h
    unfold shr at h
    by_cases hl : x.1 ≤ 2
    · rw [if_pos hl] at h
      change (shrs r).bind (fun es => R.ok (x.2 :: es)) = R.ok ds at h
      cases e : shrs r with
      | ok es =>
        rw [e] at h
        cases h
        exact .cons ((t.hd hl).share z fun a m => hf a (List.mem_append_left _ m)) (shrs_ok e tr z fun a m => hf a (List.mem_append_right _ m))
      | exc c fs => rw [e] at h; cases h
      | bad => rw [e] at h; cases h
    · rw [if_neg hl] at h; cases h
theorem shrs_ows {Z H : Hp} {F : Nat → List Addr} : ∀ {xs : List LD} {ds : List D} {vs : List V} {fp : List Addr}, shrs xs = .ok ds → packL xs = true → RelTs k Z H F vs xs fp → Ows k Z H vs ds fp
  | [], ds, _, _, h, _, .nil => by cases h; exact .nil
  | x :: r, ds, _, _, h, hp, .cons t tr => by
    unfold shrs at h
    unfold shr at h
    simp only [packL, Bool.and_eq_true, Bool.or_eq_true, beq_iff_eq] at hp
    by_cases hl : x.1 ≤ 2
    · rw [if_pos hl] at h
      change (shrs r).bind (fun es => R.ok (x.2 :: es)) = R.ok ds at h
      cases e : shrs r with
      | ok es =>
        rw [e] at h
        cases h
        refine .cons ?_ (shrs_ows e hp.2 tr)
        obtain ⟨l, d⟩ := x
        have hd := t.hd hl
        rcases hp.1 with h1 | h1
        · dsimp only at h1; subst h1; exact hd
        · match l, hd with
          | 0, hd => rw [hd.2]; exact .sh hd.1 h1
          | 1, ⟨b, xs, ds, _, h2, _⟩ => dsimp only at h2 h1; subst h2; simp [D.lf] at h1
          | 2, hd => exact hd
          | n + 3, _ => exact absurd hl (by show ¬ n + 3 ≤ 2; omega)
      | exc c fs => rw [e] at h; cases h
      | bad => rw [e] at h; cases h
    · rw [if_neg hl] at h; cases h
theorem shrs_calm : ∀ xs : List LD, Calm (shrs xs)
  | [] => fun c fs e => by cases e
  | x :: r => fun c fs e => by
    unfold shrs shr at e
    by_cases hl : x.1 ≤ 2
    · rw [if_pos hl] at e
      change (shrs r).bind (fun es => R.ok (x.2 :: es)) = _ at e
      cases e2 : shrs r with
      | ok es => rw [e2] at e; cases e
      | exc c fs => exact shrs_calm r c fs e2
      | bad => rw [e2] at e; cases e
    · rw [if_neg hl] at e; cases e
theorem pack_calm (xs : List LD) : Calm (pack xs) := by
  intro c fs e
  unfold pack at e
  cases e2 : shrs xs with
  | ok ds => rw [e2] at e; change (if _ then _ else _) = _ at e; split at e <;> cases e
  | exc c fs => exact shrs_calm xs c fs e2
  | bad => rw [e2] at e; cases e
/-- a display's list -/
theorem pack_get {Z H : Hp} {F : Nat → List Addr} {xs : List LD} {vs : List V} {fp : List Addr} {Q : VK} {z : LD} {Zi Hi : Hp} (zh : Zh Z H) (ez : pack xs = .ok z) (ts : RelTs k Z H F vs xs fp) (n : New Z Hi fp) (e : Ext Zi Hi Z H)
    (g : Gets k F Zi Hi Q z) : vs.length ≤ sizeLine ∧ ∀ p, H p = none → Q (.ref p) (upd H p (.lst vs)) := by
  unfold pack at ez
  cases es : shrs xs with
  | exc c fs => exact absurd es (shrs_calm xs c fs)
  | bad => rw [es] at ez; cases ez
  | ok ds =>
    rw [es] at ez
    change (if ds.length ≤ lim then R.ok (if packL xs = true then 2 else 1, D.lst ds) else .bad) = _ at ez
    split at ez
    · rename_i hl
      have sh := shrs_ok es ts (zjoin_sub zh) (fun a m => zjoin_in m)
      refine ⟨lim_line (by rw [sh.length]; exact hl), fun p hp => ?_⟩
      have pn : p ∉ fp := fun m => by
        obtain ⟨o, q⟩ := ts.there p m
        rw [hp] at q; cases q
      have hip : Hi p = none := by
        cases q : Hi p with
        | none => rfl
        | some o => rw [e.h p o q] at hp; cases hp
      cases hpk : packL xs with
      | true =>
        rw [hpk] at ez
        cases ez
        have eL := Ext.layH (o := .lst vs) zh hp
        have ow := Ows.mono (Z' := Z) (H' := upd H p (.lst vs)) (fun _ _ q => q) (fun a _ o q => eL.h a o q) (shrs_ows es hpk ts)
        refine g (.ref p) Z _ (p :: fp) (e.trans eL) (Ow.lst upd_same ow) ⟨List.nodup_cons.mpr ⟨pn, n.nd⟩, fun a m => ?_, fun a m => ?_⟩
        · rcases List.mem_cons.mp m with rfl | m
          · exact hip
          · exact n.n a m
        · rcases List.mem_cons.mp m with rfl | m
          · exact zn zh hp
          · exact n.z a m
      | false =>
        rw [hpk] at ez
        cases ez
        have e1 := Ext.freeze e n.n
        have eL := Ext.layH (o := .lst vs) e1.zh hp
        refine g (.ref p) _ _ [p] (e1.trans eL) ⟨p, vs, ds, rfl, rfl, upd_same, sh, rfl⟩ ⟨by simp, fun a m => ?_, fun a m => ?_⟩
        · simp at m; subst m; exact hip
        · simp at m; subst m; exact zn e1.zh hp
    · cases ez
theorem snd_nil : PA X [] (tA k Z0 H0 W fun _ => .ok []) := PA.imp pa_nil fun σ H Q ⟨Z, ε, F, rel, q⟩ => q [] Z H [] (Ext.refl rel.zh) .nil New.nil
theorem snd_cons {e : Expr} {es : List Expr} {re : En → R LD} {rs : En → R (List LD)} (he : PE X e (tE k Z0 H0 W re)) (hs : PA X es (tA k Z0 H0 W rs)) (hst : starEach (e :: es) X.env = (false, eval e X.env) :: starEach es X.env) :
    PA X (e :: es) (tA k Z0 H0 W fun ε => (re ε).bind fun x => (rs ε).bind fun xs => .ok (x :: xs)) := PA.imp (pa_cons he hs hst) fun σ H Q ⟨Z, ε, F, rel, q⟩ => by
  refine ⟨Z, ε, F, rel, (After.bind q).imp fun x ex q => ?_⟩
  intro v1 Z1 H1 f1 e1 t1 n1
  refine ⟨Z1, ε, F, rel.ext e1, (After.bind q).ext e1 fun xs exs q => ?_⟩
  intro vs Z2 H2 f2 e2 t2 n2
  exact q (v1 :: vs) Z2 H2 (f1 ++ f2) (e1.trans e2) (.cons (t1.mono e2) t2) ((n1.ext t1.there e2).join t1.there n2 e1.h)
theorem snd_lst {es : List Expr} {rs : En → R (List LD)} {pos : Pos} (h : PA X es (tA k Z0 H0 W rs)) : PE X (.List es pos) (tE k Z0 H0 W fun ε => (rs ε).bind pack) := PE.imp (pe_lst h) fun σ H Q ⟨Z, ε, F, rel, q⟩ => by
  refine ⟨Z, ε, F, rel, (After.bind q).imp fun xs exs q => ?_⟩
  intro vs Z1 H1 fp e1 t1 n1
  cases ep : pack xs with
  | bad => rw [ep] at q; exact q.elim
  | exc c fs => exact absurd ep (pack_calm xs c fs)
  | ok z =>
    rw [ep] at q
    exact pack_get e1.zh ep t1 n1 e1 q
theorem snd_tup {es : List Expr} {rs : En → R (List LD)} {kk : Nat} {pos : Pos} (h : PA X es (tA k Z0 H0 W rs)) :
    PE X (.Tuple es kk pos) (tE k Z0 H0 W fun ε => (rs ε).bind fun xs => (shrs xs).bind fun ds => if ds.length ≤ lim then .ok (0, .tup ds) else .bad) := PE.imp (pe_tup h) fun σ H Q ⟨Z, ε, F, rel, q⟩ => by
  refine ⟨Z, ε, F, rel, (After.bind q).imp fun xs exs q => ?_⟩
  intro vs Z1 H1 fp e1 t1 n1
  cases ep : shrs xs with
  | bad => rw [ep] at q; exact q.elim
  | exc c fs => exact absurd ep (shrs_calm xs c fs)
  | ok ds =>
    rw [ep] at q
    have q : After k W σ Z H (if ds.length ≤ lim then R.ok (0, D.tup ds) else .bad) (Gets k F Z H Q) := q
    split at q
    · rename_i hl
      have sh := shrs_ok ep t1 (zjoin_sub e1.zh) (fun a m => zjoin_in m)
      refine ⟨lim_line (by rw [sh.length]; exact hl), fun p hp => ?_⟩
      have e2 := Ext.freeze e1 n1.n
      exact q (.ref p) _ _ [] (e2.trans (Ext.layZ e2.zh hp)) (new_tup e2.zh hp sh) New.nil
    · exact q.elim

/-! ### bools, choices -/
theorem snd_and {a b : Expr} {rest : List Expr} {ra rb : En → R LD} {pos : Pos} (ha : PE X a (tE k Z0 H0 W ra)) (hb : PE X (.BoolOp .And (b :: rest) pos) (tE k Z0 H0 W rb)) :
    PE X (.BoolOp .And (a :: b :: rest) pos) (tE k Z0 H0 W fun ε => (ra ε).bind fun x => (asB x).bind fun c => if c then rb ε else okB false) := PE.imp (pe_and ha hb) fun σ H Q ⟨Z, ε, F, rel, q⟩ => by
  refine ⟨Z, ε, F, rel, (After.bind q).imp fun x ex q => ?_⟩
  intro v1 Z1 H1 f1 e1 t1 n1
  obtain ⟨l, d⟩ := x
  cases d with
  | bl c =>
    refine ⟨c, t1.bl, ?_⟩
    have q : After k W σ Z H (if c = true then rb ε else okB false) (Gets k F Z H Q) := q
    cases c with
    | true =>
      simp only [if_true] at q ⊢
      exact ⟨Z1, ε, F, rel.ext e1, q.ext e1 fun y ey q v Z2 H2 f2 e2 t2 n2 => q v Z2 H2 f2 (e1.trans e2) t2 (n2.back e1.h)⟩
    | false =>
      simp only [Bool.false_eq_true, if_false] at q ⊢
      exact q _ Z1 H1 [] e1 ⟨.bl _, rfl⟩ New.nil
  | _ => exact q.elim
theorem snd_or {a b : Expr} {rest : List Expr} {ra rb : En → R LD} {pos : Pos} (ha : PE X a (tE k Z0 H0 W ra)) (hb : PE X (.BoolOp .Or (b :: rest) pos) (tE k Z0 H0 W rb)) :
    PE X (.BoolOp .Or (a :: b :: rest) pos) (tE k Z0 H0 W fun ε => (ra ε).bind fun x => (asB x).bind fun c => if c then okB true else rb ε) := PE.imp (pe_or ha hb) fun σ H Q ⟨Z, ε, F, rel, q⟩ => by
  refine ⟨Z, ε, F, rel, (After.bind q).imp fun x ex q => ?_⟩
  intro v1 Z1 H1 f1 e1 t1 n1
  obtain ⟨l, d⟩ := x
  cases d with
  | bl c =>
    refine ⟨c, t1.bl, ?_⟩
    have q : After k W σ Z H (if c = true then okB true else rb ε) (Gets k F Z H Q) := q
    cases c with
    | false =>
      simp only [Bool.false_eq_true, if_false] at q ⊢
      exact ⟨Z1, ε, F, rel.ext e1, q.ext e1 fun y ey q v Z2 H2 f2 e2 t2 n2 => q v Z2 H2 f2 (e1.trans e2) t2 (n2.back e1.h)⟩
    | true =>
      simp only [if_true] at q ⊢
      exact q _ Z1 H1 [] e1 ⟨.bl _, rfl⟩ New.nil
  | _ => exact q.elim
theorem snd_not {a : Expr} {ra : En → R LD} {pos : Pos} (ha : PE X a (tE k Z0 H0 W ra)) : PE X (.UnaryOp .Not a pos) (tE k Z0 H0 W fun ε => (ra ε).bind fun x => (asB x).bind fun c => okB (!c)) := PE.imp (pe_not ha) fun σ H Q ⟨Z, ε, F, rel, q⟩ => by
  refine ⟨Z, ε, F, rel, (After.bind q).imp fun x ex q => ?_⟩
  intro v1 Z1 H1 f1 e1 t1 n1
  obtain ⟨l, d⟩ := x
  cases d with
  | bl c => exact ⟨c, t1.bl, q _ Z1 H1 [] e1 ⟨.bl _, rfl⟩ New.nil⟩
  | _ => exact q.elim
theorem snd_ite {t a b : Expr} {rt : En → R Bool} {ra rb : En → R LD} {pos : Pos} (ht : PT X t (tT k Z0 H0 W rt)) (ha : PE X a (tE k Z0 H0 W ra)) (hb : PE X b (tE k Z0 H0 W rb)) :
    PE X (.IfExp t a b pos) (tE k Z0 H0 W fun ε => (rt ε).bind fun c => if c then ra ε else rb ε) := PE.imp (pe_ifExp ht ha hb) fun σ H Q ⟨Z, ε, F, rel, q⟩ => by
  refine ⟨Z, ε, F, rel, (After.bind q).imp fun c ec q => ?_⟩
  intro Z1 H1 e1
  cases c with
  | true =>
    simp only [if_true] at q ⊢
    exact ⟨Z1, ε, F, rel.ext e1, q.ext e1 fun y ey q v Z2 H2 f2 e2 t2 n2 => q v Z2 H2 f2 (e1.trans e2) t2 (n2.back e1.h)⟩
  | false =>
    simp only [Bool.false_eq_true, if_false] at q ⊢
    exact ⟨Z1, ε, F, rel.ext e1, q.ext e1 fun y ey q v Z2 H2 f2 e2 t2 n2 => q v Z2 H2 f2 (e1.trans e2) t2 (n2.back e1.h)⟩
theorem snd_neg {a : Expr} {ra : En → R LD} {pos : Pos} (ha : PE X a (tE k Z0 H0 W ra)) : PE X (.UnaryOp .USub a pos) (tE k Z0 H0 W fun ε => (ra ε).bind fun x => match x.2 with | .int i => okI (-i) | _ => .bad) :=
  PE.imp (pe_un un_neg ha) fun σ H Q ⟨Z, ε, F, rel, q⟩ => by
    refine ⟨Z, ε, F, rel, (After.bind q).imp fun x ex q => ?_⟩
    intro v1 Z1 H1 f1 e1 t1 n1
    obtain ⟨l, d⟩ := x
    cases d with
    | int i => exact ⟨i, t1.int, q _ Z1 H1 [] e1 ⟨.int _, rfl⟩ New.nil⟩
    | _ => exact q.elim

/-! ### subscripts -/
theorem snd_fz {a : Expr} {ra : En → R LD} (ha : PE X a (tE k Z0 H0 W ra)) : PE X a (tE k Z0 H0 W fun ε => (ra ε).bind fzV) := PE.imp ha fun σ H Q ⟨Z, ε, F, rel, h⟩ => by
  refine ⟨Z, ε, F, rel, (After.bind h).imp fun x ex h => ?_⟩
  intro v Z1 H1 fp e1 t1 n1
  unfold fzV at h
  split at h
  · rename_i hl
    have h : Gets k F Z H Q (0, x.2) := h
    have hd := t1.hd hl
    exact h v (zjoin Z1 H1 fp) H1 [] (e1.freeze n1.n) ⟨hd.share (zjoin_sub e1.zh) fun a m => zjoin_in m, rfl⟩ New.nil
  · exact h.elim
theorem snd_idx (g : Gd k nm cal np lv N sc X W) {a b : Expr} {ra rb : En → R LD} {pos : Pos} (ha : PE X a (tE k Z0 H0 W ra)) (hb : PE X b (tE k Z0 H0 W rb)) (hp : PlainIx b) :
    PE X (.Subscript a b pos) (tE k Z0 H0 W fun ε => (ra ε).bind fun x => (rb ε).bind fun y => idxV x y) := PE.imp (pe_ix anyIx_ok ha hb hp) fun σ H Q ⟨Z, ε, F, rel, h⟩ => by
  refine ⟨Z, ε, F, rel, (After.bind h).imp fun x ex h => ?_⟩
  intro v1 Z1 H1 f1 e1 t1 n1
  refine ⟨Z1, ε, F, rel.ext e1, (After.bind h).ext e1 fun y ey h => ?_⟩
  intro v2 Z2 H2 f2 e2 t2 n2
  cases eo : idxV x y with
  | bad => rw [eo] at h; exact h.elim
  | exc c fs => exact absurd eo (idx_calm x y c fs)
  | ok z =>
    rw [eo] at h
    have n1' : New Z2 H f1 := n1.ext t1.there e2
    refine idx_get g.hK e2.zh (t1.mono e2) n1.nd n1'.z t2 eo fun v Z3 H3 fp e3 t3 nd hfp => ?_
    have nn : New Z2 H (f1 ++ f2) := n1'.join t1.there n2 e1.h
    refine h v Z3 H3 fp ((e1.trans e2).trans e3) t3 ⟨nd, fun a m => ?_, fun a m => (hfp a m).2⟩
    rcases (hfp a m).1 with q | q
    · exact nn.n a q
    · cases e : H a with
      | none => rfl
      | some u => rw [(e1.trans e2).h a u e] at q; cases q
def tEo (k : Kc) (Z0 H0 : Hp) (W : WX) (r : En → R (Option Int)) : TO := fun σ H Q => ∃ Z ε F, RelS k Z0 H0 Z H σ ε F ∧ After k W σ Z H (r ε) fun b => ∀ Z' H', Ext Z H Z' H' → Q b H'
theorem PO.imp {X : Cx} {e : Option Expr} {t t' : TO} (h : PO X e t) (i : ∀ σ H Q, t' σ H Q → t σ H Q) : PO X e t' := ⟨fun pins s σ H Q I q => h.run pins s σ H Q I (i σ H Q q)⟩
theorem snd_onone : PO X none (tEo k Z0 H0 W fun _ => .ok none) := PO.imp po_none fun σ H Q ⟨Z, ε, F, rel, q⟩ => q Z H (Ext.refl rel.zh)
theorem snd_osome {e : Expr} {r : En → R LD} (h : PE X e (tE k Z0 H0 W r)) : PO X (some e) (tEo k Z0 H0 W fun ε => (r ε).bind fun x => match x.2 with | .int i => .ok (some i) | _ => .bad) :=
  PO.imp (po_some h) fun σ H Q ⟨Z, ε, F, rel, q⟩ => by
    refine ⟨Z, ε, F, rel, (After.bind q).imp fun x ex q => ?_⟩
    intro v1 Z1 H1 f1 e1 t1 n1
    obtain ⟨l, d⟩ := x
    cases d with
    | int i => exact ⟨i, t1.int, q Z1 H1 e1⟩
    | _ => exact q.elim
theorem slV_calm (x : LD) (l h : Option Int) : Calm (slV x l h) := by
  intro c fs e
  unfold slV at e
  repeat' split at e
  all_goals cases e
theorem snd_slc (g : Gd k nm cal np lv N sc X W) {a : Expr} {lo hi : Option Expr} {ra : En → R LD} {rl rh : En → R (Option Int)} {pos p2 : Pos} (ha : PE X a (tE k Z0 H0 W ra)) (hl : PO X lo (tEo k Z0 H0 W rl)) (hh : PO X hi (tEo k Z0 H0 W rh)) :
    PE X (.Subscript a (.Slice lo hi none p2) pos) (tE k Z0 H0 W fun ε => (ra ε).bind fun x => (rl ε).bind fun l => (rh ε).bind fun h => slV x l h) := PE.imp (pe_slice anySl_ok ha hl hh) fun σ H Q ⟨Z, ε, F, rel, q⟩ => by
  refine ⟨Z, ε, F, rel, (After.bind q).imp fun x ex q => ?_⟩
  intro v1 Z1 H1 f1 e1 t1 n1
  refine ⟨Z1, ε, F, rel.ext e1, (After.bind q).ext e1 fun l el q => ?_⟩
  intro Z2 H2 e2
  refine ⟨Z2, ε, F, (rel.ext e1).ext e2, (After.bind q).ext (e1.trans e2) fun h eh q => ?_⟩
  intro Z3 H3 e3
  cases eo : slV x l h with
  | bad => rw [eo] at q; exact q.elim
  | exc c fs => exact absurd eo (slV_calm x l h c fs)
  | ok z =>
    rw [eo] at q
    refine slc_get g.hK e3.zh ((t1.mono e2).mono e3) eo fun v Z4 H4 fp e4 t4 nd hfp => ?_
    refine q v Z4 H4 fp (((e1.trans e2).trans e3).trans e4) t4 ⟨nd, fun a m => ?_, fun a m => (hfp a m).2⟩
    rcases (hfp a m).1 with w | w
    · exact n1.n a w
    · cases e : H a with
      | none => rfl
      | some u => rw [((e1.trans e2).trans e3).h a u e] at w; cases w

/-! ### built-ins -/
theorem bi_imp (g : Gd k nm cal np lv N sc X W) {b : Bi} {rs : En → R (List LD)} (σ : L2.St) (H : Hp) (Q : VK) (h : tE k Z0 H0 W (fun ε => (rs ε).bind fun xs => if xs.all (fun a => a.1 ≤ 4) then biV b xs else .bad) σ H Q) :
    tCB (anyC X (biP b)) (tA k Z0 H0 W rs) σ H Q := by
  obtain ⟨Z, ε, F, rel, q⟩ := h
  refine ⟨Z, ε, F, rel, (After.bind q).imp fun xs ex q => ?_⟩
  intro vs Z1 H1 fp e1 t1 n1
  split at q
  · cases eo : biV b xs with
    | bad => rw [eo] at q; exact q.elim
    | exc c fs => exact absurd eo (bi_calm b xs c fs)
    | ok z =>
      rw [eo] at q
      refine bi_get g.hK g.calm e1.zh t1 eo fun v Z2 H2 f2 e2 t2 nd hfp => ?_
      refine q v Z2 H2 f2 (e1.trans e2) t2 ⟨nd, fun a m => ?_, fun a m => (hfp a m).2⟩
      rcases (hfp a m).1 with w | w
      · exact n1.n a w
      · cases e : H a with
        | none => rfl
        | some u => rw [e1.h a u e] at w; cases w
  · exact q.elim
def biN : Bi → Str
  | .len => "len" | .int1 => "int" | .abs => "abs" | .list => "list" | .tuple => "tuple" | .min2 => "min" | .max2 => "max" | .minL => "min" | .maxL => "max"
  | .sum => "sum" | .str1 => "str" | .sorted => "sorted" | .any => "any"
theorem snd_bi (g : Gd k nm cal np lv N sc X W) {b : Bi} {e : Expr} {es : List Expr} {rs : En → R (List LD)} {p pos : Pos} (hs : PA X (e :: es) (tA k Z0 H0 W rs)) (hg : glB sc (biN b) = true)
    (he : starEach (e :: es) X.env = (false, eval e X.env) :: starEach es X.env) (hpl : (backTo pos (starEach es X.env)).any (·.1) = false) :
    PE X (.Call (.Name (biN b) p) (e :: es) [] pos) (tE k Z0 H0 W fun ε => (rs ε).bind fun xs => if xs.all (fun a => a.1 ≤ 4) then biV b xs else .bad) := by
  obtain ⟨g1, g2⟩ := g.gl hg
  have hm : X.mg (biN b) = none := g.free _ (by cases b <;> decide)
  refine PE.imp ?_ (bi_imp g)
  cases b <;> first
    | exact pe_callB anyC_ok g1 hm (by decide +kernel) hs (by decide) g2 he hpl
    | exact pe_callTy anyC_ok g1 hm (by decide +kernel) hs (by decide) g2 he hpl
end
end RS

/-! RsSnd7 -/
namespace RS
open PySem PySem.Spec
open PyProof.Rows L2
section
variable {k : Kc} {nm : Nm} {cal : Cl → R LD} {np : Nat → Nat} {lv : Nat} {N : List Str} {sc : Scope} {X : Cx} {W : WX} {Z0 H0 : Hp}

/-! ### tests -/
def plainT : Expr → Bool
  | .UnaryOp .Not _ _ => false
  | .BoolOp _ _ _ => false
  | .IfExp _ _ _ _ => false
  | .Compare _ _ _ _ => false
  | _ => true
theorem plainT_eq : ∀ {e : Expr} {env : Env}, plainT e = true → ∀ whole, isTrue e env whole = (do let v ← whole; standAt e.pos; holding [v] (truthy v))
  | .UnaryOp op a p, env, h, w => by cases op <;> first | (cases h; done) | rfl
  | .BoolOp _ _ _, _, h, _ => by cases h
  | .IfExp _ _ _ _, _, h, _ => by cases h
  | .Compare _ _ _ _, _, h, _ => by cases h
  | .NamedExpr _ _ _, _, _, _ => rfl
  | .BinOp _ _ _ _, _, _, _ => rfl
  | .Lambda _ _ _ _, _, _, _ => rfl
  | .Dict _ _ _, _, _, _ => rfl
  | .Set _ _ _, _, _, _ => rfl
  | .ListComp _ _ _ _, _, _, _ => rfl
  | .SetComp _ _ _ _, _, _, _ => rfl
  | .DictComp _ _ _ _ _, _, _, _ => rfl
  | .GeneratorExp _ _ _ _, _, _, _ => rfl
  | .Await _ _, _, _, _ => rfl
  | .Yield _ _, _, _, _ => rfl
  | .YieldFrom _ _, _, _, _ => rfl
  | .Call _ _ _ _, _, _, _ => rfl
  | .FormattedValue _ _ _ _, _, _, _ => rfl
  | .JoinedStr _ _, _, _, _ => rfl
  | .Constant _ _ _, _, _, _ => rfl
  | .Attribute _ _ _, _, _, _ => rfl
  | .Subscript _ _ _, _, _, _ => rfl
  | .Starred _ _, _, _, _ => rfl
  | .Name _ _, _, _, _ => rfl
  | .List _ _, _, _, _ => rfl
  | .Tuple _ _ _, _, _, _ => rfl
  | .Slice _ _ _ _, _, _, _ => rfl
theorem snd_val {e : Expr} {r : En → R LD} (h : PE X e (tE k Z0 H0 W r)) (hp : plainT e = true) : PT X e (tT k Z0 H0 W fun ε => (r ε).bind asB) := PT.imp (pt_val h (plainT_eq hp)) tE_asB
theorem snd_tru (g : Gd k nm cal np lv N sc X W) {e : Expr} {r : En → R LD} (h : PE X e (tE k Z0 H0 W r)) (hp : plainT e = true) : PT X e (tT k Z0 H0 W fun ε => (r ε).bind fun x => if x.1 ≤ 4 then tru x else .bad) :=
  PT.imp (pt_truth h (plainT_eq hp)) fun σ H Q ⟨Z, ε, F, rel, q⟩ => by
    refine ⟨Z, ε, F, rel, (After.bind q).imp fun x ex q => ?_⟩
    intro v1 Z1 H1 f1 e1 t1 n1
    split at q
    · obtain ⟨l, d⟩ := x
      cases d with
      | non => exact ⟨false, by rw [t1.non]; rfl, q Z1 H1 e1⟩
      | bl b => exact ⟨b, by rw [t1.bl]; rfl, q Z1 H1 e1⟩
      | int i => exact ⟨i != 0, by rw [t1.int]; rfl, q Z1 H1 e1⟩
      | lst xs =>
        obtain ⟨a, ws, rfl, ha, r⟩ := t1.lst e1.zh
        have hl : ws.length = xs.length := by
          rcases r with ⟨_, r⟩ | ⟨_, f, r, _⟩
          · exact r.length
          · exact r.length
        have he : xs.isEmpty = ws.isEmpty := by
          cases xs <;> cases ws <;> simp at hl ⊢
        refine ⟨!xs.isEmpty, .inl ⟨ws, .inl (.inl ha), by rw [he]⟩, q Z1 H1 e1⟩
      | tup xs =>
        obtain ⟨a, ws, rfl, az, ha, r⟩ := t1.tup e1.zh
        have hl := r.length
        have he : xs.isEmpty = ws.isEmpty := by
          cases xs <;> cases ws <;> simp at hl ⊢
        rw [g.hK] at ha
        refine ⟨!xs.isEmpty, .inr (.inl ⟨ws, ha, by rw [he]⟩), q Z1 H1 e1⟩
      | _ => exact q.elim
    · exact q.elim
theorem snd_notT {e : Expr} {r : En → R Bool} {pos : Pos} (h : PT X e (tT k Z0 H0 W r)) : PT X (.UnaryOp .Not e pos) (tT k Z0 H0 W fun ε => (r ε).bind fun c => .ok (!c)) := PT.imp (pt_not h) fun σ H Q ⟨Z, ε, F, rel, q⟩ => by
  refine ⟨Z, ε, F, rel, (After.bind q).imp fun c ec q => ?_⟩
  intro Z1 H1 e1
  exact q Z1 H1 e1
theorem snd_andT {a b : Expr} {rest : List Expr} {ra rb : En → R Bool} {pos : Pos} (ha : PT X a (tT k Z0 H0 W ra)) (hb : PW X (.BoolOp .And (b :: rest) pos) (tT k Z0 H0 W rb)) :
    PW X (.BoolOp .And (a :: b :: rest) pos) (tT k Z0 H0 W fun ε => (ra ε).bind fun c => if c then rb ε else .ok false) := PW.imp (pw_and ha hb) fun σ H Q ⟨Z, ε, F, rel, q⟩ => by
  refine ⟨Z, ε, F, rel, (After.bind q).imp fun c ec q => ?_⟩
  intro Z1 H1 e1
  cases c with
  | true =>
    simp only [if_true] at q ⊢
    exact ⟨Z1, ε, F, rel.ext e1, q.ext e1 fun y ey q Z2 H2 e2 => q Z2 H2 (e1.trans e2)⟩
  | false =>
    simp only [Bool.false_eq_true, if_false] at q ⊢
    exact q Z1 H1 e1
theorem snd_orT {a b : Expr} {rest : List Expr} {ra rb : En → R Bool} {pos : Pos} (ha : PT X a (tT k Z0 H0 W ra)) (hb : PW X (.BoolOp .Or (b :: rest) pos) (tT k Z0 H0 W rb)) :
    PW X (.BoolOp .Or (a :: b :: rest) pos) (tT k Z0 H0 W fun ε => (ra ε).bind fun c => if c then .ok true else rb ε) := PW.imp (pw_or ha hb) fun σ H Q ⟨Z, ε, F, rel, q⟩ => by
  refine ⟨Z, ε, F, rel, (After.bind q).imp fun c ec q => ?_⟩
  intro Z1 H1 e1
  cases c with
  | false =>
    simp only [Bool.false_eq_true, if_false] at q ⊢
    exact ⟨Z1, ε, F, rel.ext e1, q.ext e1 fun y ey q Z2 H2 e2 => q Z2 H2 (e1.trans e2)⟩
  | true =>
    simp only [if_true] at q ⊢
    exact q Z1 H1 e1

/-! ### what is walked -/
/-- J walks through xs wherever C holds of the heaps -/
def Wk (k : Kc) (C : Hp → Hp → Prop) (J : It) (xs : List D) : Prop := ∀ Z H, C Z H → Zh Z H → ∀ i,
  (i < xs.length → J.go i H ∧ ∀ v H', J.yld i H v H' → ∃ Z' d, Ext Z H Z' H' ∧ xs[i]? = some d ∧ Sh k Z' v d) ∧ (i = xs.length → J.stop i H)
/-- where Z1 (and, of a comprehension, H1) stands -/
def Cw (st : Bool) (Z1 H1 : Hp) : Hp → Hp → Prop := fun Z H => (∀ a o, Z1 a = some o → Z a = some o) ∧ (st = false → ∀ a o, H1 a = some o → H a = some o)
def tI (k : Kc) (Z0 H0 : Hp) (W : WX) (st : Bool) (r : En → R (List D)) : TI := fun σ H Q => ∃ Z ε F, RelS k Z0 H0 Z H σ ε F ∧ After k W σ Z H (r ε) fun xs => ∀ J Z' H', Ext Z H Z' H' → Wk k (Cw st Z' H') J xs → Q J H'
theorem PI.imp {tg e : Expr} {t t' : TI} (h : PI X tg e t) (i : ∀ σ H R, t' σ H R → t σ H R) : PI X tg e t' := ⟨fun pins s σ H R I q => h.run pins s σ H R I (i σ H R q)⟩
theorem PI.of {tg e : Expr} {t : TI} (h : ∀ σ H R, t σ H R → ∃ t', PI X tg e t' ∧ t' σ H R) : PI X tg e t := ⟨fun pins s σ H R I q => by
  obtain ⟨t', h1, h2⟩ := h σ H R q
  exact h1.run pins s σ H R I h2⟩
/-- a list's items, where the list stands still -/
theorem wk_list {K : PySem.W.Frag} {C : Hp → Hp → Prop} {a : Addr} {vs : List V} {xs : List D} {Z1 : Hp} (hs : Shs k Z1 vs xs) (h1 : ∀ Z H, C Z H → (∀ a o, Z1 a = some o → Z a = some o)) (h2 : ∀ Z H, C Z H → Zh Z H → SqL K H a vs) :
    Wk k C (Itl K a) xs := fun Z H hc zh i => by
  have hl := hs.length
  refine ⟨fun hi => ?_, fun hi => ⟨vs, h2 Z H hc zh, by omega⟩⟩
  have hv : i < vs.length := by omega
  refine ⟨⟨vs, vs[i], h2 Z H hc zh, by simp [hv]⟩, fun v H' hy => ?_⟩
  obtain ⟨e, f⟩ := hy
  subst e
  have q := f vs (h2 Z H' hc zh)
  have hd : xs[i]? = some xs[i] := by simp [hi]
  obtain ⟨v', e1, s⟩ := hs.get hd
  rw [q] at e1
  cases e1
  exact ⟨Z, xs[i], Ext.refl zh, hd, s.mono (h1 Z H' hc)⟩
theorem wk_tup {K : PySem.W.Frag} {C : Hp → Hp → Prop} {a : Addr} {vs : List V} {xs : List D} {Z1 : Hp} (hs : Shs k Z1 vs xs) (h1 : ∀ Z H, C Z H → (∀ a o, Z1 a = some o → Z a = some o)) (h2 : ∀ Z H, C Z H → Zh Z H → SqT K H a vs) :
    Wk k C (Itt K a) xs := fun Z H hc zh i => by
  have hl := hs.length
  refine ⟨fun hi => ?_, fun hi => ⟨vs, h2 Z H hc zh, by omega⟩⟩
  have hv : i < vs.length := by omega
  refine ⟨⟨vs, vs[i], h2 Z H hc zh, by simp [hv]⟩, fun v H' hy => ?_⟩
  obtain ⟨e, f⟩ := hy
  subst e
  have q := f vs (h2 Z H' hc zh)
  have hd : xs[i]? = some xs[i] := by simp [hi]
  obtain ⟨v', e1, s⟩ := hs.get hd
  rw [q] at e1
  cases e1
  exact ⟨Z, xs[i], Ext.refl zh, hd, s.mono (h1 Z H' hc)⟩
theorem rngD_get : ∀ (n i : Nat) (lo : Int), i < n → (rngD lo n)[i]? = some (.int (lo + i))
  | 0, _, _, h => by omega
  | n + 1, 0, lo, _ => by simp [rngD]
  | n + 1, i + 1, lo, h => by
    unfold rngD
    rw [List.getElem?_cons_succ, rngD_get n i (lo + 1) (by omega)]
    congr 2
    omega
theorem rngD_len : ∀ (n : Nat) (lo : Int), (rngD lo n).length = n
  | 0, _ => rfl
  | n + 1, lo => by simp [rngD, rngD_len n]
theorem wk_rng {C : Hp → Hp → Prop} (lo : Int) (n : Nat) : Wk k C (Itr lo n) (rngD lo n) := fun Z H hc zh i => by
  rw [rngD_len]
  refine ⟨fun hi => ⟨hi, fun v H' hy => ?_⟩, fun hi => Nat.le_of_eq hi.symm⟩
  obtain ⟨e, f⟩ := hy
  subst e
  subst f
  exact ⟨Z, _, Ext.refl zh, rngD_get n i lo hi, .int _⟩
theorem items_calm (st : Bool) (x : LD) : Calm (items st x) := by
  intro c fs e
  unfold items at e
  repeat' split at e
  all_goals cases e
/-- what an item walk needs of a value -/
theorem items_get (g : Gd k nm cal np lv N sc X W) {Z H Z1 H1 : Hp} {F : Nat → List Addr} {st : Bool} {x : LD} {v : V} {fp : List Addr} {xs : List D} (e1 : Ext Z H Z1 H1) (t1 : RelT k Z1 H1 F x.1 v x.2 fp) (n1 : New Z1 H fp) (ex : items st x = .ok xs) :
    ∃ a vs Z2, v = .ref a ∧ Ext Z H Z2 H1 ∧ (∀ b, b ∉ fp → Z2 b = Z1 b) ∧ Shs k Z2 vs xs ∧ ((∃ ys, x.2 = .lst ys ∧ SqL X.K H1 a vs ∧ ∀ Z' H', Cw st Z2 H1 Z' H' → Zh Z' H' → SqL X.K H' a vs) ∨ (∃ ys, x.2 = .tup ys ∧ SqT X.K H1 a vs ∧ ∀ Z' H', Cw st Z2 H1 Z' H' → Zh Z' H' → SqT X.K H' a vs)) := by
  obtain ⟨l, d⟩ := x
  dsimp only at t1
  cases d with
  | lst ys =>
    have ex : (if shb l ys = true ∧ (st = true → l ≤ 2) then R.ok ys else .bad) = R.ok xs := ex
    split at ex
    · rename_i hc
      cases ex
      cases st with
      | false =>
        obtain ⟨a, vs, rfl, ha, hs⟩ := t1.lstS e1.zh hc.1
        exact ⟨a, vs, Z1, rfl, e1, fun _ _ => rfl, hs, .inl ⟨_, rfl, .inl (.inl ha), fun Z' H' c _ => .inl (.inl (c.2 rfl _ _ ha))⟩⟩
      | true =>
        have s := (t1.hd (hc.2 rfl)).share (zjoin_sub (fp := fp) e1.zh) (fun a m => zjoin_in m) (Nat.le_trans (hc.2 rfl) (by decide))
        have e2 := Ext.freeze e1 n1.n
        cases s with
        | lst sq rs => exact ⟨_, _, _, rfl, e2, fun b m => zjoin_out m, rs, .inl ⟨_, rfl, .inl (.inl (e2.zh _ _ sq)), fun Z' H' c zh => .inl (.inl (zh _ _ (c.1 _ _ sq)))⟩⟩
    · cases ex
  | tup ys =>
    cases ex
    obtain ⟨a, vs, rfl, az, ha, hs⟩ := t1.tup e1.zh
    rw [g.hK] at ha az
    exact ⟨a, vs, Z1, rfl, e1, fun _ _ => rfl, hs, .inr ⟨_, rfl, ha, fun Z' H' c zh => SqT.mono zh (SqT.mono c.1 az)⟩⟩
  | _ => cases ex
theorem snd_seqI (g : Gd k nm cal np lv N sc X W) {tg e : Expr} {st : Bool} {r : En → R LD} (h : PE X e (tE k Z0 H0 W r)) : PI X tg e (tI k Z0 H0 W st fun ε => (r ε).bind (items st)) := PI.of fun σ H P ⟨Z, ε, F, rel, q⟩ => by
  have q := After.bind q
  cases er : r ε with
  | bad => rw [er] at q; exact q.elim
  | exc c fs => exact ⟨_, pi_list h, Z, ε, F, rel, by rw [er] at q ⊢; exact q⟩
  | ok x =>
    rw [er] at q
    have q : After k W σ Z H (items st x) (fun xs => ∀ J Z' H', Ext Z H Z' H' → Wk k (Cw st Z' H') J xs → P J H') := q
    cases ei : items st x with
    | bad => rw [ei] at q; exact q.elim
    | exc c fs => exact absurd ei (items_calm st x c fs)
    | ok xs =>
      rw [ei] at q
      cases ed : x.2 with
      | lst ys =>
        refine ⟨_, pi_list h, Z, ε, F, rel, ?_⟩
        rw [er]
        intro v Z1 H1 fp e1 t1 n1
        obtain ⟨a, vs, Z2, rfl, e2, _, hs, ⟨_, _, h1, h2⟩ | ⟨zs, h0, _⟩⟩ := items_get g e1 t1 n1 ei
        · exact ⟨a, rfl, ⟨vs, h1⟩, q _ Z2 H1 e2 (wk_list hs (fun Z H c => c.1) h2)⟩
        · rw [ed] at h0; cases h0
      | tup ys =>
        refine ⟨_, pi_tup h, Z, ε, F, rel, ?_⟩
        rw [er]
        intro v Z1 H1 fp e1 t1 n1
        obtain ⟨a, vs, Z2, rfl, e2, _, hs, ⟨zs, h0, _⟩ | ⟨_, _, h1, h2⟩⟩ := items_get g e1 t1 n1 ei
        · rw [ed] at h0; cases h0
        · exact ⟨a, rfl, ⟨vs, h1⟩, q _ Z2 H1 e2 (wk_tup hs (fun Z H c => c.1) h2)⟩
      | _ => unfold items at ei; rw [ed] at ei; cases ei
theorem snd_rng1 (g : Gd k nm cal np lv N sc X W) {tg a : Expr} {st : Bool} {r : En → R LD} {p pos : Pos} (ha : PA X [a] (tA k Z0 H0 W fun ε => (r ε).bind fun x => R.bind (.ok []) fun xs => .ok (x :: xs))) (hg : glB sc "range" = true)
    (hs : starEach [a] X.env = [(false, eval a X.env)]) :
    PI X tg (.Call (.Name "range" p) [a] [] pos) (tI k Z0 H0 W st fun ε => (r ε).bind fun x => match x.2 with | .int j => if inR j then .ok (rngD 0 j.toNat) else .bad | _ => .bad) :=
  PI.imp (pi_range1 (g.gl hg).1 (g.free _ (by decide)) ha hs) fun σ H P ⟨Z, ε, F, rel, q⟩ => by
    refine ⟨Z, ε, F, rel, ?_⟩
    cases er : r ε with
    | bad => simp only [er, R.bind] at q; exact q.elim
    | exc c fs => simp only [er, R.bind] at q ⊢; exact q
    | ok x =>
      simp only [er, R.bind] at q ⊢
      intro vs Z1 H1 fp e1 t1 n1
      obtain ⟨l, d⟩ := x
      cases d with
      | int j =>
        dsimp only at q
        split at q
        · rename_i hc
          have hc : j.natAbs < 2 ^ 62 := hc
          cases t1 with
          | cons t tr =>
            cases tr
            refine ⟨j, by rw [RelT.int t], by omega, by omega, q _ Z1 H1 e1 (wk_rng 0 j.toNat)⟩
        · exact q.elim
      | _ => exact q.elim
theorem snd_rng2 (g : Gd k nm cal np lv N sc X W) {tg a b : Expr} {st : Bool} {r r' : En → R LD} {p pos : Pos} (ha : PA X [a, b] (tA k Z0 H0 W fun ε => (r ε).bind fun x => ((r' ε).bind fun y => R.bind (.ok []) fun xs => .ok (y :: xs)).bind fun xs => .ok (x :: xs))) (hg : glB sc "range" = true)
    (hs : starEach [a, b] X.env = [(false, eval a X.env), (false, eval b X.env)]) (hs2 : starEach [b] X.env = [(false, eval b X.env)]) :
    PI X tg (.Call (.Name "range" p) [a, b] [] pos) (tI k Z0 H0 W st fun ε => (r ε).bind fun x => (r' ε).bind fun y => match x.2, y.2 with
      | .int i, .int j => if inR2 i j then .ok (rngD i (j - i).toNat) else .bad
      | _, _ => .bad) :=
  PI.imp (pi_range2 (g.gl hg).1 (g.free _ (by decide)) ha hs hs2) fun σ H P ⟨Z, ε, F, rel, q⟩ => by
    refine ⟨Z, ε, F, rel, ?_⟩
    cases er : r ε with
    | bad => simp only [er, R.bind] at q; exact q.elim
    | exc c fs => simp only [er, R.bind] at q ⊢; exact q
    | ok x =>
      cases er' : r' ε with
      | bad => simp only [er, er', R.bind] at q; exact q.elim
      | exc c fs => simp only [er, er', R.bind] at q ⊢; exact q
      | ok y =>
        simp only [er, er', R.bind] at q ⊢
        intro vs Z1 H1 fp e1 t1 n1
        obtain ⟨l, d⟩ := x
        obtain ⟨l', d'⟩ := y
        cases d with
        | int i =>
          cases d' with
          | int j =>
            dsimp only at q
            split at q
            · rename_i hc
              have hc : i.natAbs < 2 ^ 62 ∧ j.natAbs < 2 ^ 62 := hc
              cases t1 with
              | cons t tr =>
                cases tr with
                | cons t' tr =>
                  cases tr
                  refine ⟨i, j, by rw [RelT.int t, RelT.int t'], ⟨by omega, by omega, by omega, by omega⟩, q _ Z1 H1 e1 (wk_rng i (j - i).toNat)⟩
            · exact q.elim
          | _ => exact q.elim
        | _ => exact q.elim
end
end RS

/-! RsZip -/
namespace RS
open PySem PySem.Spec
open PyProof.Rows L2

/-! ### zip of lists and tuples in any mix (t: a tuple) -/
def SqM (K : PySem.W.Frag) (t : Bool) (H : Hp) (a : Addr) (xs : List V) : Prop := match t with
  | true => SqT K H a xs
  | false => SqL K H a xs
def ItM (t : Bool) (h : Heap) (it l : Addr) (i : Nat) : Prop := match t with
  | true => h.IsTupleIter it l i
  | false => h.IsListIter it l i
def IsM (t : Bool) (h : Heap) (l : Addr) (its : Array Value) : Prop := match t with
  | true => h.IsTuple l its
  | false => h.IsList l its
def itO (t : Bool) (l : Addr) : Obj := match t with
  | true => { cls := .type "tuple_iterator", data := .fields #[.ref l, .int 0 0] }
  | false => { cls := .type "list_iterator", data := .fields #[.ref l, .int 0 0] }
theorem drawM {prog : Program} {w : World} {A : Around} (hh : A.handled = none) (t : Bool) (it l : Addr) (hne : l ≠ it) (its : Array Value) :
    Draws prog w A it [it, l] its.size (fun i v => its[i]? = some v) (fun i h => ItM t h it l i ∧ IsM t h l its) := by
  cases t with
  | true => exact Draws.tuple hh it l hne its
  | false => exact Draws.list hh it l hne its
theorem begM (t : Bool) (l : Addr) (its : Array Value) : Begins (.ref l) (itO t l) fun h => IsM t h l its := by
  cases t with
  | true => exact begins_tuple l its
  | false => exact begins_list l its
theorem itM0 {t : Bool} {h : Heap} {it l : Addr} (e : h.get? it = some (itO t l)) : ItM t h it l 0 := by
  cases t with
  | true => exact ⟨_, e, rfl, rfl⟩
  | false => exact ⟨_, e, rfl, rfl⟩
theorem itM_at {t : Bool} {h h' : Heap} {it l : Addr} {i : Nat} (x : ItM t h it l i) (k : ∀ o, h.get? it = some o → h'.get? it = some o) : ItM t h' it l i := by
  cases t with
  | true => exact Heap.IsTupleIter.at x k
  | false => exact Heap.IsListIter.at x k
theorem itM_there {t : Bool} {h : Heap} {it l : Addr} {i : Nat} (x : ItM t h it l i) : ∃ o, h.get? it = some o ∧ ∀ v, o.data ≠ .cell v := by
  cases t with
  | true => obtain ⟨o, e, _, d⟩ := x; exact ⟨o, e, fun v q => by rw [d] at q; cases q⟩
  | false => obtain ⟨o, e, _, d⟩ := x; exact ⟨o, e, fun v q => by rw [d] at q; cases q⟩
section
variable {X : Cx} {pins : List (Addr × Obj)} {σ : L2.St} {H : Hp} {s : Shared} {t : Bool} {a : Addr} {xs ys : List V}
theorem invM (I : Inv X pins σ H s) (h : SqM X.K t H a xs) : ∃ its : List Value, Vals xs its ∧ IsM t s.heap a its.toArray ∧ a < s.heap.objs.size := by
  cases t with
  | true =>
    obtain ⟨its, r, p, _⟩ := I.tuple h
    obtain ⟨o, e, _⟩ := id p
    exact ⟨its, r, p, Heap.lt_size e⟩
  | false =>
    obtain ⟨its, r, p, _⟩ := I.list h
    exact ⟨its, r, p.isList, p.lt⟩
theorem injM (I : Inv X pins σ H s) (h : SqM X.K t H a xs) (h' : SqM X.K t H a ys) : xs = ys := by
  cases t with
  | true => exact I.tuple_inj h h'
  | false => exact I.list_inj h h'
end
/-- two that are walked side by side, new pairs of their items -/
def ItzM (K : PySem.W.Frag) (t u : Bool) (a b : Addr) : It where
  go := fun i H => ∃ (xs ys : List V) (x y : V), SqM K t H a xs ∧ SqM K u H b ys ∧ xs[i]? = some x ∧ ys[i]? = some y
  yld := fun i H v H' => ∃ T x y, v = .ref T ∧ H T = none ∧ H' = upd H T (.tup [x, y]) ∧ (∀ xs, SqM K t H a xs → xs[i]? = some x) ∧ ∀ ys, SqM K u H b ys → ys[i]? = some y
  stop := fun i H => ∃ xs ys : List V, SqM K t H a xs ∧ SqM K u H b ys ∧ i ≤ xs.length ∧ i ≤ ys.length ∧ (xs.length = i ∨ ys.length = i)
/-- the iterator's state -/
def TnM (t u : Bool) (a b z TI TO i1 i2 : Addr) (i : Nat) (h : Heap) : Prop :=
  IsZip h z TI TO .none ∧ IsTupOf2 h TI (.ref i1) (.ref i2) ∧ (∃ x y, IsTupOf2 h TO x y) ∧ ItM t h i1 a i ∧ ItM u h i2 b i
theorem nin2 {x y z : Nat} (h1 : x ≠ y) (h2 : x ≠ z) : x ∉ [y, z] := by simp [h1, h2]
theorem apart5 (n a b : Nat) (ha : a < n) (hb : b < n) : ZipSep2 (n + 4 : Nat) (n + 2 : Nat) (n + 3 : Nat) n (n + 1 : Nat) [n, a] [(n + 1 : Nat), b] where
  TIz := (by omega : (n + 2 : Nat) ≠ n + 4)
  TOz := (by omega : (n + 3 : Nat) ≠ n + 4)
  TITO := (by omega : (n + 2 : Nat) ≠ n + 3)
  TIi1 := (by omega : (n + 2 : Nat) ≠ n)
  mem1 := List.mem_cons_self ..
  zf1 := nin2 (x := n + 4) (y := n) (z := a) (by omega) (by omega)
  Tf1 := nin2 (x := n + 3) (y := n) (z := a) (by omega) (by omega)
  TIi2 := (by omega : (n + 2 : Nat) ≠ n + 1)
  mem2 := List.mem_cons_self ..
  zf2 := nin2 (x := n + 4) (y := n + 1) (z := b) (by omega) (by omega)
  Tf2 := nin2 (x := n + 3) (y := n + 1) (z := b) (by omega) (by omega)
  sep1_2 := nin2 (x := n) (y := n + 1) (z := b) (by omega) (by omega)
  sep2_1 := nin2 (x := n + 1) (y := n) (z := a) (by omega) (by omega)
theorem le5 {n c : Nat} (h : c ∈ [n + 4, n + 2, n + 3, n, n + 1]) : n ≤ c ∧ c ≤ n + 4 := by
  simp only [List.mem_cons, List.not_mem_nil, or_false] at h
  omega
theorem turn_zipM {P : Program} {w : World} {K : PySem.W.Frag} {elts : List Expr} {kk : Nat} {tpos : Pos} {t u : Bool} {a b n : Nat} (ha : a < n) (hb : b < n) :
    Turn P w K (.Tuple elts kk tpos) (ItzM K t u a b) [n + 4, n + 2, n + 3, n, n + 1] (n + 4 : Nat) (TnM t u a b (n + 4 : Nat) (n + 2 : Nat) (n + 3 : Nat) n (n + 1 : Nat)) where
  mem := List.mem_cons_self ..
  obj := fun i h st c hc => by
    obtain ⟨hz, hTI, ⟨x, y, hTO⟩, h1, h2⟩ := st
    simp only [List.mem_cons, List.not_mem_nil, or_false] at hc
    rcases hc with q | q | q | q | q <;> subst q
    · exact ⟨_, hz, fun v q => nomatch q⟩
    · exact ⟨_, hTI, fun v q => nomatch q⟩
    · exact ⟨_, hTO, fun v q => nomatch q⟩
    · exact itM_there h1
    · exact itM_there h2
  keep := fun i h h' st k => by
    obtain ⟨hz, hTI, ⟨x, y, hTO⟩, h1, h2⟩ := st
    exact ⟨k _ (by simp) _ hz, k _ (by simp) _ hTI, ⟨x, y, k _ (by simp) _ hTO⟩, itM_at h1 fun o q => k _ (by simp) o q, itM_at h2 fun o q => k _ (by simp) o q⟩
  item := by
    intro X hP hw hK hc i pins s σ H E I hf st hg
    subst hP hw hK
    obtain ⟨hz, hTI, ⟨x0, y0, hTO⟩, h1, h2⟩ := st
    obtain ⟨xs, ys, x, y, hqx, hqy, hx, hy⟩ := hg
    obtain ⟨its, rv, p, _⟩ := invM I hqx
    obtain ⟨its2, rv2, p2, _⟩ := invM I hqy
    have hlx : i < its.length := by rw [← rv.length]; exact (List.getElem?_eq_some_iff.mp hx).1
    have hly : i < its2.length := by rw [← rv2.length]; exact (List.getElem?_eq_some_iff.mp hy).1
    obtain ⟨v1, hv1, r1⟩ := rv.get hx
    obtain ⟨v2, hv2, r2⟩ := rv2.get hy
    have hh : X.A.in1.handled = none := I.ok.hd hc
    have S := apart5 n a b ha hb
    have n4 : (n + 4 : Nat) < s.heap.objs.size := Heap.lt_size hz
    refine wpAny_pyNext_zipD2_item S (drawM hh t n a (Nat.ne_of_lt ha) its.toArray) (drawM hh u (n + 1 : Nat) b (by omega : b ≠ n + 1) its2.toArray) hz hTI hTO ⟨h1, p⟩ ⟨h2, p2⟩ (by simpa using hlx) (by simpa using hly) fun x1 x2 h' tk q1 q2 z' TO' s1 s2 hT hsz hk => ?_
    have e1 : x1 = v1 := by
      have : its[i]? = some x1 := by simpa using q1
      rw [hv1] at this
      exact (Option.some.inj this).symm
    have e2 : x2 = v2 := by
      have : its2[i]? = some x2 := by simpa using q2
      rw [hv2] at this
      exact (Option.some.inj this).symm
    subst e1 e2
    refine ⟨_, rfl, wpAny_letOwnedTupleGo_zip (s := { s with heap := h', toks := tk }) z' fun h'' z'' sb => ?_⟩
    have zT : s.heap.objs.size ≠ (n + 4 : Nat) := Nat.ne_of_gt n4
    have hT2 : h''.get? s.heap.objs.size = some { cls := .type "tuple", data := .seq #[x1, x2] } := (sb.2 _ zT).trans hT
    have new : ObjOk X.prog X.w (upd H s.heap.objs.size (.tup [x, y])) h'' s.heap.objs.size (.tup [x, y]) :=
      ⟨by show 2 ≤ sizeLine; decide, [x1, x2], .cons r1 (.cons r2 .nil), ⟨_, hT2, rfl, _, rfl⟩⟩
    have I1 : Inv X pins σ (upd H s.heap.objs.size (.tup [x, y])) { s with heap := h'', toks := tk } := by
      refine I.turnedNew (t' := tk) (ch := [n + 4, n + 2, n + 3, n, n + 1]) (fun c o nm q => ?_) hf (Nat.le_refl _) new
      simp only [List.mem_cons, List.not_mem_nil, or_false, not_or] at nm
      exact (sb.2 c nm.1).trans (hk c o nm.1 nm.2.2.1 nm.2.2.2.1 nm.2.2.2.2 q)
    refine ⟨.ref s.heap.objs.size, _, I1, rfl, ⟨_, x, y, rfl, I.hok.fresh (Nat.le_refl _), rfl, fun l hl => by rw [injM I hl hqx]; exact hx, fun l hl => by rw [injM I hl hqy]; exact hy⟩, ⟨z'', ?_, ⟨x1, x2, ?_⟩, ?_, ?_⟩, fun c hcm => ?_⟩
    · exact (sb.2 _ S.TIz).trans (hk _ _ S.TIz S.TITO S.TIi1 S.TIi2 hTI)
    · exact (sb.2 _ S.TOz).trans TO'
    · exact itM_at s1.1 fun o q => (sb.2 _ S.zi1.symm).trans q
    · exact itM_at s2.1 fun o q => (sb.2 _ S.zi2.symm).trans q
    · have hlt : c < s.heap.objs.size := by
        exact Nat.lt_of_le_of_lt (le5 hcm).2 n4
      rw [upd_ne (Nat.ne_of_lt hlt)]
      exact (hf c hcm).1
  done := by
    intro X hP hw hK hc i pins s σ H E I hf st hg
    subst hP hw hK
    obtain ⟨hz, hTI, ⟨x0, y0, hTO⟩, h1, h2⟩ := st
    obtain ⟨xs, ys, hqx, hqy, l1, l2, hend⟩ := hg
    obtain ⟨its, rv, p, _⟩ := invM I hqx
    obtain ⟨its2, rv2, p2, _⟩ := invM I hqy
    have e1 := rv.length
    have e2 := rv2.length
    have hh : X.A.in1.handled = none := I.ok.hd hc
    have S := apart5 n a b ha hb
    refine wpAny_pyNext_zipD2_end S (drawM hh t n a (Nat.ne_of_lt ha) its.toArray) (drawM hh u (n + 1 : Nat) b (by omega : b ≠ n + 1) its2.toArray) hz hTI hTO ⟨h1, p⟩ ⟨h2, p2⟩ (by rw [List.size_toArray]; omega) (by rw [List.size_toArray]; omega) (by rw [List.size_toArray, List.size_toArray]; omega) fun h' tk hk => ⟨rfl, ?_⟩
    refine I.turnedL (t' := tk) (ch := [n + 4, n + 2, n + 3, n, n + 1]) (fun c o nm q => ?_) hf
    simp only [List.mem_cons, List.not_mem_nil, or_false, not_or] at nm
    exact hk c o nm.1 nm.2.2.1 nm.2.2.2.1 nm.2.2.2.2 q
  self := fun A i s Q E st h => wpAny_pyIter_zip st.1 h
/-- zip(e, e2) as what is walked -/
def iZipM (K : PySem.W.Frag) (t u : Bool) (ta : TA) : TI := fun σ H R => ta σ H fun vs H1 => ∃ a b xs ys, vs = [.ref a, .ref b] ∧ SqM K t H1 a xs ∧ SqM K u H1 b ys ∧ R (ItzM K t u a b) H1
theorem pi_zipM {X : Cx} {t u : Bool} {e e2 : Expr} {ta : TA} {p pos tpos : Pos} {elts : List Expr} {kk : Nat} (hg : Gl X "zip") (hm : X.mg "zip" = none) (ha : PA X [e, e2] ta)
    (hs : starEach [e, e2] X.env = (false, eval e X.env) :: starEach [e2] X.env) (hpl : (backTo pos (starEach [e2] X.env)).any (·.1) = false) :
    PI X (.Tuple elts kk tpos) (.Call (.Name "zip" p) [e, e2] [] pos) (iZipM X.K t u ta) := by
  refine ⟨fun pins s σ H R I h => ?_⟩
  refine Call_ (ld_blt I hg hm PyProof.Rows.boot_zip (PyProof.Rows.callWith_type1 (thn (ha.run pos pins s σ H _ I h) fun us s1 ⟨vs, H1, I1, r1, q1⟩ => ?_) hs hpl))
  obtain ⟨a, b, xs, ys, ex, hx, hy, q⟩ := q1
  subst ex
  cases r1 with
  | cons r rr =>
    cases rr with
    | cons r' rr =>
      cases rr
      cases r
      cases r'
      obtain ⟨its, rv, p1, la⟩ := invM I1 hx
      obtain ⟨its2, rv2, p2, lb⟩ := invM I1 hy
      refine zip_begins2 (begM t a its.toArray) (begM u b its2.toArray) p1 p2 fun h' hz hTI hTO g1 g2 hsz hk => wpAny_pyIter_zip hz ?_
      refine ⟨_, [s1.heap.objs.size + 4, s1.heap.objs.size + 2, s1.heap.objs.size + 3, s1.heap.objs.size, s1.heap.objs.size + 1], _, _, H1, rfl, I1.kept (t' := s1.toks) hk, turn_zipM la lb, ⟨hz, hTI, ⟨_, _, hTO⟩, itM0 g1, itM0 g2⟩, fun c hc => ?_, q⟩
      have hle : s1.heap.objs.size ≤ c := (le5 hc).1
      exact I1.fpOk hle (I1.hok.fresh hle)
theorem zipD_get : ∀ {xs ys : List D} {i : Nat} {a b : D}, xs[i]? = some a → ys[i]? = some b → (zipD xs ys)[i]? = some (.tup [a, b])
  | [], _, _, _, _, h, _ => by simp at h
  | _ :: _, [], _, _, _, _, h => by simp at h
  | x :: xs, y :: ys, 0, a, b, h, h2 => by simp at h h2; subst h h2; rfl
  | x :: xs, y :: ys, i + 1, a, b, h, h2 => by
    unfold zipD
    rw [List.getElem?_cons_succ]
    exact zipD_get (by simpa using h) (by simpa using h2)
theorem zipD_len : ∀ (xs ys : List D), (zipD xs ys).length = min xs.length ys.length
  | [], ys => by simp [zipD]
  | _ :: _, [] => by simp [zipD]
  | x :: xs, y :: ys => by simp only [zipD, List.length_cons, zipD_len xs ys]; omega
end RS

/-! RsSnd8 -/
namespace RS
open PySem PySem.Spec
open PyProof.Rows L2
section
variable {k : Kc} {nm : Nm} {cal : Cl → R LD} {np : Nat → Nat} {lv : Nat} {N : List Str} {sc : Scope} {X : Cx} {W : WX} {Z0 H0 : Hp}

/-! ### zip -/
theorem RelT.monoZ {Z H Z' : Hp} {F : Nat → List Addr} {lv : Nat} {v : V} {d : D} {fp : List Addr} (z : ∀ a o, Z a = some o → Z' a = some o) (x : RelT k Z H F lv v d fp) : RelT k Z' H F lv v d fp := by
  match lv, x with
  | 0, x => exact Hd.mono (H := H) (H' := H) (lv := 0) z (fun _ _ e => e) x
  | 1, x => exact Hd.mono (H := H) (H' := H) (lv := 1) z (fun _ _ e => e) x
  | 2, x => exact Hd.mono (H := H) (H' := H) (lv := 2) z (fun _ _ e => e) x
  | 3, ⟨h1, fp', h2, h3⟩ => exact ⟨h1, fp', Hd.mono (H := H) (H' := H) z (fun _ _ e => e) h2, h3⟩
  | 4, ⟨h1, fp', h2, h3⟩ => exact ⟨h1, fp', Hd.mono (H := H) (H' := H) z (fun _ _ e => e) h2, h3⟩
  | n + 5, x => exact x.elim
theorem wk_zip {K : PySem.W.Frag} {st : Bool} {t u : Bool} {a b : Addr} {vs ws : List V} {xs ys : List D} {Z1 H1 : Hp} (hs : Shs k Z1 vs xs) (ht : Shs k Z1 ws ys) (h1 : ∀ Z H, Cw st Z1 H1 Z H → Zh Z H → SqM K t H a vs)
    (h2 : ∀ Z H, Cw st Z1 H1 Z H → Zh Z H → SqM K u H b ws) : Wk k (Cw st Z1 H1) (ItzM K t u a b) (zipD xs ys) := fun Z H hc zh i => by
  have l1 := hs.length
  have l2 := ht.length
  rw [zipD_len]
  refine ⟨fun hi => ?_, fun hi => ⟨vs, ws, h1 Z H hc zh, h2 Z H hc zh, by omega, by omega, by omega⟩⟩
  have hv : i < vs.length := by omega
  have hw : i < ws.length := by omega
  refine ⟨⟨vs, ws, vs[i], ws[i], h1 Z H hc zh, h2 Z H hc zh, by simp [hv], by simp [hw]⟩, fun v H' hy => ?_⟩
  obtain ⟨T, x, y, rfl, hT, rfl, f1, f2⟩ := hy
  have q1 := f1 vs (h1 Z H hc zh)
  have q2 := f2 ws (h2 Z H hc zh)
  have d1 : xs[i]? = some (xs[i]'(by omega)) := by simp
  have d2 : ys[i]? = some (ys[i]'(by omega)) := by simp
  obtain ⟨v1, e1, s1⟩ := hs.get d1
  obtain ⟨v2, e2, s2⟩ := ht.get d2
  rw [q1] at e1
  rw [q2] at e2
  cases e1
  cases e2
  have e := Ext.layZ (o := .tup [x, y]) zh hT
  exact ⟨_, _, e, zipD_get d1 d2, .tup (.inl (.inl upd_same)) (.cons ((s1.mono hc.1).mono e.z) (.cons ((s2.mono hc.1).mono e.z) .nil))⟩
theorem items_kind {st : Bool} {x : LD} {xs : List D} (h : items st x = .ok xs) : (∃ ys, x.2 = .lst ys) ∨ ∃ ys, x.2 = .tup ys := by
  unfold items at h
  cases e : x.2 with
  | lst ys => exact .inl ⟨_, rfl⟩
  | tup ys => exact .inr ⟨_, rfl⟩
  | _ => rw [e] at h; cases h
/-- is it a tuple? -/
def isTup : D → Bool
  | .tup _ => true
  | _ => false
theorem items_getM (g : Gd k nm cal np lv N sc X W) {Z H Z1 H1 : Hp} {F : Nat → List Addr} {st : Bool} {x : LD} {v : V} {fp : List Addr} {xs : List D} (e1 : Ext Z H Z1 H1) (t1 : RelT k Z1 H1 F x.1 v x.2 fp) (n1 : New Z1 H fp) (ex : items st x = .ok xs) :
    ∃ a vs Z2, v = .ref a ∧ Ext Z H Z2 H1 ∧ (∀ a o, Z1 a = some o → Z2 a = some o) ∧ (∀ b, b ∉ fp → Z2 b = Z1 b) ∧ Shs k Z2 vs xs ∧ SqM X.K (isTup x.2) H1 a vs ∧ ∀ Z3 Z' H', (∀ a o, Z2 a = some o → Z3 a = some o) → Cw st Z3 H1 Z' H' → Zh Z' H' → SqM X.K (isTup x.2) H' a vs := by
  have sub : ∀ {Z2 : Hp}, (∀ b, b ∉ fp → Z2 b = Z1 b) → ∀ a o, Z1 a = some o → Z2 a = some o := fun {Z2} hb a o e => by
    rw [hb a fun m => by rw [n1.z a m] at e; cases e]
    exact e
  obtain ⟨a, vs, Z2, rfl, e2, hb, hs, ⟨ys, h0, h1, h2⟩ | ⟨ys, h0, h1, h2⟩⟩ := items_get g e1 t1 n1 ex
  · exact ⟨a, vs, Z2, rfl, e2, sub hb, hb, hs, by rw [h0]; exact h1, fun Z3 Z' H' z c zh => by
      rw [h0]
      exact h2 Z' H' ⟨fun a o e => c.1 a o (z a o e), c.2⟩ zh⟩
  · exact ⟨a, vs, Z2, rfl, e2, sub hb, hb, hs, by rw [h0]; exact h1, fun Z3 Z' H' z c zh => by
      rw [h0]
      exact h2 Z' H' ⟨fun a o e => c.1 a o (z a o e), c.2⟩ zh⟩
theorem snd_zip (g : Gd k nm cal np lv N sc X W) {a b : Expr} {st : Bool} {r r' : En → R LD} {p pos tpos : Pos} {elts : List Expr} {kk : Nat}
    (ha : PA X [a, b] (tA k Z0 H0 W fun ε => (r ε).bind fun x => ((r' ε).bind fun y => R.bind (.ok []) fun xs => .ok (y :: xs)).bind fun xs => .ok (x :: xs))) (hg : glB sc "zip" = true)
    (hs : starEach [a, b] X.env = (false, eval a X.env) :: starEach [b] X.env) (hpl : (backTo pos (starEach [b] X.env)).any (·.1) = false) :
    PI X (.Tuple elts kk tpos) (.Call (.Name "zip" p) [a, b] [] pos) (tI k Z0 H0 W st fun ε => (r ε).bind fun x => (r' ε).bind fun y => (items st x).bind fun xs => (items st y).bind fun ys => .ok (zipD xs ys)) :=
  PI.of fun σ H P ⟨Z, ε, F, rel, q⟩ => by
    have q : After k W σ Z H ((r ε).bind fun x => (r' ε).bind fun y => (items st x).bind fun xs => (items st y).bind fun ys => .ok (zipD xs ys)) (fun xs => ∀ J Z' H', Ext Z H Z' H' → Wk k (Cw st Z' H') J xs → P J H') := q
    have hz : ∀ t u, PI X (.Tuple elts kk tpos) (.Call (.Name "zip" p) [a, b] [] pos) (iZipM X.K t u _) := fun t u => pi_zipM (g.gl hg).1 (g.free _ (by decide)) ha hs hpl
    cases er : r ε with
    | bad => simp only [er, R.bind] at q; exact q.elim
    | exc c fs => exact ⟨_, hz true true, Z, ε, F, rel, by simp only [er, R.bind] at q ⊢; exact q⟩
    | ok x =>
      cases er' : r' ε with
      | bad => simp only [er, er', R.bind] at q; exact q.elim
      | exc c fs => exact ⟨_, hz true true, Z, ε, F, rel, by simp only [er, er', R.bind] at q ⊢; exact q⟩
      | ok y =>
        simp only [er, er', R.bind] at q
        cases ex : items st x with
        | bad => rw [ex] at q; exact q.elim
        | exc c fs => exact absurd ex (items_calm st x c fs)
        | ok xs =>
          cases ey : items st y with
          | bad => rw [ex, ey] at q; exact q.elim
          | exc c fs => exact absurd ey (items_calm st y c fs)
          | ok ys =>
            rw [ex, ey] at q
            refine ⟨_, hz (isTup x.2) (isTup y.2), Z, ε, F, rel, ?_⟩
            simp only [er, er', R.bind]
            intro vs Z1 H1 fp e1 t1 n1
            cases t1 with
            | cons t tr =>
              cases tr with
              | cons t' tr =>
                cases tr
                rename_i v1 f1 v2 f2
                rw [List.append_nil] at n1
                have nd := List.nodup_append.mp n1.nd
                have n1x : New Z1 H f1 := ⟨nd.1, fun a m => n1.n a (List.mem_append_left _ m), fun a m => n1.z a (List.mem_append_left _ m)⟩
                obtain ⟨a1, vs, Z2, rfl, e2, z2, b2, s2, m2, k2⟩ := items_getM g e1 t n1x ex
                have n1y : New Z2 H f2 := ⟨nd.2.1, fun a m => n1.n a (List.mem_append_right _ m), fun a m => by
                  rw [b2 a fun m' => nd.2.2 a m' a m rfl]
                  exact n1.z a (List.mem_append_right _ m)⟩
                obtain ⟨a2, ws, Z3, rfl, e3, z3, b3, s3, m3, k3⟩ := items_getM g e2 (t'.monoZ z2) n1y ey
                exact ⟨a1, a2, vs, ws, rfl, m2, m3, q _ Z3 H1 e3 (wk_zip (s2.mono z3) s3 (fun Z' H' c zh => k2 Z3 Z' H' z3 c zh) fun Z' H' c zh => k3 Z3 Z' H' (fun _ _ e => e) c zh)⟩

/-! ### a comprehension -/
theorem Shs.snoc {Z : Hp} {vs : List V} {ds : List D} {v : V} {d : D} (r : Shs k Z vs ds) (s : Sh k Z v d) : Shs k Z (vs ++ [v]) (ds ++ [d]) := r.append (.cons s .nil)
theorem Ows.snoc {Z H : Hp} : ∀ {vs : List V} {ds : List D} {fp : List Addr} {v : V} {d : D} {f : List Addr}, Ows k Z H vs ds fp → Ow k Z H v d f → Ows k Z H (vs ++ [v]) (ds ++ [d]) (fp ++ f)
  | _, _, _, _, _, _, .nil, o => by
    have q : Ows k Z H [_] [_] (_ ++ []) := .cons o .nil
    rw [List.append_nil] at q
    exact q
  | _, _, _, _, _, _, .cons a r, o => by
    rw [List.append_assoc]
    exact .cons a (Ows.snoc r o)
mutual
theorem Ow.at {Z H H' : Hp} : ∀ {v : V} {d : D} {fp : List Addr}, (∀ a ∈ fp, H' a = H a) → Ow k Z H v d fp → Ow k Z H' v d fp
  | _, _, _, _, .sh s l => .sh s l
  | _, _, _, hh, .lst e r => .lst ((hh _ (List.mem_cons_self ..)).trans e) (Ows.at (fun a m => hh a (List.mem_cons_of_mem _ m)) r)
theorem Ows.at {Z H H' : Hp} : ∀ {v : List V} {d : List D} {fp : List Addr}, (∀ a ∈ fp, H' a = H a) → Ows k Z H v d fp → Ows k Z H' v d fp
  | _, _, _, _, .nil => .nil
  | _, _, _, hh, .cons a r => .cons (Ow.at (fun x m => hh x (List.mem_append_left _ m)) a) (Ows.at (fun x m => hh x (List.mem_append_right _ m)) r)
end
/-- the list so far, b: its items are its own -/
def Acc (k : Kc) (b : Bool) (Z H : Hp) (vs : List V) (ds : List D) (fp : List Addr) : Prop := match b with
  | true => Ows k Z H vs ds fp
  | false => Shs k Z vs ds ∧ fp = []
/-- a slot takes another thing -/
theorem RelS.put {Z H : Hp} {σ : L2.St} {ε : En} {F : Nat → List Addr} {i : Nat} {o : Option V} {s : Option LD} {fp : List Addr} (r : RelS k Z0 H0 Z H σ ε F) (e : RelSl k Z H o s fp) (nd : fp.Nodup) (nz : ∀ a ∈ fp, Z a = none) (n0 : ∀ a ∈ fp, H0 a = none)
    (ap : ∀ j, j ≠ i → ∀ a ∈ fp, a ∉ F j) (hi : i < ε.length) : RelS k Z0 H0 Z H (σ.set i o) (ε.set i s) (fun j => if j = i then fp else F j) := by
  have hs : i < σ.length := by rw [r.len]; exact hi
  refine ⟨by rw [List.length_set, List.length_set]; exact r.len, fun j t q => ?_, fun j hj => ?_, fun j => ?_, fun j l a hj hl => ?_, fun j a hj => ?_, r.zh, r.h0, r.z0, r.zn, fun j a hj => ?_⟩
  · by_cases hji : j = i
    · subst hji
      rw [List.getElem?_set_self hi] at q
      cases q
      rw [List.getElem?_set_self hs, if_pos rfl]
      exact e
    · rw [List.getElem?_set_ne (Ne.symm hji)] at q
      rw [List.getElem?_set_ne (Ne.symm hji), if_neg hji]
      exact r.sl j t q
  · rw [List.length_set] at hj
    show (if j = i then fp else F j) = []
    rw [if_neg (by omega)]
    exact r.out j hj
  · show (if j = i then fp else F j).Nodup
    split
    · exact nd
    · exact r.nd j
  · have hj : a ∈ (if j = i then fp else F j) := hj
    have hl : a ∈ (if l = i then fp else F l) := hl
    split at hj <;> split at hl
    · omega
    · rename_i h1 h2; exact absurd hl (ap l h2 a hj)
    · rename_i h1 h2; exact absurd hj (ap j h1 a hl)
    · exact r.dj j l a hj hl
  · have hj : a ∈ (if j = i then fp else F j) := hj
    split at hj
    · exact nz a hj
    · exact r.zf j a hj
  · have hj : a ∈ (if j = i then fp else F j) := hj
    split at hj
    · exact n0 a hj
    · exact r.fn j a hj
theorem RelS.put0 {Z H : Hp} {σ : L2.St} {ε : En} {F : Nat → List Addr} {i : Nat} {v : V} {d : D} (r : RelS k Z0 H0 Z H σ ε F) (e : Sh k Z v d) (hi : i < ε.length) : RelS k Z0 H0 Z H (σ.set i (some v)) (ε.set i (some (0, d))) (fun j => if j = i then [] else F j) :=
  r.put ⟨v, rfl, e, rfl⟩ List.nodup_nil (fun _ m => by simp at m) (fun _ m => by simp at m) (fun _ _ _ m => by simp at m) hi
theorem RelS.putN {Z H : Hp} {σ : L2.St} {ε : En} {F : Nat → List Addr} {i : Nat} (r : RelS k Z0 H0 Z H σ ε F) (hi : i < ε.length) : RelS k Z0 H0 Z H (σ.set i none) (ε.set i none) (fun j => if j = i then [] else F j) :=
  r.put rfl List.nodup_nil (fun _ m => by simp at m) (fun _ m => by simp at m) (fun _ _ _ m => by simp at m) hi
/-- a target's slots -/
def tgS : Tg → List Nat
  | .one i => [i]
  | .two i j => [i, j]
  | .three i j l => [i, j, l]
/-- a target's store -/
def gT (K : PySem.W.Frag) : Tg → TG
  | .one i => gName i
  | .two i j => gTup K 2 (gCons (gName i) (gCons (gName j) gNil))
  | .three i j l => gTup K 3 (gCons (gName i) (gCons (gName j) (gCons (gName l) gNil)))
def wipeE (ε : En) : List Nat → En
  | [] => ε
  | v :: vs => (wipeE ε vs).set v none
theorem set_over {ε : En} {i : Nat} {a b : Option LD} : (ε.set i a).set i b = ε.set i b := List.set_set ..
theorem RelS.wipe {Z H : Hp} {σ : L2.St} {ε : En} : ∀ {vs : List Nat} {F : Nat → List Addr}, RelS k Z0 H0 Z H σ ε F → (∀ i ∈ vs, i < ε.length) → ∃ F', RelS k Z0 H0 Z H (L2.wipe σ vs) (wipeE ε vs) F' ∧ (wipeE ε vs).length = ε.length ∧ ∀ i a, a ∈ F' i → a ∈ F i
  | [], F, r, _ => ⟨F, r, rfl, fun _ _ m => m⟩
  | v :: vs, F, r, h => by
    obtain ⟨F', r', l, s⟩ := RelS.wipe r fun i hi => h i (List.mem_cons_of_mem _ hi)
    refine ⟨_, r'.putN (i := v) (by rw [l]; exact h v (List.mem_cons_self ..)), by show ((wipeE ε vs).set v none).length = _; rw [List.length_set, l], fun i a m => ?_⟩
    have m : a ∈ (if i = v then [] else F' i) := m
    split at m
    · simp at m
    · exact s i a m
theorem gT_store {Z H : Hp} {σ : L2.St} {ε ε' : En} {F : Nat → List Addr} {tg : Tg} {v : V} {d : D} {Q : L2.St → Hp → Prop} (hK : k.K = X.K) (r : RelS k Z0 H0 Z H σ ε F) (s : Sh k Z v d) (ht : setTg tg d ε = some ε')
    (q : ∀ σ' F', RelS k Z0 H0 Z H σ' ε' F' → (∀ i a, a ∈ F' i → a ∈ F i) → (∀ vs, (∀ i ∈ tgS tg, i ∈ vs) → L2.wipe σ' vs = L2.wipe σ vs) → Q σ' H) : gT X.K tg v σ H Q := by
  have sub : ∀ {G : Nat → List Addr} {i : Nat}, (∀ j a, a ∈ G j → a ∈ F j) → ∀ j a, a ∈ (if j = i then [] else G j) → a ∈ F j := fun {G i} hG j a m => by
    split at m
    · simp at m
    · exact hG j a m
  have wset : ∀ {vs : List Nat} {σ : L2.St} {i : Nat} {x : Option V}, i ∈ vs → L2.wipe (σ.set i x) vs = L2.wipe σ vs := by
    intro vs
    induction vs with
    | nil => intro σ i x h; simp at h
    | cons w vs ih =>
      intro σ i x h
      unfold L2.wipe
      by_cases hw : i ∈ vs
      · rw [ih hw]
      · rcases List.mem_cons.mp h with e | e
        · subst e
          have ne : ∀ {vs : List Nat} {σ : L2.St}, i ∉ vs → L2.wipe (σ.set i x) vs = (L2.wipe σ vs).set i x := by
            intro vs
            induction vs with
            | nil => intro σ _; rfl
            | cons y r ih =>
              intro σ h
              simp only [List.mem_cons, not_or] at h
              unfold L2.wipe
              rw [ih h.2]
              exact List.set_comm _ _ h.1
          rw [ne hw, List.set_set]
        · exact absurd e hw
  cases tg with
  | one i =>
    simp only [setTg] at ht
    split at ht
    · rename_i hi
      cases ht
      exact q _ _ (r.put0 s hi) (sub fun _ _ m => m) fun vs hv => wset (hv i (by simp [tgS]))
    · cases ht
  | two i j =>
    simp only [setTg] at ht
    split at ht
    · rename_i a b
      split at ht
      · rename_i hi
        cases ht
        cases s with
        | @tup ad xs _ sq rs =>
          cases rs with
          | @cons v1 _ _ _ s1 rs =>
            cases rs with
            | @cons v2 _ _ _ s2 rs =>
              cases rs
              rw [hK] at sq
              refine ⟨ad, [v1, v2], rfl, SqT.mono r.zh sq, rfl, v1, [v2], rfl, v2, [], rfl, rfl, ?_⟩
              have r1 := r.put0 s1 hi.1
              have r2 := r1.put0 s2 (i := j) (by rw [List.length_set]; exact hi.2.1)
              exact q _ _ r2 (sub (sub fun _ _ m => m)) fun vs hv => by rw [wset (hv j (by simp [tgS])), wset (hv i (by simp [tgS]))]
      · cases ht
    · cases ht
  | three i j l =>
    simp only [setTg] at ht
    split at ht
    · rename_i a b c
      split at ht
      · rename_i hi
        cases ht
        cases s with
        | @tup ad xs _ sq rs =>
          cases rs with
          | @cons v1 _ _ _ s1 rs =>
            cases rs with
            | @cons v2 _ _ _ s2 rs =>
              cases rs with
              | @cons v3 _ _ _ s3 rs =>
                cases rs
                rw [hK] at sq
                refine ⟨ad, [v1, v2, v3], rfl, SqT.mono r.zh sq, rfl, v1, [v2, v3], rfl, v2, [v3], rfl, v3, [], rfl, rfl, ?_⟩
                have r1 := r.put0 s1 hi.1
                have r2 := r1.put0 s2 (i := j) (by rw [List.length_set]; exact hi.2.1)
                have r3 := r2.put0 s3 (i := l) (by rw [List.length_set, List.length_set]; exact hi.2.2.1)
                exact q _ _ r3 (sub (sub (sub fun _ _ m => m))) fun vs hv => by rw [wset (hv l (by simp [tgS])), wset (hv j (by simp [tgS])), wset (hv i (by simp [tgS]))]
      · cases ht
    · cases ht
/-- stored over the wiped names or over what was there: the same -/
theorem setTg_wipe {tg : Tg} {d : D} {ε ε' : En} (h : setTg tg d ε = some ε') : setTg tg d (wipeE ε (tgS tg)) = some ε' := by
  cases tg with
  | one i =>
    simp only [setTg, tgS, wipeE] at h ⊢
    split at h
    · rename_i hi
      rw [if_pos (by simpa using hi)]
      rw [← h]
      congr 1
      apply List.ext_getElem?
      intro m
      simp only [List.getElem?_set, List.length_set]
      by_cases e1 : i = m <;> simp_all
    · cases h
  | two i j =>
    simp only [setTg, tgS, wipeE] at h ⊢
    split at h
    · split at h
      · rename_i hi
        rw [if_pos (by simpa using hi)]
        rw [← h]
        congr 1
        apply List.ext_getElem?
        intro m
        obtain ⟨h1, h2, n1⟩ := hi
        simp only [List.getElem?_set, List.length_set]
        by_cases e1 : i = m <;> by_cases e2 : j = m <;> simp_all
      · cases h
    · cases h
  | three i j l =>
    simp only [setTg, tgS, wipeE] at h ⊢
    split at h
    · rename_i a b c
      split at h
      · rename_i hi
        rw [if_pos (by simpa using hi)]
        rw [← h]
        congr 1
        apply List.ext_getElem?
        intro m
        obtain ⟨h1, h2, h3, n1, n2, n3⟩ := hi
        simp only [List.getElem?_set, List.length_set]
        by_cases e1 : i = m <;> by_cases e2 : j = m <;> by_cases e3 : l = m <;> simp_all
      · cases h
    · cases h
theorem setTg_len {tg : Tg} {d : D} {ε ε' : En} (h : setTg tg d ε = some ε') : ε'.length = ε.length ∧ ∀ i ∈ tgS tg, i < ε.length := by
  cases tg with
  | one i =>
    simp only [setTg] at h
    split at h
    · cases h; exact ⟨by simp, fun j hj => by simp [tgS] at hj; subst hj; assumption⟩
    · cases h
  | two i j =>
    simp only [setTg] at h
    split at h
    · split at h
      · rename_i hi
        cases h
        refine ⟨by simp, fun m hm => ?_⟩
        simp only [tgS, List.mem_cons, List.not_mem_nil, or_false] at hm
        rcases hm with rfl | rfl
        · exact hi.1
        · exact hi.2.1
      · cases h
    · cases h
  | three i j l =>
    simp only [setTg] at h
    split at h
    · split at h
      · rename_i hi
        cases h
        refine ⟨by simp, fun m hm => ?_⟩
        simp only [tgS, List.mem_cons, List.not_mem_nil, or_false] at hm
        rcases hm with rfl | rfl | rfl
        · exact hi.1
        · exact hi.2.1
        · exact hi.2.2.1
      · cases h
    · cases h
end
end RS

/-! RsSnd9 -/
namespace RS
open PySem PySem.Spec
open PyProof.Rows L2
section
variable {k : Kc} {nm : Nm} {cal : Cl → R LD} {np : Nat → Nat} {lv : Nat} {N : List Str} {sc : Scope} {X : Cx} {W : WX} {Z0 H0 : Hp}

theorem wipe_get {σ : L2.St} : ∀ (vs : List Nat) (i : Nat), (L2.wipe σ vs)[i]? = if i ∈ vs then (σ[i]?).map (fun _ => none) else σ[i]?
  | [], i => by simp [L2.wipe]
  | v :: vs, i => by
    unfold L2.wipe
    rw [List.getElem?_set, wipe_get vs i]
    by_cases h : v = i
    · subst h
      simp only [if_true, List.mem_cons, true_or]
      have hl : (L2.wipe σ vs).length = σ.length := L2.wipe_length σ vs
      by_cases hv : v < σ.length
      · simp [hl, hv]
      · simp [hl, hv]
    · have h' : ¬ i = v := fun c => h c.symm
      simp only [h, if_false, List.mem_cons, h', false_or]
theorem wipe_wipe (vs : List Nat) (σ : L2.St) : L2.wipe (L2.wipe σ vs) vs = L2.wipe σ vs := by
  apply List.ext_getElem?
  intro i
  rw [wipe_get, wipe_get]
  by_cases h : i ∈ vs
  · simp only [h, if_true, Option.map_map]; rfl
  · simp [h]
theorem noX_bind {α β : Type} {x : R α} {f : α → R β} {b : β} (h : (noX x).bind f = .ok b) : ∃ a, x = .ok a ∧ f a = .ok b := by
  cases x with
  | ok a => exact ⟨a, rfl, h⟩
  | exc c fs => cases h
  | bad => cases h
theorem compF_ok {tg : Tg} {t : En → R Bool} {e : En → R LD} {ε : En} {d : D} {o : Option LD} (h : compF tg t e ε d = .ok o) :
    ∃ ε', setTg tg d ε = some ε' ∧ ((t ε' = .ok false ∧ o = none) ∨ (t ε' = .ok true ∧ ∃ y, e ε' = .ok y ∧ o = some y)) := by
  unfold compF at h
  cases ht : setTg tg d ε with
  | none => rw [ht] at h; cases h
  | some ε' =>
    rw [ht] at h
    obtain ⟨b, h1, h2⟩ := noX_bind h
    refine ⟨ε', rfl, ?_⟩
    cases b with
    | false => simp only [Bool.false_eq_true, if_false] at h2; cases h2; exact .inl ⟨h1, rfl⟩
    | true =>
      simp only [if_true] at h2
      obtain ⟨y, h3, h4⟩ := noX_bind h2
      cases h4
      exact .inr ⟨h1, y, h3, rfl⟩
theorem bindR_ok {α β : Type} {x : R α} {f : α → R β} {b : β} (h : x.bind f = .ok b) : ∃ a, x = .ok a ∧ f a = .ok b := by
  cases x with
  | ok a => exact ⟨a, rfl, h⟩
  | exc c fs => cases h
  | bad => cases h
theorem compL_cons {f : D → R (Option LD)} {d : D} {r : List D} {ys : List LD} (h : compL f (d :: r) = .ok ys) : ∃ o ys', f d = .ok o ∧ compL f r = .ok ys' ∧ ys = (match o with | some y => y :: ys' | none => ys') := by
  unfold compL at h
  obtain ⟨o, h1, h2⟩ := bindR_ok h
  obtain ⟨ys', h3, h4⟩ := bindR_ok h2
  cases h4
  exact ⟨o, ys', h1, h3, rfl⟩
theorem compF_calm {tg : Tg} {t : En → R Bool} {e : En → R LD} {ε : En} : ∀ d, Calm (compF tg t e ε d) := fun d c fs h => by
  unfold compF at h
  split at h
  · rename_i ε' _
    cases ht : t ε' with
    | ok b =>
      rw [ht] at h
      change (if b = true then (noX (e ε')).bind _ else _) = _ at h
      cases b with
      | false => simp at h
      | true =>
        simp only [if_true] at h
        cases he : e ε' with
        | ok y => rw [he] at h; cases h
        | exc c fs => rw [he] at h; cases h
        | bad => rw [he] at h; cases h
    | exc c fs => rw [ht] at h; cases h
    | bad => rw [ht] at h; cases h
  · cases h
theorem compL_calm {f : D → R (Option LD)} (hf : ∀ d, Calm (f d)) : ∀ xs, Calm (compL f xs)
  | [] => fun c fs h => by cases h
  | d :: r => fun c fs h => by
    unfold compL at h
    cases h1 : f d with
    | ok o =>
      rw [h1] at h
      change (compL f r).bind _ = _ at h
      cases h2 : compL f r with
      | ok ys => rw [h2] at h; cases h
      | exc c fs => exact compL_calm hf r c fs h2
      | bad => rw [h2] at h; cases h
    | exc c fs => exact hf d c fs h1
    | bad => rw [h1] at h; cases h
/-- the items of a comprehension are shareable, and few -/
theorem pack_ok {ys : List LD} {z : LD} (h : pack ys = .ok z) : shrs ys = .ok (ys.map (·.2)) ∧ ys.length ≤ lim ∧ z = (if packL ys then 2 else 1, .lst (ys.map (·.2))) ∧ ∀ y ∈ ys, y.1 ≤ 2 := by
  unfold pack at h
  obtain ⟨ds, h1, h2⟩ := bindR_ok h
  have q : ∀ {ys : List LD} {ds : List D}, shrs ys = .ok ds → ds = ys.map (·.2) ∧ ∀ y ∈ ys, y.1 ≤ 2 := by
    intro ys
    induction ys with
    | nil => intro ds h; cases h; exact ⟨rfl, fun y m => by simp at m⟩
    | cons y r ih =>
      intro ds h
      unfold shrs shr at h
      obtain ⟨d, h1, h2⟩ := bindR_ok h
      obtain ⟨es, h3, h4⟩ := bindR_ok h2
      cases h4
      split at h1
      · cases h1
        obtain ⟨e, l⟩ := ih h3
        refine ⟨by rw [e]; rfl, fun z m => ?_⟩
        rcases List.mem_cons.mp m with rfl | m
        · assumption
        · exact l z m
      · cases h1
  obtain ⟨e, l⟩ := q h1
  subst e
  split at h2
  · rename_i hl
    cases h2
    exact ⟨h1, by simpa using hl, rfl, l⟩
  · cases h2
theorem packL_append {a b : List LD} (h : packL (a ++ b) = true) : packL b = true := by
  induction a with
  | nil => exact h
  | cons y r ih => simp only [List.cons_append, packL, Bool.and_eq_true] at h; exact ih h.2

/-- a comprehension's turns keep what the interpreter says -/
theorem lc_imp (hK : k.K = X.K) {ri : En → R (List D)} {tg : Tg} {rt : En → R Bool} {re : En → R LD} (σ : L2.St) (H : Hp) (Q : VK)
    (h : tE k Z0 H0 W (fun ε => (ri ε).bind fun xs => (compL (compF tg rt re ε) xs).bind pack) σ H Q) :
    tLc (tI k Z0 H0 W false ri) (gT X.K tg) (tT k Z0 H0 (fun _ _ _ _ => False) rt) (tE k Z0 H0 (fun _ _ _ _ => False) re) (tgS tg) σ H Q := by
  obtain ⟨Z, ε, F, rel, h⟩ := h
  refine ⟨Z, ε, F, rel, (After.bind h).imp fun xs ex h => ?_⟩
  intro J Z1 H1 e1 wk D hD
  have hDH : H D = none := by
    cases e : H D with
    | none => rfl
    | some o => rw [e1.h D o e] at hD; cases hD
  cases ey : compL (compF tg rt re ε) xs with
  | bad => rw [ey] at h; exact h.elim
  | exc c fs => exact absurd ey (compL_calm compF_calm xs c fs)
  | ok ys =>
    rw [ey] at h
    change After k W σ Z H (pack ys) _ at h
    cases ez : pack ys with
    | bad => rw [ez] at h; exact h.elim
    | exc c fs => exact absurd ez (pack_calm ys c fs)
    | ok z =>
      rw [ez] at h
      obtain ⟨_, hlim, hz, hl2⟩ := pack_ok ez
      have h : Gets k F Z H Q z := h
      have zD : ∀ {Zi Hi : Hp}, Ext Z1 H1 Zi Hi → Zi D = none → True := fun _ _ => trivial
      -- the invariant
      let Pv : Nat → Hp → Prop := fun i Hi => ∃ Zi y1 y2 vs fp, ys = y1 ++ y2 ∧ compL (compF tg rt re ε) (xs.drop i) = .ok y2 ∧ Ext Z1 H1 Zi Hi ∧ Hi D = some (.lst vs) ∧ Zi D = none ∧ Acc k (packL ys) Zi Hi vs (y1.map (·.2)) fp ∧ New Zi H1 (D :: fp) ∧ i ≤ xs.length
      refine ⟨fun i m Hi => m = xs.length - i ∧ Pv i Hi, ⟨xs.length, by simp, Z1, [], ys, [], [], rfl, ey, ?_, by simp [upd], ?_, ?_, ?_, by omega⟩, ?_⟩
      · exact ⟨fun a o e => by rw [upd_ne (fun c => by rw [c, hD] at e; cases e)]; exact e, fun a o e => e, fun a o e => rfl, fun a o e => by
          rw [upd_ne (fun c => by have := e1.zh a o e; rw [c, hD] at this; cases this)]; exact e1.zh a o e⟩
      · cases e : Z1 D with
        | none => rfl
        | some o => have := e1.zh D o e; rw [hD] at this; cases this
      · cases packL ys with
        | true => exact .nil
        | false => exact ⟨.nil, rfl⟩
      · refine ⟨by simp, fun a m => ?_, fun a m => ?_⟩
        · simp at m; subst m; exact hD
        · simp at m; subst m
          cases e : Z1 a with
          | none => rfl
          | some o => have := e1.zh a o e; rw [hD] at this; cases this
      · rintro i m Hi ⟨rfl, Zi, y1, y2, vs, fp, hys, hc, ei, hDi, hZi, acc, nw, hi⟩
        obtain ⟨w1, w2⟩ := wk Zi Hi ⟨ei.z, fun _ => ei.h⟩ ei.zh i
        by_cases hlt : i < xs.length
        · right
          obtain ⟨go, yld⟩ := w1 hlt
          refine ⟨go, Pv (i + 1), fun H' p => ⟨xs.length - (i + 1), by omega, rfl, p⟩, fun x H' hy => ?_⟩
          obtain ⟨Z2, d, e2, hd, hsh⟩ := yld x H' hy
          have hdr : xs.drop i = d :: xs.drop (i + 1) := by
            rw [List.drop_eq_getElem_cons hlt]
            have : xs[i] = d := by rw [List.getElem?_eq_getElem hlt] at hd; exact Option.some.inj hd
            rw [this]
          rw [hdr] at hc
          obtain ⟨o, y2', ho, hc', hy2⟩ := compL_cons hc
          obtain ⟨ε', hst, ho⟩ := compF_ok ho
          have eA : Ext Z H Z2 H' := (e1.trans ei).trans e2
          obtain ⟨hlen, hin⟩ := setTg_len hst
          obtain ⟨F1, r1, l1, s1⟩ := (rel.ext eA).wipe hin
          have accM : Acc k (packL ys) Z2 H' vs (y1.map (·.2)) fp := by
            cases hb : packL ys with
            | true => rw [hb] at acc; exact Ows.mono e2.z (fun a _ o e => e2.h a o e) acc
            | false => rw [hb] at acc; exact ⟨acc.1.mono e2.z, acc.2⟩
          have hfpH : ∀ a ∈ fp, ∃ o, Hi a = some o := fun a m => by
            cases hb : packL ys with
            | true => rw [hb] at acc; obtain ⟨o, e⟩ := Ows.there acc a m; exact ⟨_, e⟩
            | false => rw [hb] at acc; rw [acc.2] at m; simp at m
          have nw2 : ∀ {Z' H'' : Hp}, Ext Zi Hi Z' H'' → New Z' H1 (D :: fp) := fun {Z' H''} e => nw.ext (fun a m => by
            rcases List.mem_cons.mp m with rfl | m
            · exact ⟨_, hDi⟩
            · exact hfpH a m) e
          have zD' : ∀ {Z' H'' : Hp}, Ext Zi Hi Z' H'' → Z' D = none := fun {Z' H''} e => (nw2 e).z D (List.mem_cons_self ..)
          refine gT_store hK r1 hsh (setTg_wipe hst) fun σ2 F2 r2 s2 wp => ⟨(wp (tgS tg) fun i h => h).trans (by
            have ww : ∀ (vs : List Nat) (σ : L2.St), L2.wipe (L2.wipe σ vs) vs = L2.wipe σ vs := wipe_wipe
            exact ww _ _), ?_⟩
          have mkN : ∀ {Z3 H3}, Ext Z2 H' Z3 H3 → Pv (i + 1) H3 ∨ True := fun _ => .inr trivial
          have cont : ∀ Z3 H3, Ext Z2 H' Z3 H3 → (rt ε' = .ok false → Pv (i + 1) H3) := fun Z3 H3 e3 hf => by
            have : o = none := by
              rcases ho with ⟨_, h⟩ | ⟨h, _⟩
              · exact h
              · rw [hf] at h; cases h
            subst this
            refine ⟨Z3, y1, y2', vs, fp, by rw [hys, hy2], hc', ei.trans (e2.trans e3), e3.h _ _ (e2.h _ _ hDi), zD' (e2.trans e3), ?_, nw2 (e2.trans e3), by omega⟩
            cases hb : packL ys with
            | true => rw [hb] at accM; exact Ows.mono e3.z (fun a _ o e => e3.h a o e) accM
            | false => rw [hb] at accM; exact ⟨accM.1.mono e3.z, accM.2⟩
          refine ⟨Z2, ε', F2, r2, ?_⟩
          rcases ho with ⟨ht, ho⟩ | ⟨ht, y, hey, ho⟩
          · rw [ht]
            intro Z3 H3 e3
            simp only [Bool.false_eq_true, if_false]
            exact cont Z3 H3 e3 ht
          · rw [ht]
            intro Z3 H3 e3
            simp only [if_true]
            refine ⟨Z3, ε', F2, r2.ext e3, ?_⟩
            rw [hey]
            intro v Z4 H4 f4 e4 t4 n4
            have e24 := e2.trans (e3.trans e4)
            subst ho
            have hy2 : y2 = y :: y2' := hy2
            have hyl : y.1 ≤ 2 := hl2 y (by rw [hys, hy2]; simp)
            have hd4 : H4 D = some (.lst vs) := e24.h _ _ hDi
            have hvl : vs.length = y1.length := by
              cases hb : packL ys with
              | true => rw [hb] at acc; simpa using Ows.length acc
              | false => rw [hb] at acc; simpa using acc.1.length
            refine ⟨vs, hd4, ?_, ?_⟩
            · have : y1.length + 1 ≤ lim := by
                have : ys.length = y1.length + (y2'.length + 1) := by rw [hys, hy2]; simp
                omega
              have hs : lim < sizeLine := by decide
              omega
            · have hDf : D ∉ f4 := fun m => by
                have := n4.n D m
                rw [e3.h _ _ (e2.h _ _ hDi)] at this
                cases this
              have hDfp : D ∉ fp := fun m => (List.nodup_cons.mp nw.nd).1 m
              have ux : ∀ {Z5 : Hp}, Ext Z1 H1 Z5 H4 → Z5 D = none → Ext Z1 H1 Z5 (upd H4 D (.lst (vs ++ [v]))) := fun {Z5} e z => ⟨fun a o q => by
                rw [upd_ne (fun c => by rw [c, hD] at q; cases q)]; exact e.h a o q, e.z, e.n, fun a o q => by
                rw [upd_ne (fun c => by rw [c, z] at q; cases q)]; exact e.zh a o q⟩
              have e14 : Ext Z1 H1 Z4 H4 := ei.trans e24
              cases hb : packL ys with
              | true =>
                rw [hb] at acc
                have ho4 : Ow k Z4 H4 v y.2 f4 := by
                  have hp := packL_append (a := y1) (b := y2) (by rw [← hys]; exact hb)
                  rw [hy2] at hp
                  simp only [packL, Bool.and_eq_true, Bool.or_eq_true, beq_iff_eq] at hp
                  obtain ⟨l, d⟩ := y
                  have hd := t4.hd hyl
                  rcases hp.1 with h1 | h1
                  · dsimp only at h1; subst h1; exact hd
                  · match l, hd with
                    | 0, hd => rw [hd.2]; exact .sh hd.1 h1
                    | 1, ⟨b, xs, ds, _, h2, _⟩ => dsimp only at h2 h1; subst h2; simp [RS.D.lf] at h1
                    | 2, hd => exact hd
                    | n + 3, _ => exact absurd hyl (by show ¬ n + 3 ≤ 2; omega)
                have o4 := Ows.snoc (Ows.mono e24.z (fun a _ o e => e24.h a o e) acc) ho4
                refine ⟨Z4, y1 ++ [y], y2', vs ++ [v], fp ++ f4, by rw [hys, hy2]; simp, hc', ux e14 (zD' e24), by simp [upd], zD' e24, ?_, ?_, by omega⟩
                · rw [hb, List.map_append]
                  refine Ows.at (fun a m => upd_ne fun c => ?_) o4
                  subst c
                  rcases List.mem_append.mp m with m | m
                  · exact hDfp m
                  · exact hDf m
                · have nj := (nw2 e24).join (H1 := H3) (f2 := f4) (fun a m => by
                    rcases List.mem_cons.mp m with rfl | m
                    · exact ⟨_, e3.h _ _ (e2.h _ _ hDi)⟩
                    · obtain ⟨o, q⟩ := hfpH a m
                      exact ⟨_, e3.h _ _ (e2.h _ _ q)⟩) n4 fun a o q => e3.h _ _ (e2.h _ _ (ei.h _ _ q))
                  exact nj
              | false =>
                rw [hb] at acc
                have z5 : (zjoin Z4 H4 f4) D = none := by rw [zjoin_out hDf]; exact zD' e24
                have e15 : Ext Z1 H1 (zjoin Z4 H4 f4) H4 := ((ei.trans (e2.trans e3)).trans (e4.freeze n4.n))
                have e35 : Ext Zi Hi (zjoin Z4 H4 f4) H4 := (e2.trans e3).trans (e4.freeze n4.n)
                refine ⟨zjoin Z4 H4 f4, y1 ++ [y], y2', vs ++ [v], [], by rw [hys, hy2]; simp, hc', ux e15 z5, by simp [upd], z5, ?_, ?_, by omega⟩
                · rw [hb, List.map_append]
                  exact ⟨(acc.1.mono e35.z).snoc ((t4.hd hyl).share (zjoin_sub e4.zh) fun a m => zjoin_in m), rfl⟩
                · have := nw2 e35
                  refine ⟨by simp, fun a m => ?_, fun a m => ?_⟩
                  · simp at m; subst m; exact hD
                  · simp at m; subst m; exact z5
        · left
          have hi' : i = xs.length := by omega
          subst hi'
          refine ⟨w2 rfl, ?_⟩
          rw [List.drop_length] at hc
          cases hc
          rw [List.append_nil] at hys
          subst hys
          have e := e1.trans ei
          rw [hz] at h
          cases hb : packL ys with
          | true =>
            rw [hb] at acc h
            exact h _ Zi Hi (D :: fp) e (Ow.lst hDi acc) (nw.back e1.h)
          | false =>
            rw [hb] at acc h
            rw [acc.2] at nw
            exact h _ Zi Hi [D] e ⟨D, vs, _, rfl, rfl, hDi, acc.1, rfl⟩ (nw.back e1.h)
end
end RS

/-! RsSnd10 -/
namespace RS
open PySem PySem.Spec
open PyProof.Rows L2
section
variable {k : Kc} {nm : Nm} {cal : Cl → R LD} {np : Nat → Nat} {lv : Nat} {N : List Str} {sc : Scope} {X : Cx} {W : WX} {Z0 H0 : Hp}

/-! ### calls -/
theorem RelTs.split {Z H : Hp} {F : Nat → List Addr} : ∀ {vs : List V} {xs : List LD} {fp : List Addr}, RelTs k Z H F vs xs fp → xs.all (fun a => a.1 ≤ 4) = true →
    ∀ {Z' : Hp}, (∀ a o, Z a = some o → Z' a = some o) → (∀ a ∈ fp, Z' a = H a) → (lent xs = true → ∀ i, ∀ a ∈ F i, (∃ ys, H a = some (.lst ys)) → Z' a = H a) → Shs k Z' vs (xs.map (·.2))
  | _, _, _, .nil, _, _, _, _, _ => .nil
  | _, _, _, .cons (x := x) (xs := xs) (F := _) t tr, h, Z', z, hf, hb => by
    simp only [List.all_cons, Bool.and_eq_true, decide_eq_true_eq] at h
    have hl : ∀ {y : LD} {ys : List LD}, lent (y :: ys) = (decide (3 ≤ y.1) || lent ys) := fun {y ys} => rfl
    refine .cons ?_ (RelTs.split tr h.2 z (fun a m => hf a (List.mem_append_right _ m)) fun l => hb (by rw [hl, l, Bool.or_true]))
    have hf1 := fun a m => hf a (List.mem_append_left _ m)
    obtain ⟨l, d⟩ := x
    match l, t with
    | 0, t => exact Hd.share (lv := 0) t z hf1
    | 1, t => exact Hd.share (lv := 1) t z hf1
    | 2, t => exact Hd.share (lv := 2) t z hf1
    | 3, ⟨_, fp, t, m⟩ => exact t.share z fun a ma => by obtain ⟨i, mi⟩ := m.1 a ma; exact hb (by rw [hl]; rfl) i a mi (Hd.lists (lv := 1) (by omega) t a ma)
    | 4, ⟨_, fp, t, m⟩ => exact t.share z fun a ma => by obtain ⟨i, mi⟩ := m.1 a ma; exact hb (by rw [hl]; rfl) i a mi (Hd.lists (lv := 2) (by omega) t a ma)
    | n + 5, t => exact t.elim
theorem data_ok {xs : List LD} {ds : List D} (h : data xs = some ds) : ds = xs.map (·.2) ∧ xs.all (fun a => a.1 ≤ 4) = true := by
  unfold data at h
  split at h
  · cases h; exact ⟨rfl, by assumption⟩
  · cases h
/-- the lists at S are taken out -/
noncomputable def prune (Z : Hp) (S : Addr → Prop) : Hp := fun a => open Classical in if S a then none else Z a
theorem prune_in {Z : Hp} {S : Addr → Prop} {a : Addr} (h : S a) : prune Z S a = none := if_pos h
theorem prune_out {Z : Hp} {S : Addr → Prop} {a : Addr} (h : ¬ S a) : prune Z S a = Z a := if_neg h
section
variable {Z : Hp} {F : Addr → Prop} (hp : ∀ a, F a → ∃ xs, Z a = some (.lst xs))
include hp
theorem prune_some {a : Addr} {o : HO} (e : Z a = some o) (h : ∀ xs, o ≠ .lst xs) : prune Z F a = some o := by
  rw [prune_out fun m => by
    obtain ⟨xs, q⟩ := hp a m
    rw [e] at q
    exact h xs (Option.some.inj q)]
  exact e
mutual
theorem Sh.prune : ∀ {v : V} {d : D}, Sh k Z v d → d.lf = true → Sh k (prune Z F) v d
  | _, _, .non, _ => .non
  | _, _, .bl _, _ => .bl _
  | _, _, .int _, _ => .int _
  | _, _, .str _, _ => .str _
  | _, _, .tup s r, l => .tup (s.imp (fun q => q.imp (fun q => prune_some hp q (fun xs z => nomatch z)) fun ⟨o, q⟩ => ⟨o, prune_some hp q (fun xs z => nomatch z)⟩) id) (Shs.prune r (by simpa [D.lf] using l))
  | _, _, .lst _ _, l => by simp [D.lf] at l
  | _, _, .scr _, l => by simp [D.lf] at l
  | _, _, .ins (k := _) s r, l => .ins (by
      obtain ⟨dx, l, q⟩ := s
      refine ⟨dx, l, ?_⟩
      rcases q with ⟨q1, q2⟩ | ⟨q1, ⟨q2, q3⟩ | ⟨q2, q3⟩⟩
      · exact .inl ⟨q1, prune_some hp q2 (fun xs z => nomatch z)⟩
      · exact .inr ⟨q1, .inl ⟨prune_some hp q2 (fun xs z => nomatch z), q3⟩⟩
      · exact .inr ⟨q1, .inr ⟨prune_some hp q2 (fun xs z => by unfold SlX.SlO at z; nomatch z), prune_some hp q3 (fun xs z => nomatch z)⟩⟩) (Shs.prune r (by simpa [D.lf] using l))
theorem Shs.prune : ∀ {v : List V} {d : List D}, Shs k Z v d → D.lfs d = true → Shs k (prune Z F) v d
  | _, _, .nil, _ => .nil
  | _, _, .cons a r, l => by
    simp only [D.lfs, Bool.and_eq_true] at l
    exact .cons (Sh.prune a l.1) (Shs.prune r l.2)
end
mutual
theorem Ow.prune {H : Hp} : ∀ {v : V} {d : D} {fp : List Addr}, Ow k Z H v d fp → Ow k (RS.prune Z F) H v d fp
  | _, _, _, .sh s l => .sh (Sh.prune hp s l) l
  | _, _, _, .lst e r => .lst e (Ows.prune r)
theorem Ows.prune {H : Hp} : ∀ {v : List V} {d : List D} {fp : List Addr}, Ows k Z H v d fp → Ows k (RS.prune Z F) H v d fp
  | _, _, _, .nil => .nil
  | _, _, _, .cons a r => .cons (Ow.prune a) (Ows.prune r)
end
end
theorem RelS.there {Z H : Hp} {σ : L2.St} {ε : En} {F : Nat → List Addr} (r : RelS k Z0 H0 Z H σ ε F) : ∀ a, (∃ i, a ∈ F i) → ∃ o, H a = some o := fun a ⟨i, m⟩ => by
  have hi : i < ε.length := by
    rcases Nat.lt_or_ge i ε.length with h | h
    · exact h
    · rw [r.out i h] at m; simp at m
  have q := r.sl i _ (List.getElem?_eq_getElem hi)
  cases e : ε[i] with
  | none => rw [e] at q; simp only [RelSl] at q; rw [q] at m; simp at m
  | some p =>
    obtain ⟨lv, d⟩ := p
    rw [e] at q
    obtain ⟨v, _, hd⟩ := q
    exact hd.there a m
def hkV : V → Nat
  | .non => 0
  | .bl _ => 1
  | .int _ => 2
  | .str _ => 3
  | _ => 4
theorem Sh.kind {Z : Hp} {v : V} {d : D} (h : Sh k Z v d) : hkV v = hk d := by cases h <;> rfl
theorem Shs.kinds {Z : Hp} : ∀ {v : List V} {d : List D}, Shs k Z v d → v.map hkV = d.map hk
  | _, _, .nil => rfl
  | _, _, .cons a r => by rw [List.map_cons, List.map_cons, a.kind, Shs.kinds r]
theorem Ow.kind {Z H : Hp} {v : V} {d : D} {fp : List Addr} (h : Ow k Z H v d fp) : hkV v = hk d := by
  cases h with
  | sh s _ => exact s.kind
  | lst _ _ => rfl
theorem Ows.kinds {Z H : Hp} : ∀ {v : List V} {d : List D} {fp : List Addr}, Ows k Z H v d fp → v.map hkV = d.map hk
  | _, _, _, .nil => rfl
  | _, _, _, .cons a r => by rw [List.map_cons, List.map_cons, a.kind, Ows.kinds r]
mutual
theorem Ow.ap {Z H : Hp} {ks : List Nat} : ∀ {v : V} {d : D} {fp : List Addr}, Ow k Z H v d fp → apD ks d = true → ∀ a ∈ fp, ∃ ws, H a = some (.lst ws) ∧ ks ≠ ws.map hkV
  | _, _, _, .sh _ _, _, a, m => by simp at m
  | _, _, _, .lst e r, h, a, m => by
    unfold apD at h
    simp only [Bool.and_eq_true, decide_eq_true_eq] at h
    rcases List.mem_cons.mp m with m | m
    · subst m
      exact ⟨_, e, by rw [r.kinds]; exact h.1⟩
    · exact Ows.ap r h.2 a m
theorem Ows.ap {Z H : Hp} {ks : List Nat} : ∀ {v : List V} {d : List D} {fp : List Addr}, Ows k Z H v d fp → apDs ks d = true → ∀ a ∈ fp, ∃ ws, H a = some (.lst ws) ∧ ks ≠ ws.map hkV
  | _, _, _, .nil, _, a, m => by simp at m
  | _, _, _, .cons p r, h, a, m => by
    unfold apDs at h
    simp only [Bool.and_eq_true] at h
    rcases List.mem_append.mp m with m | m
    · exact Ow.ap p h.1 a m
    · exact Ows.ap r h.2 a m
end
/-- what is lent: the lists at S -/
theorem RelTs.lentS {Z H : Hp} {F : Nat → List Addr} : ∀ {vs : List V} {xs : List LD} {fp : List Addr}, RelTs k Z H F vs xs fp → xs.all (fun a => a.1 ≤ 4) = true →
    ∃ S : Addr → Prop, (∀ a, S a → (∃ i, a ∈ F i) ∧ ∃ ys, H a = some (.lst ys)) ∧
      (∀ {Z' : Hp}, (∀ a o, Z a = some o → Z' a = some o) → (∀ a ∈ fp, Z' a = H a) → (∀ a, S a → Z' a = H a) → Shs k Z' vs (xs.map (·.2))) ∧
      ∀ ks, xs.all (apA ks) = true → ∀ a, S a → ∃ ws, H a = some (.lst ws) ∧ ks ≠ ws.map hkV
  | _, _, _, .nil, _ => ⟨fun _ => False, fun _ m => m.elim, fun _ _ _ => .nil, fun _ _ _ m => m.elim⟩
  | _, _, _, .cons (x := x) (xs := xs) (F := _) t tr, h => by
    simp only [List.all_cons, Bool.and_eq_true, decide_eq_true_eq] at h
    obtain ⟨S, s1, s2, s3⟩ := RelTs.lentS tr h.2
    obtain ⟨l, d⟩ := x
    match l, t with
    | 0, t => exact ⟨S, s1, fun z hf hb => .cons (Hd.share (lv := 0) t z fun a m => hf a (List.mem_append_left _ m)) (s2 z (fun a m => hf a (List.mem_append_right _ m)) hb), fun ks hk => by rw [List.all_cons, Bool.and_eq_true] at hk; exact s3 ks hk.2⟩
    | 1, t => exact ⟨S, s1, fun z hf hb => .cons (Hd.share (lv := 1) t z fun a m => hf a (List.mem_append_left _ m)) (s2 z (fun a m => hf a (List.mem_append_right _ m)) hb), fun ks hk => by rw [List.all_cons, Bool.and_eq_true] at hk; exact s3 ks hk.2⟩
    | 2, t => exact ⟨S, s1, fun z hf hb => .cons (Hd.share (lv := 2) t z fun a m => hf a (List.mem_append_left _ m)) (s2 z (fun a m => hf a (List.mem_append_right _ m)) hb), fun ks hk => by rw [List.all_cons, Bool.and_eq_true] at hk; exact s3 ks hk.2⟩
    | 3, ⟨_, fq, t, m⟩ =>
      refine ⟨fun a => S a ∨ a ∈ fq, fun a q => ?_, fun z hf hb => .cons (t.share z fun a ma => hb a (.inr ma)) (s2 z (fun a m => hf a (List.mem_append_right _ m)) fun a q => hb a (.inl q)), fun ks hk a q => ?_⟩
      · rcases q with q | q
        · exact s1 a q
        · exact ⟨m.1 a q, Hd.lists (lv := 1) (by omega) t a q⟩
      · rw [List.all_cons, Bool.and_eq_true] at hk
        rcases q with q | q
        · exact s3 ks hk.2 a q
        · obtain ⟨b, ws, ds, _, rfl, e, sh, rfl⟩ := t
          rw [List.mem_singleton] at q
          subst q
          refine ⟨ws, e, ?_⟩
          rw [sh.kinds]
          have h1 := hk.1
          simpa [apA, apT] using h1
    | 4, ⟨_, fq, t, m⟩ =>
      refine ⟨fun a => S a ∨ a ∈ fq, fun a q => ?_, fun z hf hb => .cons (t.share z fun a ma => hb a (.inr ma)) (s2 z (fun a m => hf a (List.mem_append_right _ m)) fun a q => hb a (.inl q)), fun ks hk a q => ?_⟩
      · rcases q with q | q
        · exact s1 a q
        · exact ⟨m.1 a q, Hd.lists (lv := 2) (by omega) t a q⟩
      · rw [List.all_cons, Bool.and_eq_true] at hk
        rcases q with q | q
        · exact s3 ks hk.2 a q
        · have h1 : apD ks d = true := by simpa [apA] using hk.1
          exact Ow.ap t h1 a q
    | n + 5, t => exact t.elim
/-- a call by data: what the caller wants of it -/
theorem call_get0 {σ : L2.St} {ε : En} {F : Nat → List Addr} {Z H Z1 H1 : Hp} {Q : VK} {c : List D → Cl} {xs : List LD} {ds : List D} {vs : List V} {fp : List Addr} (rel : RelS k Z0 H0 Z H σ ε F) (e1 : Ext Z H Z1 H1) (ts : RelTs k Z1 H1 F vs xs fp) (n1 : New Z1 H fp)
    (hd : data xs = some ds) (h : After k W σ Z H (back xs (cal (c ds))) (Gets k F Z H Q)) : ∃ Z', Zh Z' H1 ∧ Shs k Z' vs ds ∧ (match cal (c ds) with
  | .ok (lv, d) => lv ≤ 2 ∧ ∀ v Z2 H' fp, Ext Z' H1 Z2 H' → Hd k Z2 H' lv v d fp → New Z2 H1 fp → Q v H'
  | .exc c fs => ∀ cls dd Z2 H', Ext Z' H1 Z2 H' → XRep k Z2 H' c fs cls dd → WE W σ cls dd H'
  | .bad => False) := by
  obtain ⟨rfl, hall⟩ := data_ok hd
  cases hl : lent xs with
  | false =>
    refine ⟨zjoin Z1 H1 fp, zjoin_zh e1.zh, ts.split hall (zjoin_sub e1.zh) (fun a m => zjoin_in m) (fun z => by rw [hl] at z; cases z), ?_⟩
    have e2 : Ext Z H (zjoin Z1 H1 fp) H1 := e1.freeze n1.n
    cases ec : cal (c (xs.map (·.2))) with
    | bad => rw [ec] at h; exact h.elim
    | exc cc fs =>
      rw [ec] at h
      unfold back at h
      dsimp only at h
      rw [if_pos (Or.inl hl)] at h
      exact fun cls dd Z' H' e x => h cls dd Z' H' (e2.trans e) x
    | ok r =>
      obtain ⟨l, d⟩ := r
      rw [ec] at h
      unfold back at h
      dsimp only at h
      split at h
      · rename_i hh
        refine ⟨hh.1, fun v Z' H' f e t n => h v Z' H' f (e2.trans e) ?_ (n.back e1.h)⟩
        match l, t, hh.1 with
        | 0, t, _ => exact t
        | 1, t, _ => exact t
        | 2, t, _ => exact t
      · exact h.elim
  | true =>
    obtain ⟨S, s1, s2, s3⟩ := ts.lentS hall
    let Zc : Hp := fun a => open Classical in if a ∈ fp ∨ S a then H1 a else Z1 a
    have zin : ∀ a, (a ∈ fp ∨ S a) → Zc a = H1 a := fun a m => if_pos m
    have zout : ∀ a, ¬ (a ∈ fp ∨ S a) → Zc a = Z1 a := fun a m => if_neg m
    have zsub : ∀ a o, Z1 a = some o → Zc a = some o := fun a o e => by
      by_cases m : a ∈ fp ∨ S a
      · rw [zin a m]; exact e1.zh a o e
      · rw [zout a m]; exact e
    have zzh : Zh Zc H1 := fun a o e => by
      by_cases m : a ∈ fp ∨ S a
      · rw [zin a m] at e; exact e
      · rw [zout a m] at e; exact e1.zh a o e
    have zf := (rel.ext e1).zf
    -- from the callee's end to the caller's
    have ext : ∀ {Z' H' : Hp}, Ext Zc H1 Z' H' → Ext Z H (prune Z' S) H' ∧ (∀ a, S a → ∃ xs, Z' a = some (.lst xs)) := fun {Z' H'} e => by
      have hp : ∀ a, S a → ∃ xs, Z' a = some (.lst xs) := fun a m => by
        obtain ⟨xs, q⟩ := (s1 a m).2
        exact ⟨xs, e.z a _ (by rw [zin a (.inr m)]; exact q)⟩
      refine ⟨⟨fun a o q => e.h a o (e1.h a o q), fun a o q => ?_, fun a o q => ?_, fun a o q => ?_⟩, hp⟩
      · rw [prune_out fun m => by obtain ⟨⟨i, m⟩, _⟩ := s1 a m; have q2 := e1.z a o q; rw [zf i a m] at q2; cases q2]
        exact e.z a o (zsub a o (e1.z a o q))
      · by_cases m : S a
        · rw [prune_in m]
          obtain ⟨⟨i, m⟩, _⟩ := s1 a m
          exact ((rel.zf i a m)).symm
        · rw [prune_out m, e.n a o (e1.h a o q), zout a fun mm => by
            rcases mm with mm | mm
            · rw [n1.n a mm] at q; cases q
            · exact m mm]
          exact e1.n a o q
      · by_cases m : S a
        · rw [prune_in m] at q; cases q
        · rw [prune_out m] at q; exact e.zh a o q
    refine ⟨Zc, zzh, s2 zsub (fun a m => zin a (.inl m)) (fun a m => zin a (.inr m)), ?_⟩
    cases ec : cal (c (xs.map (·.2))) with
    | bad => rw [ec] at h; exact h.elim
    | exc cc fs =>
      rw [ec] at h
      unfold back at h
      dsimp only at h
      split at h
      · rename_i hh
        have hh : D.lfs fs = true := by
          rcases hh with hh | hh
          · rw [hl] at hh; cases hh
          · exact hh
        refine fun cls dd Z' H' e x => h cls dd _ H' (ext e).1 ⟨x.1, ?_⟩
        rcases x.2 with x | ⟨d, vs, e1, e2, e3⟩
        · exact .inl x
        · exact .inr ⟨d, vs, e1, e2, Shs.prune (ext e).2 e3 hh⟩
      · exact h.elim
    | ok r =>
      obtain ⟨l, d⟩ := r
      rw [ec] at h
      unfold back at h
      dsimp only at h
      split at h
      · rename_i hh
        obtain ⟨h1, h2⟩ := hh
        refine ⟨h1, fun v Z' H' f e t n => h v _ H' f (ext e).1 ?_ ?_⟩
        · have hp := (ext e).2
          rcases h2 with h2 | h2 | h2 | h2
          · rw [hl] at h2; cases h2
          · have h2 : l = 2 := h2
            subst h2
            exact Ow.prune hp t
          · match l, t, h1 with
            | 0, t, _ => exact ⟨Sh.prune hp t.1 h2, t.2⟩
            | 1, ⟨b, xs, ds, _, q, _⟩, _ => have h2 : d.lf = true := h2; subst q; simp [RS.D.lf] at h2
            | 2, t, _ => exact Ow.prune hp t
          · cases d with
            | lst ys =>
              have h2 : (D.lfs ys && xs.all (apA (ys.map hk))) = true := h2
              rw [Bool.and_eq_true] at h2
              match l, t, h1 with
              | 0, t, _ =>
                have t0 : Sh k Z' v (.lst ys) ∧ f = [] := t
                obtain ⟨t1, tf⟩ := t0
                subst tf
                cases t1 with
                | @lst b ws _ q sh =>
                  have nS : ¬ S b := fun m => by
                    obtain ⟨ws', w1, w2⟩ := s3 _ h2.2 b m
                    have q2 := e.z b _ (by rw [zin b (.inr m)]; exact w1)
                    rw [q] at q2
                    cases q2
                    exact w2 sh.kinds.symm
                  exact ⟨.lst (by rw [prune_out nS]; exact q) (Shs.prune hp sh h2.1), rfl⟩
              | 1, ⟨b, ws, ds, q1, q2, q3, q4, q5⟩, _ =>
                cases q2
                exact ⟨b, ws, _, q1, rfl, q3, Shs.prune hp q4 h2.1, q5⟩
              | 2, t, _ => exact Ow.prune hp t
            | _ => cases h2
        · refine (New.back ⟨n.nd, n.n, fun a m => ?_⟩ e1.h)
          by_cases q : S a
          · exact prune_in q
          · rw [prune_out q]; exact n.z a m
      · exact h.elim
theorem call_get {σ : L2.St} {ε : En} {F : Nat → List Addr} {Z H Z1 H1 : Hp} {Q : VK} {c : List D → Cl} {xs : List LD} {ds : List D} {vs : List V} {fp : List Addr} (rel : RelS k Z0 H0 Z H σ ε F) (e1 : Ext Z H Z1 H1) (ts : RelTs k Z1 H1 F vs xs fp) (n1 : New Z1 H fp)
    (hd : data xs = some ds) (h : After k W σ Z H (back xs (cal (c ds))) (Gets k F Z H Q)) : spF k cal c vs H1 Q (WE W σ) :=
  let ⟨Z', a, b, q⟩ := call_get0 rel e1 ts n1 hd h
  ⟨Z', ds, a, b, q⟩
theorem starOne_any {es : List Expr} {env : Env} (h : ∀ e ∈ es, ∀ v p, e ≠ .Starred v p) : True := trivial
/-- a def called by its name -/
theorem snd_call (g : Gd k nm cal np lv N sc X W) {f : Nat} {x : Str} {n : Nat} {e : Expr} {es : List Expr} {p pos : Pos} {r : En → R (List LD)} (F : FnKnown k cal X lv f x n) (hg : glB sc x = true) (ha : PA X (e :: es) (tA k Z0 H0 W r))
    (he : starEach (e :: es) X.env = (false, eval e X.env) :: starEach es X.env) (hpl : (backTo pos (starEach es X.env)).any (·.1) = false) :
    PE X (.Call (.Name x p) (e :: es) [] pos) (tE k Z0 H0 W fun ε => (r ε).bind fun xs => match data xs with
      | some ds => back xs (cal (.fn f ds))
      | none => .bad) := by
  obtain ⟨fa, fd, ps, h1, h2, h3, h4, h5⟩ := F.ex
  obtain ⟨g1, g2⟩ := g.gl hg
  refine PE.imp (pe_callS (E := WE W) h5 g.room g1 h1 h2 h3 (passAt g.tk) ha g2 he hpl) fun σ H Q ⟨Z, ε, F, rel, q⟩ => ?_
  refine ⟨Z, ε, F, rel, (After.bind q).imp fun xs ex q => ?_⟩
  intro vs Z1 H1 fp e1 ts n1
  cases hd : data xs with
  | none => rw [hd] at q; exact q.elim
  | some ds =>
    rw [hd] at q
    exact call_get rel e1 ts n1 hd q

/-! ### targets, tests, comprehensions -/
theorem snd_tgName (g : Gd k nm cal np lv N sc X W) {i : Nat} {x : Str} {pos : Pos} (hx : N[i]? = some x) (hl : sc.names.lookup x = some .local ∨ (sc.names.lookup x = some .cell ∧ X.fn x = true)) : PG X (.Name x pos) (gName i) :=
  pg_name (g.hN ▸ g.nd) (by rw [g.hN]; exact hx) (by rw [g.sc]; exact hl.imp id And.left) (by rw [g.sc]; exact hl.elim .inr fun h => .inl h.2)
theorem tYes_imp (σ : L2.St) (H : Hp) (Q : Bool → Hp → Prop) (h : tT k Z0 H0 W (fun _ => .ok true) σ H Q) : tYes σ H Q := by
  obtain ⟨Z, ε, F, rel, q⟩ := h
  exact q Z H (Ext.refl rel.zh)
theorem PTs.imp {ifs : List Expr} {t t' : TT} (h : PTs X ifs t) (i : ∀ σ H Q, t' σ H Q → t σ H Q) : PTs X ifs t' := ⟨fun pins s σ H Q I q => h.run pins s σ H Q I (i σ H Q q)⟩
theorem snd_comp (g : Gd k nm cal np lv N sc X W) {elt tgE iter : Expr} {ifs : List Expr} {scope : Scope} {own : List (Str × Nat)} {pos : Pos} {ri : En → R (List D)} {tg : Tg} {rt : En → R Bool} {re : En → R LD}
    (hi : PI X tgE iter (tI k Z0 H0 W false ri)) (ok : blkC N sc scope own = true) (ho : own.map (·.2) = tgS tg)
    (hg : ∀ (s : Shared) (H : Hp) (C : Addr) (cl : List (Str × Addr)) (fp : List Addr), PG (X.blk s H scope (compEnvC scope cl C X.env) fp) tgE (gT X.K tg))
    (ht : ∀ (s : Shared) (H : Hp) (C : Addr) (cl : List (Str × Addr)) (fp : List Addr), PTs (X.blk s H scope (compEnvC scope cl C X.env) fp) ifs (tT k Z0 H0 (fun _ _ _ _ => False) rt))
    (he : ∀ (s : Shared) (H : Hp) (C : Addr) (cl : List (Str × Addr)) (fp : List Addr), PE (X.blk s H scope (compEnvC scope cl C X.env) fp) elt (tE k Z0 H0 (fun _ _ _ _ => False) re)) (hs : ∀ x, foldedSetIterable iter X.env x = pure x) :
    PE X (.ListComp elt [⟨tgE, iter, ifs, 0⟩] scope pos) (tE k Z0 H0 W fun ε => (ri ε).bind fun xs => (compL (compF tg rt re ε) xs).bind pack) :=
  PE.imp (pe_lc g.calm (g.hN ▸ g.nd) hi (by rw [g.hN, g.sc]; exact blkOk_by ok) hg ht he hs) fun σ H Q h => by rw [ho]; exact lc_imp g.hK σ H Q h

/-! ### isinstance with the built-in types -/
/-- a type's name -/
def tyN : Ty → Option String
  | .bool => some "bool"
  | .int => some "int"
  | .str => some "str"
  | .list => some "list"
  | .tuple => some "tuple"
  | .cls _ => none
/-- what isinstance says, by the types' names -/
def kitD (d : D) (t : Ty) : Option Bool := match dTy d, tyN t with
  | some a, some b => kitB a b
  | _, _ => none
theorem kitD_eq (G : Tb) {d : D} {t : Ty} {a b : String} (ha : dTy d = some a) (hb : tyN t = some b) : kitB a b = some (isTy G d t) := by
  cases t with
  | cls c => cases hb
  | _ =>
    cases hb
    cases d with
    | ins c fs => cases ha
    | «mut» fs => cases ha
    | _ => cases ha; simp only [isTy]; decide +kernel
theorem RelT.tyX {Z H : Hp} {F : Nat → List Addr} {l : Nat} {v : V} {d : D} {fp : List Addr} {a : String} (zh : Zh Z H) (hK : k.K = X.K) (t : RelT k Z H F l v d fp) (ha : dTy d = some a) : TyX X.K H v (.type a) := by
  cases d with
  | non => cases ha; rw [t.non]; exact .base .non
  | bl b => cases ha; rw [t.bl]; exact .base (.bl _)
  | int b => cases ha; rw [t.int]; exact .base (.int _)
  | str b => cases ha; rw [t.str]; exact .base (.str _)
  | tup ds =>
    cases ha
    obtain ⟨ad, xs, rfl, _, q, _⟩ := t.tup zh
    rcases q with (q | ⟨o, q⟩) | ⟨o, its, n, q, c, _⟩
    · exact .base (.tup q)
    · exact .fTuple q
    · rw [hK] at q; exact .kTuple q c
  | lst ds =>
    cases ha
    obtain ⟨ad, xs, rfl, q, _⟩ := t.lst zh
    exact .base (.lst q)
  | scr ns =>
    cases ha
    cases t.sh_of (fun _ z => nomatch z) with
    | scr q =>
      rcases SqL.mono zh q with (q | ⟨o, q⟩) | ⟨o, its, n, q, c, _⟩
      · exact .base (.lst q)
      · exact .base (.frz q)
      · rw [hK] at q; exact .kList q c
  | ins c fs => cases ha
  | «mut» fs => cases ha
/-- isinstance(a, T), T a built-in type -/
theorem snd_isi1 (G : Tb) (g : Gd k nm cal np lv N sc X W) {a : Expr} {r : En → R LD} {t : Ty} {tn : String} {p p2 pos : Pos} (ha : PE X a (tE k Z0 H0 W r)) (hg : glB sc "isinstance" = true) (ht : tyN t = some tn) (hgt : glB sc tn = true) (hb : bootBuiltins tn = some (.type tn))
    (hm : X.mg (tn : Str) = none) (hn : (tn : Str) ≠ "__name__") (hs : starEach [a, .Name tn p2] X.env = (false, eval a X.env) :: starEach [.Name tn p2] X.env) (hs2 : starEach [.Name tn p2] X.env = [(false, eval (.Name tn p2) X.env)]) :
    PE X (.Call (.Name "isinstance" p) [a, .Name tn p2] [] pos) (tE k Z0 H0 W fun ε => (r ε).bind fun x => isiV G x [t]) := by
  have hpa : PA X [a, .Name tn p2] (tCons (tE k Z0 H0 W r) (tCons (tC (.ty tn)) tNil)) := pa_cons ha (pa_cons (pe_bltn (g.gl hgt).1 hm hb rfl hn (g.gl hgt).2) pa_nil (by rw [hs2]; rfl)) hs
  have hpl : (backTo pos (starEach [.Name tn p2] X.env)).any (·.1) = false := by rw [hs2]; rfl
  refine PE.imp (pe_callB call_isi (g.gl hg).1 (g.free _ (by decide)) rfl hpa (by decide) (by decide) hs hpl) fun σ H Q ⟨Z, ε, F, rel, q⟩ => ?_
  refine ⟨Z, ε, F, rel, (After.bind q).imp fun x ex q => ?_⟩
  intro v Z1 H1 fp e1 t1 n1
  unfold isiV at q
  split at q
  · rename_i hx
    rw [show ([t].any fun t => isTy G x.2 t) = isTy G x.2 t by simp] at q
    cases hd : dTy x.2 with
    | none => exact absurd hd hx.2
    | some n =>
      exact ⟨v, _, _, _, _, rfl, .ty tn, t1.tyX e1.zh g.hK hd, kit_ty (kitD_eq G hd ht), q (.bl _) Z1 H1 [] e1 ⟨.bl _, rfl⟩ New.nil⟩
  · exact q.elim
/-- isinstance(a, (T, U)) -/
theorem snd_isi2 (G : Tb) (g : Gd k nm cal np lv N sc X W) {a : Expr} {r : En → R LD} {t u : Ty} {tn un : String} {p p2 p3 p4 pos : Pos} {kk : Nat} (ha : PE X a (tE k Z0 H0 W r)) (hg : glB sc "isinstance" = true) (ht : tyN t = some tn) (hu : tyN u = some un) (hgt : glB sc tn = true) (hgu : glB sc un = true)
    (hb : bootBuiltins tn = some (.type tn)) (hm : X.mg (tn : Str) = none) (hn : (tn : Str) ≠ "__name__") (hb' : bootBuiltins un = some (.type un)) (hm' : X.mg (un : Str) = none) (hn' : (un : Str) ≠ "__name__")
    (hs : starEach [a, .Tuple [.Name tn p2, .Name un p3] kk p4] X.env = (false, eval a X.env) :: starEach [.Tuple [.Name tn p2, .Name un p3] kk p4] X.env) :
    PE X (.Call (.Name "isinstance" p) [a, .Tuple [.Name tn p2, .Name un p3] kk p4] [] pos) (tE k Z0 H0 W fun ε => (r ε).bind fun x => isiV G x [t, u]) := by
  have e1 : PE X (.Name tn p2) (tC (.ty tn)) := pe_bltn (g.gl hgt).1 hm hb rfl hn (g.gl hgt).2
  have e2 : PE X (.Name un p3) (tC (.ty un)) := pe_bltn (g.gl hgu).1 hm' hb' rfl hn' (g.gl hgu).2
  have hpa : PA X [a, .Tuple [.Name tn p2, .Name un p3] kk p4] (tCons (tE k Z0 H0 W r) (tCons (tTup (tCons (tC (.ty tn)) (tCons (tC (.ty un)) tNil))) tNil)) := pa_cons ha (pa_cons (pe_tup (pa_cons e1 (pa_cons e2 pa_nil))) pa_nil) hs
  refine PE.imp (pe_callB call_isiT (g.gl hg).1 (g.free _ (by decide)) rfl hpa (by decide) (by decide) hs) fun σ H Q ⟨Z, ε, F, rel, q⟩ => ?_
  refine ⟨Z, ε, F, rel, (After.bind q).imp fun x ex q => ?_⟩
  intro v Z1 H1 fp e1 t1 n1
  unfold isiV at q
  split at q
  · rename_i hx
    cases hd : dTy x.2 with
    | none => exact absurd hd hx.2
    | some n =>
      refine ⟨by show 2 ≤ sizeLine; decide, fun p hp => ?_⟩
      have e2 := e1.trans (Ext.layH e1.zh hp (o := .tup [.ty tn, .ty un]))
      refine ⟨v, p, _, _, _, _, rfl, by simp [upd], .cons (.ty tn) (.cons (.ty un) .nil), (t1.mono (Ext.layH e1.zh hp)).tyX e2.zh g.hK hd, ?_, q (.bl _) Z1 _ [] e2 ⟨.bl _, rfl⟩ New.nil⟩
      have k1 : PySem.W.kitOne X.K (.type n) (.type tn) = some (isTy G x.2 t) := kit_ty (kitD_eq G hd ht)
      have k2 : PySem.W.kitOne X.K (.type n) (.type un) = some (isTy G x.2 u) := kit_ty (kitD_eq G hd hu)
      have k3 : PySem.W.kitAny X.K (.type n) [.type un] = some (isTy G x.2 u) := kitAny_cons k2 (fun h => by rw [h]; exact kitAny_nil) fun h => by rw [h]
      refine (kitAny_cons (r := isTy G x.2 t || isTy G x.2 u) k1 (fun h => by rw [h, Bool.false_or]; exact k3) fun h => by rw [h]; rfl).trans ?_
      simp
  · exact q.elim
end
end RS

/-! RsOwn -/
namespace RS
open PySem PySem.Spec
open PyProof.Rows L2
/-! ### rules for own classes: attributes, methods, what the machine calls -/
def noSup : Expr → Bool
  | .Call (.Name id _) [] [] _ => !(id == ("super" : Str))
  | _ => true
theorem base_of {o : Expr} {m : Str} {env : Env} (h : noSup o = true) : attributeBase o m env (eval o env) = eval o env := by
  unfold noSup at h
  split at h
  · refine abase_call ?_
    rw [bne]
    exact h
  · rename_i hn
    unfold attributeBase
    split
    · rename_i id p1 p2
      exact absurd rfl (hn id p1 p2)
    · rfl
section
variable {X : Cx} {pins : List (Addr × Obj)} {σ : L2.St} {H : Hp} {s : Shared} {CX : CXT} {a C g : Addr} {m f : Str} {n : Nat} {fd : FuncData} {ps : List Str} {sp : Sp} {E : XK} {Q : VK}
theorem pe_fldA {e : Expr} {pos : Pos} {ta : TE} (he : PE X e ta) (hb : noSup e = true) : PE X (.Attribute e f pos) (fun σ H Q => ta σ H fun x H1 => ∃ a v, x = .ref a ∧ FldAt X.K H1 a f v ∧ Q v H1) := by
  refine ⟨fun pins s σ H Q I h => ?_⟩
  refine attr_of (base_of hb) (thn (he.run pins s σ H _ I h) fun u s1 ⟨x, H1, I1, rx, a, v, ex, fa, q⟩ => ?_)
  subst ex
  obtain rfl : u = Value.ref a := rx
  rcases fa with ⟨C, dx, fs, ea, c, n, l⟩ | ⟨C, dx, p, vs, i, sl, c, k, l⟩
  · exact getattr_ok I1 ea c n l fun u' s2 I2 ru => ⟨v, H1, I2, ru, q⟩
  · exact SlX.getslot_ok I1 sl c k l fun u' s2 I2 ru => ⟨v, H1, I2, ru, q⟩
/-- the callee runs below -/
theorem runAt {A : Around} {us : List Value} {vs : List V} (F : FnOk X.prog X.w X.K X.mg X.base CX n g fd ps sp) (hr : Room n A) (e0 : Env0 X.prog X.w X.K X.mg X.base A X.stack s H) (hb : Binds X.K fd ps []) (hx : PassesAt CX X σ E)
    (I : Inv X pins σ H s) (r : Vals vs us) (h : sp vs H Q E) : codeAny (model X.prog X.w) A (.call (.ref g) ⟨us, []⟩) (fun r s' => match r with | .ok (.ret v) => EP X pins σ Q v s' | .ok _ => False | .error e => X.xe e s') s := by
  have hl : us.length = ps.length := by rw [← r.length]; exact F.len _ _ _ _ h
  have b := hb s us I.kIn (by rw [List.append_nil]; exact hl)
  rw [List.append_nil] at b
  refine codeAny_mono (F.run A X.stack s H ⟨us, []⟩ us vs Q E hr e0 b r h) fun r s' hq => ?_
  cases r with
  | error e => exact hx pins H s e s' I hq
  | ok fl =>
    cases fl with
    | ret u => exact I.after hq
    | next => exact False.elim hq
    | brk => exact False.elim hq
    | cont => exact False.elim hq
/-- a method, the instance of any kind -/
def MethAt (K : PySem.W.Frag) (H : Hp) (a : Addr) (m : Str) (g : Addr) : Prop :=
  (∃ C dx fs, H a = some (.ins C dx fs) ∧ Cls K C ∧ Meth K C m g ∧ fs.lookup m = none) ∨ ∃ C dx vs, SlX.Slt H a C dx vs ∧ SlX.SCls K C ∧ Meth K C m g
theorem MethAt.kp {K : PySem.W.Frag} (h : MethAt K H a m g) : PySem.W.keepIn K (.ref g) = true := by
  rcases h with ⟨_, _, _, _, _, h, _⟩ | ⟨_, _, _, _, _, h⟩ <;> exact h.kp
theorem getmethA {pl : Sem Bool} {Q : Value × List Value → Shared → Prop} (I : Inv X pins σ H s) (h : MethAt X.K H a m g) (q : Q (.ref g, [.ref a]) s) : wpAny (model X.prog X.w) X.A (getMethod (.ref a) m pl) Q X.xe s := by
  rcases h with ⟨C, dx, fs, ea, c, hm, l⟩ | ⟨C, dx, vs, sl, c, hm⟩
  · exact getmeth_ok I ea c hm l q
  · exact SlX.getmethsl_ok I sl c hm q
/-- the tree of a method's call -/
theorem mcall_tree {o : Expr} {apos pos : Pos} {args : List Expr} {env : Env} (hb : noSup o = true) (hfew : methodCallForm (args.length + 0) (backTo pos (starEach args env)) (backToKw pos (keywordEach [] env)) = true) (hl : (apos.endLine == pos.line) = true) :
    eval (.Call (.Attribute o m apos) args [] pos) env = (do
      let ov ← eval o env
      standAt apos.atName
      let (f, first) ← holding [ov] (getMethod ov m (do return (← importBound o env).getD true))
      callWith pos f first (backTo pos (starEach args env)) (backToKw pos (keywordEach [] env))) := by
  refine mcall_of (base_of hb) fun ov => ?_
  unfold methodCall
  show (holding [ov] (calleeOf (methodCallForm (args.length + 0) (backTo pos (starEach args env)) (backToKw pos (keywordEach [] env))) o env ov m) >>= fun x => methodCallPos (methodCallForm (args.length + 0) (backTo pos (starEach args env)) (backToKw pos (keywordEach [] env))) o env apos pos >>= fun callPos => callWith callPos x.1 x.2 _ _) = _
  rw [hfew]
  unfold calleeOf methodCallPos
  simp only [if_true, Bool.not_true, Bool.false_or, hl]
  rfl
theorem form_few {args : List Expr} {env : Env} {pos : Pos} (hs : (backTo pos (starEach args env)).any (·.1) = false) (hn : args.length < 30) : methodCallForm (args.length + 0) (backTo pos (starEach args env)) (backToKw pos (keywordEach [] env)) = true := by
  unfold methodCallForm
  have h1 : (backTo pos (starEach args env)).all (!·.1) = true := by
    rw [List.all_eq_true]
    intro x hx
    rw [List.any_eq_false] at hs
    simpa using hs x hx
  rw [h1]
  show (true && true && decide (args.length + 0 + 0 < 30)) = true
  simp [hn]
/-- o.m(e, ..) -/
theorem pe_methA {o e : Expr} {es : List Expr} {apos pos : Pos} {ta : TE} {t : TA} (he : PE X o ta) (ha : PA X (e :: es) t) (hb : noSup o = true) (hl : (apos.endLine == pos.line) = true) (hn : (e :: es).length < 30)
    (hst : starEach (e :: es) X.env = (false, eval e X.env) :: starEach es X.env) (hpl : (backTo pos (starEach es X.env)).any (·.1) = false) :
    PE X (.Call (.Attribute o m apos) (e :: es) [] pos) (fun σ H Q => ta σ H fun x H1 => ∃ a g n fd ps sp E, x = .ref a ∧ MethAt X.K H1 a m g ∧ FnOk X.prog X.w X.K X.mg X.base CX n g fd ps sp ∧ Room n X.A ∧ Binds X.K fd ps [] ∧ PassesAt CX X σ E ∧ t σ H1 fun vs H2 => sp (x :: vs) H2 Q E) := by
  refine ⟨fun pins s σ H Q I h => ?_⟩
  have hform := form_few (args := e :: es) (env := X.env) (pos := pos) (by rw [hst]; exact hpl) hn
  refine PySem.W.methodCall_KW (thn (he.run pins s σ H _ I h) fun u s1 ⟨x, H1, I1, rx, a, g, n, fd, ps, sp, E, ex, hm, F, hr, hbd, hx, q⟩ => ?_) (mcall_tree hb hform hl)
  subst ex
  obtain rfl : u = Value.ref a := rx
  refine getmethA I1 hm ?_
  refine PySem.W.callWith_K (first := [.ref a]) (h₀ := X.base) I1.ok.mod.kin hm.kp (thn (ha.run pos pins s1 σ H1 _ I1 q) fun us s2 ⟨vs, H2, I2, r, q2⟩ => ⟨I2.kIn, ?_⟩) hst hpl
  exact wpAny_call (runAt (us := .ref a :: us) (vs := .ref a :: vs) F hr I2.env0 hbd hx I2 (.cons rfl r) q2)
/-- o.m() -/
theorem pe_methA0 {o : Expr} {apos pos : Pos} {ta : TE} (he : PE X o ta) (hb : noSup o = true) (hl : (apos.endLine == pos.line) = true) :
    PE X (.Call (.Attribute o m apos) [] [] pos) (fun σ H Q => ta σ H fun x H1 => ∃ a g n fd ps sp E, x = .ref a ∧ MethAt X.K H1 a m g ∧ FnOk X.prog X.w X.K X.mg X.base CX n g fd ps sp ∧ Room n X.A ∧ Binds X.K fd ps [] ∧ PassesAt CX X σ E ∧ sp [x] H1 Q E) := by
  refine ⟨fun pins s σ H Q I h => ?_⟩
  have hform := form_few (args := []) (env := X.env) (pos := pos) rfl (by decide)
  refine PySem.W.methodCall_KW (thn (he.run pins s σ H _ I h) fun u s1 ⟨x, H1, I1, rx, a, g, n, fd, ps, sp, E, ex, hm, F, hr, hbd, hx, q⟩ => ?_) (mcall_tree hb hform hl)
  subst ex
  obtain rfl : u = Value.ref a := rx
  refine getmethA I1 hm ?_
  exact PySem.W.callWith_K0 (first := [.ref a]) I1.kIn hm.kp (wpAny_call (runAt (us := [.ref a]) (vs := [.ref a]) F hr I1.env0 hbd hx I1 (.cons rfl .nil) q))
/-- nothing that is raised leaves -/
theorem passNone {X : Cx} (σ : L2.St) : PassesAt (L2.CX X.prog X.w) X σ (fun _ _ _ => False) := fun _ _ _ _ _ _ ⟨_, _, _, _, _, _, _, _, _, _, _, _, z⟩ => z.elim
abbrev noE : XK := fun _ _ _ => False
/-- a def that the machine calls, one step below -/
structure MFn (X : Cx) (g : Addr) (sp : Sp) : Prop where
  ex : ∃ n fd ps, FnOk X.prog X.w X.K X.mg X.base (L2.CX X.prog X.w) n g fd ps sp ∧ Room (n + 1) X.A ∧ Binds X.K fd ps []
/-- len(o) -/
theorem call_lenA : CallR X (.builtin "len") (fun xs H Q => ∃ a C g sp, xs = [.ref a] ∧ StX.InsC X H a C ∧ OwnM X.K C "__len__" g ∧ MFn X g sp ∧ sp [.ref a] H (fun z H' => ∃ i : Nat, z = .int i ∧ i ≤ 1000000 ∧ Q z H') noE) := by
  intro pins s σ H xs us Q I r h
  obtain ⟨a, C, g, sp, rfl, hi, om, ⟨n, fd, ps, F, hr, hbd⟩, q⟩ := h
  obtain ⟨u, rfl, ru⟩ := r.one
  cases (show u = Value.ref a from ru)
  obtain ⟨ox, od, J, _⟩ := StX.insC_at I hi
  refine PySem.Calls.call_function_entry PySem.kind_len PySem.plain_len PySem.entry_len (PySem.args_len1 _) ?_
  unfold Builtin.«len»
  refine wpAny_bind (m := oneArg "len" _) (wpAny_pure ?_)
  refine wpAny_bind (m := callSpecial? (.ref a) (Str.ofString "__len__")) (PySem.W.special_fn (name := Str.ofString "__len__") I.kIn J om.at_ (beq_iff_eq.mp om.fn) (wpAny_mono (wpAny_call (runAt (us := [.ref a]) (vs := [.ref a]) F hr.in1 I.env0.in1 hbd (passNone σ) I (.cons rfl .nil) q)) (fun w s' z => ?_) fun _ _ x => x))
  obtain ⟨z', H', I', rz, i, ei, hi2, qz⟩ := z
  subst ei
  obtain ⟨t, e⟩ := (show ∃ t, w = Value.int i t from rz)
  cases e
  refine wpAny_bind (wpAny_holding (wpAny_pure ?_))
  refine wpAny_bind (wpAny_letGo ?_)
  show wpAny _ _ (if ((i : Nat) : Int) < 0 then _ else _) _ _ _
  rw [if_neg (by omega)]
  show wpAny _ _ (if ((i : Nat) : Int) ≥ 2 ^ 63 then _ else _) _ _ _
  rw [if_neg (by omega)]
  exact wpAny_bind (wpAny_mkInt (wpAny_pure ⟨_, rfl, .int i, H', I'.tok _, ⟨_, rfl⟩, qz⟩))
/-- o[i] -/
def ixOk : Expr → Bool
  | .Slice _ _ _ _ => false
  | _ => true
theorem ix_plain {e : Expr} (h : ixOk e = true) : PlainIx e := fun o i => by
  cases e <;> first | (cases h; done) | rfl
def ownIx (X : Cx) : R2 := fun x y H Q => ∃ a C g sp, x = .ref a ∧ StX.InsC X H a C ∧ OwnM X.K C "__getitem__" g ∧ MFn X g sp ∧ sp [.ref a, y] H Q noE
theorem pe_ixA {e i : Expr} {pos : Pos} {ta tb : TE} (ha : PE X e ta) (hb : PE X i tb) (hs : ixOk i = true) : PE X (.Subscript e i pos) (tOp (fun x y H Q => anyIx X x y H Q ∨ ownIx X x y H Q) ta tb) := by
  refine ⟨fun pins s σ H Q I h => ?_⟩
  refine Subscript_ (binT ha hb I h fun v u s2 x y H2 I2 rx ry q => ?_)
  rcases q with q | q
  · exact anyIx_ok e i pins s2 σ H2 x y v u Q I2 rx ry q (ix_plain hs _ _)
  · obtain ⟨a, C, g, sp, rfl, hi, om, ⟨n, fd, ps, F, hr, hbd⟩, q⟩ := q
    cases (show v = Value.ref a from rx)
    obtain ⟨ox, od, J, _⟩ := StX.insC_at I2 hi
    obtain ⟨m, hF⟩ := I2.fr
    refine PySem.W.sub_K hF I2.ok.mod.kin J om.at_ om.fi om.fn (wpAny_call (runAt (us := [.ref a, u]) (vs := [.ref a, y]) F hr.in1 I2.env0.in1 hbd (passNone σ) I2 (.cons rfl (.cons ry .nil)) q)) ?_
    cases i <;> first | (cases hs; done) | rfl
/-- o(e, ..) -/
theorem pe_callA {fe e : Expr} {es : List Expr} {pos : Pos} {tf : TE} {t : TA} (hf : PE X fe tf) (ha : PA X (e :: es) t)
    (ht : eval (.Call fe (e :: es) [] pos) X.env = (do callWith pos (← eval fe X.env) [] (backTo pos (starEach (e :: es) X.env)) (backToKw pos (keywordEach [] X.env))))
    (hst : starEach (e :: es) X.env = (false, eval e X.env) :: starEach es X.env) (hpl : (backTo pos (starEach es X.env)).any (·.1) = false) :
    PE X (.Call fe (e :: es) [] pos) (fun σ H Q => tf σ H fun y H1 => ∃ a, y = V.ref a ∧ t σ H1 fun vs H2 => ∃ C g n fd ps sp E, StX.InsC X H2 a C ∧ StX.CallO X.K C g ∧ FnOk X.prog X.w X.K X.mg X.base CX n g fd ps sp ∧ Room n X.A ∧ Binds X.K fd ps [] ∧ PassesAt CX X σ E ∧ sp (V.ref a :: vs) H2 Q E) := by
  refine ⟨fun pins s σ H Q I h => ?_⟩
  refine Call_ (thn (hf.run pins s σ H _ I h) fun u s1 ⟨y, H1, I1, ry, a, ey, q⟩ => ?_) ht
  subst ey
  obtain rfl : u = Value.ref a := ry
  refine StX.callO_with (thn (ha.run pos pins s1 σ H1 _ I1 q) fun us s2 ⟨vs, H2, I2, r, C, g, n, fd, ps, sp, E, hi, c, F, hr, hbd, hx, q2⟩ => ?_) hst hpl
  obtain ⟨ox, od, J, hd⟩ := StX.insC_at I2 hi
  exact ⟨⟨C, ox, od, J, hd⟩, wpAny_call (PySem.W.kco_code I2.kIn J hd c.at_ c.fn c.fi (runAt (us := .ref a :: us) (vs := .ref a :: vs) F hr I2.env0 hbd hx I2 (.cons rfl r) q2))⟩
end
/-! ### .. as the interpreter says -/
section
variable {k : Kc} {nm : Nm} {cal : Cl → R LD} {np : Nat → Nat} {lv : Nat} {N : List Str} {sc : Scope} {X : Cx} {W : WX} {Z0 H0 : Hp}
theorem zip_lookup : ∀ {fl : List Str} {vs : List V} {j : Nat} {x : Str} {v : V}, fl.Nodup → fl[j]? = some x → vs[j]? = some v → (fl.zip vs).lookup x = some v
  | [], _, j, x, v, _, h, _ => by simp at h
  | y :: fl, [], j, x, v, _, _, h => by simp at h
  | y :: fl, w :: vs, 0, x, v, _, h1, h2 => by
    simp at h1 h2
    subst h1; subst h2
    simp [List.lookup]
  | y :: fl, w :: vs, j + 1, x, v, nd, h1, h2 => by
    have hy : x ≠ y := fun e => by
      subst e
      exact (List.nodup_cons.mp nd).1 (List.mem_of_getElem? (by simpa using h1))
    have hb : (x == y) = false := beq_eq_false_iff_ne.mpr hy
    simp only [List.zip_cons_cons, List.lookup, hb]
    exact zip_lookup (List.nodup_cons.mp nd).2 (by simpa using h1) (by simpa using h2)
theorem zip_lookup_none : ∀ {fl : List Str} {vs : List V} {x : Str}, x ∉ fl → (fl.zip vs).lookup x = none
  | [], _, x, _ => rfl
  | y :: fl, [], x, _ => rfl
  | y :: fl, w :: vs, x, h => by
    have hb : (x == y) = false := beq_eq_false_iff_ne.mpr fun e => h (by rw [e]; simp)
    simp only [List.zip_cons_cons, List.lookup, hb]
    exact zip_lookup_none fun m => h (List.mem_cons_of_mem _ m)
theorem layS_snoc {ix : List Nat} {vs : List V} {v : V} {i : Nat} (h : ix[vs.length]? = some i) : layS ix (vs ++ [v]) = SlX.putS i v (layS ix vs) := by
  unfold layS
  have : ix.zip (vs ++ [v]) = ix.zip vs ++ [(i, v)] := by
    induction vs generalizing ix with
    | nil =>
      cases ix with
      | nil => simp at h
      | cons a r => simp at h; subst h; simp
    | cons w vs ih =>
      cases ix with
      | nil => simp at h
      | cons a r =>
        simp only [List.cons_append, List.zip_cons_cons]
        rw [ih (by simpa using h)]
  rw [this, List.foldl_append]
  rfl
theorem layS_get : ∀ (n : Nat) {ix : List Nat} {vs : List V} {j i : Nat} {v : V}, vs.length = n → ix.Nodup → vs.length ≤ ix.length → ix[j]? = some i → vs[j]? = some v → (layS ix vs)[i]? = some (some v) := by
  intro n
  induction n with
  | zero =>
    intro ix vs j i v hn _ _ _ h
    have : vs = [] := List.eq_nil_of_length_eq_zero hn
    subst this
    simp at h
  | succ n ih =>
    intro ix vs j i v hn nd hl h1 h2
    have hne : vs ≠ [] := fun e => by rw [e] at hn; simp at hn
    obtain ⟨us, u, rfl⟩ : ∃ us u, vs = us ++ [u] := ⟨vs.dropLast, vs.getLast hne, (List.dropLast_concat_getLast hne).symm⟩
    have hu : us.length = n := by simp at hn; exact hn
    have hlu : us.length < ix.length := by simp at hl; omega
    have hi : ix[us.length]? = some ix[us.length] := List.getElem?_eq_getElem hlu
    rw [layS_snoc hi]
    by_cases hj : j = us.length
    · subst hj
      rw [hi] at h1
      cases h1
      simp at h2
      subst h2
      exact SlX.putS_get _ _ _
    · have hne2 : i ≠ ix[us.length] := fun e => by
        subst e
        obtain ⟨q1, q2⟩ := List.getElem?_eq_some_iff.mp h1
        exact hj ((List.getElem_inj nd).mp q2)
      have hj2 : j < us.length := by
        have := (List.getElem?_eq_some_iff.mp h2).1
        simp at this
        omega
      rw [SlX.putS_ne hne2]
      exact ih hu nd (by omega) h1 (by rw [List.getElem?_append_left hj2] at h2; exact h2)
/-- an instance's field -/
theorem insAt_fld {H : Hp} {c j : Nat} {f : Nat} {x : Str} {a : Addr} {vs : List V} {v : V} (C : ClsFacts k nm c) (hj : fldIx (k.G.flds c) f = some j) (hx : nm.at_ f = some x) (h : InsAt k H c a vs) (hv : vs[j]? = some v) : FldAt k.K H a x v := by
  obtain ⟨f1, f2⟩ := C.fld f j x hj hx
  obtain ⟨dx, hl, h⟩ := h
  rcases h with ⟨s, h⟩ | ⟨s, h⟩
  · obtain ⟨c1, c2, c3, c4, _⟩ := f1 s
    exact .inl ⟨_, dx, _, h, c1, c2, zip_lookup c4 c3 hv⟩
  · obtain ⟨c1, c0, c2, p, i, c3, c4, c5⟩ := f2 s
    exact .inr ⟨_, dx, p, _, i, h, c1, c3, layS_get _ rfl c5 (by omega) c4 hv⟩
theorem snd_fld (g : Gd k nm cal np lv N sc X W) {a : Expr} {ra : En → R LD} {f : Nat} {x : Str} {pos : Pos} (ha : PE X a (tE k Z0 H0 W ra)) (hx : nm.at_ f = some x) (hb : noSup a = true) :
    PE X (.Attribute a x pos) (tE k Z0 H0 W fun ε => (ra ε).bind fun v => fldV k.G v f) := PE.imp (pe_fldA ha hb) fun σ H Q ⟨Z, ε, F, rel, h⟩ => by
  refine ⟨Z, ε, F, rel, (After.bind h).imp fun x0 ex h => ?_⟩
  intro v Z1 H1 fp e1 t1 n1
  obtain ⟨l, d⟩ := x0
  unfold fldV at h
  dsimp only at h t1
  split at h
  · rename_i c fs
    have t1 : Hd k Z1 H1 0 v (.ins c fs) fp := t1
    obtain ⟨s, _⟩ := t1
    cases s with
    | @ins a _ vs _ hi hs =>
      split at h
      · rename_i j hj
        split at h
        · rename_i d hd
          obtain ⟨w, hw, sw⟩ := hs.get hd
          rw [← g.hK]
          exact ⟨a, w, rfl, insAt_fld (g.cls c) hj hx (hi.mono e1.zh) hw, h w Z1 H1 [] e1 ⟨sw, rfl⟩ New.nil⟩
        · exact h.elim
      · exact h.elim
  · exact h.elim
theorem spF_calm {c : List D → Cl} {vs : List V} {H : Hp} {Q : VK} {E E' : XK} (h : spF k (fun z => noX (cal z)) c vs H Q E) : spF k cal c vs H Q E' := by
  obtain ⟨Z, ds, zh, hs, q⟩ := h
  refine ⟨Z, ds, zh, hs, ?_⟩
  dsimp only at q
  cases e : cal (c ds) with
  | ok p => rw [e] at q; exact q
  | exc cc fs => rw [e] at q; exact q.elim
  | bad => rw [e] at q; exact q.elim
theorem back_calm {as : List LD} {r : R LD} (c : Nat) (fs : List D) : back as (noX r) ≠ .exc c fs := by
  cases r with
  | ok x => unfold noX back; dsimp only; split <;> (intro h; cases h)
  | exc a b => unfold noX back; intro h; cases h
  | bad => unfold noX back; intro h; cases h
theorem InsAt.insC {H : Hp} {c : Nat} {a : Addr} {vs : List V} (h : InsAt k H c a vs) : StX.InsC X H a (k.ca c) := by
  obtain ⟨dx, _, ⟨_, h⟩ | ⟨_, h⟩⟩ := h
  · exact .inr ⟨dx, _, h⟩
  · exact .inl ⟨dx, _, h⟩
theorem InsAt.methAt {H : Hp} {c : Nat} {a g : Addr} {x : Str} {vs : List V} (h : InsAt k H c a vs) (m : Meth k.K (k.ca c) x g) (h1 : k.sl c = false → Cls k.K (k.ca c) ∧ x ∉ k.fl c) (h2 : k.sl c = true → SlX.SCls k.K (k.ca c)) : MethAt k.K H a x g := by
  obtain ⟨dx, _, ⟨s, h⟩ | ⟨s, h⟩⟩ := h
  · exact .inl ⟨_, dx, _, h, (h1 s).1, m, zip_lookup_none (h1 s).2⟩
  · exact .inr ⟨_, dx, _, h, h2 s, m⟩
/-- a method's promise at an instance and further values -/
theorem meth_get {σ : L2.St} {ε : En} {F : Nat → List Addr} {Z H Z1 H1 : Hp} {Q : VK} {c : List D → Cl} {xs : List LD} {ds : List D} {d : D} {v : V} {vs : List V} {fp : List Addr} (rel : RelS k Z0 H0 Z H σ ε F) (e1 : Ext Z H Z1 H1) (s : Sh k Z1 v d) (ts : RelTs k Z1 H1 F vs xs fp) (n1 : New Z1 H fp)
    (hd : data xs = some ds) (h : After k W σ Z H (back xs (cal (c (d :: ds)))) (Gets k F Z H Q)) : spF k cal c (v :: vs) H1 Q (WE W σ) := by
  obtain ⟨e, ha⟩ := data_ok hd
  refine call_get (xs := (0, d) :: xs) rel e1 (RelTs.cons (f := []) ⟨s, rfl⟩ ts) n1 (ds := d :: ds) ?_ ?_
  · unfold data
    rw [e]
    simp [ha]
  · have ap : ∀ y, apart ((0, d) :: xs) y = apart xs y := fun y => by cases y <;> rfl
    have : lent ((0, d) :: xs) = lent xs := rfl
    cases hc : cal (c (d :: ds)) with
    | ok p => rw [hc] at h; unfold back at h ⊢; dsimp only at h ⊢; rw [this, ap]; exact h
    | exc cc fs => rw [hc] at h; unfold back at h ⊢; rw [this]; exact h
    | bad => rw [hc] at h; exact h
/-- .. that the machine calls -/
theorem up_get (g : Gd k nm cal np lv N sc X W) {σ : L2.St} {ε : En} {F : Nat → List Addr} {Z H Z1 H1 : Hp} {Q : VK} {m : Nat} {mx : Str} {x : LD} {xs : List LD} {v : V} {vs : List V} {f1 fp : List Addr} (hm : nm.at_ m = some mx) (rel : RelS k Z0 H0 Z H σ ε F) (e1 : Ext Z H Z1 H1) (t1 : RelT k Z1 H1 F x.1 v x.2 f1) (ts : RelTs k Z1 H1 F vs xs fp) (n1 : New Z1 H fp)
    (h : After k W σ Z H (upV k.G cal m x xs) (Gets k F Z H Q)) : ∃ a C g sp, v = .ref a ∧ StX.InsC X H1 a C ∧ OwnM X.K C mx g ∧ MFn X g sp ∧ sp (.ref a :: vs) H1 Q noE := by
  unfold upV at h
  obtain ⟨l, d⟩ := x
  dsimp only at h t1
  split at h
  · rename_i c fs ds hd
    have t1 : Hd k Z1 H1 0 v (.ins c fs) f1 := t1
    obtain ⟨s, _⟩ := t1
    split at h
    · rename_i f hf
      have hlv : 0 < lv := by
        rcases Nat.eq_zero_or_pos lv with e | e
        · rw [g.low e] at h; exact h.elim
        · exact e
      obtain ⟨ga, fd, ps, m1, m2, m3, m4, m5, m6, m7⟩ := (g.mth c m f mx hf hm).ex
      have s0 := s
      cases s with
      | @ins a _ ws _ hi hs =>
        obtain ⟨n, rfl⟩ : ∃ n, lv = n + 1 := ⟨lv - 1, by omega⟩
        have hi1 := hi.mono e1.zh
        refine ⟨a, k.ca c, ga, _, rfl, hi1.insC, ?_, ⟨n, fd, ps, m7 n rfl, g.room, m5⟩, spF_calm (meth_get (cal := fun z => noX (cal z)) rel e1 s0 ts n1 hd h)⟩
        rw [← g.hK]
        exact ⟨m1.at_, m1.fn, m2⟩
    · exact h.elim
  · exact h.elim
end
end RS

/-! RsOwn2 -/
namespace RS
open PySem PySem.Spec
open PyProof.Rows L2
/-! ### an own class is called -/
section
variable {X : Cx} {CX : CXT} {n : Nat} {x : Str} {p pos : Pos} {e : Expr} {es : List Expr} {kws : List Keyword} {t tk : TA}
theorem run_makeA {C f : Addr} {fd : FuncData} {ps ks : List Str} {k : Nat} {sp : Sp} {E : XK} {g : List Value → List Value → List Value} {gV : List V → List V → List V} {pins : List (Addr × Obj)} {σ : L2.St} {H : Hp} {s : Shared} {Q : VK} {us ws : List Value} {vs zs : List V}
    (M : Mk X.K C f) (F : FnOk X.prog X.w X.K X.mg X.base CX k f fd ps sp) (hr : Room (k + 1) X.A) (hb : KBn X.K fd ps (n + 1) ks g gV) (hx : PassesAt CX X σ E)
    (I : Inv X pins σ H s) (r : Vals vs us) (rz : Vals zs ws) (l1 : vs.length = n) (l2 : zs.length = ks.length)
    (h : ∀ x dx, H x = none → H dx = none → dx ≠ x → sp (gV (.ref x :: vs) zs) (upd (upd H dx (.own x)) x (.ins C dx [])) (fun v H2 => v = .non ∧ Q (.ref x) H2) E) :
    wpAny (model X.prog X.w) X.A (call (.ref C) us (ks.zip ws)) (EP X pins σ Q) X.xe s := by
  have hq := h (s.heap.objs.size + 1) s.heap.objs.size (I.hok.fresh (Nat.le_succ _)) (I.hok.fresh (Nat.le_refl _)) (Nat.ne_of_lt (Nat.lt_succ_self _))
  have I2 := Inv.made (C := C) I
  have r1 : Vals (V.ref (s.heap.objs.size + 1) :: vs) (Value.ref (s.heap.objs.size + 1) :: us) := .cons rfl r
  have r2 := hb.rel r1 rz
  have n1 : (Value.ref (s.heap.objs.size + 1) :: us).length = n + 1 := by
    rw [List.length_cons, ← r.length, l1]
  refine wpAny_call (make_map (f := f) I.kIn M.makes M.init (beq_iff_eq.mp M.fn) (codeAny_mono (F.run _ X.stack _ _ ⟨Value.ref (s.heap.objs.size + 1) :: us, ks.zip ws⟩ (g (Value.ref (s.heap.objs.size + 1) :: us) ws) _ _ E (hr.make C us (ks.zip ws))
    (I2.env0.make C us (ks.zip ws)) (hb.to _ (Value.ref (s.heap.objs.size + 1) :: us) ws I2.kIn n1 (rz.length.symm.trans l2)) r2 hq) fun r s' hq' => ?_))
  cases r with
  | error e => exact hx pins _ _ e s' I2 hq'
  | ok fl =>
    cases fl with
    | ret u =>
      obtain ⟨v, H', I3, rv, ev, q3⟩ := I2.after hq'
      subst ev
      exact ⟨rv, ⟨V.ref (s.heap.objs.size + 1), H', I3, rfl, q3⟩⟩
    | next => exact False.elim hq'
    | brk => exact False.elim hq'
    | cont => exact False.elim hq'
/-- what is asked of the class and its __init__ -/
def tMakeA (X : Cx) (CX : CXT) (C : Addr) (ks : List Str) (σ : L2.St) (vs zs : List V) (H : Hp) (Q : VK) : Prop := ∃ f fd ps k sp E g gV, Mk X.K C f ∧ FnOk X.prog X.w X.K X.mg X.base CX k f fd ps sp ∧ Room (k + 1) X.A ∧ KBn X.K fd ps (vs.length + 1) ks g gV ∧ PassesAt CX X σ E ∧ zs.length = ks.length ∧
  ∀ x dx, H x = none → H dx = none → dx ≠ x → sp (gV (.ref x :: vs) zs) (upd (upd H dx (.own x)) x (.ins C dx [])) (fun v H2 => v = .non ∧ Q (.ref x) H2) E
theorem pe_makeA0 {C : Addr} {ks : List Str} (hg : Gl X x) (hm : X.mg x = some (.ref C)) (hk : PySem.W.keepIn X.K (.ref C) = true) (hkw : PK X kws tk)
    (hall : (backToKw pos (keywordEach kws X.env)).all (·.1.isSome) = true) (hks : (backToKw pos (keywordEach kws X.env)).filterMap (·.1) = ks) (hdb : (x == ("__debug__" : Str)) = false)
    (hpl : ((backTo pos (starEach [] X.env)).any (·.1) || (backToKw pos (keywordEach kws X.env)).any (·.1.isNone)) = false) :
    PE X (.Call (.Name x p) [] kws pos) (fun σ H Q => tk σ H fun zs H2 => tMakeA X CX C ks σ [] zs H2 Q) := by
  refine ⟨fun pins s σ H Q I h => ?_⟩
  refine wpAny_Call_Name_kw (ld_glob I hg hm ?_ hdb)
  refine PySem.W.callWith_KW0 (h₀ := X.base) I.ok.mod.kin hk hall ?_ hpl
  refine thn (hkw.run pos pins s σ H _ I h) fun ws s2 ⟨zs, H2, I2, rz, f, fd, ps, k, sp, E, g, gV, M, F, hr, hb, hx, l2, q2⟩ => ⟨I2.kIn, ?_⟩
  rw [hks]
  exact run_makeA (us := []) (vs := []) M F hr hb hx I2 .nil rz rfl l2 q2
theorem pe_makeA {C : Addr} {ks : List Str} (hg : Gl X x) (hm : X.mg x = some (.ref C)) (hk : PySem.W.keepIn X.K (.ref C) = true) (ha : PA X (e :: es) t) (hkw : PK X kws tk)
    (hall : (backToKw pos (keywordEach kws X.env)).all (·.1.isSome) = true) (hks : (backToKw pos (keywordEach kws X.env)).filterMap (·.1) = ks) (hdb : (x == ("__debug__" : Str)) = false)
    (he : starEach (e :: es) X.env = (false, eval e X.env) :: starEach es X.env) (hpl : ((backTo pos (starEach (e :: es) X.env)).any (·.1) || (backToKw pos (keywordEach kws X.env)).any (·.1.isNone)) = false) :
    PE X (.Call (.Name x p) (e :: es) kws pos) (fun σ H Q => t σ H fun vs H1 => tk σ H1 fun zs H2 => tMakeA X CX C ks σ vs zs H2 Q) := by
  refine ⟨fun pins s σ H Q I h => ?_⟩
  refine wpAny_Call_Name_kw (ld_glob I hg hm ?_ hdb)
  refine PySem.W.callWith_KW (h₀ := X.base) I.ok.mod.kin hk hall (thn (ha.run pos pins s σ H _ I h) fun us s1 ⟨vs, H1, I1, r, q⟩ => ?_) hpl he
  refine thn (hkw.run pos pins s1 σ H1 _ I1 q) fun ws s2 ⟨zs, H2, I2, rz, f, fd, ps, k, sp, E, g, gV, M, F, hr, hb, hx, l2, q2⟩ => ⟨I2.kIn, ?_⟩
  rw [hks]
  exact run_makeA M F hr hb hx I2 r rz rfl l2 q2
end
section
variable {k : Kc} {nm : Nm} {cal : Cl → R LD} {np : Nat → Nat} {lv : Nat} {N : List Str} {sc : Scope} {X : Cx} {W : WX} {Z0 H0 : Hp}
/-! ### keywords' values -/
theorem PK.imp {kws : List Keyword} {t t' : TA} (h : PK X kws t) (i : ∀ σ H Q, t' σ H Q → t σ H Q) : PK X kws t' := ⟨fun pos pins s σ H Q I q => h.run pos pins s σ H Q I (i σ H Q q)⟩
theorem snd_knil : PK X [] (tA k Z0 H0 W fun _ => .ok []) := PK.imp pk_nil fun σ H Q ⟨Z, ε, F, rel, q⟩ => q [] Z H [] (Ext.refl rel.zh) .nil New.nil
theorem snd_kcons {a : Option Str} {p : Pos} {e : Expr} {kws : List Keyword} {re : En → R LD} {rs : En → R (List LD)} (he : PE X e (tE k Z0 H0 W re)) (hs : PK X kws (tA k Z0 H0 W rs)) :
    PK X (⟨a, e, p⟩ :: kws) (tA k Z0 H0 W fun ε => (re ε).bind fun x => (rs ε).bind fun xs => .ok (x :: xs)) := PK.imp (pk_cons he hs) fun σ H Q ⟨Z, ε, F, rel, q⟩ => by
  refine ⟨Z, ε, F, rel, (After.bind q).imp fun x ex q => ?_⟩
  intro v1 Z1 H1 f1 e1 t1 n1
  refine ⟨Z1, ε, F, rel.ext e1, (After.bind q).ext e1 fun xs exs q => ?_⟩
  intro vs Z2 H2 f2 e2 t2 n2
  exact q (v1 :: vs) Z2 H2 (f1 ++ f2) (e1.trans e2) (.cons (t1.mono e2) t2) ((n1.ext t1.there e2).join t1.there n2 e1.h)
/-! ### o[i], len(o) -/
theorem data1 {y : LD} (h : y.1 ≤ 4) : data [y] = some [y.2] := by simp [data, h]
theorem snd_idxO (g : Gd k nm cal np lv N sc X W) {a b : Expr} {ra rb : En → R LD} {pos : Pos} (ha : PE X a (tE k Z0 H0 W ra)) (hb : PE X b (tE k Z0 H0 W rb)) (hp : ixOk b = true) :
    PE X (.Subscript a b pos) (tE k Z0 H0 W fun ε => (ra ε).bind fun x => (rb ε).bind fun y => idxO k.G cal x y) := PE.imp (pe_ixA ha hb hp) fun σ H Q ⟨Z, ε, F, rel, h⟩ => by
  refine ⟨Z, ε, F, rel, (After.bind h).imp fun x ex h => ?_⟩
  intro v1 Z1 H1 f1 e1 t1 n1
  refine ⟨Z1, ε, F, rel.ext e1, (After.bind h).ext e1 fun y ey h => ?_⟩
  intro v2 Z2 H2 f2 e2 t2 n2
  unfold idxO at h
  split at h
  · right
    have ts : RelTs k Z2 H2 F [v2] [y] (f2 ++ []) := .cons t2 .nil
    rw [List.append_nil] at ts
    exact up_get g g.spc.2.1 rel (e1.trans e2) (t1.mono e2) ts (n2.back e1.h) h
  · left
    cases eo : idxV x y with
    | bad => rw [eo] at h; exact h.elim
    | exc c fs => exact absurd eo (idx_calm x y c fs)
    | ok z =>
      rw [eo] at h
      have n1' : New Z2 H f1 := n1.ext t1.there e2
      refine idx_get g.hK e2.zh (t1.mono e2) n1.nd n1'.z t2 eo fun v Z3 H3 fp e3 t3 nd hfp => ?_
      have nn : New Z2 H (f1 ++ f2) := n1'.join t1.there n2 e1.h
      refine h v Z3 H3 fp ((e1.trans e2).trans e3) t3 ⟨nd, fun a m => ?_, fun a m => (hfp a m).2⟩
      rcases (hfp a m).1 with q | q
      · exact nn.n a q
      · cases e : H a with
        | none => rfl
        | some u => rw [(e1.trans e2).h a u e] at q; cases q
/-- a length that comes of a call -/
theorem lenR_get {Z H : Hp} {F : Nat → List Addr} {σ : L2.St} {Q : VK} {r : R LD} (hr : ∀ c fs, r ≠ .exc c fs) (h : After k W σ Z H (lenR r) (Gets k F Z H Q)) : After k W σ Z H r (Gets k F Z H fun z H' => ∃ i : Nat, z = .int i ∧ i ≤ 1000000 ∧ Q z H') := by
  cases r with
  | bad => exact h.elim
  | exc c fs => exact absurd rfl (hr c fs)
  | ok x =>
    obtain ⟨l, d⟩ := x
    unfold lenR at h
    split at h
    · rename_i l' n e
      cases e
      split at h
      · rename_i hn
        intro v Z' H' fp e t nw
        obtain ⟨i, rfl⟩ := Int.eq_ofNat_of_zero_le hn.1
        have hv := t.int
        subst hv
        exact ⟨i, rfl, by omega, h (.int i) Z' H' [] e ⟨.int i, rfl⟩ New.nil⟩
      · exact h.elim
    · rename_i e
      cases e
    · exact h.elim
theorem upV_calm {m : Nat} {x : LD} {xs : List LD} (c : Nat) (fs : List D) : upV k.G cal m x xs ≠ .exc c fs := by
  unfold upV
  split
  · split
    · exact back_calm c fs
    · intro h; cases h
  · intro h; cases h
theorem biO_imp (g : Gd k nm cal np lv N sc X W) {b : Bi} {rs : En → R (List LD)} (σ : L2.St) (H : Hp) (Q : VK) (h : tE k Z0 H0 W (fun ε => (rs ε).bind fun xs => biO k.G cal b xs) σ H Q) :
    tCB (anyC X (biP b)) (tA k Z0 H0 W rs) σ H Q := by
  by_cases hb : b = .len
  · subst hb
    obtain ⟨Z, ε, F, rel, q⟩ := h
    refine ⟨Z, ε, F, rel, (After.bind q).imp fun xs ex q => ?_⟩
    intro vs Z1 H1 fp e1 t1 n1
    have plain : (xs.all (fun a => a.1 ≤ 4) = true) → After k W σ Z H (biV .len xs) (Gets k F Z H Q) → anyC X (biP .len) vs H1 Q := fun ha q => by
      cases eo : biV .len xs with
      | bad => rw [eo] at q; exact q.elim
      | exc c fs => exact absurd eo (bi_calm _ xs c fs)
      | ok z =>
        rw [eo] at q
        refine bi_get g.hK g.calm e1.zh t1 eo fun v Z2 H2 f2 e2 t2 nd hfp => ?_
        refine q v Z2 H2 f2 (e1.trans e2) t2 ⟨nd, fun a m => ?_, fun a m => (hfp a m).2⟩
        rcases (hfp a m).1 with w | w
        · exact n1.n a w
        · cases e : H a with
          | none => rfl
          | some u => rw [e1.h a u e] at w; cases w
    unfold biO at q
    split at q
    · rename_i x _
      split at q
      · cases t1 with
        | @cons v vs' _ _ f1 f2 t tr =>
          cases tr with
          | nil =>
            obtain ⟨a, C, ga, sp, e, h1, h2, h3, h4⟩ := up_get g g.spc.1 (Q := fun z H' => ∃ i : Nat, z = .int i ∧ i ≤ 1000000 ∧ Q z H') rel e1 t (RelTs.nil (F := F)) New.nil (lenR_get upV_calm q)
            exact ⟨_, call_lenA, a, C, ga, sp, by rw [e], h1, h2, h3, h4⟩
      · split at q
        · rename_i hl
          exact plain (by simp [hl]) q
        · exact q.elim
    · split at q
      · rename_i hl
        exact plain hl q
      · exact q.elim
  · refine bi_imp g σ H Q ?_
    obtain ⟨Z, ε, F, rel, q⟩ := h
    refine ⟨Z, ε, F, rel, ?_⟩
    have e : ∀ xs, biO k.G cal b xs = if xs.all (fun a => a.1 ≤ 4) then biV b xs else .bad := fun xs => by
      unfold biO
      split
      · exact absurd rfl hb
      · rfl
    simpa only [e] using q
theorem snd_biO (g : Gd k nm cal np lv N sc X W) {b : Bi} {e : Expr} {es : List Expr} {rs : En → R (List LD)} {p pos : Pos} (hs : PA X (e :: es) (tA k Z0 H0 W rs)) (hg : glB sc (biN b) = true)
    (he : starEach (e :: es) X.env = (false, eval e X.env) :: starEach es X.env) (hpl : (backTo pos (starEach es X.env)).any (·.1) = false) :
    PE X (.Call (.Name (biN b) p) (e :: es) [] pos) (tE k Z0 H0 W fun ε => (rs ε).bind fun xs => biO k.G cal b xs) := by
  obtain ⟨g1, g2⟩ := g.gl hg
  have hm : X.mg (biN b) = none := g.free _ (by cases b <;> decide)
  refine PE.imp ?_ (biO_imp g)
  cases b <;> first
    | exact pe_callB anyC_ok g1 hm (by decide +kernel) hs (by decide) g2 he hpl
    | exact pe_callTy anyC_ok g1 hm (by decide +kernel) hs (by decide) g2 he hpl
/-! ### o.m(..), o(..) -/
/-- what a method's step asks -/
theorem methF_ok {G : Tb} {m : Nat} {x : LD} {f : Nat} {d : D} (h : methF G m x = some (f, d)) : ∃ c fs, x = (0, .ins c fs) ∧ d = .ins c fs ∧ G.meth c m = some f := by
  obtain ⟨l, y⟩ := x
  unfold methF at h
  dsimp only at h
  split at h
  · rename_i c fs
    cases hm : G.meth c m with
    | none => rw [hm] at h; cases h
    | some f' => rw [hm] at h; cases h; exact ⟨c, fs, rfl, rfl, hm⟩
  · cases h
theorem snd_meth (g : Gd k nm cal np lv N sc X W) {o e : Expr} {es : List Expr} {apos pos : Pos} {m : Nat} {mx : Str} {ra : En → R LD} {rs : En → R (List LD)} (ho : PE X o (tE k Z0 H0 W ra)) (ha : PA X (e :: es) (tA k Z0 H0 W rs)) (hm : nm.at_ m = some mx) (hb : noSup o = true) (hl : (apos.endLine == pos.line) = true) (hn : (e :: es).length < 30)
    (hst : starEach (e :: es) X.env = (false, eval e X.env) :: starEach es X.env) (hpl : (backTo pos (starEach es X.env)).any (·.1) = false) :
    PE X (.Call (.Attribute o mx apos) (e :: es) [] pos) (tE k Z0 H0 W fun ε => (ra ε).bind fun x => match methF k.G m x with
      | some (f, d) => (rs ε).bind fun xs => callD cal f d xs
      | none => .bad) := PE.imp (pe_methA (CX := L2.CX X.prog X.w) ho ha hb hl hn hst hpl) fun σ H Q ⟨Z, ε, F, rel, h⟩ => by
  refine ⟨Z, ε, F, rel, (After.bind h).imp fun x ex h => ?_⟩
  intro v Z1 H1 f1 e1 t1 n1
  cases hf : methF k.G m x with
  | none => rw [hf] at h; exact h.elim
  | some p =>
    obtain ⟨f, d⟩ := p
    rw [hf] at h
    obtain ⟨c, fs, rfl, rfl, hmf⟩ := methF_ok hf
    obtain ⟨ga, fd, ps, m1, m2, m3, m4, m5, m6, m7⟩ := (g.mth c m f mx hmf hm).ex
    have t1 : Hd k Z1 H1 0 v (.ins c fs) f1 := t1
    obtain ⟨s, _⟩ := t1
    have s0 := s
    cases s with
    | @ins a _ ws _ hi hs =>
      refine ⟨a, ga, lv, fd, ps, spF k cal (.fn f), WE W σ, rfl, ?_, m6, g.room, m5, passAt g.tk σ, Z1, ε, F, rel.ext e1, (After.bind h).ext e1 fun xs exs h => ?_⟩
      · rw [← g.hK]
        exact (hi.mono e1.zh).methAt m1 m3 m4
      · intro vs Z2 H2 f2 e2 t2 n2
        unfold callD at h
        split at h
        · rename_i ds hd
          exact meth_get rel (e1.trans e2) (s0.mono e2.z) t2 (n2.back e1.h) hd h
        · exact h.elim
theorem snd_meth0 (g : Gd k nm cal np lv N sc X W) {o : Expr} {apos pos : Pos} {m : Nat} {mx : Str} {ra : En → R LD} (ho : PE X o (tE k Z0 H0 W ra)) (hm : nm.at_ m = some mx) (hb : noSup o = true) (hl : (apos.endLine == pos.line) = true) :
    PE X (.Call (.Attribute o mx apos) [] [] pos) (tE k Z0 H0 W fun ε => (ra ε).bind fun x => match methF k.G m x with
      | some (f, d) => R.bind (.ok []) fun xs => callD cal f d xs
      | none => .bad) := PE.imp (pe_methA0 (CX := L2.CX X.prog X.w) ho hb hl) fun σ H Q ⟨Z, ε, F, rel, h⟩ => by
  refine ⟨Z, ε, F, rel, (After.bind h).imp fun x ex h => ?_⟩
  intro v Z1 H1 f1 e1 t1 n1
  cases hf : methF k.G m x with
  | none => rw [hf] at h; exact h.elim
  | some p =>
    obtain ⟨f, d⟩ := p
    rw [hf] at h
    obtain ⟨c, fs, rfl, rfl, hmf⟩ := methF_ok hf
    obtain ⟨ga, fd, ps, m1, m2, m3, m4, m5, m6, m7⟩ := (g.mth c m f mx hmf hm).ex
    have t1 : Hd k Z1 H1 0 v (.ins c fs) f1 := t1
    obtain ⟨s, _⟩ := t1
    have s0 := s
    cases s with
    | @ins a _ ws _ hi hs =>
      refine ⟨a, ga, lv, fd, ps, spF k cal (.fn f), WE W σ, rfl, ?_, m6, g.room, m5, passAt g.tk σ, ?_⟩
      · rw [← g.hK]
        exact (hi.mono e1.zh).methAt m1 m3 m4
      · exact meth_get (xs := []) (ds := []) rel e1 s0 (RelTs.nil (F := F)) New.nil rfl h
/-! ### list(range(n)) -/
theorem ows_rng {Z H : Hp} : ∀ (ns : List Int), Ows k Z H (ns.map V.int) (ns.map D.int) []
  | [] => .nil
  | n :: r => Ows.cons (f := []) (fp := []) (.sh (.int n) rfl) (ows_rng r)
theorem rngD_ints : ∀ (n : Nat) (lo : Int), rngD lo n = ((List.range n).map fun (i : Nat) => lo + (i : Int)).map D.int
  | 0, _ => rfl
  | n + 1, lo => by
    unfold rngD
    rw [rngD_ints n (lo + 1), List.range_succ_eq_map]
    simp only [List.map_cons, List.map_map]
    refine congr (congrArg List.cons (by simp)) (List.map_congr_left fun i _ => ?_)
    simp only [Function.comp_apply]
    congr 1
    omega
theorem snd_lrg (g : Gd k nm cal np lv N sc X W) {a : Expr} {ra : En → R LD} {p p2 pos pos2 : Pos} (hl : glB sc "list" = true) (hr : glB sc "range" = true) (ha : PE X a (tE k Z0 H0 W ra)) (na : starEach [a] X.env = (false, eval a X.env) :: starEach [] X.env) :
    PE X (.Call (.Name "list" p) [.Call (.Name "range" p2) [a] [] pos2] [] pos) (tE k Z0 H0 W fun ε => (ra ε).bind lrgV) := by
  obtain ⟨g1, _⟩ := g.gl hl
  obtain ⟨g2, _⟩ := g.gl hr
  refine PE.imp (pe_listRg g.calm g1 (g.free _ (by decide)) (prg_1 g2 (g.free _ (by decide)) ha na) rfl) fun σ H Q ⟨Z, ε, F, rel, h⟩ => ?_
  refine ⟨Z, ε, F, rel, (After.bind h).imp fun x ex h => ?_⟩
  intro v Z1 H1 f1 e1 t1 n1
  obtain ⟨l, d⟩ := x
  unfold lrgV at h
  cases d with
  | int n =>
    dsimp only at h t1
    split at h
    · rename_i hn
      refine ⟨n, t1.int, RgOk.of_le (by omega) (by omega) (by omega) (by omega), fun q hq => ?_⟩
      have e2 : rgV 0 n = ((List.range n.toNat).map fun (i : Nat) => (0 : Int) + (i : Int)).map V.int := by unfold rgV; rw [List.map_map, Int.sub_zero]; rfl
      have e3 : rngD 0 n.toNat = ((List.range n.toNat).map fun (i : Nat) => (0 : Int) + (i : Int)).map D.int := rngD_ints n.toNat 0
      rw [e2]
      rw [e3] at h
      refine h (.ref q) Z1 _ [q] (e1.trans (Ext.layH e1.zh hq)) (Ow.lst upd_same (ows_rng _)) ⟨by simp, fun b m => ?_, fun b m => ?_⟩
      · simp at m; subst m
        cases e : H b with
        | none => rfl
        | some o => rw [e1.h b o e] at hq; cases hq
      · simp at m; subst m; exact zn e1.zh hq
    · exact h.elim
  | _ => exact h.elim
/-! ### o.p, a property -/
theorem pe_propA {X : Cx} {e : Expr} {f : Str} {pos : Pos} {ta : TE} (he : PE X e ta) (hb : noSup e = true) :
    PE X (.Attribute e f pos) (fun σ H Q => ta σ H fun x H1 => ∃ a C dx fs p g sp, x = .ref a ∧ H1 a = some (.ins C dx fs) ∧ Cls X.K C ∧ PropOf X.K C f p g ∧ MFn X g sp ∧ sp [.ref a] H1 Q noE) := by
  refine ⟨fun pins s σ H Q I h => ?_⟩
  refine attr_of (base_of hb) (thn (he.run pins s σ H _ I h) fun u s1 ⟨x, H1, I1, rx, a, C, dx, fs, p, g, sp, ex, ea, c, hp, ⟨n, fd, ps, F, hr, hbd⟩, q⟩ => ?_)
  subst ex
  obtain rfl : u = Value.ref a := rx
  obtain ⟨mA, O, _, _, _, _⟩ := ins_get I1.hok ea
  obtain ⟨od, J, _⟩ := O.look
  obtain ⟨rest, hrec⟩ := hp.rec_
  have I2 := I1.tok (s1.toks + 1)
  have hc : (PySem.W.clsIn X.K C).isSome = true := by
    obtain ⟨cd, hc, _⟩ := PySem.W.any_some c.hd
    rw [hc]
    rfl
  refine PySem.W.get_bind I1.kIn J (PySem.W.plainGet_of (c.get f)).1 (PySem.W.findObj_data hc hp.at_ hp.get hp.tak) (PySem.W.plainGet_of (c.get f)).2 (wpAny_call (PySem.W.prop_get (s := { s1 with toks := s1.toks + 1 }) I1.kIn hrec ?_))
  refine codeAny_mono (F.run X.A.in1 X.stack { s1 with toks := s1.toks + 1 } H1 ⟨[.ref a], []⟩ [.ref a] [.ref a] Q noE hr.in1 I2.env0.in1 (by have := hbd { s1 with toks := s1.toks + 1 } [.ref a] I2.kIn (by have := F.len _ _ _ _ q; simpa using this); simpa using this) (.cons rfl .nil) q) fun r s' hq => ?_
  cases r with
  | error er =>
    obtain ⟨_, _, _, _, _, _, _, _, _, _, _, _, z⟩ := hq
    exact z.elim
  | ok fl =>
    cases fl with
    | ret u =>
      obtain ⟨v, H', I3, rv, q3⟩ := I2.after hq
      show wpAny _ _ (handedOut u) _ _ _
      rw [PySem.W.handedOut_of (handed_of rv)]
      exact wpAny_pure ⟨v, H', I3, rv, q3⟩
    | next => exact False.elim hq
    | brk => exact False.elim hq
    | cont => exact False.elim hq
theorem snd_prop (g : Gd k nm cal np lv N sc X W) {a : Expr} {ra : En → R LD} {m : Nat} {x : Str} {pos : Pos} (ha : PE X a (tE k Z0 H0 W ra)) (hx : nm.at_ m = some x) (hb : noSup a = true) :
    PE X (.Attribute a x pos) (tE k Z0 H0 W fun ε => (ra ε).bind fun v => prV k.G cal m v) := PE.imp (pe_propA ha hb) fun σ H Q ⟨Z, ε, F, rel, h⟩ => by
  refine ⟨Z, ε, F, rel, (After.bind h).imp fun x0 ex h => ?_⟩
  intro v Z1 H1 fp e1 t1 n1
  obtain ⟨l, d⟩ := x0
  unfold prV at h
  dsimp only at h t1
  split at h
  · rename_i c fs
    have t1 : Hd k Z1 H1 0 v (.ins c fs) fp := t1
    obtain ⟨s, _⟩ := t1
    split at h
    · rename_i f hf
      have hlv : 0 < lv := by
        rcases Nat.eq_zero_or_pos lv with e | e
        · rw [g.low e] at h; exact h.elim
        · exact e
      obtain ⟨m0, p, ga, fd, ps, m1, m2, m3, m4⟩ := (g.prp c m f x hf hx)
      have s0 := s
      cases s with
      | @ins a _ ws _ hi hs =>
        have hm : lv = (lv - 1) + 1 := by omega
        have hi1 := hi.mono e1.zh
        obtain ⟨dx, _, ⟨_, ea⟩ | ⟨h1, _⟩⟩ := hi1
        · exact ⟨a, k.ca c, _, _, p, ga, _, rfl, ea, by rw [← g.hK]; exact m1, by rw [← g.hK]; exact m2, ⟨lv - 1, fd, ps, m4 _ hm, by rw [← hm]; exact g.room, m3⟩, spF_calm (meth_get (cal := fun z => noX (cal z)) (xs := []) (ds := []) rel e1 s0 (RelTs.nil (F := F)) New.nil rfl h)⟩
        · rw [m0] at h1; cases h1
    · exact h.elim
  · exact h.elim
/-! ### names of the module -/
theorem snd_glo (g : Gd k nm cal np lv N sc X W) {gn : Nat} {x : Str} {pos : Pos} (hx : nm.gl gn = some x) (hg : glB sc x = true) : PE X (.Name x pos) (tE k Z0 H0 W fun _ => match k.G.glo gn with | some d => .ok (0, d) | none => .bad) := by
  obtain ⟨g1, g2⟩ := g.gl hg
  cases hd : k.G.glo gn with
  | none => exact PE.of fun σ H Q ⟨Z, ε, F, rel, h⟩ => h.elim
  | some d =>
    rcases g.con gn x d hx hd with ⟨i, t, rfl, hm⟩ | ⟨y, t, rfl, hm⟩
    · exact snd_const (fun _ => .int i) (pe_glob g1 hm ⟨t, rfl⟩ g2)
    · exact snd_const (fun _ => .str y) (pe_glob g1 hm ⟨t, rfl⟩ g2)
theorem snd_con (g : Gd k nm cal np lv N sc X W) {c f : Nat} {x y : Str} {pos p : Pos} (hx : nm.cl c = some x) (hy : nm.at_ f = some y) (hg : glB sc x = true) : PE X (.Attribute (.Name x p) y pos) (tE k Z0 H0 W fun _ => match k.G.con c f with | some d => .ok (0, d) | none => .bad) := by
  obtain ⟨g1, g2⟩ := g.gl hg
  cases hd : k.G.con c f with
  | none => exact PE.of fun σ H Q ⟨Z, ε, F, rel, h⟩ => h.elim
  | some d =>
    obtain ⟨i, mc, u, rfl, hm, r, v⟩ := g.ccn c f x y d hx hy hd
    exact snd_const (fun _ => .int i) (PE.imp (ClX.pe_cval (pe_glob (v := .ref (k.ca c)) g1 hm rfl g2) rfl) fun σ H Q q => ⟨k.ca c, mc, _, u, rfl, r, v, q⟩)
/-! ### C(..) -/
theorem RelTs.append {Z H : Hp} {F : Nat → List Addr} : ∀ {vs ws : List V} {xs ys : List LD} {f1 f2 : List Addr}, RelTs k Z H F vs xs f1 → RelTs k Z H F ws ys f2 → RelTs k Z H F (vs ++ ws) (xs ++ ys) (f1 ++ f2)
  | _, _, _, _, _, _, .nil, o => o
  | _, _, _, _, _, _, .cons a r, o => by
    rw [List.append_assoc]
    exact .cons a (RelTs.append r o)
theorem RelTs.length {Z H : Hp} {F : Nat → List Addr} : ∀ {vs : List V} {xs : List LD} {fp : List Addr}, RelTs k Z H F vs xs fp → vs.length = xs.length
  | _, _, _, .nil => rfl
  | _, _, _, .cons _ r => congrArg (· + 1) r.length
theorem make_get (g : Gd k nm cal np lv N sc X W) {σ : L2.St} {ε : En} {F : Nat → List Addr} {Z H Z1 H1 : Hp} {Q : VK} {c f sh n : Nat} {x : Str} {ks : List Str} {xs ys : List LD} {vs zs : List V} {f1 f2 : List Addr} (hx : nm.cl c = some x) (hs : nm.sh sh = some (c, f, n, ks)) (rel : RelS k Z0 H0 Z H σ ε F) (e1 : Ext Z H Z1 H1)
    (ts : RelTs k Z1 H1 F vs xs f1) (tk : RelTs k Z1 H1 F zs ys f2) (n1 : New Z1 H (f1 ++ f2)) (hn : xs.length = n) (hk : ys.length = ks.length) (h : After k W σ Z H (makeV k.G cal c f sh xs ys) (Gets k F Z H Q)) : tMakeA X (L2.CX X.prog X.w) (k.ca c) ks σ vs zs H1 Q := by
  unfold makeV at h
  split at h
  · rename_i ds es hd he
    split at h
    · rename_i r hr
      have hlv : 0 < lv := by
        rcases Nat.eq_zero_or_pos lv with e | e
        · rw [g.low e] at h; exact h.elim
        · exact e
      obtain ⟨ga, fd, ps, gg, gV, m1, m2, m3, m4, m5⟩ := (g.mks c sh n ks f x hx hs).ex
      obtain ⟨m, rfl⟩ : ∃ m, lv = m + 1 := ⟨lv - 1, by omega⟩
      obtain ⟨ed, ad⟩ := data_ok hd
      obtain ⟨ee, ae⟩ := data_ok he
      have hdat : data (xs ++ ys) = some (ds ++ es) := by
        unfold data
        rw [List.all_append, ad, ae, ed, ee]
        simp
      have lds : ds.length = xs.length := by rw [ed]; simp
      have lv1 : vs.length = n := ts.length.trans hn
      have lz1 : zs.length = ks.length := tk.length.trans hk
      obtain ⟨Zc, zc, sc, q⟩ := call_get0 (c := fun l => .mk c f ((k.G.asm sh (l.take ds.length) (l.drop ds.length)).getD [])) rel e1 (ts.append tk) n1 hdat (Q := Q) (by
        simp only [List.take_left', List.drop_left', hr, Option.getD_some]
        exact h)
      simp only [List.take_left', List.drop_left', hr, Option.getD_some] at q
      have s1 : Shs k Zc vs ds := by
        have := sc.take vs.length
        rw [List.take_left' rfl] at this
        rw [lv1, ← hn, ← lds, List.take_left' rfl] at this
        exact this
      have s2 : Shs k Zc zs es := by
        have := sc.drop vs.length
        rw [List.drop_left' rfl] at this
        rw [lv1, ← hn, ← lds, List.drop_left' rfl] at this
        exact this
      refine ⟨ga, fd, ps, m, spI k cal c f, WE W σ, gg, gV, m2, m5 m rfl, g.room, by rw [lv1]; exact m3, passAt g.tk σ, lz1, fun y dx hy hdx hne => ?_⟩
      obtain ⟨ws, ew, sw⟩ := m4 Zc (.ref y) vs zs ds es r hr s1 s2 lv1 lz1
      refine ⟨y, dx, H1, Zc, r, ws, ew, rfl, hy, hdx, hne, zc, sw, ?_⟩
      cases ec : cal (.mk c f r) with
      | bad => rw [ec] at q; exact q.elim
      | exc cc fs => rw [ec] at q; exact q
      | ok p =>
        obtain ⟨l, d⟩ := p
        rw [ec] at q
        intro Z' H' fp e0 e hd nw
        subst e0
        exact ⟨rfl, q.2 _ _ H' [] (e.freeze nw.n) ⟨(hd.share (zjoin_sub e.zh) fun b m => zjoin_in m).em, rfl⟩ New.nil⟩
    · exact h.elim
  · exact h.elim
theorem kw_ok {env : Env} {pos : Pos} : ∀ {kws : List Keyword} {ks : List Str}, kws.map (·.arg) = ks.map some → (backToKw pos (keywordEach kws env)).all (·.1.isSome) = true ∧ (backToKw pos (keywordEach kws env)).filterMap (·.1) = ks ∧ (backToKw pos (keywordEach kws env)).any (·.1.isNone) = false
  | [], [], _ => ⟨rfl, rfl, rfl⟩
  | [], _ :: _, h => by cases h
  | _ :: _, [], h => by cases h
  | ⟨a, e, p⟩ :: kws, y :: ks, h => by
    simp only [List.map_cons, List.cons.injEq] at h
    obtain ⟨h1, h2⟩ := h
    subst h1
    obtain ⟨q1, q2, q3⟩ := kw_ok (env := env) (pos := pos) (kws := kws) (ks := ks) h2
    refine ⟨?_, ?_, ?_⟩
    · show (true && (backToKw pos (keywordEach kws env)).all (·.1.isSome)) = true
      rw [q1]; rfl
    · show y :: (backToKw pos (keywordEach kws env)).filterMap (·.1) = y :: ks
      rw [q2]
    · show (false || (backToKw pos (keywordEach kws env)).any (·.1.isNone)) = false
      rw [q3]; rfl
theorem snd_make (g : Gd k nm cal np lv N sc X W) {c f sh : Nat} {x : Str} {ks : List Str} {e : Expr} {es : List Expr} {kws : List Keyword} {p pos : Pos} {rs rk : En → R (List LD)} (hx : nm.cl c = some x) (hs : nm.sh sh = some (c, f, (e :: es).length, ks)) (hg : glB sc x = true)
    (ha : PA X (e :: es) (tA k Z0 H0 W rs)) (hkw : PK X kws (tA k Z0 H0 W rk)) (hk : kws.map (·.arg) = ks.map some) (hlen : ∀ ε xs, rs ε = .ok xs → xs.length = (e :: es).length) (hlenk : ∀ ε xs, rk ε = .ok xs → xs.length = kws.length)
    (hst : starEach (e :: es) X.env = (false, eval e X.env) :: starEach es X.env) (hpl : (backTo pos (starEach es X.env)).any (·.1) = false) :
    PE X (.Call (.Name x p) (e :: es) kws pos) (tE k Z0 H0 W fun ε => (rs ε).bind fun xs => (rk ε).bind fun ys => makeV k.G cal c f sh xs ys) := by
  obtain ⟨g1, g2⟩ := g.gl hg
  obtain ⟨_, _, _, _, _, m1, m2, _⟩ := (g.mks c sh _ ks f x hx hs).ex
  obtain ⟨k1, k2, k3⟩ := kw_ok (env := X.env) (pos := pos) hk
  have hl : kws.length = ks.length := by simpa using congrArg List.length hk
  refine PE.imp (pe_makeA (CX := L2.CX X.prog X.w) g1 m1 m2.kp ha hkw k1 k2 g2 hst (by rw [k3, Bool.or_false, hst]; exact hpl)) fun σ H Q ⟨Z, ε, F, rel, h⟩ => ?_
  refine ⟨Z, ε, F, rel, (After.bind h).imp fun xs exs h => ?_⟩
  intro vs Z1 H1 f1 e1 t1 n1
  refine ⟨Z1, ε, F, rel.ext e1, (After.bind h).ext e1 fun ys eys h => ?_⟩
  intro zs Z2 H2 f2 e2 t2 n2
  exact make_get g hx hs rel (e1.trans e2) (t1.mono e2) t2 ((n1.ext t1.there e2).join t1.there n2 e1.h) (hlen ε xs exs) ((hlenk ε ys eys).trans hl) h
theorem snd_make0 (g : Gd k nm cal np lv N sc X W) {c f sh : Nat} {x : Str} {ks : List Str} {kws : List Keyword} {p pos : Pos} {rk : En → R (List LD)} (hx : nm.cl c = some x) (hs : nm.sh sh = some (c, f, 0, ks)) (hg : glB sc x = true)
    (hkw : PK X kws (tA k Z0 H0 W rk)) (hk : kws.map (·.arg) = ks.map some) (hlenk : ∀ ε xs, rk ε = .ok xs → xs.length = kws.length) :
    PE X (.Call (.Name x p) [] kws pos) (tE k Z0 H0 W fun ε => R.bind (.ok []) fun xs => (rk ε).bind fun ys => makeV k.G cal c f sh xs ys) := by
  obtain ⟨g1, g2⟩ := g.gl hg
  obtain ⟨_, _, _, _, _, m1, m2, _⟩ := (g.mks c sh _ ks f x hx hs).ex
  obtain ⟨k1, k2, k3⟩ := kw_ok (env := X.env) (pos := pos) hk
  have hl : kws.length = ks.length := by simpa using congrArg List.length hk
  refine PE.imp (pe_makeA0 (CX := L2.CX X.prog X.w) g1 m1 m2.kp hkw k1 k2 g2 (by rw [k3, Bool.or_false]; rfl)) fun σ H Q ⟨Z, ε, F, rel, h⟩ => ?_
  have h : After k W σ Z H ((rk ε).bind fun ys => makeV k.G cal c f sh [] ys) (Gets k F Z H Q) := h
  refine ⟨Z, ε, F, rel, (After.bind h).imp fun ys eys h => ?_⟩
  intro zs Z2 H2 f2 e2 t2 n2
  exact make_get g hx hs rel e2 (RelTs.nil (F := F)) t2 n2 rfl ((hlenk ε ys eys).trans hl) h
/-! ### self, in an __init__ -/
theorem mak_fld {H : Hp} {c j f : Nat} {x : Str} {a dx : Addr} {vs : List V} {v : V} (C : ClsFacts k nm c) (hj : fldIx (k.G.flds c) f = some j) (hx : nm.at_ f = some x) (m : Mak k H c a dx vs) (hv : vs[j]? = some v) : FldAt k.K H a x v :=
  insAt_fld C hj hx (m.insAt rfl rfl) hv
theorem snd_sfl (g : Gd k nm cal np lv N sc X W) {i f : Nat} {x y : Str} {p pos : Pos} (hN : N[i]? = some y) (hv : visB sc y = true) (hx : nm.at_ f = some x) : PE X (.Attribute (.Name y p) x pos) (tE k Z0 H0 W fun ε => sflV k.G i f ε) := by
  obtain ⟨v1, v2, v3⟩ := vis_of hv
  refine PE.imp (pe_fldA (pe_var (i := i) (by rw [g.hN]; exact hN) (by rw [g.sc]; exact v1) v2 v3) rfl) fun σ H Q ⟨Z, ε, F, rel, h⟩ => ?_
  have h : After k W σ Z H (sflV k.G i f ε) (Gets k F Z H Q) := h
  unfold sflV at h
  split at h
  · rename_i c fs e
    obtain ⟨v, ev, hd⟩ := rel.sl i _ e
    obtain ⟨a, dx, c', vs, ds, ⟨rfl, _⟩, e2, mk, hs, hf⟩ := hd
    cases e2
    have hσ : σ[i]? = some (some (.ref a)) := by
      cases e2 : σ[i]? with
      | none => rw [e2] at ev; cases ev
      | some o => rw [e2] at ev; rw [show o = some (V.ref a) from ev]
    split at h
    · rename_i j hj
      split at h
      · rename_i d hd
        obtain ⟨w, hw, sw⟩ := hs.get hd
        exact ⟨.ref a, hσ, a, w, rfl, by rw [← g.hK]; exact mak_fld (g.cls c) hj hx mk hw, h w Z H [] (Ext.refl rel.zh) ⟨sw, rfl⟩ New.nil⟩
      · exact h.elim
    · exact h.elim
  · rename_i c fs e
    obtain ⟨v, ev, hd⟩ := rel.sl i _ e
    obtain ⟨a, dx, c', vs, ds, fq, ⟨rfl, _⟩, e2, mk, hs, hf⟩ := hd
    cases e2
    have hσ : σ[i]? = some (some (.ref a)) := by
      cases e2 : σ[i]? with
      | none => rw [e2] at ev; cases ev
      | some o => rw [e2] at ev; rw [show o = some (V.ref a) from ev]
    split at h
    · rename_i j hj
      split at h
      · exact h.elim
      · rename_i d hn hd
        obtain ⟨w, f2, hw, fw, _⟩ := hs.get hd
        cases fw with
        | ow _ _ => exact absurd rfl (hn _)
        | sh sw => exact ⟨.ref a, hσ, a, w, rfl, by rw [← g.hK]; exact mak_fld (g.cls c) hj hx mk hw, h w Z H [] (Ext.refl rel.zh) ⟨sw, rfl⟩ New.nil⟩
      · exact h.elim
    · exact h.elim
  · exact h.elim
/-- o(e, ..) -/
theorem snd_callv (g : Gd k nm cal np lv N sc X W) {fe e : Expr} {es : List Expr} {pos : Pos} {ra : En → R LD} {rs : En → R (List LD)} (ho : PE X fe (tE k Z0 H0 W ra)) (ha : PA X (e :: es) (tA k Z0 H0 W rs))
    (ht : eval (.Call fe (e :: es) [] pos) X.env = (do callWith pos (← eval fe X.env) [] (backTo pos (starEach (e :: es) X.env)) (backToKw pos (keywordEach [] X.env))))
    (hst : starEach (e :: es) X.env = (false, eval e X.env) :: starEach es X.env) (hpl : (backTo pos (starEach es X.env)).any (·.1) = false) :
    PE X (.Call fe (e :: es) [] pos) (tE k Z0 H0 W fun ε => (ra ε).bind fun x => match methF k.G mCall x with
      | some (f, d) => (rs ε).bind fun xs => callD cal f d xs
      | none => .bad) := PE.imp (pe_callA (CX := L2.CX X.prog X.w) ho ha ht hst hpl) fun σ H Q ⟨Z, ε, F, rel, h⟩ => by
  refine ⟨Z, ε, F, rel, (After.bind h).imp fun x ex h => ?_⟩
  intro v Z1 H1 f1 e1 t1 n1
  cases hf : methF k.G mCall x with
  | none => rw [hf] at h; exact h.elim
  | some p =>
    obtain ⟨f, d⟩ := p
    rw [hf] at h
    obtain ⟨c, fs, rfl, rfl, hmf⟩ := methF_ok hf
    obtain ⟨ga, fd, ps, m1, m2, m3, m4, m5, m6, m7⟩ := (g.mth c mCall f _ hmf g.spc.2.2).ex
    have t1 : Hd k Z1 H1 0 v (.ins c fs) f1 := t1
    obtain ⟨s, _⟩ := t1
    have s0 := s
    cases s with
    | @ins a _ ws _ hi hs =>
      refine ⟨a, rfl, Z1, ε, F, rel.ext e1, (After.bind h).ext e1 fun xs exs h => ?_⟩
      intro vs Z2 H2 f2 e2 t2 n2
      have co : StX.CallO k.K (k.ca c) ga := ⟨m1.at_, m1.fn, m2⟩
      unfold callD at h
      split at h
      · rename_i ds hd
        exact ⟨k.ca c, ga, lv, fd, ps, spF k cal (.fn f), WE W σ, (hi.mono (fun a o q => e2.zh a o (e2.z a o q))).insC, by rw [← g.hK]; exact co, m6, g.room, m5, passAt g.tk σ, meth_get rel (e1.trans e2) (s0.mono e2.z) t2 (n2.back e1.h) hd h⟩
      · exact h.elim
end
end RS

/-! RsIter -/
namespace RS
open PySem PySem.Spec
open PyProof.Rows L2
/-! ### an own class whose __iter__ returns iter(self.f), a tuple -/
theorem padH_get {h : Heap} {k : Nat} (b : Addr) : (padH h k).get? b = h.get? b := by
  unfold padH Heap.get?
  simp only [Array.getElem?_append, Array.getElem?_replicate]
  by_cases hb : b < h.objs.size
  · rw [if_pos hb]
  · rw [if_neg hb, Array.getElem?_eq_none (Nat.le_of_not_lt hb)]
    by_cases h2 : b - h.objs.size < k
    · rw [if_pos h2]
    · rw [if_neg h2]
theorem padH_size {h : Heap} {k : Nat} : (padH h k).objs.size = h.objs.size + k := by unfold padH; simp
theorem itT_ok {P : Program} {w : World} {H : Hp} {h : Heap} {t it : Addr} (e : h.get? it = some (itT t)) : ObjOk P w H h it (ItT t it) := ⟨e, ⟨_, e⟩, fun h1 h2 q k => k _ q⟩
theorem call_itT {prog : Program} {w : World} {A : Around} {E : Value → Shared → Prop} {s : Shared} {t : Addr} {items : Array Value} {Q : Value → Shared → Prop} (hl : s.heap.IsTuple t items) (h : Q (.ref s.heap.objs.size) { s with heap := s.heap.push (itT t) }) :
    wpAny (model prog w) A (call (.builtin "iter") [.ref t]) Q E s := by
  refine Calls.call_function_entry (by decide +kernel) (by decide +kernel) PySem.W.kdk_entry_iter (PySem.W.kdk_args_iter _) ?_
  unfold Builtin.«iter»
  refine wpAny_bind (m := someArgs "iter" 1 2 _) (wpAny_of_eq (a := [Value.ref t]) (by first | rfl | kernel_rfl!) ?_)
  show wpAny _ _ (pyIter (.ref t) >>= _) _ _ _
  exact wpAny_bind (wpAny_pyIter_tuple hl (wpAny_pure ⟨_, rfl, h⟩))
def rIterT (K : PySem.W.Frag) (n : Nat) : List V → Hp → VK → Prop := fun xs H Q => ∃ (t : Addr) (zs : List V), xs = [.ref t] ∧ SqT K H t zs ∧ ∀ it, H it = none → n ≤ it → Q (.ref it) (upd H it (ItT t it))
theorem call_iterT {X : Cx} : CallR X (.builtin "iter") (rIterT X.K X.base.objs.size) := by
  intro pins s σ H xs us Q I r h
  obtain ⟨t, zs, rfl, hq, q⟩ := h
  obtain ⟨u, rfl, ru⟩ := r.one
  cases (show u = Value.ref t from ru)
  obtain ⟨its, rv, pl, hz⟩ := I.tuple hq
  refine call_itT pl ?_
  exact ⟨.ref s.heap.objs.size, _, I.laid (t' := s.toks) (fun b u e => Heap.get?_push_of_some _ e) (Nat.le_refl _) (itT_ok (Heap.get?_push_size _ rfl)), rfl, q _ (I.hok.fresh (Nat.le_refl _)) (Nat.le_trans I.ok.bsz I.sz)⟩
theorem funs_pad {h base base' : Heap} (e : ∀ b, base'.get? b = base.get? b) : ∀ {l : List Env}, h.FunFrames base l → h.FunFrames base' l
  | [], _ => trivial
  | _ :: _, ⟨h1, ⟨L, o, f1, f2, f3⟩, h2⟩ => ⟨h1, ⟨L, o, f1, (e L).trans f2, f3⟩, funs_pad e h2⟩
section
variable {X : Cx} {pins : List (Addr × Obj)} {σ : L2.St} {H : Hp} {s : Shared}
theorem env_pad {P : Program} {w : World} {K : PySem.W.Frag} {mg : Str → Option Value} {base : Heap} {A : Around} {outer : List Env} {k : Nat} (e : Env0 P w K mg base A outer s H) (h : base.objs.size + k ≤ s.heap.objs.size) : Env0 P w K mg (padH base k) A outer s H where
  frames := e.frames
  mod := by
    have kp : ∀ b o, base.get? b = some o → (padH base k).get? b = some o := fun b o q => (padH_get b).trans q
    obtain ⟨mb, h1, h2⟩ := e.mod.blt
    exact ⟨e.mod.kin.keeps kp, e.mod.glob.keeps kp, ⟨mb, h1.keeps kp, h2⟩, e.mod.nolimit.keeps kp⟩
  bs := fun b o q => e.bs b o ((padH_get b).symm.trans q)
  bsz := by rw [padH_size]; exact h
  funs := funs_pad (fun b => padH_get b) e.funs
  frf := e.frf
  hok := e.hok
  bare := e.bare
end
theorem it_ok {P : Program} {w : World} {K : PySem.W.Frag} {mg : Str → Option Value} {base : Heap} {x qual f : Str} {params : Arguments} {body : List Stmt} {scope : Scope} {dvs : List V} {kws : List (Str × V)} {g : Addr} {fd : FuncData} {N ps : List Str}
    (F : FunD K x qual params body scope dvs kws g fd) (S : FnScope N ps scope) (hl : ps.length = 1) (hm : mg "iter" = none) (h : itB N scope f body = true) : FnOk P w K mg base (L2.CX P w) 1 g fd ps (spIt K base.objs.size f) := by
  refine FunD.ok F S (fun vs H Q E ⟨a, t, zs, e, _⟩ => by rw [e, hl]; rfl) fun cdv A outer s H vs Q E hr h0 => ?_
  unfold itB at h
  split at h
  · rename_i i p1 y q1 q2 q3 q4 q5
    simp only [Bool.and_eq_true, decide_eq_true_eq] at h
    obtain ⟨⟨⟨⟨rfl, rfl⟩, h3⟩, h4⟩, h5⟩ := h
    obtain ⟨v1, v2, v3⟩ := vis_of h4
    have g1 : Gl (cxOf (L2.CX P w) P w K mg base N qual scope g cdv A outer s H E) "iter" := by
      unfold glB at h3
      simp only [Bool.and_eq_true, decide_eq_true_eq] at h3
      exact h3.1
    obtain ⟨a, t, zs, rfl, hf, hs, q⟩ := h0
    exact ⟨_, pss_one (ps_ret (pe_callB call_iterT g1 hm (by decide +kernel) (pa_cons (pe_fldA (pe_var (i := 0) h5 v1 v2 v3) rfl) pa_nil))), .ref a, rfl, a, .ref t, rfl, hf, t, zs, rfl, hs, q⟩
  · cases h
section
variable {X : Cx} {tg : Expr}
theorem pi_ownA {e : Expr} {ta : TE} (he : PE X e ta) : PI X tg e (fun σ H R => ta σ H fun x H1 => ∃ a C g fd ps f t zs, x = .ref a ∧ StX.InsC X H1 a C ∧ OwnM X.K C "__iter__" g ∧ Room 1 X.A ∧ Binds X.K fd ps [] ∧
    (∀ n, FnOk X.prog X.w X.K X.mg (padH X.base n) (L2.CX X.prog X.w) 1 g fd ps (spIt X.K (padH X.base n).objs.size f)) ∧ FldAt X.K H1 a f (.ref t) ∧ SqT X.K H1 t zs ∧ R (Itt X.K t) H1) := by
  refine ⟨fun pins s σ H R I h => ?_⟩
  refine thn (he.run pins s σ H _ I h) fun v s1 ⟨x, H1, I1, r1, a, C, g, fd, ps, f, t, zs, ex, hi, om, hr, hbd, F, hf, hs, q⟩ => ?_
  subst ex
  obtain rfl : v = Value.ref a := r1
  obtain ⟨ox, od, J, _⟩ := StX.insC_at I1 hi
  obtain ⟨m, hF⟩ := I1.fr
  have bs : X.base.objs.size ≤ s1.heap.objs.size := Nat.le_trans I1.ok.bsz I1.sz
  have F1 := F (s1.heap.objs.size - X.base.objs.size)
  have sz : (padH X.base (s1.heap.objs.size - X.base.objs.size)).objs.size = s1.heap.objs.size := by rw [padH_size]; omega
  rw [sz] at F1
  have e0 := env_pad (k := s1.heap.objs.size - X.base.objs.size) I1.env0 (by omega)
  have sp : spIt X.K s1.heap.objs.size f [.ref a] H1 (fun v H' => ∃ it, v = .ref it ∧ H' = upd H1 it (ItT t it) ∧ H1 it = none ∧ s1.heap.objs.size ≤ it) noE := ⟨a, t, zs, rfl, hf, hs, fun it n1 n2 => ⟨it, rfl, rfl, n1, n2⟩⟩
  have hl := F1.len _ _ _ _ sp
  refine PySem.W.owit_iter hF I1.ok.mod.kin J om.at_ om.fn (wpAny_call (codeAny_mono (F1.run X.A X.stack s1 H1 ⟨[.ref a], []⟩ [.ref a] [.ref a] _ noE hr e0 (by have := hbd s1 [.ref a] I1.kIn (by rw [List.append_nil]; exact hl); rwa [List.append_nil] at this) (.cons rfl .nil) sp) fun r s' hq => ?_))
  cases r with
  | error er =>
    obtain ⟨_, _, _, _, _, _, _, _, _, _, _, _, z⟩ := hq
    exact z.elim
  | ok fl =>
    cases fl with
    | ret u =>
      obtain ⟨v, H', I3, rv, it, rfl, rfl, hn, hsz⟩ := I1.after hq
      obtain rfl : u = Value.ref it := rv
      have ho : s'.heap.get? it = some (itT t) := (I3.hok it _ upd_same).1
      have hT : s'.TypeIs (.ref it) "tuple_iterator" := ⟨_, ho, rfl⟩
      show wpAny _ _ (specialOf (.ref it) "__next__") _ _ _
      refine wpAny_specialOf (name := Str.ofString "__next__") hT PySem.F.slot_tuple_iterator_next.lookup ?_
      have fp := ItX.inv_fp I3 (a := it) (u := ItT t it) upd_same (Nat.le_trans I1.sz hsz)
      have I4 := ItX.inv_drop I3 (a := it) (φ := fun h => h.get? it = some (itT t)) upd_same
      rw [ItX.dropH_upd hn] at fp I4
      exact ⟨it, [it], _, _, H1, rfl, I4, turn_tuple t it, ⟨_, ho, rfl, rfl⟩, fun b hb => by rw [List.mem_singleton.mp hb]; exact fp, q⟩
    | next => exact False.elim hq
    | brk => exact False.elim hq
    | cont => exact False.elim hq
end
end RS

/-! RsKw -/
namespace RS
open PySem PySem.Spec
open PyProof.Rows L2
section
variable {X : Cx} {CX : CXT} {k n : Nat} {f C : Addr} {fd : FuncData} {ps ks : List Str} {sp : Sp} {E : L2.St → XK} {x m : Str} {p apos pos : Pos} {e : Expr} {es : List Expr} {kws : List Keyword} {t tk : TA} {g : List Value → List Value → List Value} {gV : List V → List V → List V}
/-- a def runs, its values bound by keywords and defaults -/
theorem run_kw {pins : List (Addr × Obj)} {σ : L2.St} {H : Hp} {s : Shared} {Q : VK} {us ws : List Value} {vs zs : List V} (F : FnOk X.prog X.w X.K X.mg X.base CX k f fd ps sp) (hr : Room k X.A) (hb : KBn X.K fd ps n ks g gV) (hx : PassesAt CX X σ (E σ))
    (I : Inv X pins σ H s) (r : Vals vs us) (rz : Vals zs ws) (l1 : vs.length = n) (l2 : zs.length = ks.length) (h : sp (gV vs zs) H Q (E σ)) : wpAny (model X.prog X.w) X.A (call (.ref f) us (ks.zip ws)) (EP X pins σ Q) X.xe s := by
  refine wpAny_call (codeAny_mono (F.run X.A X.stack s H _ _ _ Q (E σ) hr I.env0 (hb.to s us ws I.kIn (r.length.symm.trans l1) (rz.length.symm.trans l2)) (hb.rel r rz) h) fun o s' hq => ?_)
  cases o with
  | error er => exact hx pins H s er s' I hq
  | ok fl =>
    cases fl with
    | ret u => exact I.after hq
    | next => exact False.elim hq
    | brk => exact False.elim hq
    | cont => exact False.elim hq
def tKw (n m : Nat) (sp : Sp) (gV : List V → List V → List V) (E : L2.St → XK) (t tk : TA) : TE := fun σ H Q => t σ H fun vs H1 => tk σ H1 fun zs H2 => vs.length = n ∧ zs.length = m ∧ sp (gV vs zs) H2 Q (E σ)
/-- f(e, .., k = v, ..) -/
theorem pe_callkA (F : FnOk X.prog X.w X.K X.mg X.base CX k f fd ps sp) (hr : Room k X.A) (hg : Gl X x) (hm : X.mg x = some (.ref f)) (hk : PySem.W.keepIn X.K (.ref f) = true) (hb : KBn X.K fd ps n ks g gV) (hx : ∀ σ, PassesAt CX X σ (E σ))
    (ha : PA X (e :: es) t) (hkw : PK X kws tk) (hall : (backToKw pos (keywordEach kws X.env)).all (·.1.isSome) = true) (hks : (backToKw pos (keywordEach kws X.env)).filterMap (·.1) = ks)
    (hdb : (x == ("__debug__" : Str)) = false) (he : starEach (e :: es) X.env = (false, eval e X.env) :: starEach es X.env)
    (hpl : ((backTo pos (starEach (e :: es) X.env)).any (·.1) || (backToKw pos (keywordEach kws X.env)).any (·.1.isNone)) = false) :
    PE X (.Call (.Name x p) (e :: es) kws pos) (tKw n ks.length sp gV E t tk) := by
  refine ⟨fun pins s σ H Q I h => ?_⟩
  refine wpAny_Call_Name_kw (ld_glob I hg hm ?_ hdb)
  refine PySem.W.callWith_KW (h₀ := X.base) I.ok.mod.kin hk hall (thn (ha.run pos pins s σ H _ I h) fun us s1 ⟨vs, H1, I1, r, q⟩ => ?_) hpl he
  refine thn (hkw.run pos pins s1 σ H1 _ I1 q) fun ws s2 ⟨zs, H2, I2, rz, l1, l2, q2⟩ => ⟨I2.kIn, ?_⟩
  rw [hks]
  exact run_kw F hr hb (hx σ) I2 r rz l1 l2 q2
/-- C.m is read: a static method's def -/
theorem getst {pl : Sem Bool} {pins : List (Addr × Obj)} {σ : L2.St} {H : Hp} {s : Shared} {Q : Value × List Value → Shared → Prop} (I : Inv X pins σ H s) (h : StM X.K C m f) (q : ∀ s', Inv X pins σ H s' → Q (.ref f, []) s') : wpAny (model X.prog X.w) X.A (getMethod (.ref C) m pl) Q X.xe s := by
  obtain ⟨mc, pp, rest, rd, at_, rc⟩ := h.ex
  refine PySem.W.method_cls I.kIn rd.ga (PySem.W.cls_bind I.kIn rd.rd at_ ?_)
  exact wpAny_call (PySem.W.sm_get (s := { s with toks := s.toks + 1 }) I.kIn rc (PySem.W.handed_on rfl (q _ (I.tok _))))
theorem form_kwA {args : List Expr} {kws : List Keyword} {env : Env} {pos : Pos} (hs : (backTo pos (starEach args env)).any (·.1) = false) (hk : (backToKw pos (keywordEach kws env)).all (·.1.isSome) = true) (hn : args.length + kws.length < 29) : methodCallForm (args.length + kws.length) (backTo pos (starEach args env)) (backToKw pos (keywordEach kws env)) = true := by
  unfold methodCallForm
  have h1 : (backTo pos (starEach args env)).all (!·.1) = true := by
    rw [List.all_eq_true]
    intro x hx
    rw [List.any_eq_false] at hs
    simpa using hs x hx
  rw [h1, hk]
  simp only [Bool.true_and, decide_eq_true_eq]
  split <;> omega
/-- the tree of C.m(.., k = ..) -/
theorem mcall_treeK {o : Expr} {args : List Expr} {kws : List Keyword} {env : Env} (hb : noSup o = true) (hfew : methodCallForm (args.length + kws.length) (backTo pos (starEach args env)) (backToKw pos (keywordEach kws env)) = true) (hl : (apos.endLine == pos.line) = true) :
    eval (.Call (.Attribute o m apos) args kws pos) env = (do
      let ov ← eval o env
      standAt apos.atName
      let (f, first) ← holding [ov] (getMethod ov m (do return (← importBound o env).getD true))
      callWith pos f first (backTo pos (starEach args env)) (backToKw pos (keywordEach kws env))) := by
  refine mcall_of (base_of hb) fun ov => ?_
  unfold methodCall
  rw [hfew]
  unfold calleeOf methodCallPos
  simp only [if_true, Bool.not_true, Bool.false_or, hl]
  rfl
/-- C.m(e, .., k = v, ..), a static method -/
theorem pe_statA {o : Expr} (ho : PE X o (tC (.ref C))) (hb : noSup o = true) (hl : (apos.endLine == pos.line) = true) (hn : (e :: es).length + kws.length < 29) (hs : StM X.K C m f)
    (F : FnOk X.prog X.w X.K X.mg X.base CX k f fd ps sp) (hr : Room k X.A) (hk : PySem.W.keepIn X.K (.ref f) = true) (hbd : KBn X.K fd ps n ks g gV) (hx : ∀ σ, PassesAt CX X σ (E σ))
    (ha : PA X (e :: es) t) (hkw : PK X kws tk) (hall : (backToKw pos (keywordEach kws X.env)).all (·.1.isSome) = true) (hks : (backToKw pos (keywordEach kws X.env)).filterMap (·.1) = ks)
    (he : starEach (e :: es) X.env = (false, eval e X.env) :: starEach es X.env)
    (hpl : ((backTo pos (starEach (e :: es) X.env)).any (·.1) || (backToKw pos (keywordEach kws X.env)).any (·.1.isNone)) = false) :
    PE X (.Call (.Attribute o m apos) (e :: es) kws pos) (tKw n ks.length sp gV E t tk) := by
  refine ⟨fun pins s σ H Q I h => ?_⟩
  have h1 : (backTo pos (starEach (e :: es) X.env)).any (·.1) = false := (Bool.or_eq_false_iff.mp hpl).1
  refine PySem.W.methodCall_KW (thn (ho.run pins s σ H (fun v H1 => v = .ref C ∧ H1 = H) I ⟨rfl, rfl⟩) fun u s1 ⟨x, H1, I1, rx, ex, eH⟩ => ?_) (mcall_treeK hb (form_kwA h1 hall hn) hl)
  subst ex eH
  obtain rfl : u = Value.ref C := rx
  refine getst I1 hs fun s2 I2 => ?_
  refine PySem.W.callWith_KW (h₀ := X.base) I.ok.mod.kin hk hall (thn (ha.run pos pins s2 σ H1 _ I2 h) fun us s1 ⟨vs, H1, I1, r, q⟩ => ?_) hpl he
  refine thn (hkw.run pos pins s1 σ H1 _ I1 q) fun ws s2 ⟨zs, H2, I2, rz, l1, l2, q2⟩ => ⟨I2.kIn, ?_⟩
  rw [hks]
  exact run_kw F hr hbd (hx σ) I2 r rz l1 l2 q2
/-! ### isinstance, ==, of own classes -/
theorem insC_some {pins : List (Addr × Obj)} {σ : L2.St} {H : Hp} {s : Shared} {a : Addr} (I : Inv X pins σ H s) (h : StX.InsC X H a C) : ∃ ox od, PySem.W.InstAt s.heap a ox C (some od) := by
  rcases h with ⟨dx, vs, h⟩ | ⟨dx, fs, h⟩
  · obtain ⟨sl, od, _, J, _⟩ := SlX.slt_inst I h
    exact ⟨_, _, J⟩
  · obtain ⟨mA, O, _, _, _, _⟩ := ins_get I.hok h
    obtain ⟨od, J, _⟩ := O.look
    exact ⟨_, _, J⟩
def rIscA (X : Cx) : List V → Hp → VK → Prop := fun xs H Q => ∃ a C D b, xs = [.ref a, .ref C] ∧ StX.InsC X H a D ∧ IsE X.K D ∧ PySem.W.kitOne X.K (.ref D) (.ref C) = some b ∧ Q (.bl b) H
theorem call_iscA : CallR X (.builtin "isinstance") (rIscA X) := by
  intro pins s σ H xs us Q I r h
  obtain ⟨a, C, D, b, rfl, hi, ie, hk, q⟩ := h
  obtain ⟨u1, u2, rfl, r1, r2⟩ := r.two
  cases (show u1 = Value.ref a from r1)
  cases (show u2 = Value.ref C from r2)
  obtain ⟨ox, od, J⟩ := insC_some I hi
  exact PySem.W.kia_one (OwX.kitx_slt ie.ic ie.pg ie.si.ca ie.si.cn ie.si.ct ie.si.cm) I.kIn J hk (fun z => nomatch z) fun tk => ⟨.bl b, H, I.tok _, rfl, q⟩
/-- y's class is tb -/
def ClsAt (X : Cx) (H : Hp) (y : V) (tb : Value) : Prop := TyX X.K H y tb ∨ ∃ b D, y = .ref b ∧ tb = .ref D ∧ StX.InsC X H b D
theorem clsAt_looks {pins : List (Addr × Obj)} {σ : L2.St} {H : Hp} {s : Shared} {y : V} {u tb : Value} (I : Inv X pins σ H s) (h : ClsAt X H y tb) (r : RelV y u) : PySem.W.Looks (model X.prog X.w) s.heap (typeOf u) tb := by
  rcases h with h | ⟨b, D, rfl, rfl, h⟩
  · obtain ⟨P, Z, p, _⟩ := kit_of I r h
    exact Z.ty _ _ I.kIn p
  · cases (show u = Value.ref b from r)
    obtain ⟨ox, od, J⟩ := insC_some I h
    exact J.type
def rEqA (X : Cx) : R2 := fun x y H Q => ∃ a C g sp tb, x = .ref a ∧ StX.InsC X H a C ∧ OwnM X.K C "__eq__" g ∧ MFn X g sp ∧ ClsAt X H y tb ∧ PySem.W.notFirst X.K C tb = true ∧ sp [.ref a, y] H Q noE
theorem op_eqA : OpR X (compareOp .Eq) (fun x y H Q => anyR X (compareOp .Eq) x y H Q ∨ rEqA X x y H Q) := by
  intro pins s σ H x y v u Q I rx ry h
  rcases h with h | ⟨a, C, g, sp, tb, rfl, hi, om, ⟨n, fd, ps, F, hr, hbd⟩, hy, hn, q⟩
  · exact anyR_ok pins s σ H x y v u Q I rx ry h
  · cases (show v = Value.ref a from rx)
    obtain ⟨ox, od, J⟩ := insC_some I hi
    obtain ⟨m, hF⟩ := I.fr
    show wpAny _ _ (richCompare .Eq (.ref a) u) _ _ _
    refine PySem.W.cmp_K (op := .Eq) hr.units0 hF I.ok.mod.kin J (clsAt_looks I hy ry) hn om.at_ om.fn ?_
    refine wpAny_mono (wpAny_call (runAt (us := [.ref a, u]) (vs := [.ref a, y]) F (hr.mono (Nat.le_succ _)) I.env0 hbd (passNone σ) I (.cons rfl (.cons ry .nil)) q)) (fun w s' z => ?_) fun _ _ x => x
    obtain ⟨z, H', I', rz, qz⟩ := z
    exact SlX.cmpback rz ⟨z, H', I', rz, qz⟩
abbrev inOp (ni : Bool) : CmpOp := if ni then .NotIn else .In
def rInA (X : Cx) (ni : Bool) : R2 := fun x y H Q => ∃ a C g sp, y = .ref a ∧ StX.InsC X H a C ∧ OwnM X.K C "__contains__" g ∧ MFn X g sp ∧ sp [.ref a, x] H (fun v H' => ∃ b : Bool, v = .bl b ∧ Q (.bl (b != ni)) H') noE
theorem op_inA (ni : Bool) : OpR X (compareOp (inOp ni)) (fun x y H Q => anyR X (compareOp (inOp ni)) x y H Q ∨ rInA X ni x y H Q) := by
  intro pins s σ H x y v u Q I rx ry h
  rcases h with h | ⟨a, C, g, sp, rfl, hi, om, ⟨n, fd, ps, F, hr, hbd⟩, q⟩
  · exact anyR_ok pins s σ H x y v u Q I rx ry h
  · cases (show u = Value.ref a from ry)
    obtain ⟨ox, od, J⟩ := insC_some I hi
    obtain ⟨m, hF⟩ := I.fr
    have go := wpAny_call (runAt (us := [.ref a, v]) (vs := [.ref a, x]) F (hr.mono (Nat.le_succ _)) I.env0 hbd (passNone σ) I (.cons rfl (.cons rx .nil)) q)
    cases ni with
    | false =>
      show wpAny _ _ (compareOp .In v (.ref a)) _ _ _
      refine PySem.W.in_K hF I.ok.mod.kin J om.at_ om.fn (wpAny_mono go (fun w s' z => ?_) fun _ _ x => x)
      obtain ⟨z, H', I', rz, b, rfl, qz⟩ := z
      cases (show w = Value.bool b from rz)
      exact wpAny_truthy_bool ⟨.bl (b != false), H', I', by cases b <;> rfl, qz⟩
    | true =>
      show wpAny _ _ (compareOp .NotIn v (.ref a)) _ _ _
      refine PySem.W.notIn_K hF I.ok.mod.kin J om.at_ om.fn (wpAny_mono go (fun w s' z => ?_) fun _ _ x => x)
      obtain ⟨z, H', I', rz, b, rfl, qz⟩ := z
      cases (show w = Value.bool b from rz)
      exact wpAny_truthy_bool ⟨.bl (b != true), H', I', by cases b <;> rfl, qz⟩
end
section
variable {k : Kc} {nm : Nm} {cal : Cl → R LD} {np : Nat → Nat} {lv : Nat} {N : List Str} {sc : Scope} {X : Cx} {W : WX} {Z0 H0 : Hp}
/-- .. as the interpreter says -/
theorem kw_get (g : Gd k nm cal np lv N sc X W) {σ : L2.St} {ε : En} {F : Nat → List Addr} {Z H Z1 H1 : Hp} {Q : VK} {f sh n : Nat} {ks : List Str} {xs ys : List LD} {vs zs : List V} {f1 f2 : List Addr} {gV : List V → List V → List V}
    (hgV : ∀ (Z : Hp) (vs zs : List V) (ds es r : List D), k.G.asm sh ds es = some r → Shs k Z vs ds → Shs k Z zs es → vs.length = n → zs.length = ks.length → Shs k Z (gV vs zs) r) (rel : RelS k Z0 H0 Z H σ ε F) (e1 : Ext Z H Z1 H1)
    (ts : RelTs k Z1 H1 F vs xs f1) (tk : RelTs k Z1 H1 F zs ys f2) (n1 : New Z1 H (f1 ++ f2)) (hn : xs.length = n) (hk : ys.length = ks.length) (h : After k W σ Z H (callkV k.G cal f sh xs ys) (Gets k F Z H Q)) :
    vs.length = n ∧ zs.length = ks.length ∧ spF k cal (.fn f) (gV vs zs) H1 Q (WE W σ) := by
  unfold callkV at h
  split at h
  · rename_i ds es hd he
    split at h
    · rename_i r hr
      obtain ⟨ed, ad⟩ := data_ok hd
      obtain ⟨ee, ae⟩ := data_ok he
      have hdat : data (xs ++ ys) = some (ds ++ es) := by
        unfold data
        rw [List.all_append, ad, ae, ed, ee]
        simp
      have lds : ds.length = xs.length := by rw [ed]; simp
      have lv1 : vs.length = n := ts.length.trans hn
      have lz1 : zs.length = ks.length := tk.length.trans hk
      obtain ⟨Zc, zc, sc, q⟩ := call_get0 (c := fun l => .fn f ((k.G.asm sh (l.take ds.length) (l.drop ds.length)).getD [])) rel e1 (ts.append tk) n1 hdat (Q := Q) (by
        simp only [List.take_left', List.drop_left', hr, Option.getD_some]
        exact h)
      simp only [List.take_left', List.drop_left', hr, Option.getD_some] at q
      have s1 : Shs k Zc vs ds := by
        have := sc.take vs.length
        rw [List.take_left' rfl] at this
        rw [lv1, ← hn, ← lds, List.take_left' rfl] at this
        exact this
      have s2 : Shs k Zc zs es := by
        have := sc.drop vs.length
        rw [List.drop_left' rfl] at this
        rw [lv1, ← hn, ← lds, List.drop_left' rfl] at this
        exact this
      exact ⟨lv1, lz1, Zc, r, zc, hgV Zc vs zs ds es r hr s1 s2 lv1 lz1, q⟩
    · exact h.elim
  · exact h.elim
theorem insOf_ok {d : D} {e : Nat} (h : insOf d = some e) : ∃ fs, d = .ins e fs := by
  cases d <;> first | (cases h; done) | (cases h; exact ⟨_, rfl⟩)
theorem RelT.insAt {Z H : Hp} {F : Nat → List Addr} {l e : Nat} {v : V} {fs : List D} {fp : List Addr} (zh : Zh Z H) (t : RelT k Z H F l v (.ins e fs) fp) : ∃ a vs, v = .ref a ∧ InsAt k H e a vs ∧ Shs k Z vs fs := by
  cases t.sh_of (fun _ z => nomatch z) with
  | ins hi hs => exact ⟨_, _, rfl, hi.mono zh, hs⟩
/-- .. that the machine calls, of an instance of the class c -/
theorem up_getC (g : Gd k nm cal np lv N sc X W) {σ : L2.St} {ε : En} {F : Nat → List Addr} {Z H Z1 H1 : Hp} {Q : VK} {m c : Nat} {fs : List D} {mx : Str} {x : LD} {xs : List LD} {v : V} {vs : List V} {f1 fp : List Addr} (hd : x.2 = .ins c fs) (hm : nm.at_ m = some mx) (rel : RelS k Z0 H0 Z H σ ε F) (e1 : Ext Z H Z1 H1) (t1 : RelT k Z1 H1 F x.1 v x.2 f1) (ts : RelTs k Z1 H1 F vs xs fp) (n1 : New Z1 H fp)
    (h : After k W σ Z H (upV k.G cal m x xs) (Gets k F Z H Q)) : ∃ a g sp, v = .ref a ∧ StX.InsC X H1 a (k.ca c) ∧ OwnM X.K (k.ca c) mx g ∧ MFn X g sp ∧ sp (.ref a :: vs) H1 Q noE := by
  obtain ⟨l, d⟩ := x
  dsimp only at hd t1
  subst hd
  obtain ⟨a, ws, rfl, hia, _⟩ := t1.insAt e1.zh
  unfold upV at h
  dsimp only at h
  split at h
  · rename_i c' fs' ds _ ed hdat
    cases ed
    split at h
    · rename_i f hf
      have hlv : 0 < lv := by
        rcases Nat.eq_zero_or_pos lv with e | e
        · rw [g.low e] at h; exact h.elim
        · exact e
      obtain ⟨ga, fd, ps, m1, m2, m3, m4, m5, m6, m7⟩ := (g.mth c m f mx hf hm).ex
      obtain ⟨n, rfl⟩ : ∃ n, lv = n + 1 := ⟨lv - 1, by omega⟩
      have t1 : Hd k Z1 H1 0 (.ref a) (.ins c fs) f1 := t1
      refine ⟨a, ga, _, rfl, hia.insC, ?_, ⟨n, fd, ps, m7 n rfl, g.room, m5⟩, spF_calm (meth_get (cal := fun z => noX (cal z)) rel e1 t1.1 ts n1 hdat h)⟩
      rw [← g.hK]
      exact ⟨m1.at_, m1.fn, m2⟩
    · exact h.elim
  · exact h.elim
theorem snd_callk (g : Gd k nm cal np lv N sc X W) {f sh : Nat} {x : Str} {ks : List Str} {e : Expr} {es : List Expr} {kws : List Keyword} {p pos : Pos} {rs rk : En → R (List LD)} (hs : nm.fk sh = some (f, x, (e :: es).length, ks)) (hg : glB sc x = true)
    (ha : PA X (e :: es) (tA k Z0 H0 W rs)) (hkw : PK X kws (tA k Z0 H0 W rk)) (hk : kws.map (·.arg) = ks.map some) (hlen : ∀ ε xs, rs ε = .ok xs → xs.length = (e :: es).length) (hlenk : ∀ ε xs, rk ε = .ok xs → xs.length = kws.length)
    (hst : starEach (e :: es) X.env = (false, eval e X.env) :: starEach es X.env) (hpl : (backTo pos (starEach es X.env)).any (·.1) = false) :
    PE X (.Call (.Name x p) (e :: es) kws pos) (tE k Z0 H0 W fun ε => (rs ε).bind fun xs => (rk ε).bind fun ys => callkV k.G cal f sh xs ys) := by
  obtain ⟨g1, g2⟩ := g.gl hg
  obtain ⟨ga, fd, ps, gg, gV, m1, m2, m3, m4, m5⟩ := (g.fks sh f x _ ks hs).ex
  obtain ⟨k1, k2, k3⟩ := kw_ok (env := X.env) (pos := pos) hk
  have hl : kws.length = ks.length := by simpa using congrArg List.length hk
  refine PE.imp (pe_callkA (E := WE W) m5 g.room g1 m1 m2 m3 (passAt g.tk) ha hkw k1 k2 g2 hst (by rw [k3, Bool.or_false, hst]; exact hpl)) fun σ H Q ⟨Z, ε, F, rel, h⟩ => ?_
  refine ⟨Z, ε, F, rel, (After.bind h).imp fun xs exs h => ?_⟩
  intro vs Z1 H1 f1 e1 t1 n1
  refine ⟨Z1, ε, F, rel.ext e1, (After.bind h).ext e1 fun ys eys h => ?_⟩
  intro zs Z2 H2 f2 e2 t2 n2
  exact kw_get g m4 rel (e1.trans e2) (t1.mono e2) t2 ((n1.ext t1.there e2).join t1.there n2 e1.h) (hlen ε xs exs) ((hlenk ε ys eys).trans hl) h
theorem snd_stat (g : Gd k nm cal np lv N sc X W) {c f m sh : Nat} {x y : Str} {ks : List Str} {e : Expr} {es : List Expr} {kws : List Keyword} {p apos pos : Pos} {rs rk : En → R (List LD)} (hs : nm.st sh = some (c, m, f, (e :: es).length, ks)) (hx : nm.cl c = some x) (hy : nm.at_ m = some y) (hg : glB sc x = true)
    (hap : (apos.endLine == pos.line) = true) (hfew : (e :: es).length + kws.length < 29)
    (ha : PA X (e :: es) (tA k Z0 H0 W rs)) (hkw : PK X kws (tA k Z0 H0 W rk)) (hk : kws.map (·.arg) = ks.map some) (hlen : ∀ ε xs, rs ε = .ok xs → xs.length = (e :: es).length) (hlenk : ∀ ε xs, rk ε = .ok xs → xs.length = kws.length)
    (hst : starEach (e :: es) X.env = (false, eval e X.env) :: starEach es X.env) (hpl : (backTo pos (starEach es X.env)).any (·.1) = false) :
    PE X (.Call (.Attribute (.Name x p) y apos) (e :: es) kws pos) (tE k Z0 H0 W fun ε => (rs ε).bind fun xs => (rk ε).bind fun ys => callkV k.G cal f sh xs ys) := by
  obtain ⟨g1, g2⟩ := g.gl hg
  obtain ⟨ga, fd, ps, gg, gV, m1, m0, m2, m3, m4, m5⟩ := (g.sts sh c m f _ ks x y hs hx hy).ex
  obtain ⟨k1, k2, k3⟩ := kw_ok (env := X.env) (pos := pos) hk
  have hl : kws.length = ks.length := by simpa using congrArg List.length hk
  refine PE.imp (pe_statA (E := WE W) (pe_glob g1 m1 rfl g2) rfl hap hfew m0 m5 g.room m2 m3 (passAt g.tk) ha hkw k1 k2 hst (by rw [k3, Bool.or_false, hst]; exact hpl)) fun σ H Q ⟨Z, ε, F, rel, h⟩ => ?_
  refine ⟨Z, ε, F, rel, (After.bind h).imp fun xs exs h => ?_⟩
  intro vs Z1 H1 f1 e1 t1 n1
  refine ⟨Z1, ε, F, rel.ext e1, (After.bind h).ext e1 fun ys eys h => ?_⟩
  intro zs Z2 H2 f2 e2 t2 n2
  exact kw_get g m4 rel (e1.trans e2) (t1.mono e2) t2 ((n1.ext t1.there e2).join t1.there n2 e1.h) (hlen ε xs exs) ((hlenk ε ys eys).trans hl) h
/-- isinstance(a, C) -/
theorem Ow.nomut {Z H : Hp} {v : V} {xs : List D} {fp : List Addr} (t : Ow k Z H v (.mut xs) fp) : False := by
  cases t with
  | sh s _ => cases s
theorem RelT.nomut {Z H : Hp} {F : Nat → List Addr} {l : Nat} {v : V} {xs : List D} {fp : List Addr} (t : RelT k Z H F l v (.mut xs) fp) : False := by
  match l, t with
  | 0, t =>
    obtain ⟨t, _⟩ := t
    cases t
  | 1, ⟨_, _, _, _, h, _⟩ => cases h
  | 2, t => exact Ow.nomut t
  | 3, ⟨_, fp', ⟨_, _, _, _, h, _⟩, _⟩ => cases h
  | 4, ⟨_, fp', t, _⟩ => exact Ow.nomut t
  | n + 5, t => exact t.elim
theorem tyX_of {Z H : Hp} {F : Nat → List Addr} {l : Nat} {v : V} {d : D} {fp : List Addr} (zh : Zh Z H) (hK : k.K = X.K) (t : RelT k Z H F l v d fp) (h : insOf d = none) : ∃ T, T ∈ dTys ∧ TyX X.K H v (.type T) := by
  cases hd : dTy d with
  | none => cases d <;> first | (cases hd; done) | (cases h; done) | exact t.nomut.elim
  | some T =>
    refine ⟨T, ?_, t.tyX zh hK hd⟩
    cases d <;> first | (cases hd; done) | (cases hd; decide)
theorem snd_isc (g : Gd k nm cal np lv N sc X W) {a : Expr} {r : En → R LD} {c : Nat} {x : Str} {p p2 pos : Pos} (ha : PE X a (tE k Z0 H0 W r)) (hg : glB sc "isinstance" = true) (hx : nm.cl c = some x) (hgx : glB sc x = true)
    (hs : starEach [a, .Name x p2] X.env = (false, eval a X.env) :: starEach [.Name x p2] X.env) (hs2 : starEach [.Name x p2] X.env = [(false, eval (.Name x p2) X.env)]) :
    PE X (.Call (.Name "isinstance" p) [a, .Name x p2] [] pos) (tE k Z0 H0 W fun ε => (r ε).bind fun x => iscV k.G c x) := by
  by_cases hm : X.mg x = some (.ref (k.ca c))
  · have hpa : PA X [a, .Name x p2] (tCons (tE k Z0 H0 W r) (tCons (tC (.ref (k.ca c))) tNil)) := pa_cons ha (pa_cons (pe_glob (g.gl hgx).1 hm rfl (g.gl hgx).2) pa_nil (by rw [hs2]; rfl)) hs
    have hpl : (backTo pos (starEach [.Name x p2] X.env)).any (·.1) = false := by rw [hs2]; rfl
    refine PE.imp (pe_callB (anyC_ok (f := .builtin "isinstance")) (g.gl hg).1 (g.free _ (by decide)) rfl hpa (by decide) (by decide) hs hpl) fun σ H Q ⟨Z, ε, F, rel, q⟩ => ?_
    refine ⟨Z, ε, F, rel, (After.bind q).imp fun y ey q => ?_⟩
    intro v Z1 H1 fp e1 t1 n1
    unfold iscV at q
    split at q
    · rename_i hy
      cases hi : insOf y.2 with
      | none =>
        rw [hi] at q
        cases hk : k.G.isk c none with
        | none => rw [hk] at q; exact q.elim
        | some b =>
          rw [hk] at q
          obtain ⟨T, hT, ty⟩ := tyX_of e1.zh g.hK t1 hi
          exact ⟨_, call_isi, v, _, _, _, _, rfl, .own _, ty, (g.isd c b x hx hk).2 T hT, q (.bl _) Z1 H1 [] e1 ⟨.bl _, rfl⟩ New.nil⟩
      | some e =>
        rw [hi] at q
        cases hk : k.G.isk c (some e) with
        | none => rw [hk] at q; exact q.elim
        | some b =>
          rw [hk] at q
          obtain ⟨fs, hd⟩ := insOf_ok hi
          rw [hd] at t1
          obtain ⟨ad, vs, rfl, hia, _⟩ := t1.insAt e1.zh
          obtain ⟨_, h2, h3⟩ := g.isi c e b x hx hk
          exact ⟨_, call_iscA, ad, k.ca c, k.ca e, b, rfl, hia.insC, h3, h2, q (.bl _) Z1 H1 [] e1 ⟨.bl _, rfl⟩ New.nil⟩
    · exact q.elim
  · have no : ∀ y, iscV k.G c y = .bad := fun y => by
      unfold iscV
      split
      · cases hi : insOf y.2 with
        | none =>
          cases hk : k.G.isk c none with
          | none => rfl
          | some b => exact absurd (g.isd c b x hx hk).1 hm
        | some e =>
          cases hk : k.G.isk c (some e) with
          | none => rfl
          | some b => exact absurd (g.isi c e b x hx hk).1 hm
      · rfl
    have nev : PE X (.Name x p2) (fun _ _ _ => False) := ⟨fun _ _ _ _ _ _ z => z.elim⟩
    have hpa : PA X [a, .Name x p2] (tCons (tE k Z0 H0 W r) (tCons (fun _ _ _ => False) tNil)) := pa_cons ha (pa_cons nev pa_nil (by rw [hs2]; rfl)) hs
    have hpl : (backTo pos (starEach [.Name x p2] X.env)).any (·.1) = false := by rw [hs2]; rfl
    refine PE.imp (pe_callB (anyC_ok (f := .builtin "isinstance")) (g.gl hg).1 (g.free _ (by decide)) rfl hpa (by decide) (by decide) hs hpl) fun σ H Q ⟨Z, ε, F, rel, q⟩ => ?_
    refine ⟨Z, ε, F, rel, (After.bind q).imp fun y ey q => ?_⟩
    rw [no] at q
    exact q.elim
/-- a == b -/
theorem eqo_imp (g : Gd k nm cal np lv N sc X W) {ra rb : En → R LD} (σ : L2.St) (H : Hp) (Q : VK) (h : tE k Z0 H0 W (fun ε => (ra ε).bind fun x => (rb ε).bind fun y => eqoV k.G cal false x y) σ H Q) :
    tOp (fun x y H Q => anyR X (compareOp .Eq) x y H Q ∨ rEqA X x y H Q) (tE k Z0 H0 W ra) (tE k Z0 H0 W rb) σ H Q := by
  obtain ⟨Z, ε, F, rel, h⟩ := h
  refine ⟨Z, ε, F, rel, (After.bind h).imp fun x ex h => ?_⟩
  intro v1 Z1 H1 f1 e1 t1 n1
  refine ⟨Z1, ε, F, rel.ext e1, (After.bind h).ext e1 fun y ey h => ?_⟩
  intro v2 Z2 H2 f2 e2 t2 n2
  unfold eqoV at h
  cases hi : insOf x.2 with
  | some c =>
    rw [hi] at h
    dsimp only at h
    split at h
    · rename_i hk
      obtain ⟨hk1, hk⟩ := hk
      right
      have ts : RelTs k Z2 H2 F [v2] [y] (f2 ++ []) := .cons t2 .nil
      rw [List.append_nil] at ts
      have h2 : After k W σ Z H (upV k.G cal mEq x [y]) (Gets k F Z H Q) := by
        cases hu : upV k.G cal mEq x [y] with
        | ok p =>
          rw [hu] at h
          unfold notR at h
          obtain ⟨l, d⟩ := p
          cases d with
          | bl bb =>
            intro v Z' H' fp e t n
            rw [show v = .bl bb from t.bl]
            exact h (.bl bb) Z' H' [] e ⟨.bl bb, rfl⟩ New.nil
          | _ => exact h.elim
        | exc cc fs => exact absurd hu (upV_calm cc fs)
        | bad => rw [hu] at h; exact h.elim
      obtain ⟨fs, hd⟩ := insOf_ok hi
      obtain ⟨ad, ga, sp, rfl, hc, om, mf, q⟩ := up_getC g hd g.eqn rel (e1.trans e2) (t1.mono e2) ts (n2.back e1.h) h2
      cases hy : insOf y.2 with
      | none =>
        rw [hy] at hk
        obtain ⟨T, hT, ty⟩ := tyX_of e2.zh g.hK t2 hy
        exact ⟨ad, _, ga, sp, _, rfl, hc, om, mf, .inl ty, g.eqd c hk T hT, q⟩
      | some e =>
        rw [hy] at hk
        obtain ⟨fs2, hd2⟩ := insOf_ok hy
        rw [hd2] at t2
        obtain ⟨a2, vs2, rfl, hi2, _⟩ := t2.insAt e2.zh
        exact ⟨ad, _, ga, sp, _, rfl, hc, om, mf, .inr ⟨a2, _, rfl, rfl, hi2.insC⟩, g.eqi c e hk, q⟩
    · exact h.elim
  | none =>
    rw [hi] at h
    left
    have h : After k W σ Z H (copV .eq x y) (Gets k F Z H Q) := h
    cases eo : copV .eq x y with
    | bad => rw [eo] at h; exact h.elim
    | exc c fs => exact absurd eo (cop_calm .eq x y c fs)
    | ok z =>
      rw [eo] at h
      refine cop_get g.hK g.units .eq Z2 H2 F x y v1 v2 f1 f2 Q e2.zh (t1.mono e2) t2 z eo fun v Z3 H3 fp e3 t3 nd hfp => ?_
      have n1' : New Z2 H f1 := n1.ext t1.there e2
      have nn : New Z2 H (f1 ++ f2) := n1'.join t1.there n2 e1.h
      refine h v Z3 H3 fp ((e1.trans e2).trans e3) t3 ⟨nd, fun a m => ?_, fun a m => (hfp a m).2⟩
      rcases (hfp a m).1 with q | q
      · exact nn.n a q
      · cases e : H a with
        | none => rfl
        | some u => rw [(e1.trans e2).h a u e] at q; cases q
/-- a in b -/
theorem ino_imp (g : Gd k nm cal np lv N sc X W) {m : Nat} {ni : Bool} (hm : nm.at_ m = some "__contains__") {ra rb : En → R LD} (σ : L2.St) (H : Hp) (Q : VK) (h : tE k Z0 H0 W (fun ε => (ra ε).bind fun x => (rb ε).bind fun y => inoV k.G cal m ni x y) σ H Q) :
    tOp (fun x y H Q => anyR X (compareOp (inOp ni)) x y H Q ∨ rInA X ni x y H Q) (tE k Z0 H0 W ra) (tE k Z0 H0 W rb) σ H Q := by
  obtain ⟨Z, ε, F, rel, h⟩ := h
  refine ⟨Z, ε, F, rel, (After.bind h).imp fun x ex h => ?_⟩
  intro v1 Z1 H1 f1 e1 t1 n1
  refine ⟨Z1, ε, F, rel.ext e1, (After.bind h).ext e1 fun y ey h => ?_⟩
  intro v2 Z2 H2 f2 e2 t2 n2
  unfold inoV at h
  cases hi : insOf y.2 with
  | some c =>
    rw [hi] at h
    dsimp only at h
    split at h
    · right
      have ts : RelTs k Z2 H2 F [v1] [x] (f1 ++ []) := .cons (t1.mono e2) .nil
      rw [List.append_nil] at ts
      have h2 : After k W σ Z H (upV k.G cal m y [x]) (Gets k F Z H fun v H' => ∃ b : Bool, v = .bl b ∧ Q (.bl (b != ni)) H') := by
        cases hu : upV k.G cal m y [x] with
        | ok p =>
          rw [hu] at h
          unfold inR2' at h
          obtain ⟨l, d⟩ := p
          cases d with
          | bl bb =>
            intro v Z' H' fp e t n
            exact ⟨bb, t.bl, h (.bl (bb != ni)) Z' H' [] e ⟨.bl _, rfl⟩ New.nil⟩
          | _ => exact h.elim
        | exc cc fs => exact absurd hu (upV_calm cc fs)
        | bad => rw [hu] at h; exact h.elim
      obtain ⟨fs, hd⟩ := insOf_ok hi
      obtain ⟨ad, ga, sp, rfl, hc, om, mf, q⟩ := up_getC g hd hm rel (e1.trans e2) t2 ts (n1.ext t1.there e2) h2
      exact ⟨ad, _, ga, sp, rfl, hc, om, mf, q⟩
    · exact h.elim
  | none =>
    rw [hi] at h
    left
    have go : ∀ op : Cop, copP op = inOp ni → After k W σ Z H (copV op x y) (Gets k F Z H Q) → anyR X (compareOp (inOp ni)) v1 v2 H2 Q := fun op eop h => by
      rw [← eop]
      cases eo : copV op x y with
      | bad => rw [eo] at h; exact h.elim
      | exc c fs => exact absurd eo (cop_calm op x y c fs)
      | ok z =>
        rw [eo] at h
        refine cop_get g.hK g.units op Z2 H2 F x y v1 v2 f1 f2 Q e2.zh (t1.mono e2) t2 z eo fun v Z3 H3 fp e3 t3 nd hfp => ?_
        have n1' : New Z2 H f1 := n1.ext t1.there e2
        have nn : New Z2 H (f1 ++ f2) := n1'.join t1.there n2 e1.h
        refine h v Z3 H3 fp ((e1.trans e2).trans e3) t3 ⟨nd, fun a m => ?_, fun a m => (hfp a m).2⟩
        rcases (hfp a m).1 with q | q
        · exact nn.n a q
        · cases e : H a with
          | none => rfl
          | some u => rw [(e1.trans e2).h a u e] at q; cases q
    cases ni with
    | false => exact go .inn rfl h
    | true => exact go .nin rfl h
theorem snd_ino (g : Gd k nm cal np lv N sc X W) {m : Nat} {ni : Bool} (hx : nm.at_ m = some "__contains__") {a b : Expr} {ra rb : En → R LD} {pos : Pos} (ha : PE X a (tE k Z0 H0 W ra)) (hb : PE X b (tE k Z0 H0 W rb)) (hm : behindInMarks (inOp ni) b = false) :
    PE X (.Compare a [inOp ni] [b] pos) (tE k Z0 H0 W fun ε => (ra ε).bind fun x => (rb ε).bind fun y => inoV k.G cal m ni x y) := PE.imp (pe_cmpR (op_inA ni) ha hb hm) (ino_imp g hx)
theorem snd_inoT (g : Gd k nm cal np lv N sc X W) {m : Nat} {ni : Bool} (hx : nm.at_ m = some "__contains__") {a b : Expr} {ra rb : En → R LD} {pos : Pos} (ha : PE X a (tE k Z0 H0 W ra)) (hb : PE X b (tE k Z0 H0 W rb)) (hm : behindInMarks (inOp ni) b = false) :
    PT X (.Compare a [inOp ni] [b] pos) (tT k Z0 H0 W fun ε => ((ra ε).bind fun x => (rb ε).bind fun y => inoV k.G cal m ni x y).bind asB) := PT.imp (pt_cmpR (op_inA ni) ha hb hm) fun σ H Q h => ino_imp g hx σ H _ (tE_asB σ H Q h)
theorem snd_eqo (g : Gd k nm cal np lv N sc X W) {a b : Expr} {ra rb : En → R LD} {pos : Pos} (ha : PE X a (tE k Z0 H0 W ra)) (hb : PE X b (tE k Z0 H0 W rb)) (hm : behindInMarks .Eq b = false) :
    PE X (.Compare a [.Eq] [b] pos) (tE k Z0 H0 W fun ε => (ra ε).bind fun x => (rb ε).bind fun y => eqoV k.G cal false x y) := PE.imp (pe_cmpR op_eqA ha hb hm) (eqo_imp g)
theorem snd_eqoT (g : Gd k nm cal np lv N sc X W) {a b : Expr} {ra rb : En → R LD} {pos : Pos} (ha : PE X a (tE k Z0 H0 W ra)) (hb : PE X b (tE k Z0 H0 W rb)) (hm : behindInMarks .Eq b = false) :
    PT X (.Compare a [.Eq] [b] pos) (tT k Z0 H0 W fun ε => ((ra ε).bind fun x => (rb ε).bind fun y => eqoV k.G cal false x y).bind asB) := PT.imp (pt_cmpR op_eqA ha hb hm) fun σ H Q h => eqo_imp g σ H _ (tE_asB σ H Q h)
theorem intsOf_own {Z H : Hp} : ∀ {ds : List D} {ns : List Int} {xs : List V} {f : List Addr}, intsOf ds = some ns → Ows k Z H xs ds f → xs = ns.map V.int
  | [], ns, _, _, h, .nil => by cases h; rfl
  | .int i :: r, ns, _, _, h, .cons a t => by
    unfold intsOf at h
    cases e : intsOf r with
    | none => rw [e] at h; cases h
    | some ms =>
      rw [e] at h
      cases h
      rw [intsOf_own e t, a.int]
      rfl
  | .non :: _, _, _, _, h, _ => by simp [intsOf] at h
  | .bl _ :: _, _, _, _, h, _ => by simp [intsOf] at h
  | .str _ :: _, _, _, _, h, _ => by simp [intsOf] at h
  | .tup _ :: _, _, _, _, h, _ => by simp [intsOf] at h
  | .lst _ :: _, _, _, _, h, _ => by simp [intsOf] at h
  | .ins _ _ :: _, _, _, _, h, _ => by simp [intsOf] at h
  | .scr _ :: _, _, _, _, h, _ => by simp [intsOf] at h
/-! ### xs.index(y) -/
theorem snd_lidx (g : Gd k nm cal np lv N sc X W) {o e : Expr} {apos pos : Pos} {ra rb : En → R LD} (ho : PE X o (tE k Z0 H0 W ra)) (he : PE X e (tE k Z0 H0 W rb)) (hb : noSup o = true) (hl : (apos.endLine == pos.line) = true) (hst : starEach [e] X.env = (false, eval e X.env) :: starEach [] X.env) :
    PE X (.Call (.Attribute o "index" apos) [e] [] pos) (tE k Z0 H0 W fun ε => (ra ε).bind fun x => match lidxL x with
      | some ns => (rb ε).bind fun y => lidxV ns y
      | none => .bad) := by
  have hfew : ((backTo pos (starEach (e :: []) X.env)).all (fun x => !x.1) && (backToKw pos (keywordEach [] X.env)).all (fun x => x.1.isSome) && decide ((e :: []).length + ([] : List Keyword).length + (if ([] : List Keyword).isEmpty then 0 else 1) < 30)) = true := by rw [hst]; rfl
  refine PE.imp (pe_bm PySem.F.plainAttrs_list PySem.F.slot_list_index PySem.F.type_list_index mt_index ho (pa_cons he pa_nil hst) (base_of hb) hfew hl hst) fun σ H Q ⟨Z, ε, F, rel, h⟩ => ?_
  refine ⟨Z, ε, F, rel, (After.bind h).imp fun x ex h => ?_⟩
  intro v Z1 H1 fp e1 t1 n1
  obtain ⟨l, d⟩ := x
  cases hns : lidxL (l, d) with
  | none => rw [hns] at h; exact h.elim
  | some ns =>
    rw [hns] at h
    unfold lidxL at hns
    dsimp only at hns t1
    cases d with
    | lst xs =>
      obtain ⟨a, vs, rfl, ha, q⟩ := t1.lst e1.zh
      have hv : vs = ns.map V.int := by
        rcases q with ⟨_, q⟩ | ⟨_, f, q, _⟩
        · exact intsOf_shs hns q
        · exact intsOf_own hns q
      subst hv
      refine ⟨.inl ⟨rfl, _, .inl (.inl ha)⟩, Z1, ε, F, rel.ext e1, (After.bind h).ext e1 fun y ey h => ?_⟩
      intro w Z2 H2 f2 e2 t2 n2
      unfold lidxV at h
      obtain ⟨ly, dy⟩ := y
      dsimp only at h t2
      cases dy with
      | int i =>
        dsimp only at h
        split at h
        · rename_i hi
          have hv := t2.int
          subst hv
          have hlt := List.idxOf_lt_length_iff.mpr hi
          refine ⟨a, _, .int i, ns.idxOf i, .int i, rfl, rfl, .inl (.inl (e2.h _ _ ha)), rfl, ?_, ?_, by simp [eqV], fun m z' hm hz => ?_, h _ Z2 H2 [] (e1.trans e2) ⟨.int _, rfl⟩ New.nil⟩
          · rw [List.all_eq_true]
            intro z hz
            obtain ⟨n, _, rfl⟩ := List.mem_map.mp hz
            rfl
          · rw [List.getElem?_map, List.getElem?_eq_getElem hlt]
            simp
          · rw [List.getElem?_map] at hz
            have hml : m < ns.length := by omega
            rw [List.getElem?_eq_getElem hml] at hz
            simp only [Option.map_some, Option.some.injEq] at hz
            subst hz
            simp only [eqV, beq_eq_false_iff_ne]
            have e := List.not_of_lt_findIdx (p := (· == i)) hm
            simpa using e
        · exact h.elim
      | _ => exact h.elim
    | _ => cases hns
/-! ### for x in o, o of an own class -/
theorem itemsO_ins {G : Tb} {st : Bool} {c : Nat} {fs : List D} : itemsO G cal st (0, .ins c fs) = (match G.itr c with
    | some f => (match upV G cal mLen (0, .ins c fs) [] with
      | .ok _ => (match fldIx (G.flds c) f with
        | some k => (match fs[k]? with | some (.tup xs) => .ok xs | _ => .bad)
        | none => .bad)
      | _ => .bad)
    | none => .bad) := rfl
theorem snd_seqO (g : Gd k nm cal np lv N sc X W) {tg e : Expr} {st : Bool} {r : En → R LD} (h : PE X e (tE k Z0 H0 W r)) : PI X tg e (tI k Z0 H0 W st fun ε => (r ε).bind (itemsO k.G cal st)) := PI.of fun σ H P ⟨Z, ε, F, rel, q⟩ => by
  have q : After k W σ Z H ((r ε).bind (itemsO k.G cal st)) (fun xs => ∀ J Z' H', Ext Z H Z' H' → Wk k (Cw st Z' H') J xs → P J H') := q
  have plain : (∀ x, r ε = .ok x → itemsO k.G cal st x = items st x) → ∃ t', PI X tg e t' ∧ t' σ H P := fun he => by
    refine ⟨_, snd_seqI (st := st) g h, Z, ε, F, rel, ?_⟩
    show After k W σ Z H ((r ε).bind (items st)) (fun xs => ∀ J Z' H', Ext Z H Z' H' → Wk k (Cw st Z' H') J xs → P J H')
    cases er : r ε with
    | ok x => rw [er] at q; have := he x er; unfold R.bind at q ⊢; dsimp only at q ⊢; rw [← this]; exact q
    | exc c fs => rw [er] at q; exact q
    | bad => rw [er] at q; exact q
  cases er : r ε with
  | bad => exact plain fun x hx => by rw [er] at hx; cases hx
  | exc c fs => exact plain fun x hx => by rw [er] at hx; cases hx
  | ok x =>
    obtain ⟨l, d⟩ := x
    by_cases hin : l = 0 ∧ ∃ c fs, d = .ins c fs
    · obtain ⟨rfl, c, fs, rfl⟩ := hin
      refine ⟨_, pi_ownA h, Z, ε, F, rel, ?_⟩
      rw [er] at q
      refine (show After k W σ Z H (r ε) _ from ?_)
      rw [er]
      have q : After k W σ Z H (itemsO k.G cal st (0, .ins c fs)) (fun xs => ∀ J Z' H', Ext Z H Z' H' → Wk k (Cw st Z' H') J xs → P J H') := q
      intro v Z1 H1 fp e1 t1 n1
      rw [itemsO_ins] at q
      split at q
      · rename_i f hf
        split at q
        · rename_i y hu
          split at q
          · rename_i j hj
            split at q
            · rename_i xs hxs
              have hlv : 0 < lv := by
                rcases Nat.eq_zero_or_pos lv with e | e
                · unfold upV at hu
                  simp only [data, List.all_nil, List.map_nil, if_true] at hu
                  split at hu
                  · rw [g.low e] at hu; cases hu
                  · cases hu
                · exact e
              obtain ⟨ga, fd, ps, fx, i1, i2, i3, i4⟩ := (g.itr c f hf).ex
              obtain ⟨a, vs, rfl, hia, hs⟩ := t1.insAt e1.zh
              obtain ⟨w, hw, sw⟩ := hs.get hxs
              have fa := insAt_fld (g.cls c) hj i1 hia hw
              cases sw with
              | @tup t ws _ hq hr =>
                have hq1 : SqT X.K H1 t ws := by rw [← g.hK]; exact SqT.mono e1.zh hq
                refine ⟨a, k.ca c, ga, fd, ps, fx, t, ws, rfl, hia.insC, by rw [← g.hK]; exact i2, g.room.mono hlv, i3, fun n => by have := i4 n; rw [g.hK] at this; exact this, by rw [← g.hK]; exact fa, hq1, ?_⟩
                exact q _ Z1 H1 e1 (wk_tup hr (fun Z H c => c.1) fun Z H c zh => by rw [← g.hK]; exact SqT.mono zh (SqT.mono c.1 hq))
            · exact q.elim
          · exact q.elim
        · exact q.elim
      · exact q.elim
    · refine plain fun x hx => ?_
      rw [er] at hx
      cases hx
      unfold itemsO
      dsimp only
      split
      · rename_i c fs
        exact absurd ⟨rfl, c, fs, rfl⟩ hin
      · rfl
end
end RS

/-! RsChk -/
namespace RS
open PySem PySem.Spec
open PyProof.Rows L2

/-! ### a text is what the small language says -/
structure CC where
  nm : Nm
  N : List Str
def notStar : Expr → Bool
  | .Starred _ _ => false
  | _ => true
theorem star_cons {e : Expr} {es : List Expr} {env : Env} (h : notStar e = true) : starEach (e :: es) env = (false, eval e env) :: starEach es env := by
  cases e <;> first | (cases h; done) | rfl
theorem star_any {env : Env} {pos : Pos} : ∀ {es : List Expr}, es.all notStar = true → (backTo pos (starEach es env)).any (·.1) = false
  | [], _ => rfl
  | e :: es, h => by
    simp only [List.all_cons, Bool.and_eq_true] at h
    rw [star_cons h.1]
    show (false || (backTo pos (starEach es env)).any (·.1)) = false
    rw [Bool.false_or]
    exact star_any h.2
def setOk : Expr → Bool
  | .Set _ _ _ => false
  | _ => true
theorem set_plain {e : Expr} {env : Env} (h : setOk e = true) : ∀ x, foldedSetIterable e env x = pure x := fun x => by
  cases e <;> first | (cases h; done) | rfl
def ownN (N : List Str) (is : List Nat) : List (Str × Nat) := is.filterMap fun i => (N[i]?).map fun x => (x, i)
/-- a name that is stored at: local, captured by a block or not -/
def locB (sc : Scope) (x : Str) : Bool := match sc.names.lookup x with
  | some .local => true
  | some .cell => true
  | _ => false
theorem locB_ok {sc : Scope} {x : Str} (h : locB sc x = true) : sc.names.lookup x = some .local ∨ sc.names.lookup x = some .cell := by
  unfold locB at h
  split at h
  · exact .inl (by assumption)
  · exact .inr (by assumption)
  · cases h
def chkN (c : CC) (sc : Scope) (i : Nat) (x : Str) : Bool := decide (c.N[i]? = some x) && locB sc x
def chkTg (c : CC) (sc : Scope) : Tg → Expr → Bool
  | .one i, .Name x _ => chkN c sc i x
  | .two i j, .Tuple [.Name x _, .Name y _] _ _ => chkN c sc i x && chkN c sc j y
  | .three i j l, .Tuple [.Name x _, .Name y _, .Name z _] _ _ => chkN c sc i x && chkN c sc j y && chkN c sc l z
  | _, _ => false
def tyOk (sc : Scope) (t : Ty) (x : Str) : Bool := match tyN t with
  | some n => decide (x = (n : Str)) && glB sc (n : Str)
  | none => false
mutual
def chkE (c : CC) : Scope → E → Expr → Bool
  | sc, .var i, e => (match e with | .Name x _ => decide (c.N[i]? = some x) && visB sc x | _ => false)
  | _, .non, e => (match e with | .Constant .none _ _ => true | _ => false)
  | _, .bl b, e => (match e with | .Constant (.bool b') _ _ => b == b' | _ => false)
  | _, .int i, e => (match e with | .Constant (.int j) _ _ => decide (i = j) | _ => false)
  | _, .str x, e => (match e with | .Constant (.str y) _ _ => decide (x = y) | _ => false)
  | sc, .tup es, e => (match e with | .Tuple xs _ _ => chkEs c sc es xs | _ => false)
  | sc, .lst es, e => (match e with | .List xs _ => chkEs c sc es xs | _ => false)
  | sc, .bin op a b, e => (match e with | .BinOp x o y _ => decide (o = opP op) && chkE c sc a x && chkE c sc b y | _ => false)
  | sc, .neg a, e => (match e with | .UnaryOp .USub x _ => chkE c sc a x | _ => false)
  | sc, .cmp op a b, e => (match e with | .Compare x [o] [y] _ => decide (o = copP op) && !behindInMarks (copP op) y && chkE c sc a x && chkE c sc b y | _ => false)
  | sc, .chain o1 o2 a b d, e => (match e with | .Compare x [p1, p2] [y, z] _ => decide (p1 = copP o1) && decide (p2 = copP o2) && !lastMarks [copP o1, copP o2] [y, z] && chkE c sc a x && chkE c sc b y && chkE c sc d z | _ => false)
  | sc, .and_ a b, e => (match e with
    | .BoolOp .And [x, y] _ => chkE c sc a x && chkE c sc b y
    | .BoolOp .And (x :: y :: z :: r) p => chkE c sc a x && chkE c sc b (.BoolOp .And (y :: z :: r) p)
    | _ => false)
  | sc, .or_ a b, e => (match e with
    | .BoolOp .Or [x, y] _ => chkE c sc a x && chkE c sc b y
    | .BoolOp .Or (x :: y :: z :: r) p => chkE c sc a x && chkE c sc b (.BoolOp .Or (y :: z :: r) p)
    | _ => false)
  | sc, .not_ a, e => (match e with | .UnaryOp .Not x _ => chkE c sc a x | _ => false)
  | sc, .ite t a b, e => (match e with | .IfExp x y z _ => chkT c sc t x && chkE c sc a y && chkE c sc b z | _ => false)
  | sc, .idx a i, e => (match e with | .Subscript x y _ => ixOk y && chkE c sc a x && chkE c sc i y | _ => false)
  | sc, .slc a lo hi, e => (match e with | .Subscript x (.Slice l h none _) _ => chkE c sc a x && chkEo c sc lo l && chkEo c sc hi h | _ => false)
  | sc, .fld a f, e => (match e with | .Attribute x y _ => decide (c.nm.at_ f = some y) && noSup x && chkE c sc a x | _ => false)
  | sc, .con cl f, e => (match e with | .Attribute (.Name x _) y _ => decide (c.nm.cl cl = some x) && decide (c.nm.at_ f = some y) && glB sc x | _ => false)
  | sc, .call f as, e => (match e with
    | .Call (.Name x _) (y :: ys) [] _ => decide (c.nm.fn f = some x) && glB sc x && (y :: ys).all notStar && chkEs c sc as (y :: ys)
    | _ => false)
  | sc, .make cl f sh as ks, e => (match e with
    | .Call (.Name x _) es kws _ => decide (c.nm.cl cl = some x) && glB sc x && (match c.nm.sh sh with | some (c1, f1, n, names) => decide (c1 = cl) && decide (f1 = f) && decide (n = es.length) && decide (kws.map (·.arg) = names.map some) | none => false) && es.all notStar && chkEs c sc as es && chkEs c sc ks (kws.map (·.value))
    | _ => false)
  | sc, .glo gn, e => (match e with | .Name x _ => decide (c.nm.gl gn = some x) && glB sc x | _ => false)
  | sc, .sfl i f, e => (match e with | .Attribute (.Name y _) x _ => decide (c.N[i]? = some y) && visB sc y && decide (c.nm.at_ f = some x) | _ => false)
  | sc, .prop a m, e => (match e with | .Attribute x y _ => decide (c.nm.at_ m = some y) && noSup x && chkE c sc a x | _ => false)
  | _, .no, _ => true
  | _, .sup _ _ _, _ => false
  | sc, .callv a as, e => (match e with
    | .Call (.Name x p) (y :: ys) [] _ => (y :: ys).all notStar && chkE c sc a (.Name x p) && chkEs c sc as (y :: ys)
    | _ => false)
  | sc, .meth a m as, e => (match e with
    | .Call (.Attribute o mx ap) es [] pos => decide (c.nm.at_ m = some mx) && noSup o && (ap.endLine == pos.line) && decide (es.length < 30) && es.all notStar && chkE c sc a o && chkEs c sc as es
    | _ => false)
  | sc, .isi a ts, e => (match e with
    | .Call (.Name x _) [y, .Name z _] [] _ => decide (x = ("isinstance" : Str)) && glB sc "isinstance" && notStar y && (match ts with | [t] => tyOk sc t z | _ => false) && chkE c sc a y
    | .Call (.Name x _) [y, .Tuple [.Name z _, .Name w _] _ _] [] _ => decide (x = ("isinstance" : Str)) && glB sc "isinstance" && notStar y && (match ts with | [t, u] => tyOk sc t z && tyOk sc u w | _ => false) && chkE c sc a y
    | _ => false)
  | sc, .bi b as, e => (match e with
    | .Call (.Name x _) (y :: ys) [] _ => decide (x = biN b) && glB sc (biN b) && (y :: ys).all notStar && chkEs c sc as (y :: ys)
    | _ => false)
  | sc, .comp tg it t e', e => (match e with
    | .ListComp elt [⟨tgE, iter, ifs, 0⟩] scope _ => blkC c.N sc scope (ownN c.N (tgS tg)) && decide ((ownN c.N (tgS tg)).map (·.2) = tgS tg) && chkTg c scope tg tgE && setOk iter && chkI c sc it tgE iter && chkTo c (relS scope sc) t ifs && chkE c (relS scope sc) e' elt
    | _ => false)
  | sc, .fz a, e => chkE c sc a e
  | sc, .lrg a, e => (match e with
    | .Call (.Name x _) [.Call (.Name y _) [b] [] _] [] _ => decide (x = ("list" : Str)) && decide (y = ("range" : Str)) && glB sc "list" && glB sc "range" && notStar b && chkE c sc a b
    | _ => false)
  | sc, .lidx a b, e => (match e with
    | .Call (.Attribute o mx ap) [y] [] pos => decide (mx = ("index" : Str)) && noSup o && (ap.endLine == pos.line) && notStar y && chkE c sc a o && chkE c sc b y
    | _ => false)
  | sc, .callk f sh as ks, e => (match e with
    | .Call (.Name x _) (y :: ys) kws _ => glB sc x && (match c.nm.fk sh with | some (f1, x1, n, names) => decide (f1 = f) && decide (x1 = x) && decide (n = (y :: ys).length) && decide (kws.map (·.arg) = names.map some) | none => false) && (y :: ys).all notStar && chkEs c sc as (y :: ys) && chkEs c sc ks (kws.map (·.value))
    | _ => false)
  | sc, .stat f sh as ks, e => (match e with
    | .Call (.Attribute (.Name x _) m ap) (y :: ys) kws pos => glB sc x && (match c.nm.st sh with | some (c1, m1, f1, n, names) => decide (c.nm.cl c1 = some x) && decide (c.nm.at_ m1 = some m) && decide (f1 = f) && decide (n = (y :: ys).length) && decide (kws.map (·.arg) = names.map some) | none => false) &&
        (ap.endLine == pos.line) && decide ((y :: ys).length + kws.length < 29) && (y :: ys).all notStar && chkEs c sc as (y :: ys) && chkEs c sc ks (kws.map (·.value))
    | _ => false)
  | sc, .eqo ne a b, e => (match e with
    | .Compare x [.Eq] [y] _ => !ne && !behindInMarks .Eq y && chkE c sc a x && chkE c sc b y
    | _ => false)
  | sc, .ino m ni a b, e => (match e with
    | .Compare x [o] [y] _ => decide (o = inOp ni) && !behindInMarks (inOp ni) y && decide (c.nm.at_ m = some ("__contains__" : Str)) && chkE c sc a x && chkE c sc b y
    | _ => false)
  | sc, .isc a cl, e => (match e with
    | .Call (.Name x _) [y, .Name z _] [] _ => decide (x = ("isinstance" : Str)) && glB sc "isinstance" && decide (c.nm.cl cl = some z) && glB sc z && notStar y && chkE c sc a y
    | _ => false)
def chkEs (c : CC) : Scope → Es → List Expr → Bool
  | _, .nil, es => (match es with | [] => true | _ => false)
  | sc, .cons a r, es => (match es with | x :: xs => notStar x && chkE c sc a x && chkEs c sc r xs | _ => false)
def chkEo (c : CC) : Scope → Eo → Option Expr → Bool
  | _, .none, e => (match e with | none => true | _ => false)
  | sc, .some a, e => (match e with | some x => chkE c sc a x | _ => false)
def chkT (c : CC) : Scope → Tst → Expr → Bool
  | sc, .val a, e => plainT e && chkE c sc a e || (match a, e with
    | .cmp op a b, .Compare x [o] [y] _ => decide (o = copP op) && !behindInMarks (copP op) y && chkE c sc a x && chkE c sc b y
    | .chain o1 o2 a b d, .Compare x [p1, p2] [y, z] _ => decide (p1 = copP o1) && decide (p2 = copP o2) && !lastMarks [copP o1, copP o2] [y, z] && chkE c sc a x && chkE c sc b y && chkE c sc d z
    | .eqo ne a b, .Compare x [.Eq] [y] _ => !ne && !behindInMarks .Eq y && chkE c sc a x && chkE c sc b y
    | .ino m ni a b, .Compare x [o] [y] _ => decide (o = inOp ni) && !behindInMarks (inOp ni) y && decide (c.nm.at_ m = some ("__contains__" : Str)) && chkE c sc a x && chkE c sc b y
    | _, _ => false)
  | sc, .tru a, e => plainT e && chkE c sc a e
  | sc, .not_ t, e => (match e with | .UnaryOp .Not x _ => chkT c sc t x | _ => false)
  | sc, .and_ a b, e => (match e with
    | .BoolOp .And [x, y] _ => chkT c sc a x && chkT c sc b y
    | .BoolOp .And (x :: y :: z :: r) p => chkT c sc a x && chkT c sc b (.BoolOp .And (y :: z :: r) p) && (match b with | .and_ _ _ => true | _ => false)
    | _ => false)
  | sc, .or_ a b, e => (match e with
    | .BoolOp .Or [x, y] _ => chkT c sc a x && chkT c sc b y
    | .BoolOp .Or (x :: y :: z :: r) p => chkT c sc a x && chkT c sc b (.BoolOp .Or (y :: z :: r) p) && (match b with | .or_ _ _ => true | _ => false)
    | _ => false)
def chkTo (c : CC) : Scope → To → List Expr → Bool
  | _, .none, es => (match es with | [] => true | _ => false)
  | sc, .some t, es => (match es with | [x] => chkT c sc t x | _ => false)
def chkI (c : CC) : Scope → I → Expr → Expr → Bool
  | sc, .seq a, _, e => chkE c sc a e
  | sc, .seqO a, _, e => chkE c sc a e
  | sc, .rng1 a, _, e => (match e with | .Call (.Name x _) [y] [] _ => decide (x = ("range" : Str)) && glB sc "range" && notStar y && chkE c sc a y | _ => false)
  | sc, .rng2 a b, _, e => (match e with | .Call (.Name x _) [y, z] [] _ => decide (x = ("range" : Str)) && glB sc "range" && notStar y && notStar z && chkE c sc a y && chkE c sc b z | _ => false)
  | sc, .zip a b, tg, e => (match tg, e with
    | .Tuple _ _ _, .Call (.Name x _) [y, z] [] _ => decide (x = ("zip" : Str)) && glB sc "zip" && notStar y && notStar z && chkE c sc a y && chkE c sc b z
    | _, _ => false)
end
end RS

/-! RsSound -/
namespace RS
open PySem PySem.Spec
open PyProof.Rows L2
section
variable {k : Kc} {cal : Cl → R LD} {np : Nat → Nat} {lv : Nat} {c : CC} {X : Cx} {W : WX} {Z0 H0 : Hp} {sc : Scope}
theorem snd_chain (g : Gd k c.nm cal np lv c.N sc X W) {x y z : Expr} {ra rb rc : En → R LD} {o1 o2 : Cop} {pos : Pos} (ha : PE X x (tE k Z0 H0 W ra)) (hb : PE X y (tE k Z0 H0 W rb)) (hc : PE X z (tE k Z0 H0 W rc)) (hm : lastMarks [copP o1, copP o2] [y, z] = false) :
    PE X (.Compare x [copP o1, copP o2] [y, z] pos) (tE k Z0 H0 W (fun ε => (ra ε).bind fun x => (rb ε).bind fun y => (copV o1 x y).bind fun r => (asB r).bind fun c => if c then (rc ε).bind fun z => copV o2 y z else okB false)) :=
  PE.imp (pe_chain anyR_ok anyR_ok ha hb hc hm) (chain_imp g)
theorem snd_chainT (g : Gd k c.nm cal np lv c.N sc X W) {x y z : Expr} {ra rb rc : En → R LD} {o1 o2 : Cop} {pos : Pos} (ha : PE X x (tE k Z0 H0 W ra)) (hb : PE X y (tE k Z0 H0 W rb)) (hc : PE X z (tE k Z0 H0 W rc)) (hm : lastMarks [copP o1, copP o2] [y, z] = false) :
    PT X (.Compare x [copP o1, copP o2] [y, z] pos) (tT k Z0 H0 W (fun ε => ((ra ε).bind fun x => (rb ε).bind fun y => (copV o1 x y).bind fun r => (asB r).bind fun c => if c then (rc ε).bind fun z => copV o2 y z else okB false).bind asB)) :=
  PT.imp (pt_chain anyR_ok anyR_ok ha hb hc hm) fun σ H Q h => chain_imp g σ H _ (tE_asB σ H Q h)
theorem tg_of (hc : X.calm = true) {ws : Scope} (hn : ∀ {i : Nat} {x : Str} {p : Pos}, c.N[i]? = some x → (ws.names.lookup x = some .local ∨ ws.names.lookup x = some .cell) → PG X (.Name x p) (gName i)) {tg : Tg} {e : Expr} (h : chkTg c ws tg e = true) : PG X e (gT X.K tg) := by
  have nm : ∀ {i : Nat} {x : Str} {p : Pos}, chkN c ws i x = true → PG X (.Name x p) (gName i) := fun {i x p} h => by
    unfold chkN at h
    simp only [Bool.and_eq_true, decide_eq_true_eq] at h
    exact hn h.1 (locB_ok h.2)
  unfold chkTg at h
  split at h
  · exact nm h
  · simp only [Bool.and_eq_true] at h
    exact pg_tup hc (pgs_cons (nm h.1) (pgs_cons (nm h.2) pgs_nil))
  · simp only [Bool.and_eq_true] at h
    exact pg_tup hc (pgs_cons (nm h.1.1) (pgs_cons (nm h.1.2) (pgs_cons (nm h.2) pgs_nil)))
  · cases h
theorem tg_ok (g : Gd k c.nm cal np lv c.N sc X W) (hfn : ∀ x, sc.names.lookup x = some .cell → X.fn x = true) {tg : Tg} {e : Expr} (h : chkTg c sc tg e = true) : PG X e (gT X.K tg) :=
  tg_of g.calm (ws := sc) (fun hx hl => snd_tgName g hx (hl.imp id fun h => ⟨h, hfn _ h⟩)) h
theorem tg_blk (g : Gd k c.nm cal np lv c.N sc X W) {tg : Tg} {e : Expr} {scope : Scope} (h : chkTg c scope tg e = true) (s : Shared) (H : Hp) (C : Addr) (cl : List (Str × Addr)) (fp : List Addr) : PG (X.blk s H scope (compEnvC scope cl C X.env) fp) e (gT X.K tg) :=
  tg_of (X := X.blk s H scope (compEnvC scope cl C X.env) fp) g.calm (ws := scope) (fun {i x p} hx hl => snd_tgName (g.blk s H scope C cl fp) hx (by
    rcases hl with hl | hl
    · exact .inl (lookup_relS_keep (by simp) hl)
    · exact .inr ⟨lookup_relS_keep (by simp) hl, by show (scope.names.lookup x == some .cell) = true; rw [hl]; rfl⟩)) h
theorem ty_ok (g : Gd k c.nm cal np lv c.N sc X W) {t : Ty} {x : Str} (h : tyOk sc t x = true) : ∃ n : String, tyN t = some n ∧ x = (n : Str) ∧ glB sc (n : Str) = true ∧ bootBuiltins (n : Str) = some (.type n) ∧ X.mg (n : Str) = none ∧ (n : Str) ≠ "__name__" := by
  unfold tyOk at h
  cases e : tyN t with
  | none => rw [e] at h; cases h
  | some n =>
    rw [e] at h
    simp only [Bool.and_eq_true, decide_eq_true_eq] at h
    refine ⟨n, rfl, h.1, h.2, ?_⟩
    cases t <;> cases e <;> exact ⟨rfl, g.free _ (by decide), by decide⟩
theorem evEs_len : ∀ (as : Es) {sc : Scope} {es : List Expr} {ε : En} {xs : List LD}, chkEs c sc as es = true → evEs k.G cal as ε = .ok xs → xs.length = es.length
  | .nil, sc, es, ε, xs, h, e => by
    unfold chkEs at h
    split at h
    · cases e; rfl
    · cases h
  | .cons a r, sc, es, ε, xs, h, e => by
    unfold chkEs at h
    split at h
    · simp only [Bool.and_eq_true] at h
      obtain ⟨x, h1, h2⟩ := bindR_ok (show (evE k.G cal a ε).bind (fun x => (evEs k.G cal r ε).bind fun xs => .ok (x :: xs)) = .ok xs from e)
      obtain ⟨ys, h3, h4⟩ := bindR_ok h2
      cases h4
      simp [evEs_len r h.2 h3]
    · cases h
mutual
theorem sndE : ∀ (a : E) {sc : Scope} {e : Expr} {X : Cx} {W : WX}, chkE c sc a e = true → Gd k c.nm cal np lv c.N sc X W → PE X e (tE k Z0 H0 W (evE k.G cal a))
  | .var i, sc, e, X, W, h, g => by
    unfold chkE at h
    split at h
    · simp only [Bool.and_eq_true, decide_eq_true_eq] at h
      exact snd_var g h.1 h.2
    · cases h
  | .non, sc, e, X, W, h, g => by
    unfold chkE at h
    split at h
    · exact snd_const (fun _ => .non) pe_non
    · cases h
  | .bl b, sc, e, X, W, h, g => by
    unfold chkE at h
    split at h
    · rw [beq_iff_eq] at h; subst h
      exact snd_const (fun _ => .bl _) pe_bl
    · cases h
  | .int i, sc, e, X, W, h, g => by
    unfold chkE at h
    split at h
    · simp only [decide_eq_true_eq] at h; subst h
      exact snd_const (fun _ => .int _) pe_int
    · cases h
  | .str x, sc, e, X, W, h, g => by
    unfold chkE at h
    split at h
    · simp only [decide_eq_true_eq] at h; subst h
      exact snd_const (fun _ => .str _) pe_str
    · cases h
  | .tup es, sc, e, X, W, h, g => by
    unfold chkE at h
    split at h
    · exact snd_tup (sndEs es h g)
    · cases h
  | .lst es, sc, e, X, W, h, g => by
    unfold chkE at h
    split at h
    · exact snd_lst (sndEs es h g)
    · cases h
  | .bin op a b, sc, e, X, W, h, g => by
    unfold chkE at h
    split at h
    · simp only [Bool.and_eq_true, decide_eq_true_eq] at h
      obtain ⟨⟨rfl, h1⟩, h2⟩ := h
      exact snd_bin g (sndE a h1 g) (sndE b h2 g)
    · cases h
  | .neg a, sc, e, X, W, h, g => by
    unfold chkE at h
    split at h
    · exact snd_neg (sndE a h g)
    · cases h
  | .cmp op a b, sc, e, X, W, h, g => by
    unfold chkE at h
    split at h
    · simp only [Bool.and_eq_true, decide_eq_true_eq, Bool.not_eq_true'] at h
      obtain ⟨⟨⟨rfl, hm⟩, h1⟩, h2⟩ := h
      exact snd_cmp g (sndE a h1 g) (sndE b h2 g) hm
    · cases h
  | .chain o1 o2 a b d, sc, e, X, W, h, g => by
    unfold chkE at h
    split at h
    · simp only [Bool.and_eq_true, decide_eq_true_eq, Bool.not_eq_true'] at h
      obtain ⟨⟨⟨⟨⟨rfl, rfl⟩, hm⟩, h1⟩, h2⟩, h3⟩ := h
      exact snd_chain g (sndE a h1 g) (sndE b h2 g) (sndE d h3 g) hm
    · cases h
  | .and_ a b, sc, e, X, W, h, g => by
    unfold chkE at h
    split at h
    · simp only [Bool.and_eq_true] at h
      exact snd_and (sndE a h.1 g) (pe_one (sndE b h.2 g))
    · simp only [Bool.and_eq_true] at h
      exact snd_and (sndE a h.1 g) (sndE b h.2 g)
    · cases h
  | .or_ a b, sc, e, X, W, h, g => by
    unfold chkE at h
    split at h
    · simp only [Bool.and_eq_true] at h
      exact snd_or (sndE a h.1 g) (pe_one (sndE b h.2 g))
    · simp only [Bool.and_eq_true] at h
      exact snd_or (sndE a h.1 g) (sndE b h.2 g)
    · cases h
  | .not_ a, sc, e, X, W, h, g => by
    unfold chkE at h
    split at h
    · exact snd_not (sndE a h g)
    · cases h
  | .ite t a b, sc, e, X, W, h, g => by
    unfold chkE at h
    split at h
    · simp only [Bool.and_eq_true] at h
      exact snd_ite (sndT t h.1.1 g).1 (sndE a h.1.2 g) (sndE b h.2 g)
    · cases h
  | .idx a i, sc, e, X, W, h, g => by
    unfold chkE at h
    split at h
    · simp only [Bool.and_eq_true] at h
      exact snd_idxO g (sndE a h.1.2 g) (sndE i h.2 g) h.1.1
    · cases h
  | .slc a lo hi, sc, e, X, W, h, g => by
    unfold chkE at h
    split at h
    · simp only [Bool.and_eq_true] at h
      exact snd_slc g (sndE a h.1.1 g) (sndEo lo h.1.2 g) (sndEo hi h.2 g)
    · cases h
  | .fld a f, sc, e, X, W, h, g => by
    unfold chkE at h
    split at h
    · simp only [Bool.and_eq_true, decide_eq_true_eq] at h
      exact snd_fld g (sndE a h.2 g) h.1.1 h.1.2
    · cases h
  | .con a f, sc, e, X, W, h, g => by
    unfold chkE at h
    split at h
    · simp only [Bool.and_eq_true, decide_eq_true_eq] at h
      exact snd_con g h.1.1 h.1.2 h.2
    · cases h
  | .call f as, sc, e, X, W, h, g => by
    unfold chkE at h
    split at h
    · simp only [Bool.and_eq_true, decide_eq_true_eq, List.all_cons] at h
      obtain ⟨⟨⟨h1, h2⟩, h3, h4⟩, h5⟩ := h
      exact snd_call g (g.fns f _ h1) h2 (sndEs as h5 g) (star_cons h3) (star_any h4)
    · cases h
  | .make cl f sh as ks, sc, e, X, W, h, g => by
    unfold chkE at h
    split at h
    · rename_i x p es kws pos
      simp only [Bool.and_eq_true, decide_eq_true_eq] at h
      obtain ⟨⟨⟨⟨⟨h1, h2⟩, h3⟩, h4⟩, h5⟩, h6⟩ := h
      split at h3
      · rename_i c1 f1 n names hs
        simp only [Bool.and_eq_true, decide_eq_true_eq] at h3
        obtain ⟨⟨⟨rfl, rfl⟩, rfl⟩, h3⟩ := h3
        cases es with
        | nil =>
          cases as with
          | nil => exact snd_make0 g h1 hs h2 (sndKs ks h6 g) h3 fun ε xs e => (evEs_len ks h6 e).trans (by simp)
          | cons a r => unfold chkEs at h5; cases h5
        | cons y ys =>
          have hst := star_cons (env := X.env) (es := ys) (by simpa using (List.all_eq_true.mp h4 y (List.mem_cons_self ..)) : notStar y = true)
          have hpl : (backTo pos (starEach ys X.env)).any (·.1) = false := star_any (by
            rw [List.all_cons, Bool.and_eq_true] at h4
            exact h4.2)
          exact snd_make g h1 hs h2 (sndEs as h5 g) (sndKs ks h6 g) h3 (fun ε xs e => evEs_len as h5 e) (fun ε xs e => (evEs_len ks h6 e).trans (by simp)) hst hpl
      · cases h3
    · cases h
  | .meth a m as, sc, e, X, W, h, g => by
    unfold chkE at h
    split at h
    · rename_i o mx ap es pos
      simp only [Bool.and_eq_true, decide_eq_true_eq] at h
      obtain ⟨⟨⟨⟨⟨⟨h1, h2⟩, h3⟩, h4⟩, h5⟩, h6⟩, h7⟩ := h
      cases es with
      | nil =>
        cases as with
        | nil => exact snd_meth0 g (sndE a h6 g) h1 h2 h3
        | cons a r => unfold chkEs at h7; cases h7
      | cons y ys =>
        rw [List.all_cons, Bool.and_eq_true] at h5
        exact snd_meth g (sndE a h6 g) (sndEs as h7 g) h1 h2 h3 h4 (star_cons h5.1) (star_any h5.2)
    · cases h
  | .callv a as, sc, e, X, W, h, g => by
    unfold chkE at h
    split at h
    · simp only [Bool.and_eq_true, List.all_cons] at h
      obtain ⟨⟨⟨h1, h2⟩, h3⟩, h4⟩ := h
      exact snd_callv g (sndE a h3 g) (sndEs as h4 g) rfl (star_cons h1) (star_any h2)
    · cases h
  | .glo gn, sc, e, X, W, h, g => by
    unfold chkE at h
    split at h
    · simp only [Bool.and_eq_true, decide_eq_true_eq] at h
      exact snd_glo g h.1 h.2
    · cases h
  | .sfl i f, sc, e, X, W, h, g => by
    unfold chkE at h
    split at h
    · simp only [Bool.and_eq_true, decide_eq_true_eq] at h
      exact snd_sfl g h.1.1 h.1.2 h.2
    · cases h
  | .prop a m, sc, e, X, W, h, g => by
    unfold chkE at h
    split at h
    · simp only [Bool.and_eq_true, decide_eq_true_eq] at h
      exact snd_prop g (sndE a h.2 g) h.1.1 h.1.2
    · cases h
  | .sup _ _ _, sc, e, X, W, h, g => by cases h
  | .no, sc, e, X, W, h, g => PE.of fun σ H Q ⟨Z, ε, F, rel, h⟩ => h.elim
  | .isi a ts, sc, e, X, W, h, g => by
    unfold chkE at h
    split at h
    · simp only [Bool.and_eq_true, decide_eq_true_eq] at h
      obtain ⟨⟨⟨⟨rfl, h2⟩, h3⟩, h4⟩, h5⟩ := h
      split at h4
      · obtain ⟨n, e1, rfl, e3, e4, e5, e6⟩ := ty_ok g h4
        exact snd_isi1 k.G g (sndE a h5 g) h2 e1 e3 e4 e5 e6 (star_cons h3) (star_cons rfl)
      · cases h4
    · simp only [Bool.and_eq_true, decide_eq_true_eq] at h
      obtain ⟨⟨⟨⟨rfl, h2⟩, h3⟩, h4⟩, h5⟩ := h
      split at h4
      · simp only [Bool.and_eq_true] at h4
        obtain ⟨n, e1, rfl, e3, e4, e5, e6⟩ := ty_ok g h4.1
        obtain ⟨n', f1, rfl, f3, f4, f5, f6⟩ := ty_ok g h4.2
        exact snd_isi2 k.G g (sndE a h5 g) h2 e1 f1 e3 f3 e4 e5 e6 f4 f5 f6 (star_cons h3)
      · cases h4
    · cases h
  | .bi b as, sc, e, X, W, h, g => by
    unfold chkE at h
    split at h
    · simp only [Bool.and_eq_true, decide_eq_true_eq, List.all_cons] at h
      obtain ⟨⟨⟨rfl, h2⟩, h3, h4⟩, h5⟩ := h
      exact snd_biO g (sndEs as h5 g) h2 (star_cons h3) (star_any h4)
    · cases h
  | .comp tg it t e', sc, e, X, W, h, g => by
    unfold chkE at h
    split at h
    · simp only [Bool.and_eq_true, decide_eq_true_eq] at h
      obtain ⟨⟨⟨⟨⟨⟨h1, h2⟩, h3⟩, h4⟩, h5⟩, h6⟩, h7⟩ := h
      exact snd_comp g (sndI it h5 g) h1 h2 (fun s H C cl fp => tg_blk g h3 s H C cl fp) (fun s H C cl fp => sndTo t h6 (g.blk s H _ C cl fp)) (fun s H C cl fp => sndE e' h7 (g.blk s H _ C cl fp)) (set_plain h4)
    · cases h
  | .lidx a b, sc, e, X, W, h, g => by
    unfold chkE at h
    split at h
    · simp only [Bool.and_eq_true, decide_eq_true_eq] at h
      obtain ⟨⟨⟨⟨⟨rfl, h2⟩, h3⟩, h4⟩, h5⟩, h6⟩ := h
      exact snd_lidx g (sndE a h5 g) (sndE b h6 g) h2 h3 (star_cons h4)
    · cases h
  | .callk f sh as ks, sc, e, X, W, h, g => by
    unfold chkE at h
    split at h
    · rename_i x p y ys kws pos
      simp only [Bool.and_eq_true, decide_eq_true_eq] at h
      obtain ⟨⟨⟨⟨h2, h3⟩, h4⟩, h5⟩, h6⟩ := h
      split at h3
      · rename_i f1 x1 n names hs
        simp only [Bool.and_eq_true, decide_eq_true_eq] at h3
        obtain ⟨⟨⟨rfl, rfl⟩, rfl⟩, h3⟩ := h3
        have hst := star_cons (env := X.env) (es := ys) (by simpa using (List.all_eq_true.mp h4 y (List.mem_cons_self ..)) : notStar y = true)
        have hpl : (backTo pos (starEach ys X.env)).any (·.1) = false := star_any (by
          rw [List.all_cons, Bool.and_eq_true] at h4
          exact h4.2)
        exact snd_callk g hs h2 (sndEs as h5 g) (sndKs ks h6 g) h3 (fun ε xs e => evEs_len as h5 e) (fun ε xs e => (evEs_len ks h6 e).trans (by simp)) hst hpl
      · cases h3
    · cases h
  | .stat f sh as ks, sc, e, X, W, h, g => by
    unfold chkE at h
    split at h
    · rename_i x p m ap y ys kws pos
      simp only [Bool.and_eq_true, decide_eq_true_eq] at h
      obtain ⟨⟨⟨⟨⟨⟨h2, h3⟩, h7⟩, h8⟩, h4⟩, h5⟩, h6⟩ := h
      split at h3
      · rename_i c1 m1 f1 n names hs
        simp only [Bool.and_eq_true, decide_eq_true_eq] at h3
        obtain ⟨⟨⟨⟨hx, hy⟩, rfl⟩, rfl⟩, h3⟩ := h3
        have hst := star_cons (env := X.env) (es := ys) (by simpa using (List.all_eq_true.mp h4 y (List.mem_cons_self ..)) : notStar y = true)
        have hpl : (backTo pos (starEach ys X.env)).any (·.1) = false := star_any (by
          rw [List.all_cons, Bool.and_eq_true] at h4
          exact h4.2)
        exact snd_stat g hs hx hy h2 h7 h8 (sndEs as h5 g) (sndKs ks h6 g) h3 (fun ε xs e => evEs_len as h5 e) (fun ε xs e => (evEs_len ks h6 e).trans (by simp)) hst hpl
      · cases h3
    · cases h
  | .eqo ne a b, sc, e, X, W, h, g => by
    unfold chkE at h
    split at h
    · simp only [Bool.and_eq_true, Bool.not_eq_true'] at h
      obtain ⟨⟨⟨rfl, hm⟩, h1⟩, h2⟩ := h
      exact snd_eqo g (sndE a h1 g) (sndE b h2 g) hm
    · cases h
  | .ino m ni a b, sc, e, X, W, h, g => by
    unfold chkE at h
    split at h
    · simp only [Bool.and_eq_true, Bool.not_eq_true', decide_eq_true_eq] at h
      obtain ⟨⟨⟨⟨rfl, hm⟩, h0⟩, h1⟩, h2⟩ := h
      exact snd_ino g h0 (sndE a h1 g) (sndE b h2 g) hm
    · cases h
  | .isc a cl, sc, e, X, W, h, g => by
    unfold chkE at h
    split at h
    · simp only [Bool.and_eq_true, decide_eq_true_eq] at h
      obtain ⟨⟨⟨⟨⟨rfl, h2⟩, h3⟩, h4⟩, h5⟩, h6⟩ := h
      exact snd_isc g (sndE a h6 g) h2 h3 h4 (star_cons h5) rfl
    · cases h
  | .lrg a, sc, e, X, W, h, g => by
    unfold chkE at h
    split at h
    · simp only [Bool.and_eq_true, decide_eq_true_eq] at h
      obtain ⟨⟨⟨⟨⟨rfl, rfl⟩, h3⟩, h4⟩, h5⟩, h6⟩ := h
      exact snd_lrg g h3 h4 (sndE a h6 g) (star_cons h5)
    · cases h
  | .fz a, sc, e, X, W, h, g => by
    unfold chkE at h
    exact snd_fz (sndE a h g)
theorem sndEs : ∀ (a : Es) {sc : Scope} {e : List Expr} {X : Cx} {W : WX}, chkEs c sc a e = true → Gd k c.nm cal np lv c.N sc X W → PA X e (tA k Z0 H0 W (evEs k.G cal a))
  | .nil, sc, e, X, W, h, g => by
    unfold chkEs at h
    split at h
    · exact snd_nil
    · cases h
  | .cons a r, sc, e, X, W, h, g => by
    unfold chkEs at h
    split at h
    · simp only [Bool.and_eq_true] at h
      exact snd_cons (sndE a h.1.2 g) (sndEs r h.2 g) (star_cons h.1.1)
    · cases h
theorem sndKs : ∀ (as : Es) {sc : Scope} {kws : List Keyword} {X : Cx} {W : WX}, chkEs c sc as (kws.map (·.value)) = true → Gd k c.nm cal np lv c.N sc X W → PK X kws (tA k Z0 H0 W (evEs k.G cal as))
  | .nil, sc, kws, X, W, h, g => by
    unfold chkEs at h
    cases kws with
    | nil => exact snd_knil
    | cons y ys => cases h
  | .cons a r, sc, kws, X, W, h, g => by
    unfold chkEs at h
    cases kws with
    | nil => cases h
    | cons y ys =>
      obtain ⟨ar, v, p⟩ := y
      simp only [List.map_cons, Bool.and_eq_true] at h
      exact snd_kcons (sndE a h.1.2 g) (sndKs r h.2 g)
theorem sndEo : ∀ (a : Eo) {sc : Scope} {e : Option Expr} {X : Cx} {W : WX}, chkEo c sc a e = true → Gd k c.nm cal np lv c.N sc X W → PO X e (tEo k Z0 H0 W (evEo k.G cal a))
  | .none, sc, e, X, W, h, g => by
    unfold chkEo at h
    split at h
    · exact snd_onone
    · cases h
  | .some a, sc, e, X, W, h, g => by
    unfold chkEo at h
    split at h
    · exact snd_osome (sndE a h g)
    · cases h
theorem sndT : ∀ (t : Tst) {sc : Scope} {e : Expr} {X : Cx} {W : WX}, chkT c sc t e = true → Gd k c.nm cal np lv c.N sc X W → PT X e (tT k Z0 H0 W (evT k.G cal t)) ∧ ((match t with | .and_ _ _ => true | .or_ _ _ => true | _ => false) = true → PW X e (tT k Z0 H0 W (evT k.G cal t)))
  | .val a, sc, e, X, W, h, g => by
    refine ⟨?_, fun z => by cases z⟩
    unfold chkT at h
    rw [Bool.or_eq_true] at h
    rcases h with h | h
    · rw [Bool.and_eq_true] at h
      exact snd_val (sndE a h.2 g) h.1
    · split at h
      · simp only [Bool.and_eq_true, decide_eq_true_eq, Bool.not_eq_true'] at h
        obtain ⟨⟨⟨rfl, hm⟩, h1⟩, h2⟩ := h
        exact snd_cmpT g (sndE _ h1 g) (sndE _ h2 g) hm
      · simp only [Bool.and_eq_true, decide_eq_true_eq, Bool.not_eq_true'] at h
        obtain ⟨⟨⟨⟨⟨rfl, rfl⟩, hm⟩, h1⟩, h2⟩, h3⟩ := h
        exact snd_chainT g (sndE _ h1 g) (sndE _ h2 g) (sndE _ h3 g) hm
      · simp only [Bool.and_eq_true, Bool.not_eq_true'] at h
        obtain ⟨⟨⟨rfl, hm⟩, h1⟩, h2⟩ := h
        exact snd_eqoT g (sndE _ h1 g) (sndE _ h2 g) hm
      · simp only [Bool.and_eq_true, Bool.not_eq_true', decide_eq_true_eq] at h
        obtain ⟨⟨⟨⟨rfl, hm⟩, h0⟩, h1⟩, h2⟩ := h
        exact snd_inoT g h0 (sndE _ h1 g) (sndE _ h2 g) hm
      · cases h
  | .tru a, sc, e, X, W, h, g => by
    refine ⟨?_, fun z => by cases z⟩
    unfold chkT at h
    rw [Bool.and_eq_true] at h
    exact snd_tru g (sndE a h.2 g) h.1
  | .not_ t, sc, e, X, W, h, g => by
    refine ⟨?_, fun z => by cases z⟩
    unfold chkT at h
    split at h
    · exact snd_notT (sndT t h g).1
    · cases h
  | .and_ a b, sc, e, X, W, h, g => by
    have q : PW X e (tT k Z0 H0 W (evT k.G cal (.and_ a b))) := by
      unfold chkT at h
      split at h
      · simp only [Bool.and_eq_true] at h
        exact snd_andT (sndT a h.1 g).1 (pw_and1 (sndT b h.2 g).1)
      · simp only [Bool.and_eq_true] at h
        exact snd_andT (sndT a h.1.1 g).1 ((sndT b h.1.2 g).2 (by have := h.2; split at this <;> first | rfl | cases this))
      · cases h
    exact ⟨q.pt, fun _ => q⟩
  | .or_ a b, sc, e, X, W, h, g => by
    have q : PW X e (tT k Z0 H0 W (evT k.G cal (.or_ a b))) := by
      unfold chkT at h
      split at h
      · simp only [Bool.and_eq_true] at h
        exact snd_orT (sndT a h.1 g).1 (pw_or1 (sndT b h.2 g).1)
      · simp only [Bool.and_eq_true] at h
        exact snd_orT (sndT a h.1.1 g).1 ((sndT b h.1.2 g).2 (by have := h.2; split at this <;> first | rfl | cases this))
      · cases h
    exact ⟨q.pt, fun _ => q⟩
theorem sndTo : ∀ (t : To) {sc : Scope} {e : List Expr} {X : Cx} {W : WX}, chkTo c sc t e = true → Gd k c.nm cal np lv c.N sc X W → PTs X e (tT k Z0 H0 W (evTo k.G cal t))
  | .none, sc, e, X, W, h, g => by
    unfold chkTo at h
    split at h
    · exact PTs.imp pts_nil tYes_imp
    · cases h
  | .some t, sc, e, X, W, h, g => by
    unfold chkTo at h
    split at h
    · exact pts_one (sndT t h g).1
    · cases h
theorem sndI : ∀ (i : I) {st : Bool} {sc : Scope} {tg e : Expr} {X : Cx} {W : WX}, chkI c sc i tg e = true → Gd k c.nm cal np lv c.N sc X W → PI X tg e (tI k Z0 H0 W st (evI k.G cal i st))
  | .seq a, st, sc, tg, e, X, W, h, g => by
    unfold chkI at h
    exact snd_seqI g (sndE a h g)
  | .seqO a, st, sc, tg, e, X, W, h, g => by
    unfold chkI at h
    exact snd_seqO g (sndE a h g)
  | .rng1 a, st, sc, tg, e, X, W, h, g => by
    unfold chkI at h
    split at h
    · simp only [Bool.and_eq_true, decide_eq_true_eq] at h
      obtain ⟨⟨⟨rfl, h2⟩, h3⟩, h4⟩ := h
      exact snd_rng1 g (snd_cons (sndE a h4 g) snd_nil (star_cons h3)) h2 (star_cons h3)
    · cases h
  | .rng2 a b, st, sc, tg, e, X, W, h, g => by
    unfold chkI at h
    split at h
    · simp only [Bool.and_eq_true, decide_eq_true_eq] at h
      obtain ⟨⟨⟨⟨⟨rfl, h2⟩, h3⟩, h4⟩, h5⟩, h6⟩ := h
      exact snd_rng2 g (snd_cons (sndE a h5 g) (snd_cons (sndE b h6 g) snd_nil (star_cons h4)) (star_cons h3)) h2 ((star_cons h3).trans (by rw [star_cons h4]; rfl)) (star_cons h4)
    · cases h
  | .zip a b, st, sc, tg, e, X, W, h, g => by
    unfold chkI at h
    split at h
    · simp only [Bool.and_eq_true, decide_eq_true_eq] at h
      obtain ⟨⟨⟨⟨⟨rfl, h2⟩, h3⟩, h4⟩, h5⟩, h6⟩ := h
      exact snd_zip g (snd_cons (sndE a h5 g) (snd_cons (sndE b h6 g) snd_nil (star_cons h4)) (star_cons h3)) h2 (star_cons h3) (star_any (by simp [h4]))
    · cases h
end
end
end RS

/-! RsStm1 -/
namespace RS
open PySem PySem.Spec
open PyProof.Rows L2
section
variable {k : Kc} {nm : Nm} {cal : Cl → R LD} {np : Nat → Nat} {lv : Nat} {N : List Str} {sc : Scope} {X : Cx} {W : WX} {Z0 H0 : Hp}
/-- Z grows -/
abbrev Zle (Z Z' : Hp) : Prop := ∀ a o, Z a = some o → Z' a = some o
/-- what a statement's end asks of the wish -/
def AfterS (k : Kc) (Z0 H0 : Hp) (W : WX) (Z : Hp) (D : Ends) : Out → Prop
  | .nx ε => ∀ σ' H' Z' F', RelS k Z0 H0 Z' H' σ' ε F' → Zle Z Z' → D.nx σ' H'
  | .brk ε => ∀ σ' H' Z' F', RelS k Z0 H0 Z' H' σ' ε F' → Zle Z Z' → D.bk σ' H'
  | .cnt ε => ∀ σ' H' Z' F', RelS k Z0 H0 Z' H' σ' ε F' → Zle Z Z' → D.ct σ' H'
  | .ret r _ => (match retV r with
    | .ok (lv, d) => ∀ v Z' H' fp, Ext Z0 H0 Z' H' → Hd k Z' H' lv v d fp → New Z' H0 fp → D.rt v H'
    | _ => False)
  | .exc c fs ε => ∀ cls dd σ' H' Z' F', RelS k Z0 H0 Z' H' σ' ε F' → Zle Z Z' → XRep k Z' H' c fs cls dd → W cls dd σ' H'
  | .bad => False
def tS (k : Kc) (Z0 H0 : Hp) (W : WX) (r : En → Out) : TS := fun D σ H => ∃ Z ε F, RelS k Z0 H0 Z H σ ε F ∧ AfterS k Z0 H0 W Z D (r ε)
theorem AfterS.mono {Z Z' : Hp} {D : Ends} {o : Out} (h : AfterS k Z0 H0 W Z D o) (z : Zle Z Z') : AfterS k Z0 H0 W Z' D o := by
  cases o with
  | nx ε => exact fun σ' H' Z2 F' r l => h σ' H' Z2 F' r fun a o e => l a o (z a o e)
  | brk ε => exact fun σ' H' Z2 F' r l => h σ' H' Z2 F' r fun a o e => l a o (z a o e)
  | cnt ε => exact fun σ' H' Z2 F' r l => h σ' H' Z2 F' r fun a o e => l a o (z a o e)
  | ret r ε => exact h
  | exc c fs ε => exact fun cls dd σ' H' Z2 F' r l => h cls dd σ' H' Z2 F' r fun a o e => l a o (z a o e)
  | bad => exact h
/-- an expression within a statement -/
theorem AfterS.toO {α : Type} {Z H : Hp} {σ : L2.St} {ε : En} {F : Nat → List Addr} {D : Ends} {r : R α} {f : α → Out} (rel : RelS k Z0 H0 Z H σ ε F) (h : AfterS k Z0 H0 W Z D (toO ε r f)) : After k W σ Z H r fun a => AfterS k Z0 H0 W Z D (f a) := by
  cases r with
  | ok a => exact h
  | exc c fs => exact fun cls dd Z' H' e x => h cls dd σ H' Z' F (rel.ext e) e.z x
  | bad => exact h

/-! ### slots that change -/
theorem RelS.apart {Z H Z' : Hp} {σ : L2.St} {ε : En} {F : Nat → List Addr} {fp : List Addr} (r : RelS k Z0 H0 Z H σ ε F) (n : New Z' H fp) : ∀ j, ∀ a ∈ fp, a ∉ F j := fun j a m m2 => by
  obtain ⟨xs, e⟩ := r.there a ⟨j, m2⟩
  rw [n.n a m] at e
  cases e
theorem RelS.new0 {Z H Z' : Hp} {σ : L2.St} {ε : En} {F : Nat → List Addr} {fp : List Addr} (r : RelS k Z0 H0 Z H σ ε F) (n : New Z' H fp) : ∀ a ∈ fp, H0 a = none := fun a m => by
  cases e : H0 a with
  | none => rfl
  | some o => have := r.h0 a o e; rw [n.n a m] at this; cases this
/-- part of what a slot owns is fixed -/
theorem RelS.fix {Z H : Hp} {σ : L2.St} {ε : En} {F : Nat → List Addr} {i : Nat} {P fp : List Addr} {s : Option LD} (r : RelS k Z0 H0 Z H σ ε F) (hP : ∀ a ∈ P, a ∈ F i) (hs : RelSl k (zjoin Z H P) H (σ[i]?.getD none) s fp) (nd : fp.Nodup)
    (sub : ∀ a ∈ fp, a ∈ F i ∧ a ∉ P) (hi : i < ε.length) : RelS k Z0 H0 (zjoin Z H P) H σ (ε.set i s) (fun j => if j = i then fp else F j) := by
  refine ⟨by rw [List.length_set]; exact r.len, fun j t q => ?_, fun j hj => ?_, fun j => ?_, fun j l a hj hl => ?_, fun j a hj => ?_, zjoin_zh r.zh, r.h0, fun a o e => zjoin_sub r.zh a o (r.z0 a o e), fun a o e => ?_, fun j a hj => ?_⟩
  · by_cases hji : j = i
    · subst hji
      rw [List.getElem?_set_self hi] at q
      cases q
      rw [if_pos rfl]
      exact hs
    · rw [List.getElem?_set_ne (Ne.symm hji)] at q
      rw [if_neg hji]
      have h := r.sl j t q
      cases t with
      | none => exact h
      | some p =>
        obtain ⟨l, d⟩ := p
        obtain ⟨v, e, h⟩ := h
        exact ⟨v, e, h.mono (zjoin_sub r.zh) fun _ _ e => e⟩
  · rw [List.length_set] at hj
    show (if j = i then fp else F j) = []
    rw [if_neg (by omega)]
    exact r.out j hj
  · show (if j = i then fp else F j).Nodup
    split
    · exact nd
    · exact r.nd j
  · have hj : a ∈ (if j = i then fp else F j) := hj
    have hl : a ∈ (if l = i then fp else F l) := hl
    split at hj <;> split at hl
    · omega
    · rename_i h1 h2; exact absurd (r.dj l i a hl (sub a hj).1) h2
    · rename_i h1 h2; exact absurd (r.dj j i a hj (sub a hl).1) h1
    · exact r.dj j l a hj hl
  · have hj : a ∈ (if j = i then fp else F j) := hj
    split at hj
    · rw [zjoin_out (sub a hj).2]; exact r.zf i a (sub a hj).1
    · rename_i h1
      rw [zjoin_out fun m => h1 (r.dj j i a hj (hP a m))]
      exact r.zf j a hj
  · rw [zjoin_out fun m => by have := r.fn i a (hP a m); rw [e] at this; cases this]
    exact r.zn a o e
  · have hj : a ∈ (if j = i then fp else F j) := hj
    split at hj
    · exact r.fn i a (sub a hj).1
    · exact r.fn j a hj
theorem RelS.at {Z H : Hp} {σ : L2.St} {ε : En} {F : Nat → List Addr} {i : Nat} {l : Nat} {d : D} (r : RelS k Z0 H0 Z H σ ε F) (e : ε[i]? = some (some (l, d))) : ∃ v, σ[i]? = some (some v) ∧ Hd k Z H l v d (F i) ∧ i < ε.length := by
  obtain ⟨v, ev, hd⟩ := r.sl i _ e
  refine ⟨v, ?_, hd, (List.getElem?_eq_some_iff.mp e).1⟩
  cases e2 : σ[i]? with
  | none => rw [e2] at ev; cases ev
  | some o => rw [e2] at ev; rw [show o = some v from ev]
/-- a slot's thing becomes shared -/
theorem RelS.frz {Z H : Hp} {σ : L2.St} {ε : En} {F : Nat → List Addr} {i : Nat} {l : Nat} {d : D} (r : RelS k Z0 H0 Z H σ ε F) (e : ε[i]? = some (some (l, d))) (hl : l ≤ 2) : ∃ F', RelS k Z0 H0 (zjoin Z H (F i)) H σ (ε.set i (some (0, d))) F' := by
  obtain ⟨v, ev, hd, hi⟩ := r.at e
  refine ⟨_, r.fix (i := i) (P := F i) (fp := []) (fun a m => m) ⟨v, by rw [ev]; rfl, ?_, rfl⟩ List.nodup_nil (fun a m => by simp at m) hi⟩
  exact hd.share (zjoin_sub r.zh) fun a m => zjoin_in m
/-- a whole list keeps its top only -/
theorem RelS.shl {Z H : Hp} {σ : L2.St} {ε : En} {F : Nat → List Addr} {i : Nat} {xs : List D} (r : RelS k Z0 H0 Z H σ ε F) (e : ε[i]? = some (some (2, .lst xs))) : ∃ Z' F', RelS k Z0 H0 Z' H σ (ε.set i (some (1, .lst xs))) F' ∧ Zle Z Z' := by
  obtain ⟨v, ev, hd, hi⟩ := r.at e
  have nd := r.nd i
  generalize hF : F i = fi at hd nd
  cases hd with
  | sh s lf => simp [D.lf] at lf
  | @lst a vs _ f ha rs =>
    have nd' := List.nodup_cons.mp nd
    refine ⟨zjoin Z H f, _, r.fix (i := i) (P := f) (fp := [a]) (fun c m => by rw [hF]; exact List.mem_cons_of_mem _ m) ⟨.ref a, by rw [ev]; rfl, a, vs, xs, rfl, rfl, ha, rs.share (zjoin_sub r.zh) (fun c m => zjoin_in m), rfl⟩ (by simp) (fun c m => ?_) hi, zjoin_sub r.zh⟩
    simp at m
    subst m
    exact ⟨by rw [hF]; simp, nd'.1⟩
/-- a name's own list -/
theorem RelS.ownL {Z H : Hp} {σ : L2.St} {ε : En} {F : Nat → List Addr} {i l : Nat} {xs : List D} (r : RelS k Z0 H0 Z H σ ε F) (e : RS.own ε i = some (l, xs)) :
    ∃ a vs f, σ[i]? = some (some (.ref a)) ∧ i < ε.length ∧ H a = some (.lst vs) ∧ F i = a :: f ∧ vs.length = xs.length ∧ ε[i]? = some (some (l, .lst xs)) ∧ ((l = 1 ∧ Shs k Z vs xs ∧ f = []) ∨ (l = 2 ∧ Ows k Z H vs xs f)) := by
  unfold RS.own at e
  split at e
  · rename_i ys h
    cases e
    obtain ⟨v, ev, ⟨a, vs, ds, rfl, ed, ha, rs, hf⟩, hi⟩ := r.at h
    cases ed
    exact ⟨a, vs, [], ev, hi, ha, hf, rs.length, h, .inl ⟨rfl, rs, rfl⟩⟩
  · rename_i ys h
    cases e
    obtain ⟨v, ev, hd, hi⟩ := r.at h
    generalize hF : F i = fi at hd
    cases hd with
    | sh s lf => simp [D.lf] at lf
    | @lst a vs _ f ha rs => exact ⟨a, vs, f, ev, hi, ha, rfl, rs.length, h, .inr ⟨rfl, rs⟩⟩
  · cases e
/-- a name's own list is written anew -/
theorem RelS.change {Z H : Hp} {σ : L2.St} {ε : En} {F : Nat → List Addr} {i l : Nat} {a : Addr} {f f' : List Addr} {vs' : List V} {ds' : List D} (r : RelS k Z0 H0 Z H σ ε F) (hσ : σ[i]? = some (some (.ref a))) (hF : F i = a :: f) (hi : i < ε.length)
    (h : (l = 1 ∧ Shs k Z vs' ds' ∧ f' = []) ∨ (l = 2 ∧ Ows k Z H vs' ds' f')) (nd : f'.Nodup) (na : a ∉ f') (nz : ∀ c ∈ f', Z c = none ∧ H0 c = none ∧ ∀ j, j ≠ i → c ∉ F j) :
    ∃ F', RelS k Z0 H0 Z (upd H a (.lst vs')) σ (ε.set i (some (l, .lst ds'))) F' := by
  have mem : a ∈ F i := by rw [hF]; simp
  have za : Z a = none := r.zf i a mem
  have h0a : H0 a = none := r.fn i a mem
  refine ⟨fun j => if j = i then a :: f' else F j, ⟨by rw [List.length_set]; exact r.len, fun j t q => ?_, fun j hj => ?_, fun j => ?_, fun j m c hj hl => ?_, fun j c hj => ?_, fun c o e => ?_, fun c o e => ?_, r.z0, r.zn, fun j c hj => ?_⟩⟩
  · by_cases hji : j = i
    · subst hji
      rw [List.getElem?_set_self hi] at q
      cases q
      rw [if_pos rfl, hσ]
      refine ⟨.ref a, rfl, ?_⟩
      rcases h with ⟨rfl, h, rfl⟩ | ⟨rfl, h⟩
      · exact ⟨a, vs', ds', rfl, rfl, by simp [upd], h, rfl⟩
      · exact Ow.lst (by simp [upd]) (Ows.at (fun c m => upd_ne fun e => na (e ▸ m)) h)
    · rw [List.getElem?_set_ne (Ne.symm hji)] at q
      rw [if_neg hji]
      have h := r.sl j t q
      have hne : ∀ c ∈ F j, upd H a (.lst vs') c = H c := fun c m => upd_ne fun e => hji (r.dj j i c m (by rw [e]; exact mem))
      cases t with
      | none => exact h
      | some p =>
        obtain ⟨l2, d⟩ := p
        obtain ⟨v, e, h⟩ := h
        refine ⟨v, e, ?_⟩
        match l2, h with
        | 0, h => exact h
        | 1, ⟨b, xs, ds, h1, h2, h3, h4, h5⟩ => exact ⟨b, xs, ds, h1, h2, (hne b (by rw [h5]; simp)).trans h3, h4, h5⟩
        | 2, h => exact Ow.at hne h
        | 5, ⟨b, dx, c, vs, ds, h1, h2, h3, h4, h5⟩ => exact ⟨b, dx, c, vs, ds, h1, h2, h3.mono (fun o q => (hne b (by rw [h5]; simp)).trans q) (fun o q => (hne dx (by rw [h5]; simp)).trans q), h4, h5⟩
        | 6, ⟨b, dx, c, vs, ds, fq, h1, h2, h3, h4, h5⟩ => exact ⟨b, dx, c, vs, ds, fq, h1, h2, h3.mono (fun o q => (hne b (by rw [h5]; simp)).trans q) (fun o q => (hne dx (by rw [h5]; simp)).trans q), h4.at fun a m => hne a (by rw [h5]; simp [m]), h5⟩
        | 3, h => exact h.elim
        | 4, h => exact h.elim
        | n + 7, h => exact h.elim
  · rw [List.length_set] at hj
    show (if j = i then a :: f' else F j) = []
    rw [if_neg (by omega)]
    exact r.out j hj
  · show (if j = i then a :: f' else F j).Nodup
    split
    · exact List.nodup_cons.mpr ⟨na, nd⟩
    · exact r.nd j
  · have hj : c ∈ (if j = i then a :: f' else F j) := hj
    have hl : c ∈ (if m = i then a :: f' else F m) := hl
    have cross : ∀ {j : Nat}, c ∈ a :: f' → c ∈ F j → j ≠ i → False := fun {j} m1 m2 hne => by
      rcases List.mem_cons.mp m1 with rfl | m1
      · exact hne (r.dj j i _ m2 mem)
      · exact (nz c m1).2.2 j hne m2
    split at hj <;> split at hl
    · omega
    · rename_i h1 h2; exact (cross hj hl h2).elim
    · rename_i h1 h2; exact (cross hl hj h1).elim
    · exact r.dj j m c hj hl
  · have hj : c ∈ (if j = i then a :: f' else F j) := hj
    split at hj
    · rcases List.mem_cons.mp hj with rfl | hj
      · exact za
      · exact (nz c hj).1
    · exact r.zf j c hj
  · rw [upd_ne fun e2 => by rw [e2, za] at e; cases e]
    exact r.zh c o e
  · rw [upd_ne fun e2 => by rw [e2, h0a] at e; cases e]
    exact r.h0 c o e
  · have hj : c ∈ (if j = i then a :: f' else F j) := hj
    split at hj
    · rcases List.mem_cons.mp hj with rfl | hj
      · exact h0a
      · exact (nz c hj).2.1
    · exact r.fn j c hj
end
end RS

/-! RsStm2 -/
namespace RS
open PySem PySem.Spec
open PyProof.Rows L2
section
variable {k : Kc} {nm : Nm} {cal : Cl → R LD} {np : Nat → Nat} {lv : Nat} {N : List Str} {sc : Scope} {X : Cx} {W : WX} {Z0 H0 : Hp}
theorem AfterS.put {Z : Hp} {D : Ends} {i : Nat} {s : Option LD} {ε : En} (h : AfterS k Z0 H0 W Z D (putS i s ε)) : i < ε.length ∧ AfterS k Z0 H0 W Z D (.nx (ε.set i s)) := by
  unfold putS at h
  split at h
  · exact ⟨by assumption, h⟩
  · exact h.elim
/-- a name's new value -/
theorem asg_imp {te : TE} {r : En → R LD} {i : Nat} {fz : Bool} (hte : ∀ σ H Q, tE k Z0 H0 W r σ H Q → te σ H Q) (D : Ends) (σ : L2.St) (H : Hp)
    (h : tS k Z0 H0 W (fun ε => toO ε (r ε) fun x => match keepV fz x with | some y => putS i (some y) ε | none => .bad) D σ H) : tAsg te (gName i) D σ H := by
  obtain ⟨Z, ε, F, rel, h⟩ := h
  refine hte _ _ _ ⟨Z, ε, F, rel, (AfterS.toO rel h).imp fun x ex h => ?_⟩
  intro v Z1 H1 fp e1 t1 n1
  unfold keepV at h
  obtain ⟨l, d⟩ := x
  dsimp only at h t1
  split at h
  · rename_i y hy
    split at hy
    · rename_i hl
      cases hy
      have hd := t1.hd hl
      by_cases hf : fz = true ∨ d.lf = true
      · rw [if_pos hf] at h
        obtain ⟨hi, h⟩ := h.put
        have r1 := rel.ext (e1.freeze n1.n)
        exact h _ _ _ _ (r1.put0 (hd.share (zjoin_sub e1.zh) fun a m => zjoin_in m) hi) (e1.freeze n1.n).z
      · rw [if_neg hf] at h
        obtain ⟨hi, h⟩ := h.put
        have r1 := rel.ext e1
        exact h _ _ _ _ (r1.put ⟨v, rfl, hd⟩ n1.nd n1.z (rel.new0 n1) (fun j _ => rel.apart n1 j) hi) e1.z
    · cases hy
  · exact h.elim
theorem snd_asg (g : Gd k nm cal np lv N sc X W) {r : En → R LD} {i : Nat} {x : Str} {fz : Bool} {e : Expr} {p pos : Pos} (hx : N[i]? = some x) (hl : sc.names.lookup x = some .local ∨ (sc.names.lookup x = some .cell ∧ X.fn x = true)) (he : PE X e (tE k Z0 H0 W r)) (hs : swapsWith e (some (.Name x p)) pos.line X.env = pure false) :
    PS X (.Assign [.Name x p] e pos) (tS k Z0 H0 W fun ε => toO ε (r ε) fun x => match keepV fz x with | some y => putS i (some y) ε | none => .bad) :=
  PS.imp (ps_set (g.hN ▸ g.nd) (by rw [g.hN]; exact hx) (by rw [g.sc]; exact hl.imp id And.left) he hs (by rw [g.sc]; exact hl.elim .inr fun h => .inl h.2)) fun D σ H h => asg_imp (fun _ _ _ q => q) D σ H h
/-- targets -/
theorem snd_asgT (g : Gd k nm cal np lv N sc X W) {r : En → R LD} {tg : Tg} {e tgE : Expr} {pos : Pos} (hg : PG X tgE (gT X.K tg)) (he : PE X e (tE k Z0 H0 W r)) (hs : swapsWithSole [tgE] e pos.line X.env = pure false) (hw : swappedStores [tgE] e X.env = pure none)
    (h1 : (assignEach [tgE] X.env).map (·.2) = [assign tgE X.env]) :
    PS X (.Assign [tgE] e pos) (tS k Z0 H0 W fun ε => toO ε (r ε) fun x => match x.1, x.2 with
      | 0, .tup xs => (match setTg tg (.tup xs) ε with | some ε' => .nx ε' | none => .bad)
      | _, _ => .bad) := PS.imp (ps_asg he hg hs hw h1) fun D σ H ⟨Z, ε, F, rel, h⟩ => by
  refine ⟨Z, ε, F, rel, (AfterS.toO rel h).imp fun x ex h => ?_⟩
  intro v Z1 H1 fp e1 t1 n1
  obtain ⟨l, d⟩ := x
  dsimp only at h t1
  split at h
  · rename_i xs
    split at h
    · rename_i ε' hst
      have t1 : Hd k Z1 H1 0 v (.tup xs) fp := t1
      exact gT_store g.hK (rel.ext e1) t1.1 hst fun σ' F' r' _ _ => h σ' H1 Z1 F' r' e1.z
    · exact h.elim
  · exact h.elim

/-! ### own lists written -/
theorem Ows.append {Z H : Hp} : ∀ {vs ws : List V} {ds es : List D} {f f2 : List Addr}, Ows k Z H vs ds f → Ows k Z H ws es f2 → Ows k Z H (vs ++ ws) (ds ++ es) (f ++ f2)
  | _, _, _, _, _, _, .nil, o => o
  | _, _, _, _, _, _, .cons a r, o => by
    rw [List.append_assoc]
    exact .cons a (Ows.append r o)
theorem Ows.split {Z H : Hp} : ∀ {vs : List V} {ds : List D} {fp : List Addr} {n : Nat}, Ows k Z H vs ds fp → n < ds.length → ∃ f1 fv f2 v d, Ows k Z H (vs.take n) (ds.take n) f1 ∧ Ow k Z H v d fv ∧ Ows k Z H (vs.drop (n + 1)) (ds.drop (n + 1)) f2 ∧ vs[n]? = some v ∧ ds[n]? = some d ∧ fp = f1 ++ (fv ++ f2)
  | _, _, _, n, .nil, h => by simp at h
  | _, _, _, 0, .cons (v := v) (d := d) (f := f) (fp := fp) a r, _ => ⟨[], f, fp, v, d, .nil, a, r, rfl, rfl, rfl⟩
  | _, _, _, n + 1, .cons (f := f) a r, h => by
    obtain ⟨f1, fv, f2, v, d, h1, h2, h3, h4, h5, h6⟩ := Ows.split (n := n) r (by simpa using h)
    exact ⟨f ++ f1, fv, f2, v, d, .cons a h1, h2, h3, by simpa using h4, by simpa using h5, by rw [h6, List.append_assoc]⟩
theorem Shs.eraseIdx {Z : Hp} : ∀ {vs : List V} {ds : List D} {n : Nat}, Shs k Z vs ds → Shs k Z (vs.eraseIdx n) (ds.eraseIdx n)
  | _, _, _, .nil => .nil
  | _, _, 0, .cons _ r => r
  | _, _, n + 1, .cons a r => .cons a (Shs.eraseIdx r)
/-- an item held by what may join an own list -/
theorem Hd.item {Z H : Hp} {l : Nat} {v : V} {d : D} {fp : List Addr} (h : Hd k Z H l v d fp) (hl : l ≤ 2) (q : l = 2 ∨ d.lf = true) : Ow k Z H v d fp := by
  rcases q with q | q
  · subst q; exact h
  · match l, h, hl with
    | 0, h, _ => rw [h.2]; exact .sh h.1 q
    | 1, ⟨b, xs, ds, _, h2, _⟩, _ => subst h2; simp [D.lf] at q
    | 2, h, _ => exact h
/-- an own list takes in a value: g tells where -/
theorem RelS.take {Z H Z1 H1 : Hp} {σ : L2.St} {ε : En} {F : Nat → List Addr} {i l : Nat} {xs : List D} {x : LD} {v : V} {fp : List Addr} (g : {α : Type} → List α → α → List α) (rel : RelS k Z0 H0 Z H σ ε F) (e : RS.own ε i = some (l, xs)) (e1 : Ext Z H Z1 H1) (t1 : RelT k Z1 H1 F x.1 v x.2 fp) (n1 : New Z1 H fp) (hl : x.1 ≤ 2)
    (gS : ∀ {Z' : Hp} {vs : List V}, Shs k Z' vs xs → Sh k Z' v x.2 → Shs k Z' (g vs v) (g xs x.2))
    (gO : ∀ {vs : List V} {f : List Addr}, Ows k Z1 H1 vs xs f → Ow k Z1 H1 v x.2 fp → f.Nodup → fp.Nodup → (∀ a ∈ f, a ∉ fp) → ∃ f', Ows k Z1 H1 (g vs v) (g xs x.2) f' ∧ f'.Nodup ∧ ∀ a ∈ f', a ∈ f ∨ a ∈ fp) :
    ∃ a vs, σ[i]? = some (some (.ref a)) ∧ H1 a = some (.lst vs) ∧ vs.length = xs.length ∧ ∃ Z' F', RelS k Z0 H0 Z' (upd H1 a (.lst (g vs v))) σ (ε.set i (some (lvWith l x, .lst (g xs x.2)))) F' ∧ Zle Z1 Z' := by
  have rel1 := rel.ext e1
  have hd := t1.hd hl
  obtain ⟨a, vs, f, h1, h2, h3, h4, h5, hε, h6⟩ := rel1.ownL e
  refine ⟨a, vs, h1, h3, h5, ?_⟩
  have hap := rel.apart n1
  have h0 := rel.new0 n1
  have ndi := rel.nd i
  rw [h4] at ndi
  have nda := List.nodup_cons.mp ndi
  by_cases hw : l = 2 ∧ (x.1 = 2 ∨ x.2.lf = true)
  · have e2 : lvWith l x = 2 := if_pos hw
    rw [e2]
    rcases h6 with ⟨hl1, _⟩ | ⟨_, rs⟩
    · omega
    obtain ⟨f', o, nd, sub⟩ := gO rs (hd.item hl hw.2) nda.2 n1.nd fun c m m2 => hap i c m2 (by rw [h4]; exact List.mem_cons_of_mem _ m)
    obtain ⟨F', r⟩ := rel1.change (l := 2) h1 h4 h2 (.inr ⟨rfl, o⟩) nd (fun m => by
      rcases sub a m with m | m
      · exact nda.1 m
      · exact hap i a m (by rw [h4]; simp)) fun c m => by
      rcases sub c m with m | m
      · have mi : c ∈ F i := by rw [h4]; exact List.mem_cons_of_mem _ m
        exact ⟨rel1.zf i c mi, rel.fn i c mi, fun j hj m2 => hj (rel.dj j i c m2 mi)⟩
      · exact ⟨n1.z c m, h0 c m, fun j _ => hap j c m⟩
    exact ⟨Z1, F', r, fun _ _ q => q⟩
  · have e2 : lvWith l x = 1 := if_neg hw
    rw [e2]
    -- everything that joins is fixed
    have r2 := rel.ext (e1.freeze n1.n)
    have sv : Sh k (zjoin Z1 H1 fp) v x.2 := hd.share (zjoin_sub e1.zh) fun c m => zjoin_in m
    rcases h6 with ⟨hl1, rs, hf⟩ | ⟨hl2, rs⟩
    · obtain ⟨F', r⟩ := r2.change (l := 1) (f' := []) h1 h4 h2 (.inl ⟨rfl, gS (rs.mono (zjoin_sub e1.zh)) sv, rfl⟩) List.nodup_nil (by simp) fun c m => by simp at m
      exact ⟨_, F', r, zjoin_sub e1.zh⟩
    · subst hl2
      obtain ⟨Z3, F3, r3, z3⟩ := r2.shl (i := i) (xs := xs) hε
      obtain ⟨a3, vs3, f3, g1, g2, g3, g4, g5, g6, g7⟩ := r3.ownL (i := i) (l := 1) (xs := xs) (by unfold RS.own; rw [List.getElem?_set_self h2]; rfl)
      rw [h1] at g1
      cases g1
      rw [h3] at g3
      cases g3
      rcases g7 with ⟨_, rs3, hf3⟩ | ⟨z, _⟩
      · obtain ⟨F', r⟩ := r3.change (l := 1) (f' := []) h1 g4 (by rw [List.length_set]; exact h2) (.inl ⟨rfl, gS rs3 (sv.mono z3), rfl⟩) List.nodup_nil (by simp) fun c m => by simp at m
        rw [List.set_set] at r
        exact ⟨_, F', r, fun a o q => z3 a o (zjoin_sub e1.zh a o q)⟩
      · omega
theorem cut_append {f1 fv f2 fp : List Addr} (nd : (f1 ++ (fv ++ f2)).Nodup) (np : fp.Nodup) (ap : ∀ a ∈ f1 ++ (fv ++ f2), a ∉ fp) : (f1 ++ (fp ++ f2)).Nodup := by
  simp only [List.nodup_append, List.mem_append] at nd ap ⊢
  obtain ⟨n1, ⟨n2, n3, n4⟩, n5⟩ := nd
  refine ⟨n1, ⟨np, n3, fun a ma b mb e => ?_⟩, fun a ma b mb e => ?_⟩
  · subst e; exact ap a (.inr (.inr mb)) ma
  · subst e
    rcases mb with mb | mb
    · exact ap a (.inl ma) mb
    · exact n5 a ma a (.inr mb) rfl
theorem set_take {α : Type} (xs : List α) (n : Nat) (x : α) (h : n < xs.length) : xs.set n x = xs.take n ++ x :: xs.drop (n + 1) := by
  rw [List.set_eq_take_append_cons_drop, if_pos h]
/-- xs[n] = v -/
theorem RelS.setAt {Z H Z1 H1 : Hp} {σ : L2.St} {ε : En} {F : Nat → List Addr} {i l n : Nat} {xs : List D} {x : LD} {v : V} {fp : List Addr} (rel : RelS k Z0 H0 Z H σ ε F) (e : RS.own ε i = some (l, xs)) (e1 : Ext Z H Z1 H1) (t1 : RelT k Z1 H1 F x.1 v x.2 fp) (n1 : New Z1 H fp) (hl : x.1 ≤ 2) (hn : n < xs.length) :
    ∃ a vs, σ[i]? = some (some (.ref a)) ∧ H1 a = some (.lst vs) ∧ vs.length = xs.length ∧ ∃ Z' F', RelS k Z0 H0 Z' (upd H1 a (.lst (vs.set n v))) σ (ε.set i (some (lvWith l x, .lst (xs.set n x.2)))) F' ∧ Zle Z1 Z' :=
  rel.take (fun l a => l.set n a) e e1 t1 n1 hl (fun r s => Shs.set s n r) fun {vs f} r o nf np ap => by
    obtain ⟨f1, fv, f2, w, d, h1, h2, h3, h4, h5, rfl⟩ := r.split hn
    have hv : n < vs.length := by rw [r.length]; exact hn
    refine ⟨f1 ++ (fp ++ f2), ?_, cut_append nf np ap, fun a m => ?_⟩
    · rw [set_take _ _ _ hn, set_take _ _ _ hv]
      exact h1.append (.cons o h3)
    · simp only [List.mem_append] at m ⊢
      rcases m with m | m | m
      · exact .inl (.inl m)
      · exact .inr m
      · exact .inl (.inr (.inr m))
/-- xs.append(v) -/
theorem RelS.snoc {Z H Z1 H1 : Hp} {σ : L2.St} {ε : En} {F : Nat → List Addr} {i l : Nat} {xs : List D} {x : LD} {v : V} {fp : List Addr} (rel : RelS k Z0 H0 Z H σ ε F) (e : RS.own ε i = some (l, xs)) (e1 : Ext Z H Z1 H1) (t1 : RelT k Z1 H1 F x.1 v x.2 fp) (n1 : New Z1 H fp) (hl : x.1 ≤ 2) :
    ∃ a vs, σ[i]? = some (some (.ref a)) ∧ H1 a = some (.lst vs) ∧ vs.length = xs.length ∧ ∃ Z' F', RelS k Z0 H0 Z' (upd H1 a (.lst (vs ++ [v]))) σ (ε.set i (some (lvWith l x, .lst (xs ++ [x.2])))) F' ∧ Zle Z1 Z' :=
  rel.take (fun l a => l ++ [a]) e e1 t1 n1 hl (fun r s => r.snoc s) fun {vs f} r o nf np ap => by
    refine ⟨f ++ fp, r.snoc o, List.nodup_append.mpr ⟨nf, np, fun a ma b mb e => ap a ma (e ▸ mb)⟩, fun a m => List.mem_append.mp m⟩
theorem set_plainS {i e : Expr} {o : Expr} {p : Pos} {l : Nat} {env : Env} (hi : ixOk i = true) : swapsWithSole [.Subscript o i p] e l env = pure false ∧ swappedStores [.Subscript o i p] e env = pure none ∧ (assignEach [.Subscript o i p] env).map (·.2) = [assign (.Subscript o i p) env] := by
  refine ⟨?_, rfl, rfl⟩
  cases e <;> rfl
theorem assign_sub {o i : Expr} {pos : Pos} {env : Env} (hi : ixOk i = true) : ∀ v, assign (.Subscript o i pos) env v = (do
      let ov ← holding [v] (eval o env)
      let iv ← holding [v, ov] (eval i env)
      standAt pos
      holding [v, ov, iv] (setItem ov iv v)
      release [v, ov, iv] []) := fun v => by
  cases i <;> first | (cases hi; done) | rfl
theorem snd_setI (g : Gd k nm cal np lv N sc X W) {r rk : En → R LD} {i : Nat} {x : Str} {e ik : Expr} {p p2 pos : Pos} (hx : N[i]? = some x) (hv : visB sc x = true) (he : PE X e (tE k Z0 H0 W r)) (hk : PE X ik (tE k Z0 H0 W rk)) (hi : ixOk ik = true) :
    PS X (.Assign [.Subscript (.Name x p) ik p2] e pos) (tS k Z0 H0 W fun ε => toO ε (r ε) fun x => match RS.own ε i with
      | some (lv, xs) => toO ε (rk ε) fun y => (match y.2 with
        | .int j => (match L2.ixN xs.length j with
          | some n => if x.1 ≤ 2 then putS i (some (lvWith lv x, .lst (xs.set n x.2))) ε else .bad
          | none => .bad)
        | _ => .bad)
      | none => .bad) := by
  obtain ⟨s1, s2, s3⟩ := set_plainS (i := ik) (e := e) (o := .Name x p) (p := p2) (l := pos.line) (env := X.env) hi
  obtain ⟨v1, v2, v3⟩ := vis_of hv
  refine PS.imp (ps_asg he (pg_sub (pe_var (i := i) (by rw [g.hN]; exact hx) (by rw [g.sc]; exact v1) v2 v3) hk set_list (assign_sub hi)) s1 s2 s3) fun D σ H ⟨Z, ε, F, rel, h⟩ => ?_
  refine ⟨Z, ε, F, rel, (AfterS.toO rel h).imp fun x ex h => ?_⟩
  intro v Z1 H1 fp e1 t1 n1
  have rel1 := rel.ext e1
  split at h
  · rename_i l xs ho
    obtain ⟨a, vs, f, h1, h2, h3, h4, h5, hε, h6⟩ := rel1.ownL ho
    refine ⟨.ref a, h1, Z1, ε, F, rel1, (AfterS.toO rel1 (h.mono e1.z)).imp fun y ey h => ?_⟩
    intro w Z2 H2 f2 e2 t2 n2
    obtain ⟨ly, dy⟩ := y
    dsimp only at h t2
    split at h
    · rename_i j
      cases t2.int
      split at h
      · rename_i n hn
        split at h
        · rename_i hl
          obtain ⟨_, h⟩ := h.put
          obtain ⟨_, hn2, _⟩ := ixN_seq hn
          have n1' := n1.ext t1.there e2
          obtain ⟨a', vs', g1, g2, g3, Z3, F3, r3, z3⟩ := rel.setAt ho (e1.trans e2) (t1.mono e2) n1' hl hn2
          rw [h1] at g1
          cases g1
          exact ⟨a, vs', j, n, rfl, rfl, g2, by rw [g3]; exact hn, h _ _ _ _ r3 fun b o q => z3 b o (e2.z b o q)⟩
        · exact h.elim
      · exact h.elim
    · exact h.elim
  · exact h.elim
end
end RS

/-! RsSetI -/
namespace RS
open PySem PySem.Spec
open PyProof.Rows L2
/-! ### x[i][j] = v (under way) -/
section
variable {k : Kc} {Z0 H0 : Hp} {lv : Nat}
/-- a list within a name's own is written -/
theorem RelS.changeG {Z H : Hp} {σ : L2.St} {ε : En} {F : Nat → List Addr} {i : Nat} {b : Addr} {o : HO} {v : V} {d' : D} {f' : List Addr} (r : RelS k Z0 H0 Z H σ ε F) (hσ : σ[i]? = some (some v)) (mem : b ∈ F i) (hi : i < ε.length)
    (h : Ow k Z (upd H b o) v d' f') (nd : f'.Nodup) (sub : ∀ c ∈ f', c ∈ F i) :
    ∃ F', RelS k Z0 H0 Z (upd H b o) σ (ε.set i (some (2, d'))) F' := by
  have za : Z b = none := r.zf i b mem
  have h0a : H0 b = none := r.fn i b mem
  refine ⟨fun j => if j = i then f' else F j, ⟨by rw [List.length_set]; exact r.len, fun j t q => ?_, fun j hj => ?_, fun j => ?_, fun j m c hj hl => ?_, fun j c hj => ?_, fun c o' e => ?_, fun c o' e => ?_, r.z0, r.zn, fun j c hj => ?_⟩⟩
  · by_cases hji : j = i
    · subst hji
      rw [List.getElem?_set_self hi] at q
      cases q
      rw [if_pos rfl, hσ]
      exact ⟨v, rfl, h⟩
    · rw [List.getElem?_set_ne (Ne.symm hji)] at q
      rw [if_neg hji]
      have h := r.sl j t q
      have hne : ∀ c ∈ F j, upd H b o c = H c := fun c m => upd_ne fun e => hji (r.dj j i c m (by rw [e]; exact mem))
      cases t with
      | none => exact h
      | some p =>
        obtain ⟨l2, d⟩ := p
        obtain ⟨v, e, h⟩ := h
        refine ⟨v, e, ?_⟩
        match l2, h with
        | 0, h => exact h
        | 1, ⟨b, xs, ds, h1, h2, h3, h4, h5⟩ => exact ⟨b, xs, ds, h1, h2, (hne b (by rw [h5]; simp)).trans h3, h4, h5⟩
        | 2, h => exact Ow.at hne h
        | 5, ⟨b, dx, c, vs, ds, h1, h2, h3, h4, h5⟩ => exact ⟨b, dx, c, vs, ds, h1, h2, h3.mono (fun o q => (hne b (by rw [h5]; simp)).trans q) (fun o q => (hne dx (by rw [h5]; simp)).trans q), h4, h5⟩
        | 6, ⟨b, dx, c, vs, ds, fq, h1, h2, h3, h4, h5⟩ => exact ⟨b, dx, c, vs, ds, fq, h1, h2, h3.mono (fun o q => (hne b (by rw [h5]; simp)).trans q) (fun o q => (hne dx (by rw [h5]; simp)).trans q), h4.at fun a m => hne a (by rw [h5]; simp [m]), h5⟩
        | 3, h => exact h.elim
        | 4, h => exact h.elim
        | n + 7, h => exact h.elim
  · rw [List.length_set] at hj
    show (if j = i then f' else F j) = []
    rw [if_neg (by omega)]
    exact r.out j hj
  · show (if j = i then f' else F j).Nodup
    split
    · exact nd
    · exact r.nd j
  · have hj : c ∈ (if j = i then f' else F j) := hj
    have hl : c ∈ (if m = i then f' else F m) := hl
    split at hj <;> split at hl
    · omega
    · rename_i e1 e2; exact absurd (r.dj m i c hl (sub c hj)) e2
    · rename_i e1 e2; exact absurd (r.dj j i c hj (sub c hl)) e1
    · exact r.dj j m c hj hl
  · have hj : c ∈ (if j = i then f' else F j) := hj
    split at hj
    · exact r.zf i c (sub c hj)
    · exact r.zf j c hj
  · rw [upd_ne (fun e' => by subst e'; rw [za] at e; cases e)]
    exact r.zh c o' e
  · rw [upd_ne (fun e' => by subst e'; rw [h0a] at e; cases e)]
    exact r.h0 c o' e
  · have hj : c ∈ (if j = i then f' else F j) := hj
    split at hj
    · exact r.fn i c (sub c hj)
    · exact r.fn j c hj
theorem lfs_set {d : D} : ∀ {ys : List D} {m : Nat}, D.lfs ys = true → d.lf = true → D.lfs (ys.set m d) = true
  | [], m, _, _ => rfl
  | y :: r, 0, h, hd => by
    simp only [D.lfs, Bool.and_eq_true] at h
    simp only [List.set_cons_zero, D.lfs, hd, h.2, Bool.and_self]
  | y :: r, m + 1, h, hd => by
    simp only [D.lfs, Bool.and_eq_true] at h
    simp only [List.set_cons_succ, D.lfs, h.1, lfs_set h.2 hd, Bool.and_self]
theorem upd_in {H : Hp} {b c : Addr} {o : HO} (h : c ≠ b) : upd H b o c = H c := upd_ne h
theorem RelS.setIn {Z H : Hp} {σ : L2.St} {ε : En} {F : Nat → List Addr} {i n m : Nat} {xs ys : List D} {d : D} {v : V} (r : RelS k Z0 H0 Z H σ ε F) (e : RS.own ε i = some (2, xs)) (hn : xs[n]? = some (.lst ys)) (hm : m < ys.length) (sv : Sh k Z v d) (hd : d.lf = true) (hy : D.lfs ys = true) :
    ∃ a b vs ws, σ[i]? = some (some (.ref a)) ∧ H a = some (.lst vs) ∧ vs.length = xs.length ∧ vs[n]? = some (.ref b) ∧ H b = some (.lst ws) ∧ ws.length = ys.length ∧
      ∃ F', RelS k Z0 H0 Z (upd H b (.lst (ws.set m v))) σ (ε.set i (some (2, .lst (xs.set n (.lst (ys.set m d)))))) F' := by
  obtain ⟨a, vs, f, h1, h2, h3, h4, h5, hε, h6⟩ := r.ownL e
  rcases h6 with ⟨z, _⟩ | ⟨_, rs⟩
  · omega
  have hnl : n < xs.length := by
    rcases Nat.lt_or_ge n xs.length with q | q
    · exact q
    · rw [List.getElem?_eq_none q] at hn; cases hn
  obtain ⟨f1, fv, f2, w, dw, o1, o2, o3, g1, g2, rfl⟩ := rs.split hnl
  rw [hn] at g2
  cases g2
  cases o2 with
  | sh s lf => simp [RS.D.lf] at lf
  | @lst b ws _ f' hb rw' =>
    obtain ⟨rw2, rfl⟩ := rw'.free hy
    have ndi := r.nd i
    rw [h4] at ndi
    have hws : m < ws.length := by rw [rw'.length]; exact hm
    have hvs : n < vs.length := by rw [h5]; exact hnl
    refine ⟨a, b, vs, ws, h1, h3, h5, g1, hb, rw'.length, ?_⟩
    have mb : b ∈ F i := by rw [h4]; simp
    simp only [List.nodup_cons, List.mem_cons, List.nodup_append, List.mem_append, List.cons_append, List.nil_append, List.append_nil, not_or] at ndi
    obtain ⟨⟨a1, a2, a3⟩, n1, ⟨n2, n3⟩, n4⟩ := ndi
    have e1 : vs = vs.take n ++ .ref b :: vs.drop (n + 1) := by
      rw [← set_take vs n (.ref b) hvs]
      refine (List.set_getElem_self (by simpa using hvs)).symm.trans ?_
      rw [List.getElem?_eq_getElem hvs] at g1
      rw [Option.some.inj g1]
    have hlf : D.lfs (ys.set m d) = true := lfs_set hy hd
    refine r.changeG (f' := a :: (f1 ++ ((b :: []) ++ f2))) h1 mb h2 (.lst ((upd_ne a2).trans h3) ?_) ?_ ?_
    · rw [set_take xs n _ hnl]
      conv => arg 4; rw [e1]
      refine Ows.append (Ows.at (fun c q => upd_ne fun e => ?_) o1) (.cons (.lst (by rw [upd_same]) (Shs.ows (Shs.set sv m rw2) hlf)) (Ows.at (fun c q => upd_ne fun e => ?_) o3))
      · subst e; exact n4 c q c (.inl rfl) rfl
      · subst e; exact n2 q
    · have := r.nd i
      rw [h4] at this
      simpa using this
    · intro c q
      rw [h4]
      simpa using q
theorem snd_setI2 {nm : Nm} {cal : Cl → R LD} {np : Nat → Nat} {N : List Str} {sc : Scope} {X : Cx} {W : WX} (g : Gd k nm cal np lv N sc X W) {r rj rk : En → R LD} {i : Nat} {x : Str} {e ij ik : Expr} {p p1 p2 pos : Pos} (hx : N[i]? = some x) (hv : visB sc x = true) (he : PE X e (tE k Z0 H0 W r)) (hj : PE X ij (tE k Z0 H0 W rj)) (hk : PE X ik (tE k Z0 H0 W rk)) (hij : ixOk ij = true) (hi : ixOk ik = true) :
    PS X (.Assign [.Subscript (.Subscript (.Name x p) ij p1) ik p2] e pos) (tS k Z0 H0 W fun ε => toO ε (r ε) fun x => match RS.own ε i with
    | some (2, xs) => toO ε (rj ε) fun y => (match y.2 with
      | .int p => (match L2.ixN xs.length p with
        | some n => (match xs[n]? with
          | some (.lst ys) => toO ε (rk ε) fun z => (match z.2 with
            | .int q => (match L2.ixN ys.length q with
              | some m => if x.2.lf = true ∧ x.1 ≤ 2 ∧ D.lfs ys = true then putS i (some (2, .lst (xs.set n (.lst (ys.set m x.2))))) ε else .bad
              | none => .bad)
            | _ => .bad)
          | _ => .bad)
        | none => .bad)
      | _ => .bad)
    | _ => .bad) := by
  obtain ⟨s1, s2, s3⟩ := set_plainS (i := ik) (e := e) (o := .Subscript (.Name x p) ij p1) (p := p2) (l := pos.line) (env := X.env) hi
  obtain ⟨v1, v2, v3⟩ := vis_of hv
  refine PS.imp (ps_asg he (pg_sub (pe_ix ix_list (pe_var (i := i) (by rw [g.hN]; exact hx) (by rw [g.sc]; exact v1) v2 v3) hj (ix_plain hij)) hk set_list (assign_sub hi)) s1 s2 s3) fun D σ H ⟨Z, ε, F, rel, h⟩ => ?_
  refine ⟨Z, ε, F, rel, (AfterS.toO rel h).imp fun x ex h => ?_⟩
  intro v Z1 H1 fp e1 t1 n1
  have rel1 := rel.ext e1
  split at h
  · rename_i xs ho
    obtain ⟨a, vs, f, h1, h2, h3, h4, h5, hε, h6⟩ := rel1.ownL ho
    refine ⟨.ref a, h1, Z1, ε, F, rel1, (AfterS.toO rel1 (h.mono e1.z)).imp fun y ey h => ?_⟩
    intro w Z2 H2 f2 e2 t2 n2
    obtain ⟨ly, dy⟩ := y
    dsimp only at h t2
    split at h
    · rename_i j
      cases t2.int
      split at h
      · rename_i n hn
        split at h
        · rename_i ys hys
          have rel2 := rel1.ext e2
          have hnl := (ixN_seq hn).2.1
          obtain ⟨a2, vs2, fo, k1, k2, k3, k4, k5, kε, k6⟩ := rel2.ownL ho
          rw [h1] at k1
          cases k1
          rcases k6 with ⟨z, _⟩ | ⟨_, rs⟩
          · omega
          obtain ⟨vb, fb, g1, g2, _⟩ := rs.get hys
          refine ⟨a, vs2, j, vb, rfl, rfl, SqL.of k3, ?_, ?_⟩
          · unfold atI
            rw [k5, hn]
            exact g1
          cases g2 with
          | sh s lf => simp [RS.D.lf] at lf
          | @lst b ws _ f' hb rw' =>
          refine ⟨Z2, ε, F, rel2, (AfterS.toO rel2 (h.mono e2.z)).imp fun y ey h => ?_⟩
          intro w3 Z3 H3 f3 e3 t3 n3
          obtain ⟨ly3, dy3⟩ := y
          dsimp only at h t3
          split at h
          · rename_i q
            cases t3.int
            split at h
            · rename_i m hm
              split at h
              · rename_i hc
                obtain ⟨_, h⟩ := h.put
                have hml := (ixN_seq hm).2.1
                have rel3 := rel2.ext e3
                have t1' := t1.mono (e2.trans e3)
                have sv := ((t1'.hd hc.2.1).item hc.2.1 (.inr hc.1)).free hc.1
                obtain ⟨a3, b3, vs3, ws3, w1, w2, w3, w4, w5, w6, F', r'⟩ := rel3.setIn ho hys hml sv.1 hc.1 hc.2.2
                rw [h1] at w1
                cases w1
                have ea := e3.h _ _ k3
                rw [w2] at ea
                cases ea
                rw [g1] at w4
                cases w4
                exact ⟨b, ws3, q, m, rfl, rfl, w5, by rw [w6]; exact hm, h _ _ _ _ r' fun c o z => e3.z c o z⟩
              · exact h.elim
            · exact h.elim
          · exact h.elim
        · exact h.elim
      · exact h.elim
    · exact h.elim
  · exact h.elim
end
end RS

/-! RsStm3 -/
namespace RS
open PySem PySem.Spec
open PyProof.Rows L2
section
variable {k : Kc} {nm : Nm} {cal : Cl → R LD} {np : Nat → Nat} {lv : Nat} {N : List Str} {sc : Scope} {X : Cx} {W : WX} {Z0 H0 : Hp}
/-- a value dropped -/
theorem snd_ex (g : Gd k nm cal np lv N sc X W) {r : En → R LD} {e : Expr} {pos : Pos} (he : PE X e (tE k Z0 H0 W r)) (hs : swapsWith e none pos.line X.env = pure false) : PS X (.Expr e pos) (tS k Z0 H0 W fun ε => toO ε (r ε) fun _ => .nx ε) :=
  PS.imp (ps_expr he hs) fun D σ H ⟨Z, ε, F, rel, h⟩ => by
    refine ⟨Z, ε, F, rel, (AfterS.toO rel h).imp fun x ex h => ?_⟩
    intro v Z1 H1 fp e1 t1 n1
    exact h σ H1 Z1 F (rel.ext e1) e1.z
/-- xs.append(e) -/
theorem snd_app (g : Gd k nm cal np lv N sc X W) {r : En → R LD} {i : Nat} {x : Str} {e : Expr} {p ap cp pos : Pos} (hx : N[i]? = some x) (hv : visB sc x = true) (he : PE X e (tE k Z0 H0 W r)) (hst : notStar e = true) (hline : (ap.endLine == cp.line) = true) :
    PS X (.Expr (.Call (.Attribute (.Name x p) "append" ap) [e] [] cp) pos) (tS k Z0 H0 W fun ε => match RS.own ε i with
      | some (lv, xs) => toO ε (r ε) fun x => if x.1 ≤ 2 ∧ xs.length < lim then putS i (some (lvWith lv x, .lst (xs ++ [x.2]))) ε else .bad
      | none => .bad) := by
  obtain ⟨v1, v2, v3⟩ := vis_of hv
  have s1 : starEach [e] X.env = (false, eval e X.env) :: starEach [] X.env := star_cons hst
  have hfew : ((backTo cp (starEach (e :: []) X.env)).all (fun x => !x.1) && (backToKw cp (keywordEach [] X.env)).all (fun x => x.1.isSome) && decide ((e :: []).length + ([] : List Keyword).length + (if ([] : List Keyword).isEmpty then 0 else 1) < 30)) = true := by rw [s1]; rfl
  refine PS.imp (ps_expr (pe_bm PySem.F.plainAttrs_list PySem.F.slot_list_append PySem.F.type_list_append mt_append (pe_var (i := i) (by rw [g.hN]; exact hx) (by rw [g.sc]; exact v1) v2 v3) (pa_cons he pa_nil s1) rfl hfew hline s1) rfl) fun D σ H ⟨Z, ε, F, rel, h⟩ => ?_
  try dsimp only at h
  split at h
  · rename_i l xs ho
    obtain ⟨a, vs, f, h1, h2, h3, h4, h5, hε, h6⟩ := rel.ownL ho
    refine ⟨.ref a, h1, .inl ⟨rfl, vs, .inl (.inl h3)⟩, Z, ε, F, rel, (AfterS.toO rel h).imp fun x ex h => ?_⟩
    intro w Z1 H1 fp e1 t1 n1
    split at h
    · rename_i hl
      obtain ⟨_, h⟩ := h.put
      obtain ⟨a', vs', g1, g2, g3, Z3, F3, r3, z3⟩ := rel.snoc ho e1 t1 n1 hl.1
      rw [h1] at g1
      cases g1
      refine ⟨a, vs', w, rfl, rfl, g2, ?_, h _ _ _ _ r3 fun b o q => z3 b o (e1.z b o q)⟩
      have hs : lim < sizeLine := by decide
      omega
    · exact h.elim
  · exact h.elim
/-- del xs[i] -/
theorem snd_delI (g : Gd k nm cal np lv N sc X W) {r : En → R LD} {i : Nat} {x : Str} {e : Expr} {p p2 pos : Pos} (hx : N[i]? = some x) (hv : visB sc x = true) (he : PE X e (tE k Z0 H0 W r)) :
    PS X (.Delete [.Subscript (.Name x p) e p2] pos) (tS k Z0 H0 W fun ε => match RS.own ε i with
      | some (lv, xs) => toO ε (r ε) fun y => (match y.2 with
        | .int j => (match L2.ixN xs.length j with
          | some n => if xs.length ≤ lim then putS i (some (lv, .lst (xs.eraseIdx n))) ε else .bad
          | none => .bad)
        | _ => .bad)
      | none => .bad) := by
  obtain ⟨v1, v2, v3⟩ := vis_of hv
  refine PS.imp (ps_delL (pe_var (i := i) (by rw [g.hN]; exact hx) (by rw [g.sc]; exact v1) v2 v3) he) fun D σ H ⟨Z, ε, F, rel, h⟩ => ?_
  try dsimp only at h
  split at h
  · rename_i l xs ho
    obtain ⟨a, vs, f, h1, h2, h3, h4, h5, hε, h6⟩ := rel.ownL ho
    refine ⟨.ref a, h1, Z, ε, F, rel, (AfterS.toO rel h).imp fun y ey h => ?_⟩
    intro w Z1 H1 fp e1 t1 n1
    obtain ⟨ly, dy⟩ := y
    dsimp only at h t1
    split at h
    · rename_i j
      cases t1.int
      split at h
      · rename_i n hn
        split at h
        case isFalse => exact h.elim
        rename_i hlim
        obtain ⟨_, h⟩ := h.put
        obtain ⟨hn1, hn2, hn3, hn4⟩ := ixN_seq hn
        have hL : lim = 1000000 := rfl
        have rel1 := rel.ext e1
        obtain ⟨a', vs', f', g1, g2, g3, g4, g5, g6, g7⟩ := rel1.ownL ho
        rw [h1] at g1
        cases g1
        have ndi := rel.nd i
        rw [g4] at ndi
        have nda := List.nodup_cons.mp ndi
        have fit : xs.length ≤ sizeLine ∨ True := .inr trivial
        have len : vs'.length = xs.length := g5
        have go : ∃ f2, ((l = 1 ∧ Shs k Z1 (vs'.eraseIdx n) (xs.eraseIdx n) ∧ f2 = []) ∨ (l = 2 ∧ Ows k Z1 H1 (vs'.eraseIdx n) (xs.eraseIdx n) f2)) ∧ f2.Nodup ∧ ∀ c ∈ f2, c ∈ f' := by
          rcases g7 with ⟨e1, rs, e2⟩ | ⟨e1, rs⟩
          · exact ⟨[], .inl ⟨e1, rs.eraseIdx, rfl⟩, List.nodup_nil, fun c m => by simp at m⟩
          · obtain ⟨f1, fv, f2, v, d, o1, o2, o3, o4, o5, o6⟩ := rs.split hn2
            refine ⟨f1 ++ f2, .inr ⟨e1, ?_⟩, ?_, fun c m => ?_⟩
            · rw [List.eraseIdx_eq_take_drop_succ, List.eraseIdx_eq_take_drop_succ]
              exact o1.append o3
            · have := nda.2
              rw [o6] at this
              simp only [List.nodup_append, List.mem_append] at this ⊢
              exact ⟨this.1, this.2.1.2.1, fun a ma b mb => this.2.2 a ma b (.inr mb)⟩
            · rw [o6]
              simp only [List.mem_append] at m ⊢
              rcases m with m | m
              · exact .inl m
              · exact .inr (.inr m)
        obtain ⟨f2, q, nd2, sub⟩ := go
        obtain ⟨F3, r3⟩ := rel1.change (f' := f2) h1 g4 g2 q nd2 (fun m => nda.1 (sub a m)) fun c m => by
          have mi : c ∈ F i := by rw [g4]; exact List.mem_cons_of_mem _ (sub c m)
          exact ⟨rel1.zf i c mi, rel.fn i c mi, fun j hj m2 => hj (rel.dj j i c m2 mi)⟩
        refine ⟨a, vs', j, n, rfl, rfl, g3, ?_, ?_, by rw [len]; exact hn1, h _ _ _ _ r3 e1.z⟩
        · omega
        · omega
      · exact h.elim
    · exact h.elim
  · exact h.elim
theorem retV_ok {r : LD} {l : Nat} {d : D} (h : retV r = .ok (l, d)) : d = r.2 ∧ ((r.1 ≤ 2 ∧ l = r.1) ∨ ((r.1 = 3 ∨ r.1 = 4) ∧ l = r.1 - 2)) := by
  unfold retV at h
  split at h
  · cases h; exact ⟨rfl, .inl ⟨by assumption, rfl⟩⟩
  · split at h
    · cases h; exact ⟨rfl, .inr ⟨by omega, rfl⟩⟩
    · cases h
theorem RelS.toExt {Z H : Hp} {σ : L2.St} {ε : En} {F : Nat → List Addr} (r : RelS k Z0 H0 Z H σ ε F) : Ext Z0 H0 Z H := ⟨r.h0, r.z0, r.zn, r.zh⟩
theorem snd_ret {r : En → R LD} {e : Expr} {pos : Pos} (he : PE X e (tE k Z0 H0 W r)) : PS X (.Return (some e) pos) (tS k Z0 H0 W fun ε => toO ε (r ε) fun x => .ret x ε) := PS.imp (ps_ret he) fun D σ H ⟨Z, ε, F, rel, h⟩ => by
  refine ⟨Z, ε, F, rel, (AfterS.toO rel h).imp fun x ex h => ?_⟩
  intro v Z1 H1 fp e1 t1 n1
  have h : (match retV x with | .ok (lv, d) => ∀ v Z' H' fp, Ext Z0 H0 Z' H' → Hd k Z' H' lv v d fp → New Z' H0 fp → D.rt v H' | _ => False) := h
  cases hr : retV x with
  | bad => rw [hr] at h; exact h.elim
  | exc c fs => rw [hr] at h; exact h.elim
  | ok y =>
    obtain ⟨l, d⟩ := y
    rw [hr] at h
    have r1 := rel.ext e1
    obtain ⟨rfl, hh⟩ := retV_ok hr
    rcases hh with ⟨hl, rfl⟩ | ⟨hl, rfl⟩
    · exact h v Z1 H1 fp r1.toExt (t1.hd hl) (n1.back rel.h0)
    · obtain ⟨lx, dx⟩ := x
      dsimp only at hl h t1
      have go : ∀ {fp' : List Addr}, (∀ a ∈ fp', ∃ i, a ∈ F i) → fp'.Nodup → New Z1 H0 fp' := fun {fp'} m nd => ⟨nd, fun a ma => by obtain ⟨i, mi⟩ := m a ma; exact rel.fn i a mi, fun a ma => by obtain ⟨i, mi⟩ := m a ma; exact r1.zf i a mi⟩
      rcases hl with rfl | rfl
      · obtain ⟨_, fp', hd, m, nd⟩ := t1
        exact h v Z1 H1 fp' r1.toExt hd (go m nd)
      · obtain ⟨_, fp', hd, m, nd⟩ := t1
        exact h v Z1 H1 fp' r1.toExt hd (go m nd)
theorem snd_retN {pos : Pos} : PS X (.Return none pos) (tS k Z0 H0 W fun ε => .ret (0, .non) ε) := PS.imp ps_retN fun D σ H ⟨Z, ε, F, rel, h⟩ => h .non Z H [] rel.toExt ⟨.non, rfl⟩ New.nil
theorem snd_pas {st : Stmt} (h : PS X st tNext) : PS X st (tS k Z0 H0 W fun ε => .nx ε) := PS.imp h fun D σ H ⟨Z, ε, F, rel, h⟩ => h σ H Z F rel fun _ _ e => e
theorem snd_brk {pos : Pos} : PS X (.Break pos) (tS k Z0 H0 W fun ε => .brk ε) := PS.imp ps_break fun D σ H ⟨Z, ε, F, rel, h⟩ => h σ H Z F rel fun _ _ e => e
theorem snd_cnt {pos : Pos} : PS X (.Continue pos) (tS k Z0 H0 W fun ε => .cnt ε) := PS.imp ps_continue fun D σ H ⟨Z, ε, F, rel, h⟩ => h σ H Z F rel fun _ _ e => e
theorem snd_if {t : Expr} {a b : List Stmt} {rt : En → R Bool} {ra rb : En → Out} {pos : Pos} (ht : PT X t (tT k Z0 H0 W rt)) (ha : PSs X a (tS k Z0 H0 W ra)) (hb : PSs X b (tS k Z0 H0 W rb)) :
    PS X (.If t a b pos) (tS k Z0 H0 W fun ε => toO ε (rt ε) fun c => if c then ra ε else rb ε) := PS.imp (ps_if ht ha hb) fun D σ H ⟨Z, ε, F, rel, h⟩ => by
  refine ⟨Z, ε, F, rel, (AfterS.toO rel h).imp fun c ec h => ?_⟩
  intro Z1 H1 e1
  cases c with
  | true =>
    simp only [if_true] at h ⊢
    exact ⟨Z1, ε, F, rel.ext e1, h.mono e1.z⟩
  | false =>
    simp only [Bool.false_eq_true, if_false] at h ⊢
    exact ⟨Z1, ε, F, rel.ext e1, h.mono e1.z⟩
theorem snd_sseq {st : Stmt} {sts : List Stmt} {ra rb : En → Out} (ha : PS X st (tS k Z0 H0 W ra)) (hb : PSs X sts (tS k Z0 H0 W rb)) :
    PSs X (st :: sts) (tS k Z0 H0 W fun ε => match ra ε with | .nx ε' => rb ε' | o => o) := PSs.imp (pss_cons ha hb) fun D σ H ⟨Z, ε, F, rel, h⟩ => by
  refine ⟨Z, ε, F, rel, ?_⟩
  cases hr : ra ε with
  | nx ε' =>
    simp only [hr] at h
    exact fun σ' H' Z' F' r' z => ⟨Z', ε', F', r', h.mono z⟩
  | brk ε' => simp only [hr] at h; exact h
  | cnt ε' => simp only [hr] at h; exact h
  | ret r ε' => simp only [hr] at h; exact h
  | exc c fs ε' => simp only [hr] at h; exact h
  | bad => simp only [hr] at h; exact h
theorem snd_snil : PSs X [] (tS k Z0 H0 W fun ε => .nx ε) := PSs.imp pss_nil fun D σ H ⟨Z, ε, F, rel, h⟩ => h σ H Z F rel fun _ _ e => e
theorem snd_frz {sts : List Stmt} {i : Nat} {rb : En → Out} (hb : PSs X sts (tS k Z0 H0 W rb)) :
    PSs X sts (tS k Z0 H0 W fun ε => match (match ε[i]? with
      | some (some (lv, d)) => if lv ≤ 2 then Out.nx (ε.set i (some (0, d))) else .bad
      | _ => .nx ε) with | .nx ε' => rb ε' | o => o) := PSs.imp hb fun D σ H ⟨Z, ε, F, rel, h⟩ => by
  try dsimp only at h
  cases e : ε[i]? with
  | none => rw [e] at h; exact ⟨Z, ε, F, rel, h⟩
  | some s =>
    cases s with
    | none => rw [e] at h; exact ⟨Z, ε, F, rel, h⟩
    | some p =>
      obtain ⟨l, d⟩ := p
      rw [e] at h
      dsimp only at h
      by_cases hl : l ≤ 2
      · rw [if_pos hl] at h
        obtain ⟨F', r⟩ := rel.frz e hl
        exact ⟨_, _, F', r, h.mono (zjoin_sub rel.zh)⟩
      · rw [if_neg hl] at h; exact h.elim
theorem snd_shl {sts : List Stmt} {i : Nat} {rb : En → Out} (hb : PSs X sts (tS k Z0 H0 W rb)) :
    PSs X sts (tS k Z0 H0 W fun ε => match (match ε[i]? with
      | some (some (2, .lst xs)) => Out.nx (ε.set i (some (1, .lst xs)))
      | _ => .nx ε) with | .nx ε' => rb ε' | o => o) := PSs.imp hb fun D σ H ⟨Z, ε, F, rel, h⟩ => by
  try dsimp only at h
  cases e : ε[i]? with
  | none => rw [e] at h; exact ⟨Z, ε, F, rel, h⟩
  | some s =>
    cases s with
    | none => rw [e] at h; exact ⟨Z, ε, F, rel, h⟩
    | some p =>
      obtain ⟨l, d⟩ := p
      rw [e] at h
      try dsimp only at h
      match l with
      | 0 => exact ⟨Z, ε, F, rel, h⟩
      | 1 => exact ⟨Z, ε, F, rel, h⟩
      | n + 3 => exact ⟨Z, ε, F, rel, h⟩
      | 2 =>
        cases d with
        | lst xs =>
          obtain ⟨Z', F', r, z⟩ := rel.shl e
          exact ⟨_, _, F', r, h.mono z⟩
        | _ => exact ⟨Z, ε, F, rel, h⟩
/-- while -/
theorem snd_whl (g : Gd k nm cal np lv N sc X W) {t : Expr} {b : List Stmt} {rt : En → R Bool} {rb : En → Out} {pos : Pos} (ht : PT X t (tT k Z0 H0 W rt)) (hb : PSs X b (tS k Z0 H0 W rb)) (n : Nat) :
    PS X (.While t b [] pos) (tS k Z0 H0 W fun ε => whlL rt rb n ε) := PS.imp (ps_while g.own ht hb) fun D σ H ⟨Z, ε, F, rel, h⟩ => by
  refine ⟨fun m σ H => ∃ Z ε F, RelS k Z0 H0 Z H σ ε F ∧ AfterS k Z0 H0 W Z D (whlL rt rb m ε), ⟨n, Z, ε, F, rel, h⟩, ?_⟩
  rintro m σ H ⟨Z, ε, F, rel, h⟩
  cases m with
  | zero => exact h.elim
  | succ m =>
    unfold whlL at h
    refine ⟨Z, ε, F, rel, (AfterS.toO rel h).imp fun c ec h => ?_⟩
    intro Z1 H1 e1
    cases c with
    | false =>
      simp only [Bool.false_eq_true, if_false] at h ⊢
      exact h σ H1 Z1 F (rel.ext e1) e1.z
    | true =>
      simp only [if_true] at h ⊢
      refine ⟨fun σ' H' => ∃ Z ε F, RelS k Z0 H0 Z H' σ' ε F ∧ AfterS k Z0 H0 W Z D (whlL rt rb m ε), fun σ' H' q => ⟨m, Nat.lt_succ_self m, q⟩, Z1, ε, F, rel.ext e1, ?_⟩
      have h := h.mono e1.z
      cases hr : rb ε with
      | nx ε' => rw [hr] at h; exact fun σ' H' Z' F' r' z => ⟨Z', ε', F', r', h.mono z⟩
      | cnt ε' => rw [hr] at h; exact fun σ' H' Z' F' r' z => ⟨Z', ε', F', r', h.mono z⟩
      | brk ε' => rw [hr] at h; exact h
      | ret r ε' => rw [hr] at h; exact h
      | exc c fs ε' => rw [hr] at h; exact h
      | bad => rw [hr] at h; exact h
/-- for -/
theorem snd_for (g : Gd k nm cal np lv N sc X W) {tgE iter : Expr} {b : List Stmt} {ri : En → R (List D)} {tg : Tg} {rb : En → Out} {pos : Pos} (hi : PI X tgE iter (tI k Z0 H0 W true ri)) (hg : PG X tgE (gT X.K tg)) (hb : PSs X b (tS k Z0 H0 W rb)) (hs : ∀ x, foldedSetIterable iter X.env x = pure x) :
    PS X (.For tgE iter b [] pos) (tS k Z0 H0 W fun ε => toO ε (ri ε) fun xs => forL rb tg xs ε) := PS.imp (ps_for g.own g.calm hi hg hb hs) fun D σ H ⟨Z, ε, F, rel, h⟩ => by
  refine ⟨Z, ε, F, rel, (AfterS.toO rel h).imp fun xs exs h => ?_⟩
  intro J Z1 H1 e1 wk
  refine ⟨fun i m σ H => m = xs.length - i ∧ i ≤ xs.length ∧ ∃ Z ε F, RelS k Z0 H0 Z H σ ε F ∧ Zle Z1 Z ∧ AfterS k Z0 H0 W Z D (forL rb tg (xs.drop i) ε), ⟨xs.length, by simp, by omega, Z1, ε, F, rel.ext e1, fun _ _ q => q, h.mono e1.z⟩, ?_⟩
  rintro i m σ H ⟨rfl, hi, Z, ε, F, rel, z1, h⟩
  obtain ⟨w1, w2⟩ := wk Z H ⟨z1, fun z => by cases z⟩ rel.zh i
  by_cases hlt : i < xs.length
  · right
    obtain ⟨go, yld⟩ := w1 hlt
    refine ⟨go, fun σ' H' => ∃ Z ε F, RelS k Z0 H0 Z H' σ' ε F ∧ Zle Z1 Z ∧ AfterS k Z0 H0 W Z D (forL rb tg (xs.drop (i + 1)) ε), fun σ' H' q => ⟨xs.length - (i + 1), by omega, rfl, hlt, q⟩, fun x H' hy => ?_⟩
    obtain ⟨Z2, d, e2, hd, hsh⟩ := yld x H' hy
    have hdr : xs.drop i = d :: xs.drop (i + 1) := by
      rw [List.drop_eq_getElem_cons hlt]
      have : xs[i] = d := by rw [List.getElem?_eq_getElem hlt] at hd; exact Option.some.inj hd
      rw [this]
    rw [hdr] at h
    unfold forL at h
    cases hst : setTg tg d ε with
    | none => rw [hst] at h; exact h.elim
    | some ε1 =>
      rw [hst] at h
      dsimp only at h
      refine gT_store g.hK (rel.ext e2) hsh hst fun σ2 F2 r2 _ _ => ⟨Z2, ε1, F2, r2, ?_⟩
      have h := h.mono e2.z
      have zz : ∀ {Z'}, Zle Z2 Z' → Zle Z1 Z' := fun z a o q => z a o (e2.z a o (z1 a o q))
      cases hr : rb ε1 with
      | nx ε' => rw [hr] at h; exact fun σ' H' Z' F' r' z => ⟨Z', ε', F', r', zz z, h.mono z⟩
      | cnt ε' => rw [hr] at h; exact fun σ' H' Z' F' r' z => ⟨Z', ε', F', r', zz z, h.mono z⟩
      | brk ε' => rw [hr] at h; exact h
      | ret r ε' => rw [hr] at h; exact h
      | exc c fs ε' => rw [hr] at h; exact h
      | bad => rw [hr] at h; exact h
  · left
    have hi' : i = xs.length := by omega
    subst hi'
    rw [List.drop_length] at h
    exact ⟨w2 rfl, h σ H Z F rel fun _ _ q => q⟩
/-- name op= e -/
theorem aug_pip {X : Cx} (op : Bop) : PIp X (opP op) (fun x y H Q => ∃ i j z, x = .int i ∧ y = .int j ∧ augV op i j = .ok (0, .int z) ∧ Q (.int z) H) := by
  intro pins s σ H x y v u Q I r1 r2 h
  obtain ⟨i, j, z, rfl, rfl, e, q⟩ := h
  cases op with
  | add => cases e; exact iop_add pins s σ H _ _ v u Q I r1 r2 ⟨i, j, rfl, rfl, q⟩
  | sub => cases e; exact iop_sub pins s σ H _ _ v u Q I r1 r2 ⟨i, j, rfl, rfl, q⟩
  | mul =>
    unfold augV at e
    dsimp only at e
    split at e
    · cases e; exact iop_mul pins s σ H _ _ v u Q I r1 r2 ⟨i, j, rfl, rfl, by assumption, q⟩
    · cases e
  | _ => cases e
theorem augV_int {op : Bop} {i j : Int} {z : LD} (h : augV op i j = .ok z) : ∃ n, z = (0, .int n) := by
  unfold augV at h
  repeat' split at h
  all_goals first | (cases h; exact ⟨_, rfl⟩) | (cases h; done)
theorem snd_aug (g : Gd k nm cal np lv N sc X W) {r : En → R LD} {i : Nat} {x : Str} {op : Bop} {e : Expr} {p pos : Pos} (hx : N[i]? = some x) (hl : sc.names.lookup x = some .local ∨ (sc.names.lookup x = some .cell ∧ X.fn x = true)) (he : PE X e (tE k Z0 H0 W r)) :
    PS X (.AugAssign (.Name x p) (opP op) e pos) (tS k Z0 H0 W fun ε => toO ε (getS ε i) fun x => toO ε (r ε) fun y => match x.2, y.2 with
      | .int m, .int n => toO ε (augV op m n) fun z => putS i (some z) ε
      | _, _ => .bad) := PS.imp (ps_aug (g.hN ▸ g.nd) (by rw [g.hN]; exact hx) (by rw [g.sc]; exact hl.imp id And.left) he (aug_pip op) (by rw [g.sc]; exact hl.elim .inr fun h => .inl h.2)) fun D σ H ⟨Z, ε, F, rel, h⟩ => by
  try dsimp only at h
  cases hs : getS ε i with
  | bad => rw [hs] at h; exact h.elim
  | exc c fs =>
    unfold getS at hs
    repeat' split at hs
    all_goals cases hs
  | ok s =>
    rw [hs] at h
    have h : AfterS k Z0 H0 W Z D (toO ε (r ε) fun y => match s.2, y.2 with
      | .int m, .int n => toO ε (augV op m n) fun z => putS i (some z) ε
      | _, _ => .bad) := h
    have slot : ∃ v l d, σ[i]? = some (some v) ∧ ε[i]? = some (some (l, d)) ∧ s.2 = d ∧ (∀ n, d = .int n → v = .int n) := by
      unfold getS at hs
      split at hs
      · rename_i l d e
        obtain ⟨v, ev, hd, hi⟩ := rel.at e
        refine ⟨v, l, d, ev, e, ?_, fun n en => ?_⟩
        · repeat' split at hs
          all_goals first | (cases hs; rfl) | cases hs
        · subst en
          match l, hd with
          | 0, hd => cases hd.1; rfl
          | 1, ⟨b, xs, ds, _, h2, _⟩ => cases h2
          | 2, hd => exact Ow.int hd
          | 5, ⟨b, dx, c, vs, ds, h1, h2, _⟩ => cases h2
          | 6, ⟨b, dx, c, vs, ds, fq, h1, h2, _⟩ => cases h2
          | 3, hd => exact hd.elim
          | 4, hd => exact hd.elim
          | n + 7, hd => exact hd.elim
      · cases hs
    obtain ⟨v, l, d, ev, e, rfl, hint⟩ := slot
    refine ⟨v, ev, Z, ε, F, rel, (AfterS.toO rel h).imp fun y ey h => ?_⟩
    intro w Z1 H1 fp e1 t1 n1
    obtain ⟨ly, dy⟩ := y
    dsimp only at h t1
    split at h
    · rename_i m n hm
      cases t1.int
      have h := (h.mono e1.z).toO (rel.ext e1)
      cases ha : augV op m n with
      | bad => rw [ha] at h; exact h.elim
      | exc c fs =>
        unfold augV at ha
        repeat' split at ha
        all_goals cases ha
      | ok z =>
        rw [ha] at h
        obtain ⟨q, rfl⟩ := augV_int ha
        obtain ⟨hi, h⟩ := AfterS.put (show AfterS k Z0 H0 W Z1 D (putS i (some (0, .int q)) ε) from h)
        exact ⟨m, n, q, hint m hm, rfl, ha, h _ _ _ _ ((rel.ext e1).put0 (.int q) hi) fun _ _ q => q⟩
    · exact h.elim
end
end RS

/-! RsForA -/
namespace RS
open PySem PySem.Spec
open PyProof.Rows L2
/-! ### for x in a name's own list: if t: p = e -/
def contL (K : En → Out) (o : Out) : Out := match o with
  | .nx ε2 => K ε2
  | .cnt ε2 => K ε2
  | .brk ε2 => .nx ε2
  | o => o
theorem contL_toO {α : Type} {K : En → Out} {ε : En} {r : R α} {f : α → Out} : contL K (toO ε r f) = toO ε r fun a => contL K (f a) := by cases r <;> rfl
theorem own_set {ε : En} {i j : Nat} {o : Option LD} (h : i ≠ j) : RS.own (ε.set j o) i = RS.own ε i := by
  unfold RS.own
  rw [List.getElem?_set_ne (Ne.symm h)]
section
variable {k : Kc} {nm : Nm} {cal : Cl → R LD} {np : Nat → Nat} {lv : Nat} {N : List Str} {sc : Scope} {X : Cx} {W : WX} {Z0 H0 : Hp}
theorem snd_forA (g : Gd k nm cal np lv N sc X W) {rt : En → R Bool} {re : En → R LD} {i j p : Nat} {x y z : Str} {tE eE : Expr} {px py pz pa pif pos : Pos} (hx : N[i]? = some x) (hv : visB sc x = true)
    (hy : N[j]? = some y) (hyl : sc.names.lookup y = some .local ∨ (sc.names.lookup y = some .cell ∧ X.fn y = true)) (hz : N[p]? = some z) (hzl : sc.names.lookup z = some .local ∨ (sc.names.lookup z = some .cell ∧ X.fn z = true))
    (ht : PT X tE (tT k Z0 H0 W rt)) (he : PE X eE (RS.tE k Z0 H0 W re)) (hs : swapsWith eE (some (.Name z pz)) pa.line X.env = pure false) :
    PS X (.For (.Name y py) (.Name x px) [.If tE [.Assign [.Name z pz] eE pa] [] pif] [] pos) (tS k Z0 H0 W (forA i j p rt re)) := by
  obtain ⟨v1, v2, v3⟩ := vis_of hv
  have pv : PE X (.Name x px) (tVar i) := pe_var (i := i) (by rw [g.hN]; exact hx) (by rw [g.sc]; exact v1) v2 v3
  have pgy : PG X (.Name y py) (gName j) := pg_name (g.hN ▸ g.nd) (by rw [g.hN]; exact hy) (by rw [g.sc]; exact hyl.imp id And.left) (by rw [g.sc]; exact hyl.elim .inr fun h => .inl h.2)
  have psz : PS X (.Assign [.Name z pz] eE pa) (tAsg (RS.tE k Z0 H0 W re) (gName p)) := ps_set (g.hN ▸ g.nd) (by rw [g.hN]; exact hz) (by rw [g.sc]; exact hzl.imp id And.left) he hs (by rw [g.sc]; exact hzl.elim .inr fun h => .inl h.2)
  refine PS.imp (ps_for g.own g.calm (pi_list pv) pgy (pss_one (ps_if ht (pss_one psz) pss_nil)) (by intro _; rfl)) fun D σ H ⟨Z, ε, F, rel, h⟩ => ?_
  unfold forA at h
  split at h
  · rename_i l xs ho
    split at h
    · rename_i hc
      obtain ⟨hlf, hij, hip⟩ := hc
      obtain ⟨a, vs, f, h1, h2, h3, h4, h5, hε, h6⟩ := rel.ownL ho
      refine ⟨.ref a, h1, a, rfl, ⟨vs, .inl (.inl h3)⟩, ?_⟩
      refine ⟨fun n m σ H => m = xs.length - n ∧ n ≤ xs.length ∧ ∃ Z ε F, RelS k Z0 H0 Z H σ ε F ∧ RS.own ε i = some (l, xs) ∧ σ[i]? = some (some (.ref a)) ∧ AfterS k Z0 H0 W Z D (forL (fun ε => toO ε (rt ε) fun c => if c then asgF p (re ε) ε else .nx ε) (.one j) (xs.drop n) ε),
        ⟨xs.length, by simp, by omega, Z, ε, F, rel, ho, h1, h⟩, ?_⟩
      rintro n m σ H ⟨rfl, hn, Z, ε, F, rel, ho, h1, h⟩
      obtain ⟨a', vs, f, g1, g2, g3, g4, g5, gε, g6⟩ := rel.ownL ho
      rw [h1] at g1
      cases g1
      have sq : SqL X.K H a vs := .inl (.inl g3)
      by_cases hlt : n < xs.length
      · right
        have hlv : n < vs.length := by omega
        refine ⟨⟨vs, vs[n], sq, List.getElem?_eq_getElem hlv⟩, fun σ' H' => ∃ Z ε F, RelS k Z0 H0 Z H' σ' ε F ∧ RS.own ε i = some (l, xs) ∧ σ'[i]? = some (some (.ref a)) ∧ AfterS k Z0 H0 W Z D (forL (fun ε => toO ε (rt ε) fun c => if c then asgF p (re ε) ε else .nx ε) (.one j) (xs.drop (n + 1)) ε),
          fun σ' H' q => ⟨xs.length - (n + 1), by omega, rfl, hlt, q⟩, fun v H' hy => ?_⟩
        obtain ⟨rfl, hy⟩ := hy
        have hv := hy vs sq
        rw [List.getElem?_eq_getElem hlv] at hv
        have shs : Shs k Z vs xs := by
          rcases g6 with ⟨_, q, _⟩ | ⟨_, q⟩
          · exact q
          · exact (q.free hlf).1
        obtain ⟨v', hv', sh⟩ := shs.get (List.getElem?_eq_getElem hlt)
        rw [List.getElem?_eq_getElem hlv] at hv'
        obtain rfl : v' = v := (Option.some.inj hv').symm.trans (Option.some.inj hv)
        rw [List.drop_eq_getElem_cons hlt] at h
        unfold forL at h
        unfold setTg at h
        dsimp only at h
        by_cases hj : j < ε.length
        case neg => rw [if_neg hj] at h; exact h.elim
        rw [if_pos hj] at h
        dsimp only at h
        have h : AfterS k Z0 H0 W Z D (contL (fun ε2 => forL (fun ε => toO ε (rt ε) fun c => if c then asgF p (re ε) ε else .nx ε) (.one j) (xs.drop (n + 1)) ε2) (toO (ε.set j (some (0, xs[n]))) (rt (ε.set j (some (0, xs[n])))) fun c => if c then asgF p (re (ε.set j (some (0, xs[n])))) (ε.set j (some (0, xs[n]))) else .nx (ε.set j (some (0, xs[n]))))) := h
        rw [contL_toO] at h
        have r1 := rel.put0 sh hj
        have o1 : RS.own (ε.set j (some (0, xs[n]))) i = some (l, xs) := (own_set hij).trans ho
        have s1 : (σ.set j (some v'))[i]? = some (some (.ref a)) := by rw [List.getElem?_set_ne (Ne.symm hij)]; exact h1
        generalize ε.set j (some (0, xs[n])) = ε1 at h r1 o1
        refine ⟨Z, ε1, _, r1, (AfterS.toO r1 h).imp fun c ec h => ?_⟩
        intro Z1 H1 e1
        have r2 := r1.ext e1
        cases c with
        | false =>
          simp only [Bool.false_eq_true, if_false] at h ⊢
          exact ⟨Z1, ε1, _, r2, o1, s1, h.mono e1.z⟩
        | true =>
          simp only [if_true] at h ⊢
          unfold asgF at h
          rw [contL_toO] at h
          refine ⟨Z1, ε1, _, r2, (AfterS.toO r2 (h.mono e1.z)).imp fun q eq h => ?_⟩
          intro w Z2 H2 fp e2 t2 n2
          obtain ⟨lq, d⟩ := q
          unfold keepV at h
          dsimp only at h t2
          by_cases hl : lq ≤ 2
          case neg => rw [if_neg hl] at h; exact h.elim
          rw [if_pos hl] at h
          simp only [true_or, if_true] at h
          unfold putS at h
          by_cases hp : p < ε1.length
          case neg => rw [if_neg hp] at h; exact h.elim
          rw [if_pos hp] at h
          have hd := t2.hd hl
          have r3 := r2.ext (e2.freeze n2.n)
          refine ⟨_, _, _, r3.put0 (hd.share (zjoin_sub e2.zh) fun a m => zjoin_in m) hp, (own_set hip).trans o1, ?_, h.mono (e2.freeze n2.n).z⟩
          rw [List.getElem?_set_ne (Ne.symm hip)]
          exact s1
      · left
        have hi' : n = xs.length := by omega
        subst hi'
        rw [List.drop_length] at h
        exact ⟨⟨vs, sq, by omega⟩, h σ H Z F rel fun _ _ q => q⟩
    · exact h.elim
  · exact h.elim
theorem snd_forQ (g : Gd k nm cal np lv N sc X W) {rt : En → R Bool} {re : En → R LD} {i j : Nat} {x y : Str} {tE eE : Expr} {px py pa pif pos : Pos} (hx : N[i]? = some x) (hv : visB sc x = true)
    (hy : N[j]? = some y) (hyl : sc.names.lookup y = some .local ∨ (sc.names.lookup y = some .cell ∧ X.fn y = true))
    (ht : PT X tE (tT k Z0 H0 W rt)) (he : PE X eE (RS.tE k Z0 H0 W re)) :
    PS X (.For (.Name y py) (.Name x px) [.If tE [.Return (some eE) pa] [] pif] [] pos) (tS k Z0 H0 W (forQ i j rt re)) := by
  obtain ⟨v1, v2, v3⟩ := vis_of hv
  have pv : PE X (.Name x px) (tVar i) := pe_var (i := i) (by rw [g.hN]; exact hx) (by rw [g.sc]; exact v1) v2 v3
  have pgy : PG X (.Name y py) (gName j) := pg_name (g.hN ▸ g.nd) (by rw [g.hN]; exact hy) (by rw [g.sc]; exact hyl.imp id And.left) (by rw [g.sc]; exact hyl.elim .inr fun h => .inl h.2)
  have psz : PS X (.Return (some eE) pa) (tS k Z0 H0 W fun ε => toO ε (re ε) fun x => .ret x ε) := snd_ret he
  refine PS.imp (ps_for g.own g.calm (pi_list pv) pgy (pss_one (ps_if ht (pss_one psz) pss_nil)) (by intro _; rfl)) fun D σ H ⟨Z, ε, F, rel, h⟩ => ?_
  unfold forQ at h
  split at h
  · rename_i l xs ho
    split at h
    · rename_i hc
      obtain ⟨hlf, hij⟩ := hc
      obtain ⟨a, vs, f, h1, h2, h3, h4, h5, hε, h6⟩ := rel.ownL ho
      refine ⟨.ref a, h1, a, rfl, ⟨vs, .inl (.inl h3)⟩, ?_⟩
      refine ⟨fun n m σ H => m = xs.length - n ∧ n ≤ xs.length ∧ ∃ Z ε F, RelS k Z0 H0 Z H σ ε F ∧ RS.own ε i = some (l, xs) ∧ σ[i]? = some (some (.ref a)) ∧ AfterS k Z0 H0 W Z D (forL (fun ε => toO ε (rt ε) fun c => if c then toO ε (re ε) fun x => .ret x ε else .nx ε) (.one j) (xs.drop n) ε),
        ⟨xs.length, by simp, by omega, Z, ε, F, rel, ho, h1, h⟩, ?_⟩
      rintro n m σ H ⟨rfl, hn, Z, ε, F, rel, ho, h1, h⟩
      obtain ⟨a', vs, f, g1, g2, g3, g4, g5, gε, g6⟩ := rel.ownL ho
      rw [h1] at g1
      cases g1
      have sq : SqL X.K H a vs := .inl (.inl g3)
      by_cases hlt : n < xs.length
      · right
        have hlv : n < vs.length := by omega
        refine ⟨⟨vs, vs[n], sq, List.getElem?_eq_getElem hlv⟩, fun σ' H' => ∃ Z ε F, RelS k Z0 H0 Z H' σ' ε F ∧ RS.own ε i = some (l, xs) ∧ σ'[i]? = some (some (.ref a)) ∧ AfterS k Z0 H0 W Z D (forL (fun ε => toO ε (rt ε) fun c => if c then toO ε (re ε) fun x => .ret x ε else .nx ε) (.one j) (xs.drop (n + 1)) ε),
          fun σ' H' q => ⟨xs.length - (n + 1), by omega, rfl, hlt, q⟩, fun v H' hy => ?_⟩
        obtain ⟨rfl, hy⟩ := hy
        have hv := hy vs sq
        rw [List.getElem?_eq_getElem hlv] at hv
        have shs : Shs k Z vs xs := by
          rcases g6 with ⟨_, q, _⟩ | ⟨_, q⟩
          · exact q
          · exact (q.free hlf).1
        obtain ⟨v', hv', sh⟩ := shs.get (List.getElem?_eq_getElem hlt)
        rw [List.getElem?_eq_getElem hlv] at hv'
        obtain rfl : v' = v := (Option.some.inj hv').symm.trans (Option.some.inj hv)
        rw [List.drop_eq_getElem_cons hlt] at h
        unfold forL at h
        unfold setTg at h
        dsimp only at h
        by_cases hj : j < ε.length
        case neg => rw [if_neg hj] at h; exact h.elim
        rw [if_pos hj] at h
        dsimp only at h
        have h : AfterS k Z0 H0 W Z D (contL (fun ε2 => forL (fun ε => toO ε (rt ε) fun c => if c then toO ε (re ε) fun x => .ret x ε else .nx ε) (.one j) (xs.drop (n + 1)) ε2) (toO (ε.set j (some (0, xs[n]))) (rt (ε.set j (some (0, xs[n])))) fun c => if c then toO (ε.set j (some (0, xs[n]))) (re (ε.set j (some (0, xs[n])))) fun x => .ret x (ε.set j (some (0, xs[n]))) else .nx (ε.set j (some (0, xs[n]))))) := h
        rw [contL_toO] at h
        have r1 := rel.put0 sh hj
        have o1 : RS.own (ε.set j (some (0, xs[n]))) i = some (l, xs) := (own_set hij).trans ho
        have s1 : (σ.set j (some v'))[i]? = some (some (.ref a)) := by rw [List.getElem?_set_ne (Ne.symm hij)]; exact h1
        generalize ε.set j (some (0, xs[n])) = ε1 at h r1 o1
        refine ⟨Z, ε1, _, r1, (AfterS.toO r1 h).imp fun c ec h => ?_⟩
        intro Z1 H1 e1
        have r2 := r1.ext e1
        cases c with
        | false =>
          simp only [Bool.false_eq_true, if_false] at h ⊢
          exact ⟨Z1, ε1, _, r2, o1, s1, h.mono e1.z⟩
        | true =>
          simp only [if_true] at h ⊢
          rw [contL_toO] at h
          refine ⟨Z1, ε1, _, r2, ?_⟩
          have h := h.mono e1.z
          show AfterS _ _ _ _ _ _ (toO ε1 (re ε1) fun x => .ret x ε1)
          generalize re ε1 = q at h ⊢
          cases q <;> exact h
      · left
        have hi' : n = xs.length := by omega
        subst hi'
        rw [List.drop_length] at h
        exact ⟨⟨vs, sq, by omega⟩, h σ H Z F rel fun _ _ q => q⟩
    · exact h.elim
  · exact h.elim
end
end RS

/-! RsLm -/
namespace RS
open PySem PySem.Spec
open PyProof.Rows L2
/-! ### a list of numbers, changed by its methods -/
section
variable {k : Kc} {nm : Nm} {cal : Cl → R LD} {np : Nat → Nat} {lv : Nat} {N : List Str} {sc : Scope} {X : Cx} {W : WX} {Z0 H0 : Hp}
theorem intsOf_ows {Z H : Hp} : ∀ {ds : List D} {ns : List Int} {xs : List V} {f : List Addr}, intsOf ds = some ns → Ows k Z H xs ds f → xs = ns.map V.int
  | [], ns, _, _, h, .nil => by cases h; rfl
  | .int i :: r, ns, _, _, h, .cons a t => by
    unfold intsOf at h
    cases e : intsOf r with
    | none => rw [e] at h; cases h
    | some ms =>
      rw [e] at h
      cases h
      rw [intsOf_ows e t, a.int]
      rfl
  | .non :: _, _, _, _, h, _ => by simp [intsOf] at h
  | .bl _ :: _, _, _, _, h, _ => by simp [intsOf] at h
  | .str _ :: _, _, _, _, h, _ => by simp [intsOf] at h
  | .tup _ :: _, _, _, _, h, _ => by simp [intsOf] at h
  | .lst _ :: _, _, _, _, h, _ => by simp [intsOf] at h
  | .ins _ _ :: _, _, _, _, h, _ => by simp [intsOf] at h
  | .scr _ :: _, _, _, _, h, _ => by simp [intsOf] at h
theorem shs_ints {Z : Hp} : ∀ (ns : List Int), Shs k Z (ns.map V.int) (ns.map D.int)
  | [] => .nil
  | n :: r => .cons (.int n) (shs_ints r)
theorem ows_ints {Z H : Hp} : ∀ (ns : List Int), Ows k Z H (ns.map V.int) (ns.map D.int) []
  | [] => .nil
  | n :: r => Ows.cons (f := []) (fp := []) (.sh (.int n) rfl) (ows_ints r)
/-- what is owned, if it is numbers -/
theorem RelS.ints {Z H : Hp} {σ : L2.St} {ε : En} {F : Nat → List Addr} {i l : Nat} {xs : List D} {ns : List Int} (rel : RelS k Z0 H0 Z H σ ε F) (ho : RS.own ε i = some (l, xs)) (hn : intsOf xs = some ns) :
    ∃ a, σ[i]? = some (some (.ref a)) ∧ H a = some (.lst (ns.map V.int)) ∧ xs.length = ns.length ∧ ∀ ms : List Int, ∃ F', RelS k Z0 H0 Z (upd H a (.lst (ms.map V.int))) σ (ε.set i (some (l, .lst (ms.map D.int)))) F' := by
  obtain ⟨a, vs, f, h1, h2, h3, h4, h5, hε, h6⟩ := rel.ownL ho
  have hv : vs = ns.map V.int := by
    rcases h6 with ⟨_, s, _⟩ | ⟨_, s⟩
    · exact intsOf_shs hn s
    · exact intsOf_ows hn s
  subst hv
  refine ⟨a, h1, h3, by rw [← h5, List.length_map], fun ms => ?_⟩
  refine rel.change (f' := []) h1 h4 h2 ?_ List.nodup_nil (by simp) (fun c m => by simp at m)
  rcases h6 with ⟨e, _, _⟩ | ⟨e, _⟩
  · exact .inl ⟨e, shs_ints ms, rfl⟩
  · exact .inr ⟨e, ows_ints ms⟩
def lmS (i : Nat) (m : Lm) (r : En → R (List LD)) (ε : En) : Out := match RS.own ε i with
  | some (lv, xs) => (match intsOf xs with
    | some ns => toO ε (r ε) fun ys => (match lmV m ns ys with
      | some ms => if ns.length < lim then putS i (some (lv, .lst (ms.map D.int))) ε else .bad
      | none => .bad)
    | none => .bad)
  | none => .bad
/-- xs.remove(e) -/
theorem snd_rem (g : Gd k nm cal np lv N sc X W) {r : En → R LD} {i : Nat} {x : Str} {e : Expr} {p ap cp pos : Pos} (hx : N[i]? = some x) (hv : visB sc x = true) (he : PE X e (tE k Z0 H0 W r)) (hst : notStar e = true) (hline : (ap.endLine == cp.line) = true) :
    PS X (.Expr (.Call (.Attribute (.Name x p) "remove" ap) [e] [] cp) pos) (tS k Z0 H0 W (lmS i .remove fun ε => (r ε).bind fun y => .ok [y])) := by
  obtain ⟨v1, v2, v3⟩ := vis_of hv
  have s1 : starEach [e] X.env = (false, eval e X.env) :: starEach [] X.env := star_cons hst
  have hfew : ((backTo cp (starEach (e :: []) X.env)).all (fun x => !x.1) && (backToKw cp (keywordEach [] X.env)).all (fun x => x.1.isSome) && decide ((e :: []).length + ([] : List Keyword).length + (if ([] : List Keyword).isEmpty then 0 else 1) < 30)) = true := by rw [s1]; rfl
  refine PS.imp (ps_expr (pe_remX g.calm g.tk (pe_var (i := i) (by rw [g.hN]; exact hx) (by rw [g.sc]; exact v1) v2 v3) he rfl hfew hline s1) rfl) fun D σ H ⟨Z, ε, F, rel, h⟩ => ?_
  unfold lmS at h
  split at h
  · rename_i l xs ho
    split at h
    · rename_i ns hn
      obtain ⟨a, h1, h3, hlen, _⟩ := rel.ints ho hn
      refine ⟨.ref a, h1, .inl ⟨rfl, _, .inl (.inl h3)⟩, Z, ε, F, rel, (After.bind (AfterS.toO rel h)).imp fun y ey h => ?_⟩
      intro w Z1 H1 fp e1 t1 n1
      have h : AfterS k Z0 H0 W Z D (match lmV .remove ns [y] with | some ms => if ns.length < lim then putS i (some (l, .lst (ms.map RS.D.int))) ε else .bad | none => .bad) := h
      obtain ⟨ly, dy⟩ := y
      unfold lmV at h
      cases dy with
      | int q =>
        dsimp only at h t1
        by_cases hq : q ∈ ns
        · rw [if_pos hq] at h
          dsimp only at h
          split at h
          · obtain ⟨a', g1, g3, _, gm⟩ := (rel.ext e1).ints ho hn
            rw [h1] at g1
            cases g1
            obtain ⟨_, h⟩ := h.put
            obtain ⟨F', r'⟩ := gm (ns.erase q)
            exact ⟨a, ns, q, rfl, t1.int, g3, fun _ => h _ _ _ _ r' e1.z, fun z => absurd hq z⟩
          · exact h.elim
        · rw [if_neg hq] at h; exact h.elim
      | _ => exact h.elim
    · exact h.elim
  · exact h.elim
/-- xs.insert(e, e2) -/
theorem snd_ins (g : Gd k nm cal np lv N sc X W) {rs : En → R (List LD)} {i : Nat} {x : Str} {e e2 : Expr} {p ap cp pos : Pos} (hx : N[i]? = some x) (hv : visB sc x = true) (ha : PA X [e, e2] (tA k Z0 H0 W rs)) (hlen : ∀ ε xs, rs ε = .ok xs → xs.length = 2) (hst : notStar e = true) (hst2 : notStar e2 = true) (hline : (ap.endLine == cp.line) = true) :
    PS X (.Expr (.Call (.Attribute (.Name x p) "insert" ap) [e, e2] [] cp) pos) (tS k Z0 H0 W (lmS i .insert rs)) := by
  obtain ⟨v1, v2, v3⟩ := vis_of hv
  have s2 : starEach [e2] X.env = (false, eval e2 X.env) :: starEach [] X.env := star_cons hst2
  have s1 : starEach [e, e2] X.env = (false, eval e X.env) :: starEach [e2] X.env := star_cons hst
  have hfew : ((backTo cp (starEach (e :: [e2]) X.env)).all (fun x => !x.1) && (backToKw cp (keywordEach [] X.env)).all (fun x => x.1.isSome) && decide ((e :: [e2]).length + ([] : List Keyword).length + (if ([] : List Keyword).isEmpty then 0 else 1) < 30)) = true := by rw [s1, s2]; rfl
  refine PS.imp (ps_expr (pe_bm PySem.F.plainAttrs_list PySem.F.slot_list_insert PySem.F.type_list_insert mt_insert (pe_var (i := i) (by rw [g.hN]; exact hx) (by rw [g.sc]; exact v1) v2 v3) ha rfl hfew hline s1 (by rw [s2]; rfl)) rfl) fun D σ H ⟨Z, ε, F, rel, h⟩ => ?_
  unfold lmS at h
  split at h
  · rename_i l xs ho
    split at h
    · rename_i ns hn
      obtain ⟨a, h1, h3, hl, _⟩ := rel.ints ho hn
      refine ⟨.ref a, h1, .inl ⟨rfl, _, .inl (.inl h3)⟩, Z, ε, F, rel, (AfterS.toO rel h).imp fun ys ey h => ?_⟩
      intro ws Z1 H1 fp e1 t1 n1
      have l2 := hlen ε ys ey
      match ys, l2, t1, h with
      | [y1, y2], _, .cons (v := w1) (f := f1) q1 (.cons (v := w2) (f := f2) q2 .nil), h =>
        obtain ⟨ly, dy⟩ := y1
        obtain ⟨lz, dz⟩ := y2
        unfold lmV at h
        cases dy with
        | int j =>
          cases dz with
          | int y =>
            dsimp only at h q1 q2
            by_cases hq : 0 ≤ j ∧ j ≤ 1000000
            · rw [if_pos hq] at h
              dsimp only at h
              split at h
              · rename_i hlt
                obtain ⟨a', g1, g3, _, gm⟩ := (rel.ext e1).ints ho hn
                rw [h1] at g1
                cases g1
                obtain ⟨_, h⟩ := h.put
                obtain ⟨F', r'⟩ := gm (ns.take j.toNat ++ [y] ++ ns.drop j.toNat)
                have hs : lim < sizeLine := by decide
                refine ⟨a, ns.map V.int, j, .int y, rfl, by rw [q1.int, q2.int], g3, by rw [List.length_map]; omega, hq.1, by omega, ?_⟩
                have er : (ns.take j.toNat ++ [y] ++ ns.drop j.toNat).map V.int = (ns.map V.int).take j.toNat ++ [.int y] ++ (ns.map V.int).drop j.toNat := by simp [List.map_take, List.map_drop]
                rw [er] at r'
                exact h _ _ _ _ r' e1.z
              · exact h.elim
            · rw [if_neg hq] at h; exact h.elim
          | _ => exact h.elim
        | _ => exact h.elim
    · exact h.elim
  · exact h.elim
/-- xs.reverse() -/
theorem snd_rev (g : Gd k nm cal np lv N sc X W) {i : Nat} {x : Str} {p ap cp pos : Pos} (hx : N[i]? = some x) (hv : visB sc x = true) (hline : (ap.endLine == cp.line) = true) :
    PS X (.Expr (.Call (.Attribute (.Name x p) "reverse" ap) [] [] cp) pos) (tS k Z0 H0 W (lmS i .reverse fun _ => .ok [])) := by
  obtain ⟨v1, v2, v3⟩ := vis_of hv
  refine PS.imp (ps_expr (pe_bm0 PySem.F.plainAttrs_list PySem.F.slot_list_reverse PySem.F.type_list_reverse mt_reverse (pe_var (i := i) (by rw [g.hN]; exact hx) (by rw [g.sc]; exact v1) v2 v3) rfl hline) rfl) fun D σ H ⟨Z, ε, F, rel, h⟩ => ?_
  unfold lmS at h
  split at h
  · rename_i l xs ho
    split at h
    · rename_i ns hn
      obtain ⟨a, h1, h3, hl, gm⟩ := rel.ints ho hn
      have h : AfterS k Z0 H0 W Z D (if ns.length < lim then putS i (some (l, .lst (ns.reverse.map RS.D.int))) ε else .bad) := h
      split at h
      · obtain ⟨_, h⟩ := h.put
        obtain ⟨F', r'⟩ := gm ns.reverse
        rw [List.map_reverse] at r'
        refine ⟨.ref a, h1, .inl ⟨rfl, _, .inl (.inl h3)⟩, a, _, rfl, rfl, h3, h _ _ _ _ r' fun _ _ e => e⟩
      · exact h.elim
    · exact h.elim
  · exact h.elim
end
end RS

/-! RsStm4 -/
namespace RS
open PySem PySem.Spec
open PyProof.Rows L2
/-! ### self.f = e, in an __init__ -/
section
variable {X : Cx} {o value : Expr} {f : Str} {pos pos' : Pos} {ta tv : TE}
theorem ps_fldA (ha : PE X o ta) (hv : PE X value tv) (hs : swapsWith value (some (.Attribute o f pos')) pos.line X.env = pure false) : PS X (.Assign [.Attribute o f pos'] value pos) (fun D σ H => tv σ H fun y H1 => ta σ H1 fun x H2 => ∃ a, x = .ref a ∧
    ((∃ C dx fs, H2 a = some (.ins C dx fs) ∧ Cls X.K C ∧ NoAttr X.K C f ∧ fs.length < 1000 ∧ D.nx σ (upd H2 a (.ins C dx (putF f y fs)))) ∨
    ∃ C dx p vs i, SlX.Slt H2 a C dx vs ∧ SlX.SCls X.K C ∧ SlX.Slot1 X.K C f p i ∧ D.nx σ (SlX.slH H2 a C dx (SlX.putS i y vs)))) := by
  refine ⟨fun pins s σ H D I h => ?_⟩
  refine plainObj_wpAny_Assign_Attribute (thn (hv.run pins s σ H _ I h) fun u s1 ⟨y, H1, I1, ry, q⟩ => thn (ha.run pins s1 σ H1 _ I1 q) fun ov s2 ⟨x, H2, I2, rx, a, ex, q2⟩ => ?_) hs
  subst ex
  obtain rfl : ov = Value.ref a := rx
  rcases q2 with ⟨C, dx, fs, ea, c, n, l, q2⟩ | ⟨C, dx, p, vs, i, sl, c, k, q2⟩
  · exact setattr_ok I2 ea c n l ry fun s3 I3 => ⟨σ, _, I3, q2⟩
  · exact SlX.setslot_ok I2 sl c k ry fun s3 I3 => ⟨σ, _, I3, q2⟩
end
theorem putF_zip : ∀ {fl : List Str} {vs : List V} {x : Str} {v : V}, fl.Nodup → fl[vs.length]? = some x → putF x v (fl.zip vs) = fl.zip (vs ++ [v])
  | [], vs, x, v, _, h => by simp at h
  | y :: fl, [], x, v, _, h => by
    simp at h; subst h
    simp [putF]
  | y :: fl, w :: vs, x, v, nd, h => by
    have h2 : fl[vs.length]? = some x := by simpa using h
    have hy : y ≠ x := fun e => by
      subst e
      exact (List.nodup_cons.mp nd).1 (List.mem_of_getElem? h2)
    simp only [List.zip_cons_cons, List.cons_append, putF, if_neg hy]
    rw [putF_zip (List.nodup_cons.mp nd).2 h2]
theorem fldIx_of : ∀ {fs : List Nat} {i f : Nat}, fs.Nodup → fs[i]? = some f → fldIx fs f = some i
  | [], i, f, _, h => by simp at h
  | g :: r, 0, f, _, h => by simp at h; subst h; simp [fldIx]
  | g :: r, i + 1, f, nd, h => by
    have h2 : r[i]? = some f := by simpa using h
    have hg : g ≠ f := fun e => by
      subst e
      exact (List.nodup_cons.mp nd).1 (List.mem_of_getElem? h2)
    simp only [fldIx, if_neg hg, fldIx_of (List.nodup_cons.mp nd).2 h2, Option.map_some]
section
variable {k : Kc} {nm : Nm} {cal : Cl → R LD} {np : Nat → Nat} {lv : Nat} {N : List Str} {sc : Scope} {X : Cx} {W : WX} {Z0 H0 : Hp}
theorem RelS.setf {Z H H' : Hp} {σ : L2.St} {ε : En} {F : Nat → List Addr} {i c : Nat} {a dx : Addr} {vs : List V} {ds : List D} {v : V} {d : D} (r : RelS k Z0 H0 Z H σ ε F) (hi : i < ε.length) (hσ : σ[i]? = some (some (.ref a))) (hme : a = k.me) (hF : F i = [a, dx]) (hs : Shs k Z vs ds) (sh : Sh k Z v d)
    (m : Mak k H' c a dx (vs ++ [v])) (hh : ∀ b, b ≠ a → b ≠ dx → H' b = H b) : RelS k Z0 H0 Z H' σ (ε.set i (some (5, .ins c (ds ++ [d])))) F := by
  have ma : a ∈ F i := by rw [hF]; simp
  have md : dx ∈ F i := by rw [hF]; simp
  have nz : ∀ b o, Z b = some o → b ≠ a ∧ b ≠ dx := fun b o e => ⟨(fun q => by rw [q, r.zf i a ma] at e; cases e), fun q => by rw [q, r.zf i dx md] at e; cases e⟩
  have n0 : ∀ b o, H0 b = some o → b ≠ a ∧ b ≠ dx := fun b o e => ⟨(fun q => by rw [q, r.fn i a ma] at e; cases e), fun q => by rw [q, r.fn i dx md] at e; cases e⟩
  refine ⟨by rw [List.length_set]; exact r.len, fun j t q => ?_, fun j hj => r.out j (by rw [List.length_set] at hj; exact hj), r.nd, r.dj, r.zf, fun b o e => ?_, fun b o e => ?_, r.z0, r.zn, r.fn⟩
  · by_cases hji : j = i
    · subst hji
      rw [List.getElem?_set_self hi] at q
      cases q
      exact ⟨.ref a, by rw [hσ]; rfl, a, dx, c, _, _, ⟨rfl, hme⟩, rfl, m, hs.snoc sh, hF⟩
    · rw [List.getElem?_set_ne (Ne.symm hji)] at q
      have h := r.sl j t q
      have hne : ∀ b ∈ F j, H' b = H b := fun b mb => hh b (fun e => hji (r.dj j i b mb (by rw [e]; exact ma))) fun e => hji (r.dj j i b mb (by rw [e]; exact md))
      cases t with
      | none => exact h
      | some p =>
        obtain ⟨l2, d2⟩ := p
        obtain ⟨w, e, h⟩ := h
        refine ⟨w, e, ?_⟩
        match l2, h with
        | 0, h => exact h
        | 1, ⟨b, xs, ds, h1, h2, h3, h4, h5⟩ => exact ⟨b, xs, ds, h1, h2, (hne b (by rw [h5]; simp)).trans h3, h4, h5⟩
        | 2, h => exact Ow.at hne h
        | 5, ⟨b, dx, c, vs, ds, h1, h2, h3, h4, h5⟩ => exact ⟨b, dx, c, vs, ds, h1, h2, h3.mono (fun o q => (hne b (by rw [h5]; simp)).trans q) (fun o q => (hne dx (by rw [h5]; simp)).trans q), h4, h5⟩
        | 6, ⟨b, dx, c, vs, ds, fq, h1, h2, h3, h4, h5⟩ => exact ⟨b, dx, c, vs, ds, fq, h1, h2, h3.mono (fun o q => (hne b (by rw [h5]; simp)).trans q) (fun o q => (hne dx (by rw [h5]; simp)).trans q), h4.at fun a m => hne a (by rw [h5]; simp [m]), h5⟩
        | 3, h => exact h.elim
        | 4, h => exact h.elim
        | n + 7, h => exact h.elim
  · rw [hh b (nz b o e).1 (nz b o e).2]; exact r.zh b o e
  · rw [hh b (n0 b o e).1 (n0 b o e).2]; exact r.h0 b o e
theorem snd_sfld (g : Gd k nm cal np lv N sc X W) {i f : Nat} {x y : Str} {p pos pos' : Pos} {value : Expr} {re : En → R LD} (hN : N[i]? = some y) (hv : visB sc y = true) (hx : nm.at_ f = some x) (he : PE X value (tE k Z0 H0 W re)) :
    PS X (.Assign [.Attribute (.Name y p) x pos'] value pos) (tS k Z0 H0 W fun ε => toO ε (re ε) fun v => match ε[i]? with
      | some (some (5, .ins c fs)) => if (k.G.flds c)[fs.length]? = some f ∧ v.1 ≤ 2 then putS i (some (5, .ins c (fs ++ [v.2]))) ε else .bad
      | _ => .bad) := by
  obtain ⟨v1, v2, v3⟩ := vis_of hv
  refine PS.imp (ps_fldA (pe_var (i := i) (by rw [g.hN]; exact hN) (by rw [g.sc]; exact v1) v2 v3) he (by cases value <;> rfl)) fun σ H D ⟨Z, ε, F, rel, h⟩ => ?_
  refine ⟨Z, ε, F, rel, (AfterS.toO rel h).imp fun v ev h => ?_⟩
  intro w Z1 H1 fp e1 t1 n1
  split at h
  · rename_i c fs e
    split at h
    · rename_i hc
      obtain ⟨hf, hl⟩ := hc
      have hd := t1.hd hl
      have eF := e1.freeze n1.n
      have r1 := rel.ext eF
      obtain ⟨u, eu, hd5, hi⟩ := r1.at e
      obtain ⟨a, dx, c', vs, ds, ⟨rfl, hme⟩, e2, mk, hs, hF⟩ := hd5
      cases e2
      have sw : Sh k (zjoin Z1 H1 fp) w v.2 := hd.share (zjoin_sub e1.zh) fun a m => zjoin_in m
      obtain ⟨f1, f2⟩ := (g.cls c).fld f fs.length x (fldIx_of (g.cls c).nd hf) hx
      have hlen : vs.length = fs.length := hs.length
      refine ⟨.ref a, eu, a, rfl, ?_⟩
      cases hsl : k.sl c with
      | false =>
        obtain ⟨c1, c2, c3, c4, c5, c6⟩ := f1 hsl
        have hlt : vs.length < (k.fl c).length := by rw [hlen]; exact (List.getElem?_eq_some_iff.mp c3).1
        rw [← hlen] at c3
        refine .inl ⟨_, dx, _, (mk.pl hsl).1, by rw [← g.hK]; exact c1, by rw [← g.hK]; exact c2, by rw [List.length_zip]; omega, ?_⟩
        rw [putF_zip c4 c3]
        have mk' : Mak k (upd H1 a (.ins (k.ca c) dx ((k.fl c).zip (vs ++ [w])))) c a dx (vs ++ [w]) := ⟨by simp; omega, mk.ne, fun _ => ⟨upd_same, (upd_ne mk.ne).trans (mk.pl hsl).2⟩, (fun q => by rw [hsl] at q; cases q), ⟨_, upd_same⟩, by rw [upd_ne mk.ne]; exact mk.td⟩
        obtain ⟨_, h⟩ := h.put
        exact h _ _ _ _ (r1.setf hi eu hme hF hs sw mk' fun b h1 _ => upd_ne h1) eF.z
      | true =>
        obtain ⟨c1, c2, c3, pp, j, c4, c5, c6⟩ := f2 hsl
        have hlt : vs.length < (k.fl c).length := by
          rw [hlen, c2]
          exact (List.getElem?_eq_some_iff.mp hf).1
        rw [← hlen] at c5
        refine .inr ⟨_, dx, pp, _, j, mk.st hsl, by rw [← g.hK]; exact c1, by rw [← g.hK]; exact c4, ?_⟩
        rw [← layS_snoc c5]
        have mk' : Mak k (SlX.slH H1 a (k.ca c) dx (layS (k.ix c) (vs ++ [w]))) c a dx (vs ++ [w]) := ⟨by simp; omega, mk.ne, (fun q => by rw [hsl] at q; cases q), fun _ => SlX.slH_slt mk.ne, ⟨_, upd_same⟩, ⟨_, by unfold SlX.slH; rw [upd_ne mk.ne, upd_same]⟩⟩
        obtain ⟨_, h⟩ := h.put
        exact h _ _ _ _ (r1.setf hi eu hme hF hs sw mk' fun b h1 h2 => SlX.slH_ne h1 h2) eF.z
    · exact h.elim
  · exact h.elim
/-- slot i's instance is changed: its objects at a and dx, and what else it owns -/
theorem RelS.setm {Z H H' : Hp} {σ : L2.St} {ε : En} {F : Nat → List Addr} {i : Nat} {fp : List Addr} {s : LD} {v : V} (r : RelS k Z0 H0 Z H σ ε F) (hi : i < ε.length) (hσ : σ[i]? = some (some v)) (hd : Hd k Z H' s.1 v s.2 fp) (nd : fp.Nodup)
    (own : ∀ b ∈ fp, b ∈ F i ∨ (Z b = none ∧ H0 b = none ∧ ∀ j, b ∉ F j)) (hh : ∀ b, b ∉ F i → H' b = H b) (th : ∀ b ∈ F i, ∃ o, H' b = some o) : RelS k Z0 H0 Z H' σ (ε.set i (some s)) (fun j => if j = i then fp else F j) := by
  have oz : ∀ b ∈ fp, Z b = none ∧ H0 b = none := fun b m => by
    rcases own b m with q | q
    · exact ⟨r.zf i b q, r.fn i b q⟩
    · exact ⟨q.1, q.2.1⟩
  have oj : ∀ j, j ≠ i → ∀ b ∈ fp, b ∉ F j := fun j hj b m m2 => by
    rcases own b m with q | q
    · exact hj (r.dj j i b m2 q)
    · exact q.2.2 j m2
  refine ⟨by rw [List.length_set]; exact r.len, fun j t q => ?_, fun j hj => ?_, fun j => ?_, fun j l a h1 h2 => ?_, fun j a h => ?_, fun b o e => ?_, fun b o e => ?_, r.z0, r.zn, fun j a h => ?_⟩
  · by_cases hji : j = i
    · subst hji
      rw [List.getElem?_set_self hi] at q
      cases q
      rw [if_pos rfl]
      exact ⟨v, by rw [hσ]; rfl, hd⟩
    · rw [List.getElem?_set_ne (Ne.symm hji)] at q
      rw [if_neg hji]
      have h := r.sl j t q
      have hne : ∀ b ∈ F j, H' b = H b := fun b mb => hh b fun mi => hji (r.dj j i b mb mi)
      cases t with
      | none => exact h
      | some p =>
        obtain ⟨l2, d2⟩ := p
        obtain ⟨w, e, h⟩ := h
        refine ⟨w, e, ?_⟩
        match l2, h with
        | 0, h => exact h
        | 1, ⟨b, xs, ds, h1, h2, h3, h4, h5⟩ => exact ⟨b, xs, ds, h1, h2, (hne b (by rw [h5]; simp)).trans h3, h4, h5⟩
        | 2, h => exact Ow.at hne h
        | 5, ⟨b, dx, c, vs, ds, h1, h2, h3, h4, h5⟩ => exact ⟨b, dx, c, vs, ds, h1, h2, h3.mono (fun o q => (hne b (by rw [h5]; simp)).trans q) (fun o q => (hne dx (by rw [h5]; simp)).trans q), h4, h5⟩
        | 6, ⟨b, dx, c, vs, ds, fq, h1, h2, h3, h4, h5⟩ => exact ⟨b, dx, c, vs, ds, fq, h1, h2, h3.mono (fun o q => (hne b (by rw [h5]; simp)).trans q) (fun o q => (hne dx (by rw [h5]; simp)).trans q), h4.at fun a m => hne a (by rw [h5]; simp [m]), h5⟩
        | 3, h => exact h.elim
        | 4, h => exact h.elim
        | n + 7, h => exact h.elim
  · rw [List.length_set] at hj
    show (if j = i then fp else F j) = []
    rw [if_neg (by omega)]
    exact r.out j hj
  · split
    · exact nd
    · exact r.nd j
  · skip
    by_cases e1 : j = i
    · by_cases e2 : l = i
      · rw [e1, e2]
      · rw [if_pos e1] at h1
        rw [if_neg e2] at h2
        exact absurd h2 (oj l e2 a h1)
    · rw [if_neg e1] at h1
      by_cases e2 : l = i
      · rw [if_pos e2] at h2
        exact absurd h1 (oj j e1 a h2)
      · rw [if_neg e2] at h2
        exact r.dj j l a h1 h2
  · split at h
    · exact (oz a h).1
    · exact r.zf j a h
  · rw [hh b fun m => by rw [r.zf i b m] at e; cases e]; exact r.zh b o e
  · rw [hh b fun m => by rw [r.fn i b m] at e; cases e]; exact r.h0 b o e
  · split at h
    · exact (oz a h).2
    · exact r.fn j a h
/-- what an instance in the making is, with own lists or without -/
theorem hd56 {Z H : Hp} {lv c : Nat} {v : V} {ds : List D} {fp : List Addr} (hl : lv = 5 ∨ lv = 6) (h : Hd k Z H lv v (.ins c ds) fp) : ∃ a dx vs fq, v = .ref a ∧ a = k.me ∧ Mak k H c a dx vs ∧ Fws k Z H vs ds fq ∧ fp = a :: dx :: fq := by
  rcases hl with rfl | rfl
  · obtain ⟨a, dx, c', vs, ds', ⟨h1, h2⟩, e, m, s, f⟩ := h
    cases e
    exact ⟨a, dx, vs, [], h1, h2, m, Fws.of s, f⟩
  · obtain ⟨a, dx, c', vs, ds', fq, ⟨h1, h2⟩, e, m, s, f⟩ := h
    cases e
    exact ⟨a, dx, vs, fq, h1, h2, m, s, f⟩
/-- self.f = a new list -/
theorem snd_sfldO (g : Gd k nm cal np lv N sc X W) {i f : Nat} {x y : Str} {p pos pos' : Pos} {value : Expr} {re : En → R LD} (hN : N[i]? = some y) (hv : visB sc y = true) (hx : nm.at_ f = some x) (he : PE X value (tE k Z0 H0 W re)) :
    PS X (.Assign [.Attribute (.Name y p) x pos'] value pos) (tS k Z0 H0 W fun ε => toO ε (re ε) fun x => match ε[i]?, x.2 with
      | some (some (lv, .ins c fs)), .lst xs => if (lv = 5 ∨ lv = 6) ∧ (k.G.flds c)[fs.length]? = some f ∧ (x.1 = 1 ∨ (x.1 = 2 ∧ D.lfs xs = true)) then putS i (some (6, .ins c (fs ++ [.mut xs]))) ε else .bad
      | _, _ => .bad) := by
  obtain ⟨v1, v2, v3⟩ := vis_of hv
  refine PS.imp (ps_fldA (pe_var (i := i) (by rw [g.hN]; exact hN) (by rw [g.sc]; exact v1) v2 v3) he (by cases value <;> rfl)) fun Es σ H ⟨Z, ε, F, rel, h⟩ => ?_
  refine ⟨Z, ε, F, rel, (AfterS.toO rel h).imp fun v ev h => ?_⟩
  intro w Z1 H1 fp e1 t1 n1
  obtain ⟨lx, dx0⟩ := v
  dsimp only at h t1
  split at h
  · rename_i _ _ lv c fs xs e
    split at h
    · rename_i hc
      obtain ⟨hlv, hf, hl⟩ := hc
      have r1 := rel.ext e1
      obtain ⟨u, eu, hd5, hi⟩ := r1.at e
      obtain ⟨a, dx, vs, fq, rfl, hme, mk, hs, hF⟩ := hd56 hlv hd5
      obtain ⟨b, ws, rfl, hb, hws, rfl⟩ : ∃ b ws, w = .ref b ∧ H1 b = some (.lst ws) ∧ Shs k Z1 ws xs ∧ fp = [b] := by
        rcases hl with rfl | ⟨rfl, hl⟩
        · obtain ⟨b, ws, ds, h1, h2, h3, h4, h5⟩ := t1
          cases h2
          exact ⟨b, ws, h1, h3, h4, h5⟩
        · have t1 : Ow k Z1 H1 w (.lst xs) fp := t1
          cases t1 with
          | sh s q => simp [D.lf] at q
          | lst e r =>
            obtain ⟨q1, rfl⟩ := r.free hl
            exact ⟨_, _, rfl, e, q1, rfl⟩
      obtain ⟨f1, f2⟩ := (g.cls c).fld f fs.length x (fldIx_of (g.cls c).nd hf) hx
      have hlen : vs.length = fs.length := hs.length
      have ma : a ∈ F i := by rw [hF]; simp
      have md : dx ∈ F i := by rw [hF]; simp
      have bn : ∀ j, b ∉ F j := fun j => rel.apart n1 j b (List.mem_singleton.mpr rfl)
      have ba : b ≠ a := fun z => bn i (z ▸ ma)
      have bd : b ≠ dx := fun z => bn i (z ▸ md)
      have fin : ∀ (H2 : Hp), Mak k H2 c a dx (vs ++ [.ref b]) → (∀ z, z ≠ a → z ≠ dx → H2 z = H1 z) → RelS k Z0 H0 Z1 H2 σ (ε.set i (some (6, .ins c (fs ++ [.mut xs])))) (fun j => if j = i then a :: dx :: (fq ++ [b]) else F j) := fun H2 mk' hh => by
        have ndF := r1.nd i
        rw [hF] at ndF
        refine r1.setm (v := .ref a) (s := ((6, .ins c (fs ++ [.mut xs])) : LD)) hi eu (show Hd k Z1 H2 6 _ _ _ from ⟨a, dx, c, _, _, fq ++ [b], ⟨rfl, hme⟩, rfl, mk', Fws.snoc (.ow ((hh b ba bd).trans hb) hws) (hs.at fun z m => hh z (fun q => ?_) fun q => ?_), rfl⟩) ?_ (fun z m => ?_) (fun z m => hh z (fun q => m (q ▸ ma)) fun q => m (q ▸ md)) fun z m => ?_
        · subst q; exact (List.nodup_cons.mp ndF).1 (List.mem_cons_of_mem _ m)
        · subst q; exact (List.nodup_cons.mp (List.nodup_cons.mp ndF).2).1 m
        · have : (a :: dx :: (fq ++ [b])) = (a :: dx :: fq) ++ [b] := by simp
          rw [this, ← hF]
          exact List.nodup_append.mpr ⟨r1.nd i, by simp, fun z1 m1 z2 m2 q => bn i (by rw [← List.mem_singleton.mp m2, ← q]; exact m1)⟩
        · have m : z = a ∨ z = dx ∨ z ∈ fq ∨ z = b := by simpa using m
          rcases m with m | m | m | m
          · exact .inl (m ▸ ma)
          · exact .inl (m ▸ md)
          · exact .inl (by rw [hF]; simp [m])
          · subst m; exact .inr ⟨n1.z z (List.mem_singleton.mpr rfl), rel.new0 n1 z (List.mem_singleton.mpr rfl), bn⟩
        · rw [hF] at m
          rcases List.mem_cons.mp m with rfl | m
          · exact mk'.th
          · rcases List.mem_cons.mp m with rfl | m
            · exact mk'.td
            · obtain ⟨o, e⟩ := hs.there z m
              have z1 : z ≠ a := fun q => (List.nodup_cons.mp ndF).1 (List.mem_cons_of_mem _ (q ▸ m))
              have z2 : z ≠ dx := fun q => (List.nodup_cons.mp (List.nodup_cons.mp ndF).2).1 (q ▸ m)
              exact ⟨_, (hh z z1 z2).trans e⟩
      refine ⟨.ref a, eu, a, rfl, ?_⟩
      cases hsl : k.sl c with
      | false =>
        obtain ⟨c1, c2, c3, c4, c5, c6⟩ := f1 hsl
        have hlt : vs.length < (k.fl c).length := by rw [hlen]; exact (List.getElem?_eq_some_iff.mp c3).1
        rw [← hlen] at c3
        refine .inl ⟨_, dx, _, (mk.pl hsl).1, by rw [← g.hK]; exact c1, by rw [← g.hK]; exact c2, by rw [List.length_zip]; omega, ?_⟩
        rw [putF_zip c4 c3]
        have mk' : Mak k (upd H1 a (.ins (k.ca c) dx ((k.fl c).zip (vs ++ [.ref b])))) c a dx (vs ++ [.ref b]) := ⟨by simp; omega, mk.ne, fun _ => ⟨upd_same, (upd_ne mk.ne).trans (mk.pl hsl).2⟩, (fun q => by rw [hsl] at q; cases q), ⟨_, upd_same⟩, by rw [upd_ne mk.ne]; exact mk.td⟩
        obtain ⟨_, h⟩ := h.put
        exact h _ _ _ _ (fin _ mk' fun z h1 _ => upd_ne h1) e1.z
      | true =>
        obtain ⟨c1, c2, c3, pp, j, c4, c5, c6⟩ := f2 hsl
        have hlt : vs.length < (k.fl c).length := by
          rw [hlen, c2]
          exact (List.getElem?_eq_some_iff.mp hf).1
        rw [← hlen] at c5
        refine .inr ⟨_, dx, pp, _, j, mk.st hsl, by rw [← g.hK]; exact c1, by rw [← g.hK]; exact c4, ?_⟩
        rw [← layS_snoc c5]
        have mk' : Mak k (SlX.slH H1 a (k.ca c) dx (layS (k.ix c) (vs ++ [.ref b]))) c a dx (vs ++ [.ref b]) := ⟨by simp; omega, mk.ne, (fun q => by rw [hsl] at q; cases q), fun _ => SlX.slH_slt mk.ne, ⟨_, upd_same⟩, ⟨_, by unfold SlX.slH; rw [upd_ne mk.ne, upd_same]⟩⟩
        obtain ⟨_, h⟩ := h.put
        exact h _ _ _ _ (fin _ mk' fun z h1 h2 => SlX.slH_ne h1 h2) e1.z
    · exact h.elim
  · exact h.elim
theorem ownF_ok {G : Tb} {f c j : Nat} {s : Option (Option LD)} {fs xs : List D} (h : ownF G f s = some (c, fs, j, xs)) : s = some (some (6, .ins c fs)) ∧ fldIx (G.flds c) f = some j ∧ fs[j]? = some (.mut xs) := by
  unfold ownF at h
  split at h
  · split at h
    · rename_i hj
      split at h
      · rename_i hd
        cases h
        exact ⟨rfl, hj, hd⟩
      · cases h
    · cases h
  · cases h
/-- self.f.append(e) -/
theorem snd_sapp (g : Gd k nm cal np lv N sc X W) {r : En → R LD} {i f : Nat} {x y : Str} {e : Expr} {p p2 ap cp pos : Pos} (hN : N[i]? = some y) (hv : visB sc y = true) (hx : nm.at_ f = some x) (he : PE X e (tE k Z0 H0 W r)) (hst : notStar e = true) (hline : (ap.endLine == cp.line) = true) :
    PS X (.Expr (.Call (.Attribute (.Attribute (.Name y p) x p2) "append" ap) [e] [] cp) pos) (tS k Z0 H0 W fun ε => match ownF k.G f ε[i]? with
      | some (c, fs, j, xs) => toO ε (r ε) fun x => if x.1 ≤ 2 ∧ xs.length < lim then putS i (some (6, .ins c (fs.set j (.mut (xs ++ [x.2]))))) ε else .bad
      | none => .bad) := by
  obtain ⟨v1, v2, v3⟩ := vis_of hv
  have s1 : starEach [e] X.env = (false, eval e X.env) :: starEach [] X.env := star_cons hst
  have hfew : ((backTo cp (starEach (e :: []) X.env)).all (fun x => !x.1) && (backToKw cp (keywordEach [] X.env)).all (fun x => x.1.isSome) && decide ((e :: []).length + ([] : List Keyword).length + (if ([] : List Keyword).isEmpty then 0 else 1) < 30)) = true := by rw [s1]; rfl
  refine PS.imp (ps_expr (pe_bm PySem.F.plainAttrs_list PySem.F.slot_list_append PySem.F.type_list_append mt_append (pe_fldA (pe_var (i := i) (by rw [g.hN]; exact hN) (by rw [g.sc]; exact v1) v2 v3) rfl) (pa_cons he pa_nil s1) rfl hfew hline s1) rfl) fun Es σ H ⟨Z, ε, F, rel, h⟩ => ?_
  try dsimp only at h
  split at h
  · rename_i c fs j xs ho
    obtain ⟨e0, hj, hm⟩ := ownF_ok ho
    obtain ⟨u, eu, hd6, hi⟩ := rel.at e0
    obtain ⟨a, dx, vs, fq, rfl, hme, mk, hs, hF⟩ := hd56 (.inr rfl) hd6
    obtain ⟨vb, fb, hvb, fw, hsub⟩ := hs.get hm
    cases fw with
    | sh s => cases s
    | @ow b ws _ hb hws =>
      refine ⟨.ref a, eu, a, .ref b, rfl, by rw [← g.hK]; exact mak_fld (g.cls c) hj hx mk hvb, .inl ⟨rfl, ws, .inl (.inl hb)⟩, Z, ε, F, rel, (AfterS.toO rel h).imp fun x ex h => ?_⟩
      intro w Z1 H1 fp e1 t1 n1
      split at h
      · rename_i hl
        obtain ⟨_, h⟩ := h.put
        have eF := e1.freeze n1.n
        have r1 := rel.ext eF
        have mk1 := mk.mono (H' := H1) (e1.h a) (e1.h dx)
        have hs1 : Fws k (zjoin Z1 H1 fp) H1 vs fs fq := hs.mono eF.z fun z _ o q => e1.h z o q
        have hb1 : H1 b = some (.lst ws) := e1.h _ _ hb
        have hd := t1.hd hl.1
        have sw : Sh k (zjoin Z1 H1 fp) w x.2 := hd.share (zjoin_sub e1.zh) fun a m => zjoin_in m
        have ndF := r1.nd i
        rw [hF] at ndF
        have mb : b ∈ fq := hsub b (List.mem_singleton.mpr rfl)
        have ba : b ≠ a := fun q => (List.nodup_cons.mp ndF).1 (List.mem_cons_of_mem _ (q ▸ mb))
        have bd : b ≠ dx := fun q => (List.nodup_cons.mp (List.nodup_cons.mp ndF).2).1 (q ▸ mb)
        have bF : b ∈ F i := by rw [hF]; simp [mb]
        have hws1 : Shs k (zjoin Z1 H1 fp) (ws ++ [w]) (xs ++ [x.2]) := (hws.mono eF.z).snoc sw
        have rel2 : RelS k Z0 H0 (zjoin Z1 H1 fp) (upd H1 b (.lst (ws ++ [w]))) σ (ε.set i (some (6, .ins c (fs.set j (.mut (xs ++ [x.2])))))) (fun j => if j = i then a :: dx :: fq else F j) := by
          refine r1.setm (v := .ref a) (s := ((6, .ins c (fs.set j (.mut (xs ++ [x.2])))) : LD)) hi eu (show Hd k _ _ 6 _ _ _ from ⟨a, dx, c, vs, _, fq, ⟨rfl, hme⟩, rfl, mk1.mono (fun o q => (upd_ne ba.symm).trans q) (fun o q => (upd_ne bd.symm).trans q), Fws.put upd_same hws1 hs1 (List.nodup_cons.mp (List.nodup_cons.mp ndF).2).2 hvb hm mb fun z _ hz => upd_ne hz, rfl⟩) ndF (fun z m => .inl (by rw [hF]; exact m)) (fun z m => upd_ne fun q => m (q ▸ bF)) fun z m => ?_
          by_cases q : z = b
          · subst q; exact ⟨_, upd_same⟩
          · obtain ⟨o, e⟩ := r1.there z ⟨i, m⟩
            exact ⟨o, (upd_ne q).trans e⟩
        refine ⟨b, ws, w, rfl, rfl, hb1, ?_, h _ _ _ _ rel2 eF.z⟩
        have hlen := hws.length
        have hsz : lim < sizeLine := by decide
        omega
      · exact h.elim
  · exact h.elim
/-- its own lists are whole -/
theorem snd_shf {sts : List Stmt} {i : Nat} {rb : En → Out} (hb : PSs X sts (tS k Z0 H0 W rb)) :
    PSs X sts (tS k Z0 H0 W fun ε => match shf i ε with | .nx ε' => rb ε' | o => o) := PSs.imp hb fun Es σ H ⟨Z, ε, F, rel, h⟩ => by
  try dsimp only at h
  cases e : ε[i]? with
  | none => simp only [shf, e] at h; exact ⟨Z, ε, F, rel, h⟩
  | some s =>
    cases s with
    | none => simp only [shf, e] at h; exact ⟨Z, ε, F, rel, h⟩
    | some p =>
      obtain ⟨l, d⟩ := p
      by_cases hl : l = 6 ∧ ∃ c fs, d = .ins c fs
      · obtain ⟨rfl, c, fs, rfl⟩ := hl
        simp only [shf, e] at h
        obtain ⟨u, eu, hd6, hi⟩ := rel.at e
        obtain ⟨a, dx, vs, fq, rfl, hme, mk, hs, hF⟩ := hd56 (.inr rfl) hd6
        have ndF := rel.nd i
        rw [hF] at ndF
        have na : a ∉ fq := fun m => (List.nodup_cons.mp ndF).1 (List.mem_cons_of_mem _ m)
        have nd : dx ∉ fq := fun m => (List.nodup_cons.mp (List.nodup_cons.mp ndF).2).1 m
        have q := rel.fix (i := i) (P := fq) (fp := [a, dx]) (s := some (5, .ins c (fs.map RS.D.unm))) (fun z m => by rw [hF]; simp [m]) ⟨.ref a, by rw [eu]; rfl, a, dx, c, vs, _, ⟨rfl, hme⟩, rfl, mk, hs.share (zjoin_sub rel.zh) fun z m => zjoin_in m, rfl⟩ (by
          have := (List.nodup_cons.mp ndF).1
          simp only [List.mem_cons, not_or] at this
          simp [this.1]) (fun z m => by
          have m : z = a ∨ z = dx := by simpa using m
          rcases m with rfl | rfl
          · exact ⟨by rw [hF]; simp, na⟩
          · exact ⟨by rw [hF]; simp, nd⟩) hi
        exact ⟨_, _, _, q, h.mono (zjoin_sub rel.zh)⟩
      · have en : shf i ε = .nx ε := by
          unfold shf
          rw [e]
          split
          · rename_i he
            cases he
            exact absurd ⟨rfl, _, _, rfl⟩ hl
          · rfl
        rw [en] at h
        exact ⟨Z, ε, F, rel, h⟩
end
end RS

/-! RsExc -/
namespace RS
open PySem PySem.Spec
open PyProof.Rows L2
section
variable {k : Kc} {nm : Nm} {cal : Cl → R LD} {np : Nat → Nat} {lv : Nat} {N : List Str} {sc : Scope} {X : Cx} {W : WX} {Z0 H0 : Hp}
/-! ### raise -/
/-- raise C('m') -/
theorem snd_raim (g : Gd k nm cal np lv N sc X W) {c : Nat} {x m : Str} {j : Nat} {p p2 cp pos : Pos} (hx : nm.xn c = some x) (hc : c ≠ cVE) (ho : nm.xo c = true) (hg : glB sc x = true) :
    PS X (.Raise (some (.Call (.Name x p) [.Constant (.str m) j p2] [] cp)) none pos) (tS k Z0 H0 W fun ε => .exc c [] ε) := by
  have XC := g.xcs c x hc hx
  have q : PySem.W.excIn X.K (k.ca c) [.type "ValueError", .type "Exception", .type "BaseException", .type "object"] "ValueError.__new__" = true := by rw [← g.hK]; exact g.xos c ho
  refine PS.imp (ps_raise g.calm g.tk (pmk_own PySem.F.excBase_ValueError q (g.xnm c x hc hx) (by rw [← g.hK]; exact XC.ox.kC) (raises_own (by rw [← g.hK]; exact XC.ox.exC) (by rw [← g.hK]; exact XC.ox.tyC)) (g.gl hg).1 (g.gl hg).2)) fun D σ H ⟨Z, ε, F, rel, h⟩ => ?_
  exact h (.ref (k.ca c)) none σ H Z F rel (fun _ _ e => e) ⟨rfl, .inl ⟨rfl, rfl⟩⟩
theorem Shs.reverse {Z : Hp} : ∀ {vs : List V} {ds : List D}, Shs k Z vs ds → Shs k Z vs.reverse ds.reverse
  | _, _, .nil => .nil
  | _, _, .cons a r => by
    rw [List.reverse_cons, List.reverse_cons]
    exact r.reverse.append (.cons a .nil)
/-- raise C(e, ..) -/
theorem snd_rais (g : Gd k nm cal np lv N sc X W) {c n : Nat} {x : Str} {e : Expr} {es : List Expr} {rs : En → R (List LD)} {p cp pos : Pos} (hx : nm.xn c = some x) (hc : c ≠ cVE) (hi : nm.xi c = some n) (hg : glB sc x = true)
    (hs : PA X (e :: es) (tA k Z0 H0 W rs)) (hst : starEach (e :: es) X.env = (false, eval e X.env) :: starEach es X.env) (hpl : (backTo cp (starEach es X.env)).any (·.1) = false) :
    PS X (.Raise (some (.Call (.Name x p) (e :: es) [] cp)) none pos) (tS k Z0 H0 W fun ε => match cal (.dep 1) with
      | .ok _ => toO ε (rs ε) fun xs => toO ε (shrs xs) fun ds => if ds.length = (k.G.xfl c).length ∧ ds ≠ [] ∧ ds.length ≤ 900 then .exc c ds.reverse ε else .bad
      | _ => .bad) := by
  cases hd : cal (.dep 1) with
  | exc c' fs => exact PS.imp ps_never fun D σ H ⟨_, _, _, _, h⟩ => h
  | bad => exact PS.imp ps_never fun D σ H ⟨_, _, _, _, h⟩ => h
  | ok q0 =>
    have hlv := g.dep 1 (by rw [hd]; exact fun z => nomatch z)
    have XC := g.xcs c x hc hx
    obtain ⟨fI, fd, ps, iC, tI, hb, hn, F1⟩ := (g.xis c n hi).ex
    rw [g.hK] at iC tI
    have T : OexC X.K (k.ca c) := by rw [← g.hK]; exact XC.ox
    refine PS.imp (ps_raise g.calm g.tk (pmk_oex (dvs := []) T iC tI F1 (g.room.mono hlv) hb .nil (passes_call g.tk fun _ _ _ _ z => z.elim) (g.gl hg).1 (g.xnm c x hc hx) hs (g.gl hg).2 hst hpl)) fun D σ H ⟨Z, ε, F, rel, h⟩ => ?_
    refine ⟨Z, ε, F, rel, (AfterS.toO rel h).imp fun xs exs h => ?_⟩
    intro vs Z1 H1 fp e1 t1 n1
    cases ep : shrs xs with
    | bad => rw [ep] at h; exact h.elim
    | exc c' fs => exact absurd ep (shrs_calm xs c' fs)
    | ok ds =>
      rw [ep] at h
      have h : AfterS k Z0 H0 W Z D (if ds.length = (k.G.xfl c).length ∧ ds ≠ [] ∧ ds.length ≤ 900 then .exc c ds.reverse ε else .bad) := h
      split at h
      · rename_i hl
        have sh := shrs_ok ep t1 (zjoin_sub e1.zh) (fun a m => zjoin_in m)
        have e2 := Ext.freeze e1 n1.n
        have hfl := XC.nd.2
        refine ⟨by rw [sh.length]; omega, fun a ha => ?_⟩
        rw [List.append_nil]
        refine ⟨a, vs, rfl, by rw [sh.length, hl.1, hfl], upd_same, fun d hd hda => ?_⟩
        have hd1 : H1 d = none := by rw [upd_ne hda] at hd; exact hd
        refine ⟨rfl, d, (k.fl c).zip vs.reverse, upd_same, by rw [upd_ne hda, upd_same], hd1, ?_⟩
        have eu : upd (del (upd (upd (upd H1 a (exo a (k.ca c) none)) d (exd d ((k.fl c).zip vs.reverse))) a (exo a (k.ca c) (some d))) a) d (.xd ((k.fl c).zip vs.reverse)) = upd H1 d (.xd ((k.fl c).zip vs.reverse)) := by
          funext b
          by_cases hb : b = d
          · rw [hb, upd_same, upd_same]
          · rw [upd_ne hb, upd_ne hb]
            by_cases hb2 : b = a
            · rw [hb2, del_same, ha]
            · rw [del_ne hb2, upd_ne hb2, upd_ne hb, upd_ne hb2]
        rw [eu]
        have eL := Ext.layH (o := .xd ((k.fl c).zip vs.reverse)) e2.zh hd1
        exact h (.ref (k.ca c)) (some d) σ _ _ F (rel.ext (e2.trans eL)) (e2.trans eL).z ⟨rfl, .inr ⟨d, vs.reverse, rfl, upd_same, (sh.mono eL.z).reverse⟩⟩
      · exact h.elim
end
/-! ### what a suite says of the caught exception -/
/-- the checker's part: the exception's name is y, at n -/
def clsB1 (c : CC) (sc : Scope) (d : Nat) : Expr → Bool
  | .Name x _ => decide (c.nm.xn d = some x) && glB sc x
  | _ => false
def clsBs (c : CC) (sc : Scope) : List Nat → List Expr → Bool
  | [], [] => true
  | d :: ds, e :: es => clsB1 c sc d e && clsBs c sc ds es
  | _, _ => false
def excN (c : CC) (sc : Scope) (n : Option Nat) : Expr → Bool
  | .Name y _ => (match n with | some i => decide (c.N[i]? = some y) && visB sc y | none => false)
  | _ => false
mutual
def chkXE (c : CC) (sc : Scope) (n : Option Nat) : XE → Expr → Bool
  | .str x, e => (match e with | .Constant (.str y) _ _ => decide (x = y) | _ => false)
  | .int i, e => (match e with | .Constant (.int j) _ _ => decide (i = j) | _ => false)
  | .bl b, e => (match e with | .Constant (.bool b') _ _ => b == b' | _ => false)
  | .non, e => (match e with | .Constant .none _ _ => true | _ => false)
  | .fld f, e => (match e with | .Attribute x y _ => decide (c.nm.at_ f = some y) && noSup x && excN c sc n x | _ => false)
  | .isi cs tup, e => (match e with
    | .Call (.Name f _) [y, z] [] _ => decide (f = ("isinstance" : Str)) && glB sc "isinstance" && excN c sc n y && (match tup, cs, z with
      | false, [d], z => clsB1 c sc d z
      | true, cs, .Tuple es _ _ => clsBs c sc cs es && decide (es.length ≤ 1000)
      | _, _, _ => false)
    | _ => false)
  | .and_ a b, e => (match e with
    | .BoolOp .And [x, y] _ => chkXE c sc n a x && chkXE c sc n b y
    | .BoolOp .And (x :: y :: z :: r) p => chkXE c sc n a x && chkXE c sc n b (.BoolOp .And (y :: z :: r) p)
    | _ => false)
  | .not_ a, e => (match e with | .UnaryOp .Not x _ => chkXE c sc n a x | _ => false)
  | .lst es, e => (match e with | .List xs _ => chkXEs c sc n es xs | _ => false)
def chkXEs (c : CC) (sc : Scope) (n : Option Nat) : XEs → List Expr → Bool
  | .nil, es => (match es with | [] => true | _ => false)
  | .cons a r, es => (match es with | x :: xs => notStar x && chkXE c sc n a x && chkXEs c sc n r xs | _ => false)
end
section
variable {k : Kc} {cal : Cl → R LD} {np : Nat → Nat} {lv : Nat} {c : CC} {sc : Scope} {X : Cx} {W : WX} {Z0 H0 : Hp} {n : Option Nat} {a : Addr} {oe : Obj} {cls : Value} {dd : Option Addr} {pn : List (Addr × Obj)}
theorem XRep.mono {Z H Z' H' : Hp} {cc : Nat} {fs : List D} (h : XRep k Z H cc fs cls dd) (e : Ext Z H Z' H') : XRep k Z' H' cc fs cls dd := by
  obtain ⟨h1, h2⟩ := h
  refine ⟨h1, ?_⟩
  rcases h2 with h2 | ⟨d, vs, e1, e2, e3⟩
  · exact .inl h2
  · exact .inr ⟨d, vs, e1, e.h _ _ e2, e3.mono e.z⟩
/-- the exception that is caught: its name's slot, its class, its fields -/
structure Cau (k : Kc) (nm : Nm) (n : Option Nat) (a : Addr) (cls : Value) (dd : Option Addr) (cc : Nat) (fs : List D) (σ : L2.St) (Z H : Hp) : Prop where
  sl : ∀ i, n = some i → σ[i]? = some (some (.ref a))
  rp : XRep k Z H cc fs cls dd
  ne : cc ≠ cVE
  nm : ∃ x, nm.xn cc = some x
/-- a value is made of it -/
def tXE (k : Kc) (nm : Nm) (n : Option Nat) (a : Addr) (cls : Value) (dd : Option Addr) (r : Nat → List D → R LD) : TE := fun σ H Q => ∃ cc fs Z, Zh Z H ∧ Cau k nm n a cls dd cc fs σ Z H ∧ (match r cc fs with
  | .ok x => ∀ v Z' H' fp, Ext Z H Z' H' → RelT k Z' H' (fun _ => []) x.1 v x.2 fp → New Z' H fp → Q v H'
  | _ => False)
def tXA (k : Kc) (nm : Nm) (n : Option Nat) (a : Addr) (cls : Value) (dd : Option Addr) (r : Nat → List D → R (List LD)) : TA := fun σ H Q => ∃ cc fs Z, Zh Z H ∧ Cau k nm n a cls dd cc fs σ Z H ∧ (match r cc fs with
  | .ok xs => ∀ vs Z' H' fp, Ext Z H Z' H' → RelTs k Z' H' (fun _ => []) vs xs fp → New Z' H fp → Q vs H'
  | _ => False)
theorem Cau.mono {nm : Nm} {cc : Nat} {fs : List D} {σ : L2.St} {Z H Z' H' : Hp} (h : Cau k nm n a cls dd cc fs σ Z H) (e : Ext Z H Z' H') : Cau k nm n a cls dd cc fs σ Z' H' := ⟨h.sl, h.rp.mono e, h.ne, h.nm⟩
theorem xe_const {nm : Nm} {e : Expr} {v : V} {d : D} (hs : ∀ Z, Sh k Z v d) (h : PE X e (tC v)) : PE X e (tXE k nm n a cls dd fun _ _ => .ok (0, d)) := PE.imp h fun σ H Q ⟨cc, fs, Z, zh, ca, q⟩ => q v Z H [] (Ext.refl zh) ⟨hs Z, rfl⟩ New.nil
theorem xe_and {nm : Nm} {x y : Expr} {rest : List Expr} {ra rb : Nat → List D → R LD} {pos : Pos} (ha : PE X x (tXE k nm n a cls dd ra)) (hb : PE X (.BoolOp .And (y :: rest) pos) (tXE k nm n a cls dd rb)) :
    PE X (.BoolOp .And (x :: y :: rest) pos) (tXE k nm n a cls dd fun cc fs => (ra cc fs).bind fun x => (asB x).bind fun c => if c then rb cc fs else okB false) := PE.imp (pe_and ha hb) fun σ H Q ⟨cc, fs, Z, zh, ca, q⟩ => by
  refine ⟨cc, fs, Z, zh, ca, ?_⟩
  dsimp only at q ⊢
  cases e : ra cc fs with
  | bad => rw [e] at q; exact q
  | exc _ _ => rw [e] at q; exact q
  | ok z =>
    rw [e] at q
    obtain ⟨l, d⟩ := z
    intro v Z1 H1 f1 e1 t1 n1
    dsimp only at t1
    cases d with
    | bl b =>
      refine ⟨b, t1.bl, ?_⟩
      cases b with
      | true =>
        refine ⟨cc, fs, Z1, e1.zh, ca.mono e1, ?_⟩
        change (match rb cc fs with | .ok x => ∀ v Z' H' fp, Ext Z H Z' H' → RelT k Z' H' (fun _ => []) x.1 v x.2 fp → New Z' H fp → Q v H' | _ => False) at q
        cases e2 : rb cc fs with
        | bad => rw [e2] at q; exact q
        | exc _ _ => rw [e2] at q; exact q
        | ok y =>
          rw [e2] at q
          exact fun v Z2 H2 f2 e2 t2 n2 => q v Z2 H2 f2 (e1.trans e2) t2 (n2.back e1.h)
      | false => exact q (.bl false) Z1 H1 [] e1 ⟨.bl _, rfl⟩ New.nil
    | _ => exact q.elim
theorem xe_not {nm : Nm} {x : Expr} {ra : Nat → List D → R LD} {pos : Pos} (ha : PE X x (tXE k nm n a cls dd ra)) :
    PE X (.UnaryOp .Not x pos) (tXE k nm n a cls dd fun cc fs => (ra cc fs).bind fun x => (asB x).bind fun c => okB (!c)) := PE.imp (pe_not ha) fun σ H Q ⟨cc, fs, Z, zh, ca, q⟩ => by
  refine ⟨cc, fs, Z, zh, ca, ?_⟩
  dsimp only at q ⊢
  cases e : ra cc fs with
  | bad => rw [e] at q; exact q
  | exc _ _ => rw [e] at q; exact q
  | ok z =>
    rw [e] at q
    obtain ⟨l, d⟩ := z
    intro v Z1 H1 f1 e1 t1 n1
    dsimp only at t1
    cases d with
    | bl b => exact ⟨b, t1.bl, q (.bl _) Z1 H1 [] e1 ⟨.bl _, rfl⟩ New.nil⟩
    | _ => exact q.elim
theorem xe_nil {nm : Nm} : PA X [] (tXA k nm n a cls dd fun _ _ => .ok []) := PA.imp pa_nil fun σ H Q ⟨cc, fs, Z, zh, ca, q⟩ => q [] Z H [] (Ext.refl zh) .nil New.nil
theorem xe_cons {nm : Nm} {e : Expr} {es : List Expr} {re : Nat → List D → R LD} {rs : Nat → List D → R (List LD)} (he : PE X e (tXE k nm n a cls dd re)) (hs : PA X es (tXA k nm n a cls dd rs)) (hst : starEach (e :: es) X.env = (false, eval e X.env) :: starEach es X.env) :
    PA X (e :: es) (tXA k nm n a cls dd fun cc fs => (re cc fs).bind fun x => (rs cc fs).bind fun xs => .ok (x :: xs)) := PA.imp (pa_cons he hs hst) fun σ H Q ⟨cc, fs, Z, zh, ca, q⟩ => by
  refine ⟨cc, fs, Z, zh, ca, ?_⟩
  dsimp only at q ⊢
  cases e : re cc fs with
  | bad => rw [e] at q; exact q
  | exc _ _ => rw [e] at q; exact q
  | ok z =>
    rw [e] at q
    intro v1 Z1 H1 f1 e1 t1 n1
    refine ⟨cc, fs, Z1, e1.zh, ca.mono e1, ?_⟩
    change (match (rs cc fs).bind fun xs => R.ok (z :: xs) with | .ok xs => ∀ vs Z' H' fp, Ext Z H Z' H' → RelTs k Z' H' (fun _ => []) vs xs fp → New Z' H fp → Q vs H' | _ => False) at q
    cases e2 : rs cc fs with
    | bad => rw [e2] at q; exact q
    | exc _ _ => rw [e2] at q; exact q
    | ok ys =>
      rw [e2] at q
      intro vs Z2 H2 f2 e2 t2 n2
      exact q (v1 :: vs) Z2 H2 (f1 ++ f2) (e1.trans e2) (.cons (t1.mono e2) t2) ((n1.ext t1.there e2).join t1.there n2 e1.h)
theorem xe_lst {nm : Nm} {es : List Expr} {rs : Nat → List D → R (List LD)} {pos : Pos} (h : PA X es (tXA k nm n a cls dd rs)) : PE X (.List es pos) (tXE k nm n a cls dd fun cc fs => (rs cc fs).bind pack) := PE.imp (pe_lst h) fun σ H Q ⟨cc, fs, Z, zh, ca, q⟩ => by
  refine ⟨cc, fs, Z, zh, ca, ?_⟩
  dsimp only at q ⊢
  cases e : rs cc fs with
  | bad => rw [e] at q; exact q
  | exc _ _ => rw [e] at q; exact q
  | ok xs =>
    rw [e] at q
    intro vs Z1 H1 fp e1 t1 n1
    change (match pack xs with | .ok x => ∀ v Z' H' fp, Ext Z H Z' H' → RelT k Z' H' (fun _ => []) x.1 v x.2 fp → New Z' H fp → Q v H' | _ => False) at q
    cases ep : pack xs with
    | bad => rw [ep] at q; exact q.elim
    | exc c fs => exact absurd ep (pack_calm xs c fs)
    | ok z =>
      rw [ep] at q
      exact pack_get e1.zh ep t1 n1 e1 q
/-- the exception's name -/
theorem xe_var (hN : X.N = c.N) (hsc : X.env.scope = sc) {e : Expr} (h : excN c sc n e = true) : ∃ i, n = some i ∧ PE X e (tVar i) := by
  unfold excN at h
  split at h
  · split at h
    · rename_i y p i
      simp only [Bool.and_eq_true, decide_eq_true_eq] at h
      obtain ⟨v1, v2, v3⟩ := vis_of h.2
      exact ⟨i, rfl, pe_var (i := i) (by rw [hN]; exact h.1) (by rw [hsc]; exact v1) v2 v3⟩
    · cases h
  · cases h
/-- e.f -/
theorem xe_fld (g : Gd k c.nm cal np lv c.N sc X W) (hz : Zc cls dd oe) (hf : ∃ vs, oe.data = .fields vs) {f : Nat} {y : Str} {e : Expr} {pos : Pos} (hy : c.nm.at_ f = some y) (hs : noSup e = true) (he : excN c sc n e = true) :
    PE (X.suite a ((a, oe) :: pn)) (.Attribute e y pos) (tXE k c.nm n a cls dd fun cc fs => match fldIx (k.G.xfl cc) f with
      | some j => (match fs[j]? with | some d => .ok (0, d) | none => .bad)
      | none => .bad) := by
  obtain ⟨i, hn, pe⟩ := xe_var (c := c) (sc := sc) (X := X.suite a ((a, oe) :: pn)) g.hN g.sc he
  refine PE.of fun σ H Q ⟨cc, fs, Z, zh, ca, q⟩ => ?_
  obtain ⟨x, hx⟩ := ca.nm
  have XC := g.xcs cc x ca.ne hx
  dsimp only at q
  cases e1 : fldIx (k.G.xfl cc) f with
  | none => rw [e1] at q; exact q.elim
  | some j =>
    rw [e1] at q
    dsimp only at q
    cases e2 : fs[j]? with
    | none => rw [e2] at q; exact q.elim
    | some d =>
      rw [e2] at q
      obtain ⟨h1, h2⟩ := XC.fl f j y e1 hy
      obtain ⟨rc, rp⟩ := ca.rp
      rcases rp with ⟨rfl, _⟩ | ⟨da, vs, rd, rh, rs⟩
      · simp at e2
      · obtain ⟨v, hv, sv⟩ := rs.get e2
        refine ⟨_, pe_xf (X := X) (C := k.ca cc) (cls := cls) (d := dd) (te := tVar i) (by rw [← g.hK]; exact XC.xf) (by rw [← g.hK]; exact h2) hz hf pe (base_of hs), ?_⟩
        refine ⟨.ref a, ca.sl i hn, rfl, rc, da, (k.fl cc).zip vs, v, rd, rh, ?_, q v Z H [] (Ext.refl zh) ⟨sv, rfl⟩ New.nil⟩
        exact zip_lookup XC.nd.1 h1 hv
/-- a class's name -/
theorem xe_cls (g : Gd k c.nm cal np lv c.N sc X W) {d : Nat} {e : Expr} (h : clsB1 c sc d e = true) : ∃ cv, ClsV cv (clV k d) ∧ PE (X.suite a ((a, oe) :: pn)) e (tC cv) ∧ ∃ x p, e = .Name x p ∧ Names X x (clV k d) := by
  unfold clsB1 at h
  split at h
  · rename_i x p
    simp only [Bool.and_eq_true, decide_eq_true_eq] at h
    obtain ⟨h1, h2⟩ := h
    obtain ⟨g1, g2⟩ := g.gl h2
    unfold clV
    by_cases hd : d = cVE
    · subst hd
      have hx := g.xve x h1
      subst hx
      rw [if_pos rfl]
      have hm := g.free "ValueError" (by decide)
      have hb : bootBuiltins ("ValueError" : Str) = some (.type "ValueError") := PyProof.Rows.Boot.«ValueError»
      exact ⟨.ty "ValueError", .ty _, pe_bltn (X := X.suite a ((a, oe) :: pn)) g1 hm hb rfl (by decide) g2, _, p, rfl, g1, g2, .inr ⟨hm, hb, by decide⟩⟩
    · rw [if_neg hd]
      have hm := g.xnm d x hd h1
      exact ⟨.ref (k.ca d), .own _, pe_glob (X := X.suite a ((a, oe) :: pn)) g1 hm rfl g2, _, p, rfl, g1, g2, .inl hm⟩
  · cases h
theorem xe_clss (g : Gd k c.nm cal np lv c.N sc X W) : ∀ {ds : List Nat} {es : List Expr}, clsBs c sc ds es = true → ∃ cvs, Paired ClsV cvs (ds.map (clV k)) ∧ PA (X.suite a ((a, oe) :: pn)) es (fun σ H Q => Q cvs H) ∧ NamesL X es (ds.map (clV k)) ∧ es.length = ds.length
  | [], [], _ => ⟨[], .nil, pa_nil, .nil, rfl⟩
  | d :: ds, e :: es, h => by
    unfold clsBs at h
    obtain ⟨h1, h2⟩ := Bool.and_eq_true_iff.mp h
    obtain ⟨cv, a1, a2, x, p, rfl, a3⟩ := xe_cls (a := a) (oe := oe) (pn := pn) g h1
    obtain ⟨cvs, b1, b2, b3, b4⟩ := xe_clss g h2
    exact ⟨cv :: cvs, .cons a1 b1, PA.imp (pa_cons a2 b2 rfl) fun σ H Q q => q, .cons a3 b3, by simp [b4]⟩
  | [], _ :: _, h => by cases h
  | _ :: _, [], h => by cases h
/-- isinstance of the exception -/
def rIsX (k : Kc) (X : Cx) (a : Addr) (cls : Value) (dd : Option Addr) : List V → Hp → VK → Prop := fun xs H Q => ∃ cc fs Z b, XRep k Z H cc fs cls dd ∧ XfC X.K (k.ca cc) ∧ IxC X.K (k.ca cc) ∧ Q (.bl b) H ∧
  ((∃ c u, xs = [.ref a, c] ∧ ClsV c u ∧ PySem.W.kitOne X.K cls u = some b) ∨ ∃ tp cs us, xs = [.ref a, .ref tp] ∧ H tp = some (.tup cs) ∧ Paired ClsV cs us ∧ PySem.W.kitAny X.K cls us = some b)
theorem call_isX (hz : Zc cls dd oe) (hf : ∃ vs, oe.data = .fields vs) : CallR (X.suite a ((a, oe) :: pn)) (.builtin "isinstance") (rIsX k X a cls dd) := by
  intro pins s σ H xs us Q I r h
  obtain ⟨cc, fs, Z, b, rp, xf, ix, q, h⟩ := h
  obtain ⟨rc, rp⟩ := rp
  subst rc
  obtain ⟨hget, _⟩ := I.pin (a, oe) (List.mem_append_left _ List.mem_cons_self)
  obtain ⟨vs, hv⟩ := hf
  obtain ⟨od, J⟩ : ∃ od, PySem.W.InstAt s.heap a oe (k.ca cc) od := by
    rcases rp with ⟨_, rd⟩ | ⟨d, ws, rd, rh, _⟩
    · subst rd
      exact ⟨none, hget, hz.1, by unfold PySem.W.notCls; rw [hv] <;> rfl, by rw [hz.2]; trivial⟩
    · subst rd
      have hx : ObjOk X.prog X.w H s.heap d (.xd ((k.fl cc).zip ws)) := I.hok d _ rh
      obtain ⟨mA, hns, hr⟩ := hx
      obtain ⟨od, ho, hl⟩ := lookIn_ns hns
      exact ⟨some od, hget, hz.1, by unfold PySem.W.notCls; rw [hv] <;> rfl, by rw [hz.2]; exact ho⟩
  have KX := PySem.W.kitx_exc (x := a) (ox := oe) (od := od) ix.cl xf.ga xf.gg xf.exC ix.cc ix.cg ix.ct ix.cm
  rcases h with ⟨cv, u, rfl, hcv, e⟩ | ⟨tp, cs, ws, rfl, hT, hcs, e⟩
  · obtain ⟨u1, u2, rfl, r1, r2⟩ := r.two
    cases (show u1 = Value.ref a from r1)
    have e2 := hcv.eq r2
    subst e2
    exact PySem.W.kia_one KX I.kIn J e (fun z => nomatch z) fun tk => ⟨.bl b, H, I.tok tk, rfl, q⟩
  · obtain ⟨u1, u2, rfl, r1, r2⟩ := r.two
    cases (show u1 = Value.ref a from r1)
    cases (show u2 = Value.ref tp from r2)
    obtain ⟨_, its, rv, o, h1, h2, n', h3⟩ := (show ObjOk X.prog X.w H s.heap tp (.tup cs) from I.hok tp _ hT)
    have e3 := ClsV.all hcs rv
    subst e3
    obtain ⟨oc, od', dt, sl⟩ := o
    simp only at h2 h3
    subst h2 h3
    exact PySem.W.kia_tup KX I.kIn J h1 e (fun z => nomatch z) fun tk => ⟨.bl b, H, I.tok tk, rfl, q⟩
theorem xis_any {Kf : PySem.W.Frag} (g : Gd k c.nm cal np lv c.N sc X W) {cc : Nat} : ∀ {cs : List Nat} {b : Bool}, xis k.G cc cs = some b → PySem.W.exmAny X.K (.ref (k.ca cc)) (cs.map (clV k)) = some b ∧ PySem.W.kitAny X.K (.ref (k.ca cc)) (cs.map (clV k)) = some b
  | [], b, h => by cases h; exact ⟨rfl, rfl⟩
  | d :: r, b, h => by
    unfold xis at h
    split at h
    · rename_i b1 b2 h1 h2
      cases h
      obtain ⟨e1, e2⟩ := xis_any (Kf := Kf) g h2
      obtain ⟨_, _, _, m1, m2⟩ := g.exm d cc b1 h1
      rw [g.hK] at m1 m2
      refine ⟨?_, ?_⟩
      · show PySem.W.exmAny X.K (.ref (k.ca cc)) (clV k d :: r.map (clV k)) = _
        unfold PySem.W.exmAny
        rw [m1, e1]
      · refine kitAny_cons m2 (fun hb => ?_) fun hb => ?_
        · rw [hb, Bool.false_or]; exact e2
        · rw [hb]; rfl
    · cases h
theorem xe_isi (g : Gd k c.nm cal np lv c.N sc X W) (hz : Zc cls dd oe) (hf : ∃ vs, oe.data = .fields vs) {cs : List Nat} {tup : Bool} {e : Expr} (h : chkXE c sc n (.isi cs tup) e = true) :
    PE (X.suite a ((a, oe) :: pn)) e (tXE k c.nm n a cls dd fun cc fs => match xis k.G cc cs with | some b => okB b | none => .bad) := by
  unfold chkXE at h
  split at h
  · rename_i f p0 y z pos
    simp only [Bool.and_eq_true, decide_eq_true_eq] at h
    obtain ⟨⟨⟨rfl, h2⟩, h3⟩, h4⟩ := h
    obtain ⟨i, hn, pe⟩ := xe_var (c := c) (sc := sc) (X := X.suite a ((a, oe) :: pn)) g.hN g.sc h3
    obtain ⟨g1, g2⟩ := g.gl h2
    have hm := g.free "isinstance" (by decide)
    have hy : notStar y = true := by
      unfold excN at h3
      split at h3
      · rfl
      · cases h3
    have out : ∀ {cs : List Nat} {σ : L2.St} {H : Hp} {Q : VK} {cc : Nat} {fs : List D} {Z : Hp} {b : Bool}, Zh Z H → Cau k c.nm n a cls dd cc fs σ Z H → xis k.G cc cs = some b → (match (match xis k.G cc cs with | some b => okB b | none => R.bad) with
        | .ok x => ∀ v Z' H' fp, Ext Z H Z' H' → RelT k Z' H' (fun _ => []) x.1 v x.2 fp → New Z' H fp → Q v H'
        | _ => False) → ∀ H', Ext Z H Z H' → Q (.bl b) H' := fun {cs σ H Q cc fs Z b} zh ca hx q H' e => by
      rw [hx] at q
      exact q (.bl b) Z H' [] e ⟨.bl _, rfl⟩ New.nil
    match tup, cs, z, h4 with
    | false, [d], z, h4 =>
      obtain ⟨cv, a1, a2, x, p, rfl, _⟩ := xe_cls (a := a) (oe := oe) (pn := pn) g h4
      have hpa : PA (X.suite a ((a, oe) :: pn)) [y, .Name x p] (tCons (tVar i) (tCons (tC cv) tNil)) := pa_cons pe (pa_cons a2 pa_nil rfl) (star_cons hy)
      refine PE.imp (pe_callB (call_isX (k := k) hz hf) g1 hm rfl hpa (by decide) g2 (star_cons hy) rfl) fun σ H Q ⟨cc, fs, Z, zh, ca, q⟩ => ?_
      dsimp only at q
      cases hx : xis k.G cc [d] with
      | none => rw [hx] at q; exact q.elim
      | some b =>
        obtain ⟨x', hx'⟩ := ca.nm
        have XC := g.xcs cc x' ca.ne hx'
        refine ⟨.ref a, ca.sl i hn, cc, fs, Z, b, ca.rp, by rw [← g.hK]; exact XC.xf, by rw [← g.hK]; exact XC.ix, out zh ca hx q H (Ext.refl zh), .inl ⟨cv, clV k d, rfl, a1, ?_⟩⟩
        rw [ca.rp.1]
        unfold xis at hx
        split at hx
        · rename_i b1 b2 e1 e2
          cases e2
          cases hx
          rw [Bool.or_false]
          have := (g.exm d cc b1 e1).2.2.2.2
          rwa [g.hK] at this
        · cases hx
    | true, cs, .Tuple es kk tp, h4 =>
      obtain ⟨h5, h6⟩ := Bool.and_eq_true_iff.mp h4
      have h6 := of_decide_eq_true h6
      obtain ⟨cvs, b1, b2, _, b4⟩ := xe_clss (a := a) (oe := oe) (pn := pn) g h5
      have hpa : PA (X.suite a ((a, oe) :: pn)) [y, .Tuple es kk tp] (tCons (tVar i) (tCons (tTup fun σ H Q => Q cvs H) tNil)) := pa_cons pe (pa_cons (pe_tup b2) pa_nil rfl) (star_cons hy)
      refine PE.imp (pe_callB (call_isX (k := k) hz hf) g1 hm rfl hpa (by decide) g2 (star_cons hy) rfl) fun σ H Q ⟨cc, fs, Z, zh, ca, q⟩ => ?_
      dsimp only at q
      cases hx : xis k.G cc cs with
      | none => rw [hx] at q; exact q.elim
      | some b =>
        obtain ⟨x', hx'⟩ := ca.nm
        have XC := g.xcs cc x' ca.ne hx'
        have hl : cvs.length = cs.length := by have := Paired.length b1; rw [List.length_map] at this; exact this
        refine ⟨.ref a, ca.sl i hn, by rw [hl, ← b4]; exact Nat.le_trans h6 (by rw [sizeLine_eq]; decide), fun p hp => ?_⟩
        have e2 := Ext.layH (o := .tup cvs) zh hp
        refine ⟨cc, fs, Z, b, ca.rp.mono e2, by rw [← g.hK]; exact XC.xf, by rw [← g.hK]; exact XC.ix, out zh ca hx q _ e2, .inr ⟨p, cvs, cs.map (clV k), rfl, upd_same, b1, ?_⟩⟩
        rw [ca.rp.1]
        exact (xis_any (Kf := X.K) g hx).2
  · cases h
mutual
theorem sndXE (g : Gd k c.nm cal np lv c.N sc X W) (hz : Zc cls dd oe) (hf : ∃ vs, oe.data = .fields vs) : ∀ (x : XE) {e : Expr}, chkXE c sc n x e = true → PE (X.suite a ((a, oe) :: pn)) e (tXE k c.nm n a cls dd fun cc fs => evX k.G cc fs x)
  | .str x, e, h => by
    unfold chkXE at h
    split at h
    · have h := of_decide_eq_true h
      subst h
      exact xe_const (fun _ => .str _) pe_str
    · cases h
  | .int i, e, h => by
    unfold chkXE at h
    split at h
    · have h := of_decide_eq_true h
      subst h
      exact xe_const (fun _ => .int _) pe_int
    · cases h
  | .bl b, e, h => by
    unfold chkXE at h
    split at h
    · have h := beq_iff_eq.mp h
      subst h
      exact xe_const (fun _ => .bl _) pe_bl
    · cases h
  | .non, e, h => by
    unfold chkXE at h
    split at h
    · exact xe_const (fun _ => .non) pe_non
    · cases h
  | .fld f, e, h => by
    unfold chkXE at h
    split at h
    · simp only [Bool.and_eq_true, decide_eq_true_eq] at h
      exact xe_fld g hz hf h.1.1 h.1.2 h.2
    · cases h
  | .isi cs tup, e, h => xe_isi g hz hf h
  | .and_ x y, e, h => by
    unfold chkXE at h
    split at h
    · simp only [Bool.and_eq_true] at h
      exact xe_and (sndXE g hz hf x h.1) (pe_one (sndXE g hz hf y h.2))
    · simp only [Bool.and_eq_true] at h
      exact xe_and (sndXE g hz hf x h.1) (sndXE g hz hf y h.2)
    · cases h
  | .not_ x, e, h => by
    unfold chkXE at h
    split at h
    · exact xe_not (sndXE g hz hf x h)
    · cases h
  | .lst es, e, h => by
    unfold chkXE at h
    split at h
    · exact xe_lst (sndXEs g hz hf es h)
    · cases h
theorem sndXEs (g : Gd k c.nm cal np lv c.N sc X W) (hz : Zc cls dd oe) (hf : ∃ vs, oe.data = .fields vs) : ∀ (xs : XEs) {es : List Expr}, chkXEs c sc n xs es = true → PA (X.suite a ((a, oe) :: pn)) es (tXA k c.nm n a cls dd fun cc fs => evXs k.G cc fs xs)
  | .nil, es, h => by
    unfold chkXEs at h
    split at h
    · exact xe_nil
    · cases h
  | .cons x r, es, h => by
    unfold chkXEs at h
    split at h
    · simp only [Bool.and_eq_true] at h
      exact xe_cons (sndXE g hz hf x h.1.2) (sndXEs g hz hf r h.2) (star_cons h.1.1)
    · cases h
end
/-! ### suites -/
def chkSu (c : CC) (sc : Scope) (n : Option Nat) : List (Nat × Bool × XE) → List Stmt → Bool
  | [], [] => true
  | (i, _, x) :: r, .Assign [.Name y p] v _ :: sts => chkN c sc i y && (match v with | .ListComp _ _ _ _ => false | .SetComp _ _ _ _ => false | .DictComp _ _ _ _ _ => false | _ => true) && chkXE c sc n x v && chkSu c sc n r sts
  | _, _ => false
theorem suX_out {G : Tb} {cc : Nat} {fs : List D} : ∀ {su : List (Nat × Bool × XE)} {ε : En}, suX G cc fs su ε = .bad ∨ ∃ ε', suX G cc fs su ε = .nx ε'
  | [], ε => .inr ⟨ε, rfl⟩
  | (i, fz, x) :: r, ε => by
    unfold suX
    split
    · split
      · split
        · exact suX_out
        · exact .inl rfl
      · exact .inl rfl
    · exact .inl rfl
theorem suX_len {G : Tb} {cc : Nat} {fs : List D} : ∀ {su : List (Nat × Bool × XE)} {ε ε' : En}, suX G cc fs su ε = .nx ε' → ε'.length = ε.length
  | [], ε, ε', h => by cases h; rfl
  | (i, fz, x) :: r, ε, ε', h => by
    unfold suX at h
    split at h
    · split at h
      · split at h
        · have := suX_len h
          rwa [List.length_set] at this
        · cases h
      · cases h
    · cases h
/-- the suite, told -/
def tSu (k : Kc) (nm : Nm) (Z0 H0 : Hp) (n : Option Nat) (su : List (Nat × Bool × XE)) : Addr → Value → Option Addr → TS := fun a cls dd D σ H => ∃ cc fs Z ε F, RelS k Z0 H0 Z H σ ε F ∧ Cau k nm n a cls dd cc fs σ Z H ∧ (∀ i, n = some i → (su.all fun p => p.1 != i) = true) ∧ (match suX k.G cc fs su ε with
  | .nx ε' => ∀ σ' H' Z' F', RelS k Z0 H0 Z' H' σ' ε' F' → Zle Z Z' → D.nx σ' H'
  | _ => False)
theorem sndSu (g : Gd k c.nm cal np lv c.N sc X W) (hfn : ∀ x, sc.names.lookup x = some .cell → X.fn x = true) (hz : Zc cls dd oe) (hf : ∃ vs, oe.data = .fields vs) : ∀ (su : List (Nat × Bool × XE)) {sts : List Stmt}, chkSu c sc n su sts = true →
    PSs (X.suite a ((a, oe) :: pn)) sts (tSu k c.nm Z0 H0 n su a cls dd)
  | [], [], _ => PSs.imp pss_nil fun D σ H ⟨cc, fs, Z, ε, F, rel, ca, _, q⟩ => q σ H Z F rel fun _ _ e => e
  | (i, fz, x) :: r, .Assign [.Name y p] v pos :: sts, h => by
    unfold chkSu at h
    simp only [Bool.and_eq_true] at h
    obtain ⟨⟨⟨h1, h2⟩, h3⟩, h4⟩ := h
    have n1 : c.N[i]? = some y ∧ (sc.names.lookup y = some .local ∨ sc.names.lookup y = some .cell) := by
      unfold chkN at h1
      simp only [Bool.and_eq_true, decide_eq_true_eq] at h1
      exact ⟨h1.1, locB_ok h1.2⟩
    have hsw : swapsWith v (some (.Name y p)) pos.line (X.suite a ((a, oe) :: pn)).env = pure false := by
      cases v <;> first | (cases h2; done) | rfl
    have st := ps_set (X := X.suite a ((a, oe) :: pn)) (i := i) (x := y) (pos' := p) (pos := pos) (by rw [show (X.suite a ((a, oe) :: pn)).N = c.N from g.hN]; exact g.nd) (by rw [show (X.suite a ((a, oe) :: pn)).N = c.N from g.hN]; exact n1.1)
      (by rw [show (X.suite a ((a, oe) :: pn)).env.scope = sc from g.sc]; exact n1.2) (sndXE (n := n) (a := a) (pn := pn) g hz hf x h3) hsw (by rw [show (X.suite a ((a, oe) :: pn)).env.scope = sc from g.sc]; exact n1.2.elim .inr fun h => .inl (hfn _ h))
    refine PSs.imp (pss_cons st (sndSu g hfn hz hf r h4)) fun D σ H ⟨cc, fs, Z, ε, F, rel, ca, hne, q⟩ => ?_
    refine ⟨cc, fs, Z, rel.zh, ca, ?_⟩
    unfold suX at q
    dsimp only at q ⊢
    cases e : evX k.G cc fs x with
    | bad => rw [e] at q; exact q.elim
    | exc _ _ => rw [e] at q; exact q.elim
    | ok z =>
      rw [e] at q
      intro w Z1 H1 fp e1 t1 nw
      obtain ⟨l, d⟩ := z
      dsimp only at q t1
      unfold keepV at q
      dsimp only at q
      have hle : l ≤ 2 := by
        by_cases hl : l ≤ 2
        · exact hl
        · rw [if_neg hl] at q; exact q.elim
      rw [if_pos hle] at q
      dsimp only at q
      have hd : Hd k Z1 H1 l w d fp := by
        match l, t1, hle with
        | 0, t1, _ => exact t1
        | 1, t1, _ => exact t1
        | 2, t1, _ => exact t1
      have hi : i < ε.length := by
        by_cases hi : i < ε.length
        · exact hi
        · rw [if_neg hi] at q; exact q.elim
      rw [if_pos hi] at q
      have sl : ∀ j, n = some j → (σ.set i (some w))[j]? = some (some (.ref a)) := fun j hj => by
        have := hne j hj
        simp only [List.all_cons, Bool.and_eq_true, bne_iff_ne] at this
        rw [List.getElem?_set_ne this.1]
        exact ca.sl j hj
      have hne' : ∀ j, n = some j → (r.all fun p => p.1 != j) = true := fun j hj => by
        have := hne j hj
        rw [List.all_cons, Bool.and_eq_true] at this
        exact this.2
      by_cases hfz : fz = true ∨ d.lf = true
      · rw [if_pos hfz] at q
        have r1 := rel.ext (e1.freeze nw.n)
        exact ⟨cc, fs, _, ε.set i (some (0, d)), _, r1.put0 (hd.share (zjoin_sub e1.zh) (fun a m => zjoin_in m) (by omega)) hi, ⟨sl, ca.rp.mono (e1.freeze nw.n), ca.ne, ca.nm⟩, hne', by
          revert q
          cases suX k.G cc fs r (ε.set i (some (0, d))) <;> intro q <;> first | exact q | exact fun σ' H' Z' F' r' z => q σ' H' Z' F' r' fun b o e => z b o ((e1.freeze nw.n).z b o e)⟩
      · rw [if_neg hfz] at q
        have r1 := rel.ext e1
        exact ⟨cc, fs, _, ε.set i (some (l, d)), _, r1.put (s := some (l, d)) ⟨w, rfl, hd⟩ nw.nd nw.z (rel.new0 nw) (fun j _ => rel.apart nw j) hi, ⟨sl, ca.rp.mono e1, ca.ne, ca.nm⟩, hne', by
          revert q
          cases suX k.G cc fs r (ε.set i (some (l, d))) <;> intro q <;> first | exact q | exact fun σ' H' Z' F' r' z => q σ' H' Z' F' r' fun b o e => z b o (e1.z b o e)⟩
/-! ### clauses, try -/
def chkTe (c : CC) (sc : Scope) (tup : Bool) (cs : List Nat) : Expr → Bool
  | .Tuple es _ _ => tup && clsBs c sc cs es && decide (es.length ≤ 1000)
  | .Name x p => !tup && (match cs with | [d] => clsB1 c sc d (.Name x p) | _ => false)
  | _ => false
def chkHd (c : CC) (sc : Scope) (h : Hx) : ExceptHandler → Bool
  | .ExceptHandler (some te) none (b :: r) _ => chkTe c sc h.tup h.cs te && decide (h.nm = none) && chkSu c sc none h.su (b :: r)
  | .ExceptHandler (some te) (some y) (b :: r) _ => chkTe c sc h.tup h.cs te && (match h.nm with
    | some i => decide (c.N[i]? = some y) && decide (sc.names.lookup y = some .local) && chkSu c sc (some i) h.su (b :: r)
    | none => false)
  | _ => false
def chkHds (c : CC) (sc : Scope) : List Hx → List ExceptHandler → Bool
  | [], [] => true
  | h :: hs, e :: es => chkHd c sc h e && chkHds c sc hs es
  | _, _ => false
/-- the frame of a def's body -/
structure TopX (X : Cx) : Prop where
  st : X.stack = X.env :: X.outer
  fr : X.env.frame = some X.env.locals
theorem Gd.tr {nm : Nm} {N : List Str} (g : Gd k nm cal np lv N sc X W) {pn : List (Addr × Obj)} {xe : Value → Shared → Prop} {W' : WX} (tk : Takes (X.tr pn xe) W') (ow : PassesOwn (model X.prog X.w) X.A X.env xe) : Gd k nm cal np lv N sc (X.tr pn xe) W' where
  hK := g.hK
  hN := g.hN
  nd := g.nd
  sc := g.sc
  calm := g.calm
  room := g.room
  free := g.free
  tk := tk
  own := ow
  fns := fun f x h => ⟨(g.fns f x h).ex⟩
  spc := g.spc
  low := g.low
  cls := g.cls
  mth := fun c m f x h1 h2 => ⟨(g.mth c m f x h1 h2).ex⟩
  mks := fun c sh n ks f x h1 h2 => ⟨(g.mks c sh n ks f x h1 h2).ex⟩
  con := g.con
  sup := fun c d m f x h1 h2 h3 => ⟨(g.sup c d m f x h1 h2 h3).ex⟩
  sui := fun c d sh cb n ks f h1 h2 => ⟨(g.sui c d sh cb n ks f h1 h2).sl, (g.sui c d sh cb n ks f h1 h2).ex⟩
  prp := fun c m f x h1 h2 => ⟨(g.prp c m f x h1 h2).sl, (g.prp c m f x h1 h2).ex⟩
  itr := fun c F h => ⟨(g.itr c F h).ex⟩
  fks := fun sh f x n ks h => ⟨(g.fks sh f x n ks h).ex⟩
  sts := fun sh c m f n ks x y h1 h2 h3 => ⟨(g.sts sh c m f n ks x y h1 h2 h3).ex⟩
  eqn := g.eqn
  eqi := g.eqi
  eqd := g.eqd
  isi := g.isi
  isd := g.isd
  ccn := g.ccn
  dep := g.dep
  xnm := g.xnm
  xcs := g.xcs
  xve := g.xve
  exm := g.exm
  xos := g.xos
  xis := fun c n h => ⟨(g.xis c n h).ex⟩
/-- the clauses as they are told -/
def hndOf (k : Kc) (nm : Nm) (Z0 H0 : Hp) (h : Hx) : Hnd := ⟨h.tup, h.cs.map (clV k), h.nm, tSu k nm Z0 H0 h.nm h.su⟩
theorem test_ok (g : Gd k c.nm cal np lv c.N sc X W) {tup : Bool} {cs : List Nat} {te : Expr} (h : chkTe c sc tup cs te = true) : TestX X te tup (cs.map (clV k)) := by
  unfold chkTe at h
  split at h
  · simp only [Bool.and_eq_true, decide_eq_true_eq] at h
    obtain ⟨⟨rfl, h2⟩, h3⟩ := h
    obtain ⟨_, _, _, b3, b4⟩ := xe_clss (a := 0) (oe := ⟨.none, none, .freed, #[]⟩) (pn := []) g h2
    exact .tup b3 (by rw [List.length_map, ← b4]; exact Nat.le_trans h3 (by rw [sizeLine_eq]; decide))
  · obtain ⟨h1, h2⟩ := Bool.and_eq_true_iff.mp h
    have h1 : tup = false := by simpa using h1
    subst h1
    split at h2
    · obtain ⟨_, _, _, x', p', e, nn⟩ := xe_cls (a := 0) (oe := ⟨.none, none, .freed, #[]⟩) (pn := []) g h2
      cases e
      exact .one nn
    · cases h2
  · cases h
theorem hds_ok (g : Gd k c.nm cal np lv c.N sc X W) (hfn : ∀ x, sc.names.lookup x = some .cell → X.fn x = true) : ∀ {hs : List Hx} {es : List ExceptHandler}, chkHds c sc hs es = true → HdsX X es (hs.map (hndOf k c.nm Z0 H0))
  | [], [], _ => .nil
  | h :: hs, e :: es, hh => by
    unfold chkHds at hh
    obtain ⟨h1, h2⟩ := Bool.and_eq_true_iff.mp hh
    have ih := hds_ok g hfn h2
    unfold chkHd at h1
    split at h1
    · simp only [Bool.and_eq_true, decide_eq_true_eq] at h1
      obtain ⟨⟨h3, h4⟩, h5⟩ := h1
      rw [List.map_cons]
      have e1 : hndOf k c.nm Z0 H0 h = ⟨h.tup, h.cs.map (clV k), none, tSu k c.nm Z0 H0 none h.su⟩ := by unfold hndOf; rw [h4]
      rw [e1]
      exact .cons0 (test_ok g h3) (fun a oe cls d pn hz hf => sndSu g hfn hz hf h.su h5) ih
    · obtain ⟨h3, h4⟩ := Bool.and_eq_true_iff.mp h1
      split at h4
      · rename_i i hi
        simp only [Bool.and_eq_true, decide_eq_true_eq] at h4
        obtain ⟨⟨h4, h5⟩, h6⟩ := h4
        rw [List.map_cons]
        have e1 : hndOf k c.nm Z0 H0 h = ⟨h.tup, h.cs.map (clV k), some i, tSu k c.nm Z0 H0 (some i) h.su⟩ := by unfold hndOf; rw [hi]
        rw [e1]
        exact .consA (test_ok g h3) (by rw [g.hN]; exact h4) (by show X.env.scope.names.lookup _ = _; rw [g.sc]; exact h5) (fun a oe cls d pn hz hf => sndSu g hfn hz hf h.su h6) ih
      · cases h4
    · cases h1
  | [], _ :: _, h => by cases h
  | _ :: _, [], h => by cases h
theorem xis_one (g : Gd k c.nm cal np lv c.N sc X W) {cc : Nat} {cs : List Nat} {b : Bool} {tup : Bool} (h : xis k.G cc cs = some b) (ht : tup = true ∨ ∃ d, cs = [d]) : exmT X.K (.ref (k.ca cc)) tup (cs.map (clV k)) = some b := by
  cases tup with
  | true => exact (xis_any (Kf := X.K) g h).1
  | false =>
    rcases ht with ht | ⟨d, rfl⟩
    · cases ht
    · unfold xis at h
      split at h
      · rename_i b1 b2 e1 e2
        cases e2
        cases h
        rw [Bool.or_false]
        have := (g.exm d cc b1 e1).2.2.2.1
        rwa [g.hK] at this
      · cases h
theorem xis_some (g : Gd k c.nm cal np lv c.N sc X W) {cc : Nat} : ∀ {cs : List Nat}, xis k.G cc cs = some true → cc ≠ cVE ∧ ∃ x, c.nm.xn cc = some x
  | [], h => by cases h
  | d :: r, h => by
    unfold xis at h
    split at h
    · rename_i b1 b2 h1 h2
      obtain ⟨m1, m2, _⟩ := g.exm d cc b1 h1
      exact ⟨m1, m2⟩
    · cases h
theorem hd_shape : ∀ {h : Hx} {e : ExceptHandler}, chkHd c sc h e = true → h.tup = true ∨ ∃ d, h.cs = [d] := by
  intro h e q
  have go : ∀ {te : Expr}, chkTe c sc h.tup h.cs te = true → h.tup = true ∨ ∃ d, h.cs = [d] := fun {te} q => by
    unfold chkTe at q
    split at q
    · simp only [Bool.and_eq_true] at q
      exact .inl q.1.1
    · obtain ⟨_, q⟩ := Bool.and_eq_true_iff.mp q
      split at q
      · rename_i d hd
        exact .inr ⟨d, hd⟩
      · cases q
    · cases q
  unfold chkHd at q
  split at q
  · simp only [Bool.and_eq_true] at q
    exact go q.1.1
  · exact go (Bool.and_eq_true_iff.mp q).1
  · cases q
/-- what the clauses do with an exception -/
theorem hds_sem (g : Gd k c.nm cal np lv c.N sc X W) {cc : Nat} {fs : List D} {cls : Value} {dd : Option Addr} {σ : L2.St} {Z H : Hp} {F : Nat → List Addr} {ε : En} {D' : Ends} (rel : RelS k Z0 H0 Z H σ ε F) (rp : XRep k Z H cc fs cls dd) : ∀ {hs : List Hx} {es : List ExceptHandler}, chkHds c sc hs es = true →
    AfterS k Z0 H0 W Z D' (hdX k.G cc fs hs ε) → wHs X.K W D' (hs.map (hndOf k c.nm Z0 H0)) cls dd σ H
  | [], _, _, h => h cls dd σ H Z F rel (fun _ _ e => e) rp
  | h :: hs, [], hh, _ => by cases hh
  | h :: hs, e :: es, hh, q => by
    unfold chkHds at hh
    obtain ⟨h1, h2⟩ := Bool.and_eq_true_iff.mp hh
    unfold hdX at q
    cases hx : xis k.G cc h.cs with
    | none => rw [hx] at q; exact q.elim
    | some b =>
      rw [hx] at q
      refine ⟨b, by rw [rp.1]; exact xis_one (tup := h.tup) g hx (hd_shape h1), fun hb a na => ?_, fun hb => ?_⟩
      · subst hb
        dsimp only at q
        obtain ⟨c1, c2⟩ := xis_some g hx
        unfold Hnd.go hndOf
        dsimp only
        cases hn : h.nm with
        | none =>
          rw [hn] at q
          dsimp only at q ⊢
          refine ⟨cc, fs, Z, ε, F, rel, ⟨fun i z => (nomatch z), rp, c1, c2⟩, fun i z => (nomatch z), ?_⟩
          rcases suX_out (G := k.G) (cc := cc) (fs := fs) (su := h.su) (ε := ε) with e | ⟨ε', e⟩
          · rw [e] at q; exact q.elim
          · rw [e] at q ⊢
            exact q
        | some i =>
          rw [hn] at q
          dsimp only at q ⊢
          split at q
          · rename_i hi
            have r1 : RelS k Z0 H0 Z H (σ.set i (some (.ref a))) (ε.set i none) (fun j => if j = i then [] else F j) := rel.put (o := some (.ref a)) (s := none) rfl List.nodup_nil (fun _ m => by simp at m) (fun _ m => by simp at m) (fun _ _ _ m => by simp at m) hi.1
            refine ⟨cc, fs, Z, _, _, r1, ⟨fun j z => ?_, rp, c1, c2⟩, fun j z => ?_, ?_⟩
            · cases z
              rw [List.getElem?_set_self (by rw [rel.len]; exact hi.1)]
            · cases z
              exact hi.2
            · rcases suX_out (G := k.G) (cc := cc) (fs := fs) (su := h.su) (ε := ε.set i none) with e | ⟨ε', e⟩
              · rw [e] at q; exact q.elim
              · rw [e] at q ⊢
                intro σ' H' Z' F' r2 z2
                have hi2 : i < ε'.length := by
                  have := suX_len e
                  rw [List.length_set] at this
                  rw [this]; exact hi.1
                exact q _ H' Z' _ (r2.putN hi2) z2
          · exact q.elim
      · subst hb
        exact hds_sem g rel rp h2 q
/-- try: .. -/
theorem snd_try (g : Gd k c.nm cal np lv c.N sc X W) (tx : TopX X) (hfn : ∀ x, sc.names.lookup x = some .cell → X.fn x = true) {body : List Stmt} {es : List ExceptHandler} {hs : List Hx} {rb : En → Out} {pos : Pos} (hne : hs ≠ []) (hh : chkHds c sc hs es = true)
    (hb : ∀ (W' : WX) (pn : List (Addr × Obj)) (xe : Value → Shared → Prop), Gd k c.nm cal np lv c.N sc (X.tr pn xe) W' → PSs (X.tr pn xe) body (tS k Z0 H0 W' rb)) :
    PS X (.Try body es [] [] pos) (tS k Z0 H0 W fun ε => match rb ε with
      | .exc cc fs ε' => hdX k.G cc fs hs ε'
      | o => o) := by
  cases es with
  | nil =>
    cases hs with
    | nil => exact absurd rfl hne
    | cons h hs => cases hh
  | cons e es =>
    refine PS.imp (ps_tryX (tb := fun W' => tS k Z0 H0 W' rb) tx.st tx.fr (by rw [g.hN]; exact g.nd) g.tk (fun W' pn xe tk ow => hb W' pn xe (g.tr tk ow)) (hds_ok (Z0 := Z0) (H0 := H0) g hfn hh)) fun D σ H ⟨Z, ε, F, rel, h⟩ => ?_
    refine ⟨Z, ε, F, rel, ?_⟩
    cases hr : rb ε with
    | nx ε' => simp only [hr] at h; exact h
    | brk ε' => simp only [hr] at h; exact h
    | cnt ε' => simp only [hr] at h; exact h
    | ret r ε' => simp only [hr] at h; exact h
    | bad => simp only [hr] at h; exact h
    | exc cc fs ε' =>
      simp only [hr] at h
      exact fun cls dd σ' H' Z' F' r' z rp => hds_sem g r' rp hh (h.mono z)
end
end RS

/-! RsChk2 -/
namespace RS
open PySem PySem.Spec
open PyProof.Rows L2
def noComp : Expr → Bool
  | .ListComp _ _ _ _ => false
  | .SetComp _ _ _ _ => false
  | .DictComp _ _ _ _ _ => false
  | _ => true
def notTup : Expr → Bool
  | .Tuple _ _ _ => false
  | _ => true
def isTupE : Expr → Bool
  | .Tuple _ _ _ => true
  | _ => false
/-- a comprehension's name is stored within the comprehension -/
def swT (sc : Scope) (v : Expr) (x : Str) (p : Pos) : Bool := match v with
  | .ListComp _ _ s vp => isFn sc && decide (sc.names.lookup x = some .local) && (p.line == vp.line) && !(s.names.any fun (n, k) => n == x && (k == .local || k == .cell))
  | _ => false
/-- .. or not -/
def swF (sc : Scope) (v : Expr) (x : Str) (p : Pos) : Bool := noComp v || (match v with
  | .ListComp _ _ s vp => !decide (sc.names.lookup x = some .local) || !(p.line == vp.line) || (s.names.any fun (n, k) => n == x && (k == .local || k == .cell))
  | _ => false)
theorem sw_noComp {v : Expr} {t : Option Expr} {l : Nat} {env : Env} (h : noComp v = true) : swapsWith v t l env = pure false := by
  cases v <;> first | (cases h; done) | rfl
theorem sw_false {sc : Scope} {v : Expr} {x : Str} {p : Pos} {l : Nat} {env : Env} (hsc : env.scope = sc) (h : swF sc v x p = true) : swapsWith v (some (.Name x p)) l env = pure false := by
  unfold swF at h
  rw [Bool.or_eq_true] at h
  rcases h with h | h
  · exact sw_noComp h
  · split at h
    · rename_i e gs s vp
      unfold swapsWith
      simp only [Expr.pos]
      rw [Bool.or_eq_true, Bool.or_eq_true] at h
      rcases h with (h | h) | h
      · rw [Bool.not_eq_true', decide_eq_false_iff_not] at h
        have hk : (env.kindOf x == some .local) = false := by
          rw [beq_eq_false_iff_ne]
          show env.scope.names.lookup x ≠ some .local
          rw [hsc]; exact h
        simp only [hk, Bool.and_false, Bool.false_and]
      · rw [Bool.not_eq_true'] at h
        simp only [h, Bool.and_false, Bool.false_and]
      · simp only [h, Bool.not_true, Bool.and_false]
    · cases h
def slotOf (c : CC) (sc : Scope) (i : Nat) (x : Str) : Bool := decide (c.N[i]? = some x) && visB sc x
mutual
def chkS (c : CC) (sc : Scope) : S → Stmt → Bool
  | .asg i fz e, st => (match st with
    | .Assign [.Name x p] v _ => chkN c sc i x && chkE c sc e v && (swF sc v x p || (swT sc v x p && (match e with | .comp _ _ _ _ => true | _ => false)))
    | _ => false)
  | .asgT tg e, st => (match st with
    | .Assign [t] v _ => isTupE t && chkTg c sc tg t && chkE c sc e v && notTup v
    | _ => false)
  | .setI i k e, st => (match st with
    | .Assign [.Subscript (.Name x _) ik _] v _ => slotOf c sc i x && ixOk ik && chkE c sc k ik && chkE c sc e v
    | _ => false)
  | .setI2 i j k e, st => (match st with
    | .Assign [.Subscript (.Subscript (.Name x _) ij _) ik _] v _ => slotOf c sc i x && ixOk ij && ixOk ik && chkE c sc j ij && chkE c sc k ik && chkE c sc e v
    | _ => false)
  | .aug i op e, st => (match st with
    | .AugAssign (.Name x _) o v _ => chkN c sc i x && decide (o = opP op) && chkE c sc e v
    | _ => false)
  | .app i e, st => (match st with
    | .Expr (.Call (.Attribute (.Name x _) m ap) [v] [] cp) _ => decide (m = ("append" : Str)) && slotOf c sc i x && notStar v && (ap.endLine == cp.line) && chkE c sc e v
    | _ => false)
  | .lm i m as, st => (match st with
    | .Expr (.Call (.Attribute (.Name x _) mx ap) es [] cp) _ => slotOf c sc i x && (ap.endLine == cp.line) && (match m, as, es with
      | .remove, .cons a .nil, [e] => decide (mx = ("remove" : Str)) && notStar e && chkE c sc a e
      | .insert, .cons a (.cons b .nil), [e, e2] => decide (mx = ("insert" : Str)) && notStar e && notStar e2 && chkEs c sc (.cons a (.cons b .nil)) [e, e2]
      | .reverse, .nil, [] => decide (mx = ("reverse" : Str))
      | _, _, _ => false)
    | _ => false)
  | .delI i k, st => (match st with
    | .Delete [.Subscript (.Name x _) ik _] _ => slotOf c sc i x && chkE c sc k ik
    | _ => false)
  | .sfld i f e, st => (match st with
    | .Assign [.Attribute (.Name y _) x _] v _ => decide (c.N[i]? = some y) && visB sc y && decide (c.nm.at_ f = some x) && chkE c sc e v
    | _ => false)
  | .sfldO i f e, st => (match st with
    | .Assign [.Attribute (.Name y _) x _] v _ => decide (c.N[i]? = some y) && visB sc y && decide (c.nm.at_ f = some x) && chkE c sc e v
    | _ => false)
  | .sapp i f e, st => (match st with
    | .Expr (.Call (.Attribute (.Attribute (.Name y _) x _) m ap) [v] [] cp) _ => decide (m = ("append" : Str)) && decide (c.N[i]? = some y) && visB sc y && decide (c.nm.at_ f = some x) && notStar v && (ap.endLine == cp.line) && chkE c sc e v
    | _ => false)
  | .ex e, st => (match st with
    | .Expr v _ => noComp v && chkE c sc e v
    | _ => false)
  | .ret e, st => (match st with
    | .Return (some v) _ => chkE c sc e v
    | _ => false)
  | .retN, st => (match st with
    | .Return none _ => true
    | _ => false)
  | .ife t a b, st => (match st with
    | .If te x y _ => chkT c sc t te && chkSs c sc a x && chkSs c sc b y
    | _ => false)
  | .whl t b, st => (match st with
    | .While te x [] _ => chkT c sc t te && chkSs c sc b x
    | _ => false)
  | .for_ tg it b, st => (match st with
    | .For tgE iter x [] _ => chkTg c sc tg tgE && setOk iter && chkI c sc it tgE iter && chkSs c sc b x
    | _ => false)
  | .forA i j p t e, st => (match st with
    | .For (.Name y _) (.Name x _) [.If te [.Assign [.Name z pz] v pa] [] _] [] _ => slotOf c sc i x && chkN c sc j y && chkN c sc p z && chkT c sc t te && chkE c sc e v && swF sc v z pz
    | _ => false)
  | .forQ i j t e, st => (match st with
    | .For (.Name y _) (.Name x _) [.If te [.Return (some v) _] [] _] [] _ => slotOf c sc i x && chkN c sc j y && chkT c sc t te && chkE c sc e v
    | _ => false)
  | .brk, st => (match st with | .Break _ => true | _ => false)
  | .cnt, st => (match st with | .Continue _ => true | _ => false)
  | .pas, st => (match st with
    | .Pass _ => true
    | .Expr (.Constant (.str _) _ _) _ => true
    | _ => false)
  | .frz _, _ => false
  | .rs, _ => true
  | .rais cl as, st => (match st with
    | .Raise (some (.Call (.Name x _) (y :: ys) [] _)) none _ => decide (c.nm.xn cl = some x) && !(cl == cVE) && (c.nm.xi cl).isSome && glB sc x && (y :: ys).all notStar && chkEs c sc as (y :: ys)
    | _ => false)
  | .raim cl, st => (match st with
    | .Raise (some (.Call (.Name x _) [.Constant (.str _) _ _] [] _)) none _ => decide (c.nm.xn cl = some x) && !(cl == cVE) && c.nm.xo cl && glB sc x
    | _ => false)
  | .tryx b hs, st => (match st with
    | .Try body es [] [] _ => !hs.isEmpty && chkHds c sc hs es && chkSs c sc b body
    | _ => false)
  | .supi _ _ _ _ _, _ => false
  | .shl _, _ => false
  | .shf _, _ => false
def chkSs (c : CC) (sc : Scope) : Ss → List Stmt → Bool
  | .nil, sts => (match sts with | [] => true | _ => false)
  | .cons s r, sts => (match s with
    | .frz _ => chkSs c sc r sts
    | .shl _ => chkSs c sc r sts
    | .shf _ => chkSs c sc r sts
    | _ => (match sts with | st :: sts' => chkS c sc s st && chkSs c sc r sts' | [] => false))
end
section
variable {k : Kc} {cal : Cl → R LD} {np : Nat → Nat} {lv : Nat} {c : CC} {X : Cx} {W : WX} {Z0 H0 : Hp} {sc : Scope}
theorem swsole {t v : Expr} {l : Nat} {env : Env} (h : isTupE t = true) (h2 : notTup v = true) : swapsWithSole [t] v l env = pure false ∧ swappedStores [t] v env = pure none ∧ (assignEach [t] env).map (·.2) = [assign t env] := by
  cases t with
  | Tuple ts kk p => exact ⟨by cases v <;> rfl, by cases v <;> first | (cases h2; done) | rfl, rfl⟩
  | _ => cases h
theorem chkN_ok {i : Nat} {x : Str} (h : chkN c sc i x = true) : c.N[i]? = some x ∧ (sc.names.lookup x = some .local ∨ sc.names.lookup x = some .cell) := by
  unfold chkN at h
  simp only [Bool.and_eq_true, decide_eq_true_eq] at h
  exact ⟨h.1, locB_ok h.2⟩
theorem slot_ok {i : Nat} {x : Str} (h : slotOf c sc i x = true) : c.N[i]? = some x ∧ visB sc x = true := by
  unfold slotOf at h
  simpa using h
/-- name = [..], stored within -/
theorem snd_setLc (g : Gd k c.nm cal np lv c.N sc X W) {tg : Tg} {it : I} {t : To} {e : E} {i : Nat} {x : Str} {fz : Bool} {v : Expr} {p pos : Pos} (hx : chkN c sc i x = true) (hsw : swT sc v x p = true) (h : chkE c sc (.comp tg it t e) v = true) :
    PS X (.Assign [.Name x p] v pos) (tS k Z0 H0 W fun ε => toO ε (evE k.G cal (.comp tg it t e) ε) fun x => match keepV fz x with | some y => putS i (some y) ε | none => .bad) := by
  obtain ⟨h1, h2⟩ := chkN_ok hx
  unfold chkE at h
  split at h
  · rename_i elt tgE iter ifs scope vp
    simp only [Bool.and_eq_true, decide_eq_true_eq] at h
    obtain ⟨⟨⟨⟨⟨⟨q1, q2⟩, q3⟩, q4⟩, q5⟩, q6⟩, q7⟩ := h
    unfold swT at hsw
    simp only [Bool.and_eq_true, Bool.not_eq_true', decide_eq_true_eq] at hsw
    obtain ⟨⟨⟨w1, w4⟩, w2⟩, w3⟩ := hsw
    have hk : X.env.scope.kind = .function := by
      rw [g.sc]
      unfold isFn at w1
      split at w1
      · assumption
      · cases w1
    have hyl : X.env.scope.names.lookup x = some .local := by rw [g.sc]; exact w4
    refine PS.imp (ps_setLc (i := i) (g := gT X.K tg) (own := ownN c.N (tgS tg)) g.calm (g.hN ▸ g.nd) (by rw [g.hN]; exact h1) hyl (sw_true hk hyl w2 w3) (sndI  (Z0 := Z0) (H0 := H0) (st := false) it q5 g) (by rw [g.hN, g.sc]; exact blkOk_by q1)
      (fun s H C cl fp => tg_blk g q3 s H C cl fp) (fun s H C cl fp => sndTo  (Z0 := Z0) (H0 := H0) t q6 (g.blk s H _ C cl fp)) (fun s H C cl fp => sndE  (Z0 := Z0) (H0 := H0) e q7 (g.blk s H _ C cl fp)) (set_plain q4)) fun D σ H h => ?_
    exact asg_imp (fun σ H Q h => by rw [q2]; exact lc_imp g.hK σ H Q h) D σ H h
  · cases h
mutual
theorem sndS : ∀ (s : S) {X : Cx} {W : WX} {st : Stmt}, chkS c sc s st = true → Gd k c.nm cal np lv c.N sc X W → TopX X → (∀ x, sc.names.lookup x = some .cell → X.fn x = true) → PS X st (tS k Z0 H0 W (run k.G cal s))
  | .asg i fz e, X, W, st, h, g, tx, hfn => by
    unfold chkS at h
    split at h
    · simp only [Bool.and_eq_true, Bool.or_eq_true] at h
      obtain ⟨⟨h1, h2⟩, h3⟩ := h
      rcases h3 with h3 | ⟨h3, h4⟩
      · obtain ⟨n1, n2⟩ := chkN_ok h1
        exact snd_asg g n1 (n2.imp id fun h => ⟨h, hfn _ h⟩) (sndE e h2 g) (sw_false g.sc h3)
      · split at h4
        · exact snd_setLc g h1 h3 h2
        · cases h4
    · cases h
  | .asgT tg e, X, W, st, h, g, tx, hfn => by
    unfold chkS at h
    split at h
    · simp only [Bool.and_eq_true] at h
      obtain ⟨⟨⟨h1, h2⟩, h3⟩, h4⟩ := h
      obtain ⟨s1, s2, s3⟩ := swsole (l := _) (env := X.env) h1 h4
      exact snd_asgT g (tg_ok g hfn h2) (sndE e h3 g) s1 s2 s3
    · cases h
  | .setI i kk e, X, W, st, h, g, tx, hfn => by
    unfold chkS at h
    split at h
    · simp only [Bool.and_eq_true] at h
      obtain ⟨⟨⟨h1, h2⟩, h3⟩, h4⟩ := h
      obtain ⟨n1, n2⟩ := slot_ok h1
      exact snd_setI g n1 n2 (sndE e h4 g) (sndE kk h3 g) h2
    · cases h
  | .setI2 i j kk e, X, W, st, h, g, tx, hfn => by
    unfold chkS at h
    split at h
    · simp only [Bool.and_eq_true] at h
      obtain ⟨⟨⟨⟨⟨h1, h2⟩, h3⟩, h4⟩, h5⟩, h6⟩ := h
      obtain ⟨n1, n2⟩ := slot_ok h1
      exact snd_setI2 g n1 n2 (sndE e h6 g) (sndE j h4 g) (sndE kk h5 g) h2 h3
    · cases h
  | .forA i j p t e, X, W, st, h, g, tx, hfn => by
    unfold chkS at h
    split at h
    · simp only [Bool.and_eq_true] at h
      obtain ⟨⟨⟨⟨⟨h1, h2⟩, h3⟩, h4⟩, h5⟩, h6⟩ := h
      obtain ⟨n1, n2⟩ := slot_ok h1
      obtain ⟨m1, m2⟩ := chkN_ok h2
      obtain ⟨q1, q2⟩ := chkN_ok h3
      exact snd_forA g n1 n2 m1 (m2.imp id fun h => ⟨h, hfn _ h⟩) q1 (q2.imp id fun h => ⟨h, hfn _ h⟩) (sndT t h4 g).1 (sndE e h5 g) (sw_false g.sc h6)
    · cases h
  | .forQ i j t e, X, W, st, h, g, tx, hfn => by
    unfold chkS at h
    split at h
    · simp only [Bool.and_eq_true] at h
      obtain ⟨⟨⟨h1, h2⟩, h4⟩, h5⟩ := h
      obtain ⟨n1, n2⟩ := slot_ok h1
      obtain ⟨m1, m2⟩ := chkN_ok h2
      exact snd_forQ g n1 n2 m1 (m2.imp id fun h => ⟨h, hfn _ h⟩) (sndT t h4 g).1 (sndE e h5 g)
    · cases h
  | .aug i op e, X, W, st, h, g, tx, hfn => by
    unfold chkS at h
    split at h
    · simp only [Bool.and_eq_true, decide_eq_true_eq] at h
      obtain ⟨⟨h1, rfl⟩, h3⟩ := h
      obtain ⟨n1, n2⟩ := chkN_ok h1
      exact snd_aug g n1 (n2.imp id fun h => ⟨h, hfn _ h⟩) (sndE e h3 g)
    · cases h
  | .app i e, X, W, st, h, g, tx, hfn => by
    unfold chkS at h
    split at h
    · simp only [Bool.and_eq_true, decide_eq_true_eq] at h
      obtain ⟨⟨⟨⟨rfl, h2⟩, h3⟩, h4⟩, h5⟩ := h
      obtain ⟨n1, n2⟩ := slot_ok h2
      exact snd_app g n1 n2 (sndE e h5 g) h3 h4
    · cases h
  | .lm i m as, X, W, st, h, g, tx, hfn => by
    unfold chkS at h
    split at h
    · simp only [Bool.and_eq_true] at h
      obtain ⟨⟨h1, h2⟩, h3⟩ := h
      obtain ⟨n1, n2⟩ := slot_ok h1
      split at h3
      · rename_i a e
        simp only [Bool.and_eq_true, decide_eq_true_eq] at h3
        obtain ⟨⟨rfl, h4⟩, h5⟩ := h3
        refine PS.imp (snd_rem g n1 n2 (sndE a h5 g) h4 h2) fun D σ H ⟨Z, ε, F, rel, q⟩ => ⟨Z, ε, F, rel, ?_⟩
        have e1 : evEs k.G cal (.cons a .nil) ε = (evE k.G cal a ε).bind fun y => .ok [y] := rfl
        have q : AfterS k Z0 H0 W Z D (lmS i .remove (evEs k.G cal (.cons a .nil)) ε) := q
        unfold lmS at q ⊢
        rw [e1] at q
        exact q
      · simp only [Bool.and_eq_true, decide_eq_true_eq] at h3
        obtain ⟨⟨⟨rfl, h4⟩, h5⟩, h6⟩ := h3
        exact snd_ins g n1 n2 (sndEs _ h6 g) (fun ε xs e => evEs_len _ h6 e) h4 h5 h2
      · simp only [decide_eq_true_eq] at h3
        subst h3
        exact snd_rev g n1 n2 h2
      · cases h3
    · cases h
  | .delI i kk, X, W, st, h, g, tx, hfn => by
    unfold chkS at h
    split at h
    · simp only [Bool.and_eq_true] at h
      obtain ⟨n1, n2⟩ := slot_ok h.1
      exact snd_delI g n1 n2 (sndE kk h.2 g)
    · cases h
  | .sfld i f e, X, W, st, h, g, tx, hfn => by
    unfold chkS at h
    split at h
    · simp only [Bool.and_eq_true, decide_eq_true_eq] at h
      exact snd_sfld g h.1.1.1 h.1.1.2 h.1.2 (sndE e h.2 g)
    · cases h
  | .sfldO i f e, X, W, st, h, g, tx, hfn => by
    unfold chkS at h
    split at h
    · simp only [Bool.and_eq_true, decide_eq_true_eq] at h
      exact snd_sfldO g h.1.1.1 h.1.1.2 h.1.2 (sndE e h.2 g)
    · cases h
  | .sapp i f e, X, W, st, h, g, tx, hfn => by
    unfold chkS at h
    split at h
    · simp only [Bool.and_eq_true, decide_eq_true_eq] at h
      obtain ⟨⟨⟨⟨⟨⟨rfl, h2⟩, h3⟩, h4⟩, h5⟩, h6⟩, h7⟩ := h
      exact snd_sapp g h2 h3 h4 (sndE e h7 g) h5 h6
    · cases h
  | .ex e, X, W, st, h, g, tx, hfn => by
    unfold chkS at h
    split at h
    · simp only [Bool.and_eq_true] at h
      exact snd_ex g (sndE e h.2 g) (sw_noComp h.1)
    · cases h
  | .ret e, X, W, st, h, g, tx, hfn => by
    unfold chkS at h
    split at h
    · exact snd_ret (sndE e h g)
    · cases h
  | .retN, X, W, st, h, g, tx, hfn => by
    unfold chkS at h
    split at h
    · exact snd_retN
    · cases h
  | .ife t a b, X, W, st, h, g, tx, hfn => by
    unfold chkS at h
    split at h
    · simp only [Bool.and_eq_true] at h
      exact snd_if (sndT t h.1.1 g).1 (sndSs a h.1.2 g tx hfn) (sndSs b h.2 g tx hfn)
    · cases h
  | .whl t b, X, W, st, h, g, tx, hfn => by
    unfold chkS at h
    split at h
    · simp only [Bool.and_eq_true] at h
      exact snd_whl g (sndT t h.1 g).1 (sndSs b h.2 g tx hfn) turns
    · cases h
  | .for_ tg it b, X, W, st, h, g, tx, hfn => by
    unfold chkS at h
    split at h
    · simp only [Bool.and_eq_true] at h
      obtain ⟨⟨⟨h1, h2⟩, h3⟩, h4⟩ := h
      exact snd_for g (sndI it h3 g) (tg_ok g hfn h1) (sndSs b h4 g tx hfn) (set_plain h2)
    · cases h
  | .brk, X, W, st, h, g, tx, hfn => by
    unfold chkS at h
    split at h
    · exact snd_brk
    · cases h
  | .cnt, X, W, st, h, g, tx, hfn => by
    unfold chkS at h
    split at h
    · exact snd_cnt
    · cases h
  | .pas, X, W, st, h, g, tx, hfn => by
    unfold chkS at h
    split at h
    · exact snd_pas ps_pass
    · exact snd_pas ps_doc
    · cases h
  | .frz _, X, W, st, h, g, tx, hfn => by cases h
  | .rais cl as, X, W, st, h, g, tx, hfn => by
    unfold chkS at h
    split at h
    · simp only [Bool.and_eq_true, Bool.not_eq_true', decide_eq_true_eq, beq_eq_false_iff_ne, List.all_cons] at h
      obtain ⟨⟨⟨⟨⟨h1, h2⟩, h3⟩, h4⟩, h5⟩, h6⟩ := h
      obtain ⟨n, hn⟩ := Option.isSome_iff_exists.mp h3
      exact snd_rais g h1 h2 hn h4 (sndEs as h6 g) (star_cons h5.1) (star_any h5.2)
    · cases h
  | .raim cl, X, W, st, h, g, tx, hfn => by
    unfold chkS at h
    split at h
    · simp only [Bool.and_eq_true, Bool.not_eq_true', decide_eq_true_eq, beq_eq_false_iff_ne] at h
      exact snd_raim g h.1.1.1 h.1.1.2 h.1.2 h.2
    · cases h
  | .tryx b hs, X, W, st, h, g, tx, hfn => by
    unfold chkS at h
    split at h
    · simp only [Bool.and_eq_true, Bool.not_eq_true'] at h
      exact snd_try g tx hfn (fun e => by rw [e] at h; cases h.1.1) h.1.2 fun W' pn xe g' => sndSs b h.2 g' ⟨tx.st, tx.fr⟩ hfn
    · cases h
  | .rs, X, W, st, h, g, tx, hfn => PS.imp ps_never fun D σ H ⟨_, _, _, _, h⟩ => h
  | .shl _, X, W, st, h, g, tx, hfn => by cases h
  | .shf _, X, W, st, h, g, tx, hfn => by cases h
  | .supi _ _ _ _ _, X, W, st, h, g, tx, hfn => by cases h
theorem sndSs : ∀ (a : Ss) {X : Cx} {W : WX} {sts : List Stmt}, chkSs c sc a sts = true → Gd k c.nm cal np lv c.N sc X W → TopX X → (∀ x, sc.names.lookup x = some .cell → X.fn x = true) → PSs X sts (tS k Z0 H0 W (runs k.G cal a))
  | .nil, X, W, sts, h, g, tx, hfn => by
    unfold chkSs at h
    split at h
    · exact snd_snil
    · cases h
  | .cons s r, X, W, sts, h, g, tx, hfn => by
    unfold chkSs at h
    split at h
    · exact snd_frz (sndSs r h g tx hfn)
    · exact snd_shl (sndSs r h g tx hfn)
    · exact snd_shf (sndSs r h g tx hfn)
    · split at h
      · simp only [Bool.and_eq_true] at h
        exact snd_sseq (sndS s h.1 g tx hfn) (sndSs r h.2 g tx hfn)
      · cases h
end
end
end RS

/-! RsSup -/
namespace RS
open PySem PySem.Spec
open PyProof.Rows L2
/-! ### super(): what is run at the top of a def's own code -/
/-- an expression, at the code of the body B -/
structure PEA (X : Cx) (B : List Stmt) (e : Expr) (t : TE) : Prop where
  run : ∀ (pins : List (Addr × Obj)) (s : Shared) (σ : L2.St) (H : Hp) (Q : VK), Inv X pins σ H s → t σ H Q → PySem.wpAt (model X.prog X.w) X.A (.func B X.env) (eval e X.env) (EP X pins σ Q) X.xe s
/-- a statement -/
structure PSA (X : Cx) (B : List Stmt) (st : Stmt) (t : TS) : Prop where
  run : ∀ (pins : List (Addr × Obj)) (s : Shared) (σ : L2.St) (H : Hp) (D : Ends), Inv X pins σ H s → t D σ H → PySem.wpAt (model X.prog X.w) X.A (.func B X.env) (exec st X.env) (SP X pins D) X.xe s
/-- a block -/
structure PSsA (X : Cx) (B : List Stmt) (sts : List Stmt) (t : TS) : Prop where
  run : ∀ (pins : List (Addr × Obj)) (s : Shared) (σ : L2.St) (H : Hp) (D : Ends), Inv X pins σ H s → t D σ H → PySem.wpAt (model X.prog X.w) X.A (.func B X.env) (execs sts X.env) (SP X pins D) X.xe s
section
variable {X : Cx} {B : List Stmt}
theorem PEA.of {e : Expr} {t : TE} (h : PE X e t) : PEA X B e t := ⟨fun pins s σ H Q I q => PySem.wpAt_of_wpAny (h.run pins s σ H Q I q)⟩
theorem PSA.of {e : Stmt} {t : TS} (h : PS X e t) : PSA X B e t := ⟨fun pins s σ H Q I q => PySem.wpAt_of_wpAny (h.run pins s σ H Q I q)⟩
theorem PSsA.of {e : List Stmt} {t : TS} (h : PSs X e t) : PSsA X B e t := ⟨fun pins s σ H Q I q => PySem.wpAt_of_wpAny (h.run pins s σ H Q I q)⟩
theorem PEA.imp {e : Expr} {t t' : TE} (h : PEA X B e t) (i : ∀ σ H Q, t' σ H Q → t σ H Q) : PEA X B e t' := ⟨fun pins s σ H Q I q => h.run pins s σ H Q I (i σ H Q q)⟩
theorem PSA.imp {e : Stmt} {t t' : TS} (h : PSA X B e t) (i : ∀ D σ H, t' D σ H → t D σ H) : PSA X B e t' := ⟨fun pins s σ H D I q => h.run pins s σ H D I (i D σ H q)⟩
theorem PSsA.imp {e : List Stmt} {t t' : TS} (h : PSsA X B e t) (i : ∀ D σ H, t' D σ H → t D σ H) : PSsA X B e t' := ⟨fun pins s σ H D I q => h.run pins s σ H D I (i D σ H q)⟩
theorem psa_ret {e : Expr} {te : TE} {pos : Pos} (h : PEA X B e te) : PSA X B (.Return (some e) pos) (fun D σ H => te σ H D.rt) :=
  ⟨fun pins s σ H D I q => ks_wpAt_Return_some (ks_wpAt_mono (h.run pins s σ H D.rt I q) (fun v s' ⟨x, H', I', r, w⟩ => ⟨x, σ, H', I', r, w⟩) fun _ _ z => z)⟩
theorem psa_ex {e : Expr} {te : TE} {pos : Pos} (h : PEA X B e te) (hi : interactive X.env = false) (hs : swapsWith e none pos.line X.env = pure false) : PSA X B (.Expr e pos) (fun D σ H => te σ H fun _ H' => D.nx σ H') :=
  ⟨fun pins s σ H D I q => ks_wpAt_Expr_any (ks_wpAt_mono (h.run pins s σ H _ I q) (fun v s' ⟨x, H', I', r, w⟩ => ⟨σ, H', I', w⟩) fun _ _ z => z) hi hs⟩
theorem psa_if {e : Expr} {tt : TT} {b o : List Stmt} {t1 t2 : TS} {pos : Pos} (h : PT X e tt) (h1 : PSsA X B b t1) (h2 : PSsA X B o t2) : PSA X B (.If e b o pos) (fun D σ H => tt σ H fun k H' => if k then t1 D σ H' else t2 D σ H') :=
  ⟨fun pins s σ H D I q => ks_wpAt_If (PySem.wpAt_of_wpAny (thn (h.run pins s σ H _ I q) fun k s' ⟨H', I', w⟩ => by
    cases k with
    | true => exact h1.run pins s' σ H' D I' w
    | false => exact h2.run pins s' σ H' D I' w))⟩
theorem pssa_cons {st : Stmt} {sts : List Stmt} {t1 t2 : TS} (h1 : PSA X B st t1) (h2 : PSsA X B sts t2) : PSsA X B (st :: sts) (fun D σ H => t1 { D with nx := fun σ' H' => t2 D σ' H' } σ H) :=
  ⟨fun pins s σ H D I q => ks_wpAt_execs_cons (ks_wpAt_mono (h1.run pins s σ H _ I q) (fun f s' hs => by
    cases f with
    | next =>
      obtain ⟨σ', H', I', w⟩ := hs
      exact h2.run pins s' σ' H' D I' w
    | brk => exact hs
    | cont => exact hs
    | ret u => exact hs) fun _ _ z => z)⟩
/-- a + b .. -/
theorem pea_op {a b : Expr} {ta tb : TE} {op : Operator} {r : R2} {pos : Pos} (hr : OpR X (binaryOp op) r) (ha : PEA X B a ta) (hb : PE X b tb) : PEA X B (.BinOp a op b pos) (tOp r ta tb) :=
  ⟨fun pins s σ H Q I q => ks_wpAt_BinOp (ks_wpAt_mono (ha.run pins s σ H _ I q) (fun v s1 ⟨x, H1, I1, rx, q1⟩ => thn (hb.run pins s1 σ H1 _ I1 q1) fun u s2 ⟨y, H2, I2, ry, q2⟩ => hr pins s2 σ H2 x y v u Q I2 rx ry q2) fun _ _ z => z)⟩
end
/-- what a def that says super() needs: f itself, its class's cell at cc, the class at D, its first parameter's name -/
structure SupC (X : Cx) (f cc D : Addr) (me : Str) : Prop where
  fu : X.env.func = some f
  fd : ∃ oc od osl fd ar, X.K.lookup f = some ⟨oc, od, .func fd, osl⟩ ∧ (fd.params.posonlyargs ++ fd.params.args).head? = some ar ∧ ar.arg = me
  co : ∃ c vs ccl cdd ccs file tf, X.env.code = .ref c ∧ X.K.lookup c = some ⟨ccl, cdd, .fields vs, ccs⟩ ∧ vs[2]? = some (.str file tf) ∧ ((X.prog.main.file : Str) == file) = true
  ce : X.env.cells.lookup ("__class__" : Str) = some cc
  cell : ∃ cl cld csl, X.K.lookup cc = some ⟨cl, cld, .cell (some (.ref D)), csl⟩
  cls : ∃ cd, PySem.W.clsIn X.K D = some cd
  mg : X.mg "super" = none
  ks : X.env.kindOf "super" = some .globalImplicit
  kc : X.env.kindOf "__class__" = some .free
  km : X.env.kindOf me = some .local
  top : (X.prog.main.scope.names.lookup ("super" : Str)).isSome = false
  opq : PySem.W.nsIn X.K cStatics "thirdparty.any" = some none
section
variable {X : Cx} {B : List Stmt} {pins : List (Addr × Obj)} {σ : L2.St} {H : Hp} {s : Shared} {f cc D a C g : Addr} {me m : Str} {p0 p1 pos apos : Pos} {ox : Obj} {od : Option Obj} {Q : Value → Shared → Prop}
/-- super(), then its method -/
theorem sup_bind {whole : Sem Value} {pl : Sem Bool} (S : SupC X f cc D me) (I : Inv X pins σ H s) (hN : X.N[0]? = some me) (hσ : σ[0]? = some (some (.ref a))) (J : PySem.W.InstAt s.heap a ox C od) (M : SupM X.K C D m g) :
    PySem.wpAt (model X.prog X.w) X.A (.func B X.env) (attributeBase (.Call (.Name "super" p0) [] [] p1) m X.env whole) (fun ov s₁ => wpAny (model X.prog X.w) X.A (getMethod ov m pl) (fun fx s2 => ∃ q, fx = (.ref q, []) ∧ X.base.get? q = none ∧ Inv X ((q, PySem.W.methodObj (.ref g) (.ref a)) :: pins) σ H s2) X.xe s₁) X.xe s := by
  have K := I.kIn
  obtain ⟨oc, od', osl, fd, ar, lk, hp, rfl⟩ := S.fd
  obtain ⟨c, vs, ccl, cdd, ccs, file, tf, hco, lc, hvs, hfile⟩ := S.co
  obtain ⟨cl, cld, csl, lcell⟩ := S.cell
  obtain ⟨cd, hcls⟩ := S.cls
  obtain ⟨oD, hD1, hD2⟩ : ∃ oD, s.heap.get? D = some oD ∧ oD.data = .cls cd := by
    unfold PySem.W.clsIn at hcls
    split at hcls
    · rename_i c' d' cd' sl' ho
      cases hcls
      exact ⟨_, K _ _ ho, rfl⟩
    · cases hcls
  refine PySem.ks_wpAt_super_base S.ks S.kc M.nc S.fu (K _ _ lk) rfl hp hco (K _ _ lc) rfl hvs hfile S.top ?_
  obtain ⟨mb, h1, h2⟩ := I.mod.blt
  refine PySem.W.ks_loadName_global I.ok.kind S.ks (Calls.loadGlobal_builtin (by rw [I.ok.glob]; exact I.mod.glob.keeps I.bk) S.mg (by rw [I.ok.blt]; exact h1.keeps I.bk) ((h2 "super" (by decide)).trans (show bootBuiltins "super" = some (.type "super") by decide +kernel)) ⟨rfl, ?_⟩)
  refine wpAny_loadName_free I.ok.kind S.kc S.ce ⟨_, K _ _ lcell, rfl⟩ ?_
  obtain ⟨ml, hn, hl⟩ := I.loc
  obtain ⟨u, r, l⟩ := hl 0 _ (.ref a) hN hσ (.inl S.km)
  cases (show u = Value.ref a from r)
  have hm : ml ar.arg = some (.ref a) := by
    rcases l with ⟨_, h⟩ | ⟨h, _⟩
    · exact h
    · rw [S.km] at h
      rcases h with h | h <;> cases h
  refine wpAny_loadName_local I.ok.kind S.km hn hm ?_
  refine PySem.ks_wpAny_isType_cls hD1 hD2 ⟨rfl, ?_⟩
  obtain ⟨hp, gg, dd, tt, os⟩ := s
  refine PySem.ks_wpAny_call_super hD1 hD2 J.at_ J.cls (fun c' e => ?_) (PySem.W.looks_mroIn K M.sub) (fun h' e k => ?_)
  · have := J.no
    unfold PySem.W.notCls at this
    rw [e] at this
    exact Bool.noConfusion this
  · have I1 := ClX.pin_new (t' := tt) I (fun b u z => k b u z) (Nat.le_refl _) e (fun v z => nomatch z)
    have K1 := I1.kIn
    have J1 : PySem.W.InstAt h' a ox C od := by
      obtain ⟨j1, j2, j3, j4⟩ := J
      refine ⟨k _ _ j1, j2, j3, ?_⟩
      cases hdt : ox.dict with
      | none => rw [hdt] at j4; cases od <;> exact j4
      | some dx =>
        rw [hdt] at j4
        cases od with
        | none => exact j4
        | some o => exact k _ _ j4
    have hm := M.at_
    have ht := M.ty
    cases hc : PySem.W.clsIn X.K C with
    | none => unfold PySem.W.ks_superIn at hm; rw [hc] at hm; cases hm
    | some cdC =>
      unfold PySem.W.ks_superIn at hm
      rw [hc] at hm
      obtain ⟨of, hof, hofc⟩ : ∃ of, h'.get? g = some of ∧ of.cls = .type "function" := by
        have ht' : (X.K.lookup g).map (·.cls) = some (.type "function") := ht
        cases z : X.K.lookup g with
        | none => rw [z] at ht'; cases ht'
        | some of => rw [z] at ht'; exact ⟨of, K1 _ _ z, Option.some.inj ht'⟩
      refine PySem.ks_wpAny_getMethod_super e (PySem.W.looks_opaque K1 S.opq) (l₀ := cdC.mro) ?_ rfl K1 hm hof hofc (PySem.W.ks_ne K1 J1 hc) M.nc ?_
      · exact fun A Q E s k q => wpAny_bind ((PySem.W.looks_clsIn K1 hc) A _ E s k (wpAny_pure q))
      · have I2 := ClX.pin_new (t' := tt + 1) (h' := h'.push (PySem.W.methodObj (.ref g) (.ref a))) (o := PySem.W.methodObj (.ref g) (.ref a)) I1 (fun _ _ z => Heap.get?_push_of_some _ z) (Nat.le_refl _) (Heap.get?_push_size h' rfl) (fun v z => nomatch z)
        refine ⟨_, rfl, ClX.base_none I1 (Nat.le_refl _), I2.pins_of fun r hr => I2.pin r ?_⟩
        refine List.mem_append_right _ ?_
        rcases List.mem_cons.mp hr with hr | hr
        · rw [hr]; exact List.mem_cons_self
        · exact List.mem_cons_of_mem _ (List.mem_cons_of_mem _ hr)
theorem form_kw {args : List Expr} {kws : List Keyword} {env : Env} {pos : Pos} (hs : (backTo pos (starEach args env)).any (·.1) = false) (hk : (backToKw pos (keywordEach kws env)).all (·.1.isSome) = true) (hn : args.length + kws.length < 29) :
    methodCallForm (args.length + kws.length) (backTo pos (starEach args env)) (backToKw pos (keywordEach kws env)) = true := by
  unfold methodCallForm
  have h1 : (backTo pos (starEach args env)).all (!·.1) = true := by
    rw [List.all_eq_true]
    intro x hx
    rw [List.any_eq_false] at hs
    simpa using hs x hx
  rw [h1, hk]
  show (true && true && decide (_ < 30)) = true
  split <;> simp <;> omega
/-- how a call binds -/
def KBx (K : PySem.W.Frag) (fd : FuncData) (ps : List Str) (n : Nat) (ks : List Str) (gV : List V → List V → List V) : Prop := ∀ (s : Shared) (us ws : List Value) (vs zs : List V), K.In s.heap → Vals vs us → Vals zs ws → vs.length = n → zs.length = ks.length →
  (gV vs zs).length = ps.length → ∃ ds, BindsTo s fd ⟨us, ks.zip ws⟩ (ps.zip ds) ∧ Vals (gV vs zs) ds
theorem KBx.of {K : PySem.W.Frag} {fd : FuncData} {ps : List Str} {n : Nat} {ks : List Str} {g : List Value → List Value → List Value} {gV : List V → List V → List V} (h : KBn K fd ps n ks g gV) : KBx K fd ps n ks gV :=
  fun s us ws vs zs kin r1 r2 l1 l2 _ => ⟨g us ws, h.to s us ws kin (r1.length.symm.trans l1) (r2.length.symm.trans l2), h.rel r1 r2⟩
theorem KBx.binds {K : PySem.W.Frag} {fd : FuncData} {ps : List Str} {n : Nat} (h : Binds K fd ps []) : KBx K fd ps n [] (fun vs _ => vs) := fun s us ws vs zs kin r1 r2 l1 l2 l3 => by
  have b := h s us kin (by rw [List.append_nil, ← r1.length]; exact l3)
  rw [List.append_nil] at b
  exact ⟨us, b, r1⟩
/-- what super().m(..) asks -/
def tSup (X : Cx) (CX : CXT) (D : Addr) (m : Str) (n : Nat) (ks : List Str) (t tk : TA) : TE := fun σ H Q => ∃ a C g k fd ps sp E gV, σ[0]? = some (some (V.ref a)) ∧ (∀ pins s, Inv X pins σ H s → ∃ ox od, PySem.W.InstAt s.heap a ox C od) ∧ SupM X.K C D m g ∧
  FnOk X.prog X.w X.K X.mg X.base CX k g fd ps sp ∧ Room k X.A ∧ KBx X.K fd ps (n + 1) ks gV ∧ PassesAt CX X σ E ∧ t σ H fun vs H1 => tk σ H1 fun zs H2 => vs.length = n ∧ zs.length = ks.length ∧ sp (gV (V.ref a :: vs) zs) H2 Q E
theorem pea_sup {CX : CXT} {e : Expr} {es : List Expr} {kws : List Keyword} {ks : List Str} {t tk : TA} (S : SupC X f cc D me) (hN : X.N[0]? = some me) (ha : PA X (e :: es) t) (hkw : PK X kws tk)
    (hall : (backToKw pos (keywordEach kws X.env)).all (·.1.isSome) = true) (hks : (backToKw pos (keywordEach kws X.env)).filterMap (·.1) = ks) (hnone : (backToKw pos (keywordEach kws X.env)).any (·.1.isNone) = false)
    (hst : starEach (e :: es) X.env = (false, eval e X.env) :: starEach es X.env) (hpl : (backTo pos (starEach es X.env)).any (·.1) = false) (hl : (apos.endLine == pos.line) = true) (hn : (e :: es).length + kws.length < 29) :
    PEA X B (.Call (.Attribute (.Call (.Name "super" p0) [] [] p1) m apos) (e :: es) kws pos) (tSup X CX D m (e :: es).length ks t tk) := by
  refine ⟨fun pins s σ H Q I h => ?_⟩
  obtain ⟨a, C, g, k, fd, ps, sp, E, gV, hσ, hJ, M, F, hr, hb, hx, q⟩ := h
  obtain ⟨ox, od, J⟩ := hJ pins s I
  have hpl2 : (backTo pos (starEach (e :: es) X.env)).any (·.1) = false := by rw [hst]; exact hpl
  have hform := form_kw (args := e :: es) (kws := kws) (env := X.env) (pos := pos) hpl2 hall hn
  rw [arm_eval_Call]
  refine PySem.wpAt_bind (ks_wpAt_mono (sup_bind (B := B) (pl := do return (← importBound (.Call (.Name "super" p0) [] [] p1) X.env).getD true) S I hN hσ J M) (fun ov s1 h1 => PySem.wpAt_of_wpAny (wpAny_bind (wpAny_standAt ?_))) fun _ _ z => z)
  unfold methodCall
  show wpAny _ _ (holding [ov] (calleeOf (methodCallForm ((e :: es).length + kws.length) _ _) _ X.env ov m) >>= fun x => methodCallPos (methodCallForm ((e :: es).length + kws.length) _ _) _ X.env apos pos >>= fun cp => callWith cp x.1 x.2 _ _) _ _ _
  rw [hform]
  unfold calleeOf methodCallPos
  simp only [if_true, Bool.not_true, Bool.false_or, hl]
  refine wpAny_bind (wpAny_holding (thn h1 fun fx s2 ⟨q1, e1, hb1, I2⟩ => ?_))
  subst e1
  refine wpAny_bind (wpAny_pure ?_)
  refine PySem.W.callWith_of (P := PySem.W.MethP X.K q1 g (.ref a)) (by rw [hnone, Bool.or_false, hst]; exact hpl) (PySem.W.keeps_M M.fi) ?_
  refine evalArgs_kw2 hall (thn (ha.run pos _ s2 σ H _ I2 q) fun us s3 ⟨vs, H1, I3, rv, q3⟩ => thn (hkw.run pos _ s3 σ H1 _ I3 q3) fun ws s4 ⟨zs, H2, I4, rz, l1, l2, q4⟩ => ?_) hst
  rw [hks]
  refine ⟨⟨ClX.pin_at I4, I4.kIn⟩, ?_⟩
  have r1 : Vals (V.ref a :: vs) (Value.ref a :: us) := .cons rfl rv
  have I5 := ClX.unpin I4
  obtain ⟨ds, b2, r2⟩ := hb s4 (Value.ref a :: us) ws (V.ref a :: vs) zs I5.kIn r1 rz (by rw [List.length_cons, l1]) l2 (F.len _ _ _ _ q4)
  refine wpAny_call (PySem.W.method_call (ClX.pin_at I4) (codeAny_mono (F.run X.A X.stack s4 H2 ⟨Value.ref a :: us, ks.zip ws⟩ _ _ _ E hr I5.env0 b2 r2 q4) fun r s' hq' => ?_))
  cases r with
  | error er => exact hx pins _ _ er s' I5 hq'
  | ok fl =>
    cases fl with
    | ret u => exact I5.after hq'
    | next => exact False.elim hq'
    | brk => exact False.elim hq'
    | cont => exact False.elim hq'
end
/-! ### a def that says super() -/
/-- where it stands, its words, its class's cell -/
structure FunS (K : PySem.W.Frag) (x qual : Str) (params : Arguments) (body : List Stmt) (scope : Scope) (dvs : List V) (kws : List (Str × V)) (file : Str) (D f : Addr) (fd : FuncData) : Prop where
  ex : ∃ (oc : Value) (od : Option Addr) (dV kV doc pm : Value) (an : Option Addr) (ct : Value) (osl : Array (Option Value)) (cda cc : Addr) (vs : Array Value) (ccl : Value) (cdd : Option Addr) (ccs : Array (Option Value)) (tf : Tok) (cl : Value) (cld : Option Addr) (csl : Array (Option Value)),
    fd = PySem.W.ksFn x qual params body scope dV kV doc pm an (.ref cda) ct cc ∧ K.lookup f = some ⟨oc, od, .func fd, osl⟩ ∧ PySem.W.codeIn K (.ref cda) qual = true ∧ DflV K dV dvs ∧ KwdV K kV kws ∧
    K.lookup cda = some ⟨ccl, cdd, .fields vs, ccs⟩ ∧ vs[2]? = some (.str file tf) ∧ K.lookup cc = some ⟨cl, cld, .cell (some (.ref D)), csl⟩
  kp : PySem.W.keepIn K (.ref f) = true
theorem FunS.params {K : PySem.W.Frag} {x qual : Str} {params : Arguments} {body : List Stmt} {scope : Scope} {dvs : List V} {kws : List (Str × V)} {file : Str} {D f : Addr} {fd : FuncData} (F : FunS K x qual params body scope dvs kws file D f fd) : fd.params = params := by
  obtain ⟨oc, od, dV, kV, doc, pm, an, ct, osl, cda, cc, vsc, ccl, cdd, ccs, tf, cl, cld, csl, rfl, _⟩ := F.ex
  rfl
section
variable {CX : CXT} {P : Program} {w : World} {K : PySem.W.Frag} {mg : Str → Option Value} {base : Heap} {x qual : Str} {params : Arguments} {body : List Stmt} {scope : Scope} {dvs : List V} {kws : List (Str × V)} {file : Str} {D f : Addr} {fd : FuncData} {N ps : List Str} {k : Nat} {sp : Sp}
/-- what is known within its body -/
structure InS (X : Cx) (K : PySem.W.Frag) (scope : Scope) (N : List Str) (f D : Addr) (fd : FuncData) (file : Str) : Prop where
  hK : X.K = K
  hN : X.N = N
  sc : X.env.scope = scope
  fu : X.env.func = some f
  ce : ∃ cc cl cld csl, X.env.cells = [(clsN, cc)] ∧ K.lookup cc = some ⟨cl, cld, .cell (some (.ref D)), csl⟩
  co : ∃ c vs ccl cdd ccs tf, X.env.code = .ref c ∧ K.lookup c = some ⟨ccl, cdd, .fields vs, ccs⟩ ∧ vs[2]? = some (.str file tf)
  fl : ∃ oc od osl, K.lookup f = some ⟨oc, od, .func fd, osl⟩
theorem FunS.ok (F : FunS K x qual params body scope dvs kws file D f fd) (S : NdefX.NScope N ps [clsN] scope) (len : ∀ vs H Q E, sp vs H Q E → vs.length = ps.length)
    (hbody : ∀ (F0 : NdefX.NF) (A : Around) (outer : List Env) (s : Shared) (H : Hp) (vs : List V) (Q : VK) (E : XK), F0.scope = scope → InS (NdefX.ncx CX P w K mg base N F0 f A outer s H E) K scope N f D fd file → Room k (A.deeper (NdefX.envF F0 f s.heap.objs.size)) → sp vs H Q E →
      ∃ t, PSsA (NdefX.ncx CX P w K mg base N F0 f A outer s H E) body body t ∧ t { nx := fun _ H' => Q .non H', rt := Q } (NdefX.startF N vs [none]) H) : FnOk P w K mg base CX (k + 1) f fd ps sp := by
  obtain ⟨oc, od, dV, kV, doc, pm, an, ct, osl, cda, cc, vsc, ccl, cdd, ccs, tf, cl, cld, csl, rfl, lk, hcd, _, _, lc, hv, lcell⟩ := F.ex
  refine ⟨len, fun A outer s H args us vs Q E hr e0 hb r hsp => ?_⟩
  have KX : K.In s.heap := e0.mod.kin.keeps fun b o e => (e0.bs b o e).1
  have hl := len _ _ _ _ hsp
  have lim : s.heap.NoLimit := e0.mod.nolimit.keeps fun b o e => (e0.bs b o e).1
  let F0 : NdefX.NF := ⟨x, qual, params, body, scope, [(clsN, cc)], cda⟩
  have C : NdefX.CellsAt F0.cl [clsN] [none] s.heap H := by
    have lk1 : ∀ y c, ([(clsN, cc)] : List (Str × Addr)).lookup y = some c → y = clsN ∧ c = cc := fun y c e => by
      rw [List.lookup_cons] at e
      split at e
      · rename_i h
        cases e
        exact ⟨beq_iff_eq.mp h, rfl⟩
      · cases e
    refine ⟨rfl, fun y c e => ?_, fun y z c e1 e2 => ?_, fun i y e => ?_⟩
    · obtain ⟨rfl, rfl⟩ := lk1 y c e
      have q := e0.mod.kin _ _ lcell
      exact ⟨(e0.bs _ _ q).2, _, _, (e0.bs _ _ q).1, rfl⟩
    · rw [(lk1 _ _ e1).1, (lk1 _ _ e2).1]
    · match i, e with
      | 0, e =>
        cases e
        refine ⟨cc, rfl, fun v z => ?_⟩
        cases z
      | i + 1, e => simp at e
  refine codeAny_call_function hr.depth (KX _ _ lk) rfl S.co S.gen rfl (PySem.W.codeRec_of KX hcd) (hb _ _ _ _ ?_)
  refine wpAny_newFunctionEnv S.nocell (fun ⟨n, _⟩ hy => S.par n (List.of_mem_zip hy).1) (fun h₁ hns hsb => ⟨lim.fresh _ hsb, ?_⟩) S.kind
  show codeAny _ _ (.func body (NdefX.envF F0 f s.heap.objs.size)) _ _
  refine ks_codeAny_funcAt ?_
  have kp : ∀ b o, s.heap.get? b = some o → h₁.get? b = some o := fun b o e => hsb.extBut b o (Nat.ne_of_lt (Heap.lt_size e)) (Heap.get?_push_of_some _ e)
  obtain ⟨t, ht, hq⟩ := hbody F0 A outer s H vs Q E rfl ⟨rfl, rfl, rfl, rfl, ⟨cc, cl, cld, csl, rfl, lcell⟩, ⟨cda, vsc, ccl, cdd, ccs, tf, rfl, lc, hv⟩, ⟨oc, od, osl, lk⟩⟩ (hr.deeper _) hsp
  have I : Inv (NdefX.ncx CX P w K mg base N F0 f A outer s H E) [] (NdefX.startF N vs [none]) H { s with heap := h₁, toks := s.toks + (ps.zip us).length } := NdefX.inv_startN S hr.hd e0 hl r C hns kp
  refine PySem.wpAt_mono (ht.run [] _ (NdefX.startF N vs [none]) H _ I hq) (fun fl s' hs => ?_) fun e s' hs => hs
  match fl, hs with
  | .ret _, ⟨v, σ1, H1, J, rv, q⟩ => exact ⟨v, H1, J.os, J.bare, J.base, J.hok, rv, q⟩
  | .next, ⟨σ1, H1, J, q⟩ => exact ⟨.non, H1, J.os, J.bare, J.base, J.hok, rfl, q⟩
  | .brk, ⟨_, _, _, q⟩ => exact q.elim
  | .cont, ⟨_, _, _, q⟩ => exact q.elim
end
/-! ### the small language's super -/
section
variable {k : Kc} {nm : Nm} {cal : Cl → R LD} {np : Nat → Nat} {lv : Nat} {N : List Str} {sc : Scope} {X : Cx} {W : WX} {Z0 H0 : Hp} {B : List Stmt} {d : Nat}
/-- the code is of a def of the class d -/
structure InC (k : Kc) (d : Nat) (X : Cx) : Prop where
  ex : ∃ f cc me, X.N[0]? = some me ∧ SupC X f cc (k.ca d) me
theorem snd_retA {r : En → R LD} {e : Expr} {pos : Pos} (he : PEA X B e (tE k Z0 H0 W r)) : PSA X B (.Return (some e) pos) (tS k Z0 H0 W fun ε => toO ε (r ε) fun x => .ret x ε) := PSA.imp (psa_ret he) fun D σ H ⟨Z, ε, F, rel, h⟩ => by
  refine ⟨Z, ε, F, rel, (AfterS.toO rel h).imp fun x ex h => ?_⟩
  intro v Z1 H1 fp e1 t1 n1
  have h : (match retV x with | .ok (lv, d) => ∀ v Z' H' fp, Ext Z0 H0 Z' H' → Hd k Z' H' lv v d fp → New Z' H0 fp → D.rt v H' | _ => False) := h
  cases hr : retV x with
  | bad => rw [hr] at h; exact h.elim
  | exc c fs => rw [hr] at h; exact h.elim
  | ok y =>
    obtain ⟨l, d⟩ := y
    rw [hr] at h
    have r1 := rel.ext e1
    obtain ⟨rfl, hh⟩ := retV_ok hr
    rcases hh with ⟨hl, rfl⟩ | ⟨hl, rfl⟩
    · exact h v Z1 H1 fp r1.toExt (t1.hd hl) (n1.back rel.h0)
    · obtain ⟨lx, dx⟩ := x
      dsimp only at hl h t1
      have go : ∀ {fp' : List Addr}, (∀ a ∈ fp', ∃ i, a ∈ F i) → fp'.Nodup → New Z1 H0 fp' := fun {fp'} m nd => ⟨nd, fun a ma => by obtain ⟨i, mi⟩ := m a ma; exact rel.fn i a mi, fun a ma => by obtain ⟨i, mi⟩ := m a ma; exact r1.zf i a mi⟩
      rcases hl with rfl | rfl
      · obtain ⟨_, fp', hd, m, nd⟩ := t1
        exact h v Z1 H1 fp' r1.toExt hd (go m nd)
      · obtain ⟨_, fp', hd, m, nd⟩ := t1
        exact h v Z1 H1 fp' r1.toExt hd (go m nd)
theorem snd_ifA {t : Expr} {a b : List Stmt} {rt : En → R Bool} {ra rb : En → Out} {pos : Pos} (ht : PT X t (tT k Z0 H0 W rt)) (ha : PSsA X B a (tS k Z0 H0 W ra)) (hb : PSsA X B b (tS k Z0 H0 W rb)) :
    PSA X B (.If t a b pos) (tS k Z0 H0 W fun ε => toO ε (rt ε) fun c => if c then ra ε else rb ε) := PSA.imp (psa_if ht ha hb) fun D σ H ⟨Z, ε, F, rel, h⟩ => by
  refine ⟨Z, ε, F, rel, (AfterS.toO rel h).imp fun c ec h => ?_⟩
  intro Z1 H1 e1
  cases c with
  | true =>
    simp only [if_true] at h ⊢
    exact ⟨Z1, ε, F, rel.ext e1, h.mono e1.z⟩
  | false =>
    simp only [Bool.false_eq_true, if_false] at h ⊢
    exact ⟨Z1, ε, F, rel.ext e1, h.mono e1.z⟩
theorem snd_sseqA {st : Stmt} {sts : List Stmt} {ra rb : En → Out} (ha : PSA X B st (tS k Z0 H0 W ra)) (hb : PSsA X B sts (tS k Z0 H0 W rb)) :
    PSsA X B (st :: sts) (tS k Z0 H0 W fun ε => match ra ε with | .nx ε' => rb ε' | o => o) := PSsA.imp (pssa_cons ha hb) fun D σ H ⟨Z, ε, F, rel, h⟩ => by
  refine ⟨Z, ε, F, rel, ?_⟩
  cases hr : ra ε with
  | nx ε' =>
    simp only [hr] at h
    exact fun σ' H' Z' F' r' z => ⟨Z', ε', F', r', h.mono z⟩
  | brk ε' => simp only [hr] at h; exact h
  | cnt ε' => simp only [hr] at h; exact h
  | ret r ε' => simp only [hr] at h; exact h
  | exc c fs ε' => simp only [hr] at h; exact h
  | bad => simp only [hr] at h; exact h
/-- a slot is let go of -/
theorem RelS.cut {Z H Hb : Hp} {σ : L2.St} {ε : En} {F : Nat → List Addr} {i : Nat} (r : RelS k Z0 H0 Z H σ ε F) (hh : ∀ b, b ∉ F i → Hb b = H b) : RelS k Z0 H0 Z Hb σ (ε.set i none) (fun j => if j = i then [] else F j) := by
  have mF : ∀ j a, a ∈ (if j = i then [] else F j) → j ≠ i ∧ a ∈ F j := fun j a m => by
    split at m
    · simp at m
    · rename_i h
      exact ⟨h, m⟩
  refine ⟨by rw [List.length_set]; exact r.len, fun j t q => ?_, fun j hj => ?_, fun j => ?_, fun j l a m1 m2 => r.dj j l a (mF j a m1).2 (mF l a m2).2, fun j a m => r.zf j a (mF j a m).2, fun b o e => ?_, fun b o e => ?_, r.z0, r.zn, fun j a m => r.fn j a (mF j a m).2⟩
  · by_cases hji : j = i
    · subst hji
      have hj : j < ε.length := by
        have := (List.getElem?_eq_some_iff.mp q).1
        rwa [List.length_set] at this
      rw [List.getElem?_set_self hj] at q
      cases q
      exact if_pos rfl
    · rw [List.getElem?_set_ne (Ne.symm hji)] at q
      rw [if_neg hji]
      have h := r.sl j t q
      have hne : ∀ b ∈ F j, Hb b = H b := fun b mb => hh b fun e => hji (r.dj j i b mb e)
      cases t with
      | none => exact h
      | some p =>
        obtain ⟨l2, d2⟩ := p
        obtain ⟨w, e, h⟩ := h
        refine ⟨w, e, ?_⟩
        match l2, h with
        | 0, h => exact h
        | 1, ⟨b, xs, ds, h1, h2, h3, h4, h5⟩ => exact ⟨b, xs, ds, h1, h2, (hne b (by rw [h5]; simp)).trans h3, h4, h5⟩
        | 2, h => exact Ow.at hne h
        | 5, ⟨b, dx, c, vs, ds, h1, h2, h3, h4, h5⟩ => exact ⟨b, dx, c, vs, ds, h1, h2, h3.mono (fun o q => (hne b (by rw [h5]; simp)).trans q) (fun o q => (hne dx (by rw [h5]; simp)).trans q), h4, h5⟩
        | 6, ⟨b, dx, c, vs, ds, fq, h1, h2, h3, h4, h5⟩ => exact ⟨b, dx, c, vs, ds, fq, h1, h2, h3.mono (fun o q => (hne b (by rw [h5]; simp)).trans q) (fun o q => (hne dx (by rw [h5]; simp)).trans q), h4.at fun a m => hne a (by rw [h5]; simp [m]), h5⟩
        | 3, h => exact h.elim
        | 4, h => exact h.elim
        | n + 7, h => exact h.elim
  · rw [List.length_set] at hj
    show (if j = i then [] else F j) = []
    split
    · rfl
    · exact r.out j hj
  · show (if j = i then [] else F j).Nodup
    split
    · exact List.nodup_nil
    · exact r.nd j
  · rw [hh b fun m => by rw [r.zf i b m] at e; cases e]; exact r.zh b o e
  · rw [hh b fun m => by rw [r.fn i b m] at e; cases e]; exact r.h0 b o e
/-- super().m(e, ..) -/
theorem snd_sup (g : Gd k nm cal np lv N sc X W) (C : InC k d X) {e : Expr} {es : List Expr} {p0 p1 apos pos : Pos} {m : Nat} {mx : Str} {rs : En → R (List LD)} (ha : PA X (e :: es) (tA k Z0 H0 W rs)) (hm : nm.at_ m = some mx) (hi : m ≠ mIni) (hl : (apos.endLine == pos.line) = true) (hn : (e :: es).length < 29) (hlen : ∀ ε xs, rs ε = .ok xs → xs.length = (e :: es).length)
    (hst : starEach (e :: es) X.env = (false, eval e X.env) :: starEach es X.env) (hpl : (backTo pos (starEach es X.env)).any (·.1) = false) :
    PEA X B (.Call (.Attribute (.Call (.Name "super" p0) [] [] p1) mx apos) (e :: es) [] pos) (tE k Z0 H0 W fun ε => match supF k.G d m ε with
      | some (f, x) => (rs ε).bind fun xs => callD cal f x xs
      | none => .bad) := by
  obtain ⟨f0, cc, me, hN, S⟩ := C.ex
  refine PEA.imp (pea_sup (CX := L2.CX X.prog X.w) (ks := []) S hN ha pk_nil rfl rfl rfl hst hpl hl (by simpa using hn)) fun σ H Q ⟨Z, ε, F, rel, h⟩ => ?_
  dsimp only at h
  cases hf : supF k.G d m ε with
  | none => rw [hf] at h; exact h.elim
  | some p =>
    obtain ⟨f, x⟩ := p
    rw [hf] at h
    unfold supF at hf
    split at hf
    · rename_i c fs e0
      cases hs : k.G.sup c d m with
      | none => rw [hs] at hf; cases hf
      | some f' =>
        rw [hs] at hf
        cases hf
        obtain ⟨ga, fd, ps, M, hb, F1⟩ := (g.sup c d m f mx hs hm hi).ex
        obtain ⟨v, hσ, hd, _⟩ := rel.at e0
        obtain ⟨s, _⟩ := hd
        have s0 := s
        cases s with
        | @ins a _ ws _ hi2 hs2 =>
          refine ⟨a, k.ca c, ga, lv, fd, ps, spF k cal (.fn f), WE W σ, _, hσ, fun pins s1 I => ?_, M, F1, g.room, KBx.binds hb, passAt g.tk σ, Z, ε, F, rel, (After.bind h).imp fun xs exs h => ?_⟩
          · obtain ⟨ox, od, J, _⟩ := StX.insC_at I (hi2.mono rel.zh).insC
            exact ⟨ox, od, J⟩
          · intro vs Z1 H1 f1 e1 t1 n1
            refine ⟨t1.length.trans (hlen ε xs exs), rfl, ?_⟩
            unfold callD at h
            split at h
            · rename_i ds hdt
              exact meth_get rel e1 (s0.mono e1.z) t1 n1 hdt h
            · exact h.elim
    · cases hf
/-- super().__init__(e, .., k = v, ..) -/
theorem snd_supi (g : Gd k nm cal np lv N sc X W) (C : InC k d X) {e : Expr} {es : List Expr} {kws : List Keyword} {ks : List Str} {p0 p1 apos pos spos : Pos} {sh cb f1 : Nat} {rs rk : En → R (List LD)} (hs : nm.sh sh = some (cb, f1, (e :: es).length, ks))
    (ha : PA X (e :: es) (tA k Z0 H0 W rs)) (hkw : PK X kws (tA k Z0 H0 W rk)) (hk : kws.map (·.arg) = ks.map some) (hlen : ∀ ε xs, rs ε = .ok xs → xs.length = (e :: es).length) (hlenk : ∀ ε xs, rk ε = .ok xs → xs.length = kws.length) (hl : (apos.endLine == pos.line) = true) (hn : (e :: es).length + kws.length < 29)
    (hin : interactive X.env = false)
    (hst : starEach (e :: es) X.env = (false, eval e X.env) :: starEach es X.env) (hpl : (backTo pos (starEach es X.env)).any (·.1) = false) :
    PSA X B (.Expr (.Call (.Attribute (.Call (.Name "super" p0) [] [] p1) "__init__" apos) (e :: es) kws pos) spos) (tS k Z0 H0 W fun ε => match supJ k.G d f1 ε with
      | some c => toO (ε.set 0 none) ((rs ε).bind fun xs => (rk ε).bind fun ys => makeS k.G cal c f1 sh xs ys) fun x => supI c ε x
      | none => .bad) := by
  obtain ⟨fa, cc, me, hN, S⟩ := C.ex
  obtain ⟨k1, k2, k3⟩ := kw_ok (env := X.env) (pos := pos) hk
  have hl2 : kws.length = ks.length := by simpa using congrArg List.length hk
  refine PSA.imp (psa_ex (pea_sup (CX := L2.CX X.prog X.w) (ks := ks) S hN ha hkw k1 k2 k3 hst hpl hl hn) hin rfl) fun D σ H ⟨Z, ε, F, rel, h⟩ => ?_
  dsimp only at h
  cases hf : supJ k.G d f1 ε with
  | none => rw [hf] at h; exact h.elim
  | some c =>
    rw [hf] at h
    dsimp only at h
    unfold supJ at hf
    split at hf
    · rename_i c1 e0
      by_cases hs1 : k.G.sup c1 d mIni = some f1
      · rw [if_pos hs1] at hf
        have hf : c1 = c := Option.some.inj hf
        subst hf
        obtain ⟨hsl, ga, fd, ps, gg, gV, M, kb, hrel, F1⟩ := g.sui c1 d sh cb _ ks f1 hs1 hs
        obtain ⟨v, hσ, hd5, hi0⟩ := rel.at e0
        obtain ⟨a, dx, c', vs0, ds0, ⟨rfl, hme⟩, e2, mk, hs0, hF⟩ := hd5
        cases e2
        cases hs0
        obtain ⟨hpa, hpd⟩ := mk.pl hsl
        rw [List.zip_nil_right] at hpa
        subst hme
        have kme : k.at_ k.me = k := rfl
        obtain ⟨kk, sp, F2, hr2, hsp⟩ : ∃ kk sp, FnOk X.prog X.w X.K X.mg X.base (L2.CX X.prog X.w) kk ga fd ps sp ∧ Room kk X.A ∧ ∀ vs H Q E, ((∀ c, cal c = .bad) → False) → spI k cal c1 f1 vs H Q E → sp vs H Q E := by
          rcases Nat.eq_zero_or_pos lv with e | e
          · exact ⟨0, fun _ _ _ _ => False, ⟨fun _ _ _ _ h => h.elim, fun _ _ _ _ _ _ _ _ _ _ _ _ _ h => h.elim⟩, g.room.mono (Nat.zero_le _), fun _ _ _ _ h _ => h (g.low e)⟩
          · have hm : lv = (lv - 1) + 1 := by omega
            exact ⟨lv - 1, _, F1 _ hm, g.room.mono (by omega), fun _ _ _ _ _ h => h⟩
        have hx : After k W σ Z H ((rs ε).bind fun xs => (rk ε).bind fun ys => makeS k.G cal c1 f1 sh xs ys) fun x => AfterS k Z0 H0 W Z D (supI c1 ε x) := by
          have h1 := h
          generalize ((rs ε).bind fun xs => (rk ε).bind fun ys => makeS k.G cal c1 f1 sh xs ys) = r at h1
          cases r with
          | ok a => exact h1
          | exc c fs => exact fun cls dd Z' H' e x => h1 cls dd σ H' Z' _ ((rel.ext e).cut (i := 0) fun _ _ => rfl) e.z x
          | bad => exact h1
        refine ⟨k.me, k.ca c1, ga, kk, fd, ps, sp, WE W σ, gV, hσ, fun pins s1 I => ?_, M, F2, hr2, KBx.of kb, passAt g.tk σ, Z, ε, F, rel, (After.bind hx).imp fun xs exs hx => ?_⟩
        · have hins : InsAt k H c1 k.me [] := mk.insAt rfl rfl
          obtain ⟨ox, od, J, _⟩ := StX.insC_at I hins.insC
          exact ⟨ox, od, J⟩
        intro vs Z1 H1 fp1 e1 t1 n1
        refine ⟨Z1, ε, F, rel.ext e1, (After.bind hx).ext e1 fun ys eys hx => ?_⟩
        intro zs Z2 H2 fp2 e2 t2 n2
        have lv1 : vs.length = (e :: es).length := t1.length.trans (hlen ε xs exs)
        have lz1 : zs.length = ks.length := (t2.length.trans (hlenk ε ys eys)).trans hl2
        refine ⟨lv1, lz1, ?_⟩
        unfold makeS at hx
        cases ex : shrs xs with
        | bad => rw [ex] at hx; exact hx.elim
        | exc c fs => exact absurd ex (shrs_calm xs c fs)
        | ok ds =>
          cases ey : shrs ys with
          | bad => rw [ex, ey] at hx; exact hx.elim
          | exc c fs => exact absurd ey (shrs_calm ys c fs)
          | ok es' =>
            cases hr : k.G.asm sh ds es' with
            | none =>
              rw [ex] at hx
              change After k W σ Z H ((shrs ys).bind _) _ at hx
              rw [ey] at hx
              change After k W σ Z H (match k.G.asm sh ds es' with | some r => cal (.mk c1 f1 r) | none => .bad) _ at hx
              rw [hr] at hx
              exact hx.elim
            | some r =>
              have hm : ((rs ε).bind fun xs => (rk ε).bind fun ys => makeS k.G cal c1 f1 sh xs ys) = cal (.mk c1 f1 r) := by
                rw [exs]
                show (rk ε).bind _ = _
                rw [eys]
                show makeS k.G cal c1 f1 sh xs ys = _
                unfold makeS
                rw [ex]
                show (shrs ys).bind _ = _
                rw [ey]
                show (match k.G.asm sh ds es' with | some r => cal (.mk c1 f1 r) | none => .bad) = _
                rw [hr]
              rw [hm] at h
              have e12 := e1.trans e2
              have n12 : New Z2 H (fp1 ++ fp2) := (n1.ext t1.there e2).join t1.there n2 e1.h
              have eF : Ext Z H (zjoin Z2 H2 (fp1 ++ fp2)) H2 := e12.freeze n12.n
              have rel3 := (rel.ext eF).cut (i := 0) (Hb := fun b => if b ∈ F 0 then none else H2 b) fun b m => if_neg m
              have s1 : Shs k (zjoin Z2 H2 (fp1 ++ fp2)) vs ds := shrs_ok ex (t1.mono e2) (zjoin_sub e12.zh) fun b m => zjoin_in (List.mem_append_left _ m)
              have s2 : Shs k (zjoin Z2 H2 (fp1 ++ fp2)) zs es' := shrs_ok ey t2 (zjoin_sub e12.zh) fun b m => zjoin_in (List.mem_append_right _ m)
              obtain ⟨ws, ew, sw⟩ := hrel _ (.ref k.me) vs zs ds es' r hr s1 s2 lv1 lz1
              refine hsp _ _ _ _ (fun z => by rw [z] at h; exact h.elim) ⟨k.me, dx, _, _, r, ws, ew, ?_, if_pos (by rw [hF]; simp), if_pos (by rw [hF]; simp), mk.ne, rel3.zh, sw, ?_⟩
              · funext b
                by_cases hb : b = k.me
                · subst hb
                  rw [upd_same]
                  exact eF.h _ _ hpa
                · rw [upd_ne hb]
                  by_cases hb2 : b = dx
                  · subst hb2
                    rw [upd_same]
                    exact eF.h _ _ hpd
                  · rw [upd_ne hb2]
                    exact (if_neg (by rw [hF]; simp [hb, hb2])).symm
              · cases ec : cal (.mk c1 f1 r) with
                | bad => rw [ec] at h; exact h.elim
                | exc cc fs =>
                  rw [ec] at h
                  exact fun cls dd Z' H' e5 x => h cls dd σ H' Z' _ (rel3.ext e5) (fun b o q => e5.z b o (eF.z b o q)) x
                | ok p =>
                  obtain ⟨l, dd⟩ := p
                  rw [ec] at h
                  intro Z' H' fp hl0 e5 h5 nw
                  subst hl0
                  rw [kme] at h5
                  have h5' := h5
                  obtain ⟨a', dx', c2, vs', ds', ⟨h6, _⟩, rfl, mk', hs', hF'⟩ := h5'
                  have h : AfterS k Z0 H0 W Z D (if c2 = c1 then .nx (ε.set 0 (some (5, .ins c1 ds'))) else .bad) := h
                  split at h
                  · rename_i hc
                    subst hc
                    have r5 := (rel3.ext e5).put (i := 0) (o := some (.ref k.me)) (s := some (5, .ins c2 ds')) (fp := fp) ⟨.ref k.me, rfl, h5⟩ nw.nd nw.z (rel3.new0 nw) (fun j _ b m => rel3.apart nw j b m) (by rw [List.length_set]; exact hi0)
                    rw [List.set_set] at r5
                    have es : σ.set 0 (some (.ref k.me)) = σ := by
                      obtain ⟨h7, h8⟩ := List.getElem?_eq_some_iff.mp hσ
                      rw [← h8]
                      exact List.set_getElem_self h7
                    rw [es] at r5
                    exact h σ H' Z' _ r5 fun b o q => e5.z b o (eF.z b o q)
                  · exact h.elim
      · rw [if_neg hs1] at hf; cases hf
    · cases hf
end
/-! ### a def's text with super() -/
def supE (c : CC) (sc : Scope) (d : Nat) : E → Expr → Bool
  | .sup d' m as, e => (match e with
    | .Call (.Attribute (.Call (.Name x _) [] [] _) mx ap) (y :: ys) [] pos => decide (x = ("super" : Str)) && decide (d' = d) && decide (c.nm.at_ m = some mx) && !decide (m = mIni) && (ap.endLine == pos.line) && decide ((y :: ys).length < 29) && (y :: ys).all notStar && chkEs c sc as (y :: ys)
    | _ => false)
  | _, _ => false
def chkEA (c : CC) (sc : Scope) (d : Nat) : E → Expr → Bool
  | .bin op a b, e => (match e with | .BinOp x o y _ => decide (o = opP op) && chkEA c sc d a x && chkE c sc b y | _ => false)
  | .sup d' m as, e => supE c sc d (.sup d' m as) e
  | a, e => chkE c sc a e
def supS (c : CC) (sc : Scope) (d : Nat) : S → Stmt → Bool
  | .supi d' f sh as ks, st => (match st with
    | .Expr (.Call (.Attribute (.Call (.Name x _) [] [] _) mx ap) (y :: ys) kws pos) _ => decide (x = ("super" : Str)) && decide (mx = ("__init__" : Str)) && decide (d' = d) && (match c.nm.sh sh with | some (_, f1, n, names) => decide (f1 = f) && decide (n = (y :: ys).length) && decide (kws.map (·.arg) = names.map some) | none => false) &&
        (ap.endLine == pos.line) && decide ((y :: ys).length + kws.length < 29) && (y :: ys).all notStar && chkEs c sc as (y :: ys) && chkEs c sc ks (kws.map (·.value))
    | _ => false)
  | _, _ => false
mutual
def chkSA (c : CC) (sc : Scope) (d : Nat) : S → Stmt → Bool
  | .ret e, st => (match st with
    | .Return (some v) _ => chkEA c sc d e v
    | _ => false)
  | .ife t a b, st => (match st with
    | .If te x y _ => chkT c sc t te && chkSsA c sc d a x && chkSsA c sc d b y
    | _ => false)
  | .supi d' f sh as ks, st => supS c sc d (.supi d' f sh as ks) st
  | s, st => chkS c sc s st
def chkSsA (c : CC) (sc : Scope) (d : Nat) : Ss → List Stmt → Bool
  | .nil, sts => (match sts with | [] => true | _ => false)
  | .cons s r, sts => (match sts with | st :: sts' => chkSA c sc d s st && chkSsA c sc d r sts' | [] => false)
end
section
variable {k : Kc} {cal : Cl → R LD} {np : Nat → Nat} {lv : Nat} {c : CC} {X : Cx} {W : WX} {Z0 H0 : Hp} {sc : Scope} {B : List Stmt} {d : Nat}
theorem supE_ok (g : Gd k c.nm cal np lv c.N sc X W) (C : InC k d X) {a : E} {e : Expr} (h : supE c sc d a e = true) : PEA X B e (tE k Z0 H0 W (evE k.G cal a)) := by
  unfold supE at h
  split at h
  · split at h
    · simp only [Bool.and_eq_true, Bool.not_eq_true', decide_eq_true_eq, decide_eq_false_iff_not, List.all_cons] at h
      obtain ⟨⟨⟨⟨⟨⟨⟨rfl, rfl⟩, h3⟩, h4⟩, h5⟩, h6⟩, h7⟩, h8⟩ := h
      exact snd_sup g C (sndEs _ h8 g) h3 h4 h5 h6 (fun ε xs e => evEs_len _ h8 e) (star_cons h7.1) (star_any h7.2)
    · cases h
  · cases h
theorem sndEA (g : Gd k c.nm cal np lv c.N sc X W) (C : InC k d X) : ∀ (a : E) {e : Expr}, chkEA c sc d a e = true → PEA X B e (tE k Z0 H0 W (evE k.G cal a))
  | a, e, h => by
    unfold chkEA at h
    split at h
    · rename_i op a b
      split at h
      · simp only [Bool.and_eq_true, decide_eq_true_eq] at h
        obtain ⟨⟨rfl, h1⟩, h2⟩ := h
        exact PEA.imp (pea_op anyR_ok (sndEA g C a h1) (sndE b h2 g)) (tE_two (bop_get g.hK _) (bop_calm _))
      · cases h
    · exact supE_ok g C h
    · exact PEA.of (sndE _ h g)
theorem supS_ok (g : Gd k c.nm cal np lv c.N sc X W) (C : InC k d X) (hin : interactive X.env = false) {a : S} {st : Stmt} (h : supS c sc d a st = true) : PSA X B st (tS k Z0 H0 W (run k.G cal a)) := by
  unfold supS at h
  split at h
  · split at h
    · simp only [Bool.and_eq_true, decide_eq_true_eq, List.all_cons] at h
      obtain ⟨⟨⟨⟨⟨⟨⟨⟨rfl, rfl⟩, rfl⟩, h4⟩, h5⟩, h6⟩, h7⟩, h8⟩, h9⟩ := h
      split at h4
      · rename_i cb f1 n names hs
        simp only [Bool.and_eq_true, decide_eq_true_eq] at h4
        obtain ⟨⟨rfl, rfl⟩, h4⟩ := h4
        exact snd_supi g C hs (sndEs _ h8 g) (sndKs _ h9 g) h4 (fun ε xs e => evEs_len _ h8 e) (fun ε xs e => (evEs_len _ h9 e).trans (by simp)) h5 h6 hin (star_cons h7.1) (star_any h7.2)
      · cases h4
    · cases h
  · cases h
mutual
theorem sndSA (g : Gd k c.nm cal np lv c.N sc X W) (C : InC k d X) (hin : interactive X.env = false) (tx : TopX X) (hfn : ∀ x, sc.names.lookup x = some .cell → X.fn x = true) : ∀ (s : S) {st : Stmt}, chkSA c sc d s st = true → PSA X B st (tS k Z0 H0 W (run k.G cal s))
  | .ret e, st, h => by
    unfold chkSA at h
    split at h
    · exact snd_retA (sndEA g C e h)
    · cases h
  | .ife t a b, st, h => by
    unfold chkSA at h
    split at h
    · simp only [Bool.and_eq_true] at h
      exact snd_ifA (sndT t h.1.1 g).1 (sndSsA g C hin tx hfn a h.1.2) (sndSsA g C hin tx hfn b h.2)
    · cases h
  | .supi d' f sh as ks, st, h => supS_ok g C hin (by unfold chkSA at h; exact h)
  | .asg i fz e, st, h => PSA.of (sndS _ (by unfold chkSA at h; exact h) g tx hfn)
  | .asgT tg e, st, h => PSA.of (sndS _ (by unfold chkSA at h; exact h) g tx hfn)
  | .setI i k e, st, h => PSA.of (sndS _ (by unfold chkSA at h; exact h) g tx hfn)
  | .setI2 i j k e, st, h => PSA.of (sndS _ (by unfold chkSA at h; exact h) g tx hfn)
  | .aug i op e, st, h => PSA.of (sndS _ (by unfold chkSA at h; exact h) g tx hfn)
  | .app i e, st, h => PSA.of (sndS _ (by unfold chkSA at h; exact h) g tx hfn)
  | .forA _ _ _ _ _, st, h => PSA.of (sndS _ (by unfold chkSA at h; exact h) g tx hfn)
  | .forQ _ _ _ _, st, h => PSA.of (sndS _ (by unfold chkSA at h; exact h) g tx hfn)
  | .lm _ _ _, st, h => PSA.of (sndS _ (by unfold chkSA at h; exact h) g tx hfn)
  | .delI i k, st, h => PSA.of (sndS _ (by unfold chkSA at h; exact h) g tx hfn)
  | .sfld i f e, st, h => PSA.of (sndS _ (by unfold chkSA at h; exact h) g tx hfn)
  | .ex e, st, h => PSA.of (sndS _ (by unfold chkSA at h; exact h) g tx hfn)
  | .retN, st, h => PSA.of (sndS _ (by unfold chkSA at h; exact h) g tx hfn)
  | .whl t b, st, h => PSA.of (sndS _ (by unfold chkSA at h; exact h) g tx hfn)
  | .for_ tg it b, st, h => PSA.of (sndS _ (by unfold chkSA at h; exact h) g tx hfn)
  | .brk, st, h => PSA.of (sndS _ (by unfold chkSA at h; exact h) g tx hfn)
  | .cnt, st, h => PSA.of (sndS _ (by unfold chkSA at h; exact h) g tx hfn)
  | .pas, st, h => PSA.of (sndS _ (by unfold chkSA at h; exact h) g tx hfn)
  | .frz _, st, h => PSA.of (sndS _ (by unfold chkSA at h; exact h) g tx hfn)
  | .rs, st, h => PSA.of (sndS _ (by unfold chkSA at h; exact h) g tx hfn)
  | .shl _, st, h => PSA.of (sndS _ (by unfold chkSA at h; exact h) g tx hfn)
  | .shf _, st, h => PSA.of (sndS _ (by unfold chkSA at h; exact h) g tx hfn)
  | .sfldO _ _ _, st, h => PSA.of (sndS _ (by unfold chkSA at h; exact h) g tx hfn)
  | .sapp _ _ _, st, h => PSA.of (sndS _ (by unfold chkSA at h; exact h) g tx hfn)
  | .rais _ _, st, h => PSA.of (sndS _ (by unfold chkSA at h; exact h) g tx hfn)
  | .raim _, st, h => PSA.of (sndS _ (by unfold chkSA at h; exact h) g tx hfn)
  | .tryx _ _, st, h => PSA.of (sndS _ (by unfold chkSA at h; exact h) g tx hfn)
theorem sndSsA (g : Gd k c.nm cal np lv c.N sc X W) (C : InC k d X) (hin : interactive X.env = false) (tx : TopX X) (hfn : ∀ x, sc.names.lookup x = some .cell → X.fn x = true) : ∀ (a : Ss) {sts : List Stmt}, chkSsA c sc d a sts = true → PSsA X B sts (tS k Z0 H0 W (runs k.G cal a))
  | .nil, sts, h => by
    unfold chkSsA at h
    split at h
    · exact PSsA.of snd_snil
    · cases h
  | .cons s r, sts, h => by
    unfold chkSsA at h
    split at h
    · simp only [Bool.and_eq_true] at h
      exact snd_sseqA (sndSA g C hin tx hfn s h.1) (sndSsA g C hin tx hfn r h.2)
    · cases h
end
end
/-! ### binding, whatever the closure is -/
structure FunB (K : PySem.W.Frag) (x qual : Str) (params : Arguments) (body : List Stmt) (scope : Scope) (dvs : List V) (kws : List (Str × V)) (fd : FuncData) : Prop where
  ex : ∃ (dV kV doc pm : Value) (an : Option Addr) (cdv ct : Value), (∀ args, bindArgs fd args = bindArgs (PySem.W.fnOf x qual params body scope dV kV doc pm an cdv ct) args) ∧ DflV K dV dvs ∧ KwdV K kV kws
section
variable {K : PySem.W.Frag} {x qual : Str} {params : Arguments} {body : List Stmt} {scope : Scope} {dvs : List V} {kws : List (Str × V)} {f D : Addr} {fd : FuncData} {ps : List Str} {file : Str}
theorem FunB.ofD (F : FunD K x qual params body scope dvs kws f fd) : FunB K x qual params body scope dvs kws fd := by
  obtain ⟨oc, od, dV, kV, doc, pm, an, cdv, ct, osl, rfl, lk, hcd, hD, hK⟩ := F.ex
  exact ⟨dV, kV, doc, pm, an, cdv, ct, fun _ => rfl, hD, hK⟩
theorem FunB.ofS (F : FunS K x qual params body scope dvs kws file D f fd) : FunB K x qual params body scope dvs kws fd := by
  obtain ⟨oc, od, dV, kV, doc, pm, an, ct, osl, cda, cc, vsc, ccl, cdd, ccs, tf, cl, cld, csl, rfl, lk, hcd, hD, hK, lc, hv, lcell⟩ := F.ex
  exact ⟨dV, kV, doc, pm, an, .ref cda, ct, fun _ => rfl, hD, hK⟩
theorem FunB.bindsN (F : FunB K x qual params body scope [] kws fd)
    (h : ∀ (kV doc pm : Value) (an : Option Addr) (cdv ct : Value) (us : List Value), us.length = ps.length → bindArgs (PySem.W.fnOf x qual params body scope .none kV doc pm an cdv ct) ⟨us, []⟩ = pure (ps.zip us)) : Binds K fd ps [] := by
  obtain ⟨dV, kV, doc, pm, an, cdv, ct, e, hD, hK⟩ := F.ex
  rcases hD with ⟨_, rfl⟩ | ⟨e, _⟩
  · exact .all fun us hl => (e _).trans (h kV doc pm an cdv ct us hl)
  · exact absurd rfl e
theorem FunB.bindsA (F : FunB K x qual params body scope [] kws fd)
    (h : ∀ (kV doc pm : Value) (an : Option Addr) (cdv ct : Value) (us : List Value), us.length = ps.length → bindArgs (PySem.W.fnOf x qual params body scope .none kV doc pm an cdv ct) ⟨us, []⟩ = pure (ps.zip us)) (s : Shared) (us : List Value) (hl : us.length = ps.length) : BindsTo s fd ⟨us, []⟩ (ps.zip us) := by
  obtain ⟨dV, kV, doc, pm, an, cdv, ct, e, hD, hK⟩ := F.ex
  rcases hD with ⟨_, rfl⟩ | ⟨e, _⟩
  · exact .of_eq ((e _).trans (h kV doc pm an cdv ct us hl))
  · exact absurd rfl e
theorem FunB.kbinds0 (F : FunB K x qual params body scope [] kws fd) (n : Nat) (ks : List Str) (ms : List (Str × V)) (g : {α : Type} → List α → List α → List α → List α) (hk : kws ≠ []) (hms : ∀ q ∈ ms, q ∈ kws)
    (hrel : ∀ {vs mz zs : List V} {us mv ws : List Value}, Vals vs us → Vals mz mv → Vals zs ws → Vals (g vs mz zs) (g us mv ws))
    (h : ∀ (D : Addr) (doc pm : Value) (an : Option Addr) (cdv ct : Value) (us mv ws : List Value), us.length = n → mv.length = ms.length → ws.length = ks.length →
      KwChain D ((ms.map (·.1)).zip mv) (bindArgs (PySem.W.fnOf x qual params body scope .none (.ref D) doc pm an cdv ct) ⟨us, ks.zip ws⟩) (ps.zip (g us mv ws))) :
    ∃ mv : List Value, KBn K fd ps n ks (fun us ws => g us mv ws) (fun vs zs => g vs (ms.map (·.2)) zs) := by
  obtain ⟨dV, kV, doc, pm, an, cdv, ct, e, hD, hK⟩ := F.ex
  rcases hD with ⟨_, rfl⟩ | ⟨e, _⟩
  · rcases hK with e | ⟨D, rfl, hq⟩
    · exact absurd e hk
    · obtain ⟨mv, hl, rk, hks⟩ := kwd_vals (ms := ms) fun q hm => hq q (hms q hm)
      exact ⟨mv, ⟨fun s us ws X l1 l2 => BindsTo.of_looks fun M => (e _) ▸ KwChain.looks X hks (h D doc pm an cdv ct us mv ws l1 hl l2), fun r1 r2 => hrel r1 rk r2⟩⟩
  · exact absurd rfl e
/-- positional defaults -/
theorem FunB.kbindsD (F : FunB K x qual params body scope dvs kws fd) (n : Nat) (ks : List Str) (g : {α : Type} → List α → List α → List α → List α) (hd : dvs ≠ [])
    (hrel : ∀ {vs ds zs : List V} {us its ws : List Value}, Vals vs us → Vals ds its → Vals zs ws → Vals (g vs ds zs) (g us its ws))
    (h : ∀ (T : Addr) (kV doc pm : Value) (an : Option Addr) (cdv ct : Value) (us its ws : List Value), us.length = n → its.length = dvs.length → ws.length = ks.length →
      ∃ k, bindArgs (PySem.W.fnOf x qual params body scope (.ref T) kV doc pm an cdv ct) ⟨us, ks.zip ws⟩ = seqItems? (.ref T) >>= k ∧ k (some its.toArray) = pure (ps.zip (g us its ws))) :
    ∃ its : List Value, KBn K fd ps n ks (fun us ws => g us its ws) (fun vs zs => g vs dvs zs) := by
  obtain ⟨dV, kV, doc, pm, an, cdv, ct, e, hD, hK⟩ := F.ex
  rcases hD with ⟨e, _⟩ | ⟨_, T, o, its, m, rfl, lT, oT, rT⟩
  · exact absurd e hd
  · refine ⟨its, ⟨fun s us ws X l1 l2 => ?_, fun r1 r2 => hrel r1 rT r2⟩⟩
    obtain ⟨k, e1, e2⟩ := h T kV doc pm an cdv ct us its ws l1 rT.length.symm l2
    refine BindsTo.of_looks fun M => ?_
    rw [e _, e1]
    exact looks_items X lT oT (.of_pure e2)
end
end RS

/-! RsX1 -/
namespace RS
open PySem PySem.Spec
open PyProof.Rows L2
/-! ### super().__init__(..) within an exception's own __init__ -/
abbrev veI : String := "ValueError.__init__"
structure SupX (K : PySem.W.Frag) (C D : Addr) : Prop where
  sub : PySem.W.mroIn K C (.ref D) = some true
  at_ : PySem.W.ks_superIn K C D "__init__" = some (some (.builtin veI))
  ve : PySem.W.subIn K (.ref C) (.type "ValueError") = some true
section
variable {X : Cx} {B : List Stmt} {pins : List (Addr × Obj)} {σ : L2.St} {H : Hp} {s : Shared} {f cc D a C q : Addr} {me : Str} {p0 p1 pos apos : Pos} {Q : Value → Shared → Prop} {E : Value → Shared → Prop} {A : Around}
theorem exo_inst (I : Inv X pins σ H s) (e : H a = some (exo a C none)) : ∃ ox, PySem.W.InstAt s.heap a ox C none := by
  obtain ⟨t1, ho⟩ := exo_at I.hok e
  exact ⟨_, ho, rfl, rfl, trivial⟩
theorem sup_bindX {whole : Sem Value} {pl : Sem Bool} (S : SupC X f cc D me) (I : Inv X pins σ H s) (hN : X.N[0]? = some me) (hσ : σ[0]? = some (some (.ref a))) (he : H a = some (exo a C none)) (M : SupX X.K C D) :
    PySem.wpAt (model X.prog X.w) X.A (.func B X.env) (attributeBase (.Call (.Name "super" p0) [] [] p1) "__init__" X.env whole) (fun ov s₁ => wpAny (model X.prog X.w) X.A (getMethod ov "__init__" pl) (fun fx s2 => ∃ q, fx = (.ref q, []) ∧ Inv X ((q, PySem.W.kxs_mw veI a) :: pins) σ H s2) X.xe s₁) X.xe s := by
  have K := I.kIn
  obtain ⟨ox, J⟩ := exo_inst I he
  obtain ⟨oc, od', osl, fd, ar, lk, hp, rfl⟩ := S.fd
  obtain ⟨c, vs, ccl, cdd, ccs, file, tf, hco, lc, hvs, hfile⟩ := S.co
  obtain ⟨cl, cld, csl, lcell⟩ := S.cell
  obtain ⟨cd, hcls⟩ := S.cls
  obtain ⟨oD, hD1, hD2⟩ : ∃ oD, s.heap.get? D = some oD ∧ oD.data = .cls cd := by
    unfold PySem.W.clsIn at hcls
    split at hcls
    · rename_i c' d' cd' sl' ho
      cases hcls
      exact ⟨_, K _ _ ho, rfl⟩
    · cases hcls
  refine PySem.ks_wpAt_super_base S.ks S.kc (by decide) S.fu (K _ _ lk) rfl hp hco (K _ _ lc) rfl hvs hfile S.top ?_
  obtain ⟨mb, h1, h2⟩ := I.mod.blt
  refine PySem.W.ks_loadName_global I.ok.kind S.ks (Calls.loadGlobal_builtin (by rw [I.ok.glob]; exact I.mod.glob.keeps I.bk) S.mg (by rw [I.ok.blt]; exact h1.keeps I.bk) ((h2 "super" (by decide)).trans (show bootBuiltins "super" = some (.type "super") by decide +kernel)) ⟨rfl, ?_⟩)
  refine wpAny_loadName_free I.ok.kind S.kc S.ce ⟨_, K _ _ lcell, rfl⟩ ?_
  obtain ⟨ml, hn, hl⟩ := I.loc
  obtain ⟨u, r, l⟩ := hl 0 _ (.ref a) hN hσ (.inl S.km)
  cases (show u = Value.ref a from r)
  have hm : ml ar.arg = some (.ref a) := by
    rcases l with ⟨_, h⟩ | ⟨h, _⟩
    · exact h
    · rw [S.km] at h
      rcases h with h | h <;> cases h
  refine wpAny_loadName_local I.ok.kind S.km hn hm ?_
  refine PySem.ks_wpAny_isType_cls hD1 hD2 ⟨rfl, ?_⟩
  obtain ⟨hp, gg, dd, tt, os⟩ := s
  refine PySem.ks_wpAny_call_super hD1 hD2 J.at_ J.cls (fun c' e => ?_) (PySem.W.looks_mroIn K M.sub) (fun h' e k => ?_)
  · have := J.no
    unfold PySem.W.notCls at this
    rw [e] at this
    exact Bool.noConfusion this
  · have I1 := ClX.pin_new (t' := tt) I (fun b u z => k b u z) (Nat.le_refl _) e (fun v z => nomatch z)
    have K1 := I1.kIn
    obtain ⟨ox1, J1⟩ := exo_inst I1 he
    have hm := M.at_
    cases hc : PySem.W.clsIn X.K C with
    | none => unfold PySem.W.ks_superIn at hm; rw [hc] at hm; cases hm
    | some cdC =>
      unfold PySem.W.ks_superIn at hm
      rw [hc] at hm
      refine PySem.W.kxs_getMethod PySem.W.kxs_ValueError e (PySem.W.looks_opaque K1 S.opq) (l₀ := cdC.mro) ?_ rfl K1 hm (J1.type.andThen (PySem.W.looks_subIn K1 M.ve)) (PySem.W.ks_ne K1 J1 hc) (by decide) ?_
      · exact fun A Q E s k q => wpAny_bind ((PySem.W.looks_clsIn K1 hc) A _ E s k (wpAny_pure q))
      · have I2 := ClX.pin_new (t' := tt + 1) (h' := h'.push (PySem.W.kxs_mw veI a)) (o := PySem.W.kxs_mw veI a) I1 (fun _ _ z => Heap.get?_push_of_some _ z) (Nat.le_refl _) (Heap.get?_push_size h' rfl) (fun v z => nomatch z)
        refine ⟨_, rfl, I2.pins_of fun r hr => I2.pin r ?_⟩
        refine List.mem_append_right _ ?_
        rcases List.mem_cons.mp hr with hr | hr
        · rw [hr]; exact List.mem_cons_self
        · exact List.mem_cons_of_mem _ (List.mem_cons_of_mem _ hr)
/-- the bound __init__ is called: nothing of it is told -/
theorem call_mwX {rest : List Value} (T : OexC X.K C) (I : Inv X ((q, PySem.W.kxs_mw veI a) :: pins) σ H s) (e : H a = some (exo a C none)) (hl : rest.length ≤ sizeLine) (h : ∀ s', Inv X pins σ H s' → Q .none s') : wpAny (model X.prog X.w) A (call (.ref q) rest) Q E s := by
  obtain ⟨nm, qn, N, bs, bm, sn, sub, ab, col, dd, k0, k1, k2, k3, k5, hC, hbm⟩ := T.cls
  have hu := ClX.pin_at I
  obtain ⟨t1, ho⟩ := exo_at I.hok e
  have hC := I.kIn _ _ hC
  have FB := F.excBase_ValueError
  refine wpAny_call (codeAny_of_tree ?_)
  show wpAny _ A.in1 (callAny (.ref q) ⟨rest, []⟩) _ _ _
  simp only [callAny]
  refine wpAny_bind (wpAny_load hu ?_)
  simp only [PySem.W.kxs_mw, show (Value.type "method-wrapper" == Value.type "method" || Value.type "method-wrapper" == Value.type "builtin_function_or_method" || Value.type "method-wrapper" == Value.type "method-wrapper") = true by decide, if_true]
  refine PySem.W.KFB.if_so (by decide) ?_
  obtain ⟨hp, g, d, t, os⟩ := s
  refine wpAny_bind (PySem.W.check_bound_init FB.toExcCallFacts hC ho rfl ?_)
  refine wpAny_bind (wpAny_pure (wpAny_pure ?_))
  refine ⟨PySem.plainId_quiet FB.init.plain _, codeAny_builtin FB.initEntry ?_⟩
  refine PySem.W.exc_init_tree ho hl fun h' k hx _ => ?_
  have J := (ClX.unpin I).write (t' := t) (x := a) (e := a) (o := exo a C none) (by rw [e]; exact True.intro) (.inl rfl) k ⟨_, hx⟩ (exo_ok hx)
  have eu : upd H a (exo a C none) = H := by
    funext b
    by_cases hb : b = a
    · rw [hb, upd_same, e]
    · rw [upd_ne hb]
  rw [eu] at J
  exact h _ J
/-- super().__init__('m') -/
theorem psa_xsup {m : Str} {j : Nat} {p2 spos : Pos} (S : SupC X f cc D me) (hN : X.N[0]? = some me) (hi : interactive X.env = false) (hl : (apos.endLine == pos.line) = true) :
    PSA X B (.Expr (.Call (.Attribute (.Call (.Name "super" p0) [] [] p1) "__init__" apos) [.Constant (.str m) j p2] [] pos) spos) (fun D' σ H => ∃ a C, σ[0]? = some (some (.ref a)) ∧ OexC X.K C ∧ SupX X.K C D ∧ H a = some (exo a C none) ∧ D'.nx σ H) := by
  have hst : starEach [.Constant (.str m) j p2] X.env = (false, eval (.Constant (.str m) j p2) X.env) :: starEach [] X.env := rfl
  have hpe : PEA X B (.Call (.Attribute (.Call (.Name "super" p0) [] [] p1) "__init__" apos) [.Constant (.str m) j p2] [] pos) (fun σ H Q => ∃ a C, σ[0]? = some (some (.ref a)) ∧ OexC X.K C ∧ SupX X.K C D ∧ H a = some (exo a C none) ∧ Q .non H) := by
    refine ⟨fun pins s σ H Q I h => ?_⟩
    obtain ⟨a, C, hσ, T, M, he, q⟩ := h
    have hform := form_kw (args := [.Constant (.str m) j p2]) (kws := []) (env := X.env) (pos := pos) rfl rfl (by show 1 + 0 < 29; omega)
    rw [arm_eval_Call]
    refine PySem.wpAt_bind (ks_wpAt_mono (sup_bindX (B := B) (pl := do return (← importBound (.Call (.Name "super" p0) [] [] p1) X.env).getD true) S I hN hσ he M) (fun ov s1 h1 => PySem.wpAt_of_wpAny (wpAny_bind (wpAny_standAt ?_))) fun _ _ z => z)
    unfold methodCall
    show wpAny _ _ (holding [ov] (calleeOf (methodCallForm ([Expr.Constant (.str m) j p2].length + 0) _ _) _ X.env ov "__init__") >>= fun x => methodCallPos (methodCallForm ([Expr.Constant (.str m) j p2].length + 0) _ _) _ X.env apos pos >>= fun cp => callWith cp x.1 x.2 _ _) _ _ _
    rw [show ([] : List Keyword).length = 0 from rfl] at hform
    rw [hform]
    unfold calleeOf methodCallPos
    simp only [if_true, Bool.not_true, Bool.false_or, hl]
    refine wpAny_bind (wpAny_holding (thn h1 fun fx s2 ⟨q1, e1, I2⟩ => ?_))
    subst e1
    refine wpAny_bind (wpAny_pure ?_)
    have ha : PA X [.Constant (.str m) j p2] (tCons (tC (.str m)) tNil) := pa_cons pe_str pa_nil
    refine PySem.W.kxs_callWith (i := veI) (x := a) rfl (Calls.evalArgs_plain (thn (ha.run pos _ s2 σ H (fun vs H1 => vs = [V.str m] ∧ H1 = H) I2 ⟨rfl, rfl⟩) fun us s3 ⟨vs, H1, I3, rv, ev, eH⟩ => ?_))
    subst ev eH
    refine ⟨ClX.pin_at I3, ?_⟩
    have hz : us.length ≤ sizeLine := by
      rw [← rv.length]
      show 1 ≤ sizeLine
      rw [sizeLine_eq]; omega
    exact call_mwX T I3 he hz fun s' J => ⟨.non, _, J, rfl, q⟩
  exact PSA.imp (psa_ex hpe hi rfl) fun D' σ H h => h
end
/-! ### the __init__ of an exception -/
/-- self.f = name, .. -/
def ixB (N : List Str) (sc : Scope) : List Str → List Str → List Stmt → Bool
  | [], [], [] => true
  | f :: fs, x :: xs, .Assign [.Attribute (.Name y _) g _] (.Name z _) _ :: r => decide (g = f) && decide (z = x) && (match N with | n :: _ => decide (y = n) | [] => false) && visB sc y && visB sc x && ixB N sc fs xs r
  | _, _, _ => false
/-- the whole body -/
def xinB (N : List Str) (sc : Scope) (fs xs : List Str) : List Stmt → Bool
  | .Expr (.Call (.Attribute (.Call (.Name s _) [] [] _) m ap) [.Constant (.str _) _ _] [] cp) _ :: r => decide (s = ("super" : Str)) && decide (m = ("__init__" : Str)) && (ap.endLine == cp.line) && ixB N sc fs xs r
  | _ => false
section
variable {X : Cx} {B : List Stmt} {a C : Addr}
/-- self.f = x, the first field or a further one -/
def tSt (K : PySem.W.Frag) (C : Addr) (f : Str) (i : Nat) : TS := fun D σ H => ∃ a y, σ[0]? = some (some (.ref a)) ∧ σ[i]? = some (some y) ∧ OexC K C ∧ PySem.W.findIn K (.ref C) f = some none ∧
  ((H a = some (exo a C none) ∧ ∀ d, H d = none → d ≠ a → D.nx σ (upd (upd H d (exd d [(f, y)])) a (exo a C (some d)))) ∨
  ∃ d fs, H a = some (exo a C (some d)) ∧ H d = some (exd d fs) ∧ fs.length ≤ 900 ∧ D.nx σ (upd H d (exd d ((f, y) :: fs))))
theorem ps_st {f me x : Str} {i : Nat} {p p1 p2 pos : Pos} (h0 : X.N[0]? = some me) (hv : visB X.env.scope me = true) (hi : X.N[i]? = some x) (hx : visB X.env.scope x = true) : PS X (.Assign [.Attribute (.Name me p) f p1] (.Name x p2) pos) (tSt X.K C f i) := by
  obtain ⟨v1, v2, v3⟩ := vis_of hv
  obtain ⟨w1, w2, w3⟩ := vis_of hx
  refine PS.imp (ps_ost (f := f) (pe_var (i := 0) h0 v1 v2 v3) (pe_var (i := i) hi w1 w2 w3)) fun D σ H h => ?_
  obtain ⟨a, y, e0, ei, T, hno, h⟩ := h
  exact ⟨y, ei, .ref a, e0, a, C, rfl, T, hno, h⟩
/-- all the fields -/
theorem pss_st {me : Str} {N : List Str} (hN : X.N = N) (h0 : N[0]? = some me) : ∀ {fs xs : List Str} {r : List Stmt} {i : Nat}, ixB N X.env.scope fs xs r = true → (∀ j x, xs[j]? = some x → N[i + j]? = some x) →
    PSs X r (fun D σ H => ∃ a d ys gs, fs.length = ys.length ∧ σ[0]? = some (some (.ref a)) ∧ (∀ j y, ys[j]? = some y → σ[i + j]? = some (some y)) ∧ OexC X.K C ∧ (∀ f ∈ fs, PySem.W.findIn X.K (.ref C) f = some none) ∧ H a = some (exo a C (some d)) ∧ H d = some (exd d gs) ∧ gs.length + fs.length ≤ 900 ∧ a ≠ d ∧ D.nx σ (upd H d (exd d ((fs.zip ys).reverse ++ gs))))
  | [], [], [], i, _, _ => PSs.imp pss_nil fun D σ H ⟨a, d, ys, gs, hl, h1, h2, h3, h4, h5, h6, h7, h8, q⟩ => by
    have eu : upd H d (exd d ((([] : List Str).zip ys).reverse ++ gs)) = H := by
      funext b
      by_cases hb : b = d
      · rw [hb, upd_same, h6]; rfl
      · rw [upd_ne hb]
    rw [eu] at q
    exact q
  | f :: fs, x :: xs, .Assign [.Attribute (.Name y p) g p1] (.Name z p2) pos :: r, i, h, hx => by
    unfold ixB at h
    simp only [Bool.and_eq_true, decide_eq_true_eq] at h
    obtain ⟨⟨⟨⟨⟨rfl, rfl⟩, hm⟩, hv⟩, hw⟩, h⟩ := h
    have hy : N[0]? = some y := by
      cases N with
      | nil => cases hm
      | cons n N => exact congrArg some (of_decide_eq_true hm).symm
    have ih := pss_st hN h0 (i := i + 1) h fun j x e => by
      have := hx (j + 1) x (by simpa using e)
      rwa [show i + 1 + j = i + (j + 1) by omega]
    refine PSs.imp (pss_cons (ps_st (C := C) (by rw [hN]; exact hy) hv (by rw [hN]; exact hx 0 z rfl) hw) ih) fun D σ H ⟨a, d, ys, gs, hl, h1, h2, h3, h4, h5, h6, h7, h8, q⟩ => ?_
    cases ys with
    | nil => simp at hl
    | cons v ys =>
      have v0 : σ[i]? = some (some v) := by simpa using h2 0 v rfl
      refine ⟨a, v, h1, v0, h3, h4 _ (List.mem_cons_self ..), .inr ⟨d, gs, h5, h6, by omega, ?_⟩⟩
      refine ⟨a, d, ys, (g, v) :: gs, by simpa using hl, h1, fun j y e => ?_, h3, fun f m => h4 f (List.mem_cons_of_mem _ m), by rw [upd_ne h8]; exact h5, upd_same, by simp at h7 ⊢; omega, h8, ?_⟩
      · have := h2 (j + 1) y (by simpa using e)
        rwa [show i + 1 + j = i + (j + 1) by omega]
      · have eu : upd (upd H d (exd d ((g, v) :: gs))) d (exd d ((fs.zip ys).reverse ++ (g, v) :: gs)) = upd H d (exd d (((g :: fs).zip (v :: ys)).reverse ++ gs)) := by
          funext b
          by_cases hb : b = d
          · rw [hb, upd_same, upd_same]; simp
          · rw [upd_ne hb, upd_ne hb, upd_ne hb]
        rw [eu]
        exact q
end
theorem zip_rev {α β : Type} : ∀ {l : List α} {m : List β}, l.length = m.length → (l.zip m).reverse = l.reverse.zip m.reverse
  | [], [], _ => rfl
  | a :: l, b :: m, h => by
    have h' : l.length = m.length := by simpa using h
    rw [List.zip_cons_cons, List.reverse_cons, zip_rev h', List.reverse_cons, List.reverse_cons, List.zip_append (by simp [h'])]
    rfl
/-- such a def, checked -/
structure XinT (t : DefT) (fl : List Str) : Prop where
  sc : NdefX.NScope t.N t.ps [clsN] t.scope
  ks : t.scope.names.lookup ("super" : Str) = some .globalImplicit
  me : ∃ ar, (t.args.posonlyargs ++ t.args.args).head? = some ar ∧ t.N[0]? = some ar.arg ∧ t.scope.names.lookup ar.arg = some .local
  bd : xinB t.N t.scope fl.reverse (t.ps.drop 1) t.body = true
  ne : fl ≠ []
  ln : fl.length ≤ 900 ∧ t.ps.length = fl.length + 1
theorem nsc_ix {N ps : List Str} {sc : Scope} (U : NdefX.NScope N ps [clsN] sc) {j : Nat} {x : Str} (h : ps[j]? = some x) : N[j]? = some x := by
  have hj := (List.getElem?_eq_some_iff.mp h).1
  have e : (N.take (ps ++ [clsN]).length)[j]? = (ps ++ [clsN])[j]? := by rw [List.length_append, U.pre]
  rw [List.getElem?_append_left hj, List.getElem?_take, if_pos (by simp; omega)] at e
  exact e.trans h
theorem startF_eqX {N ps : List Str} {sc : Scope} {vs : List V} (U : NdefX.NScope N ps [clsN] sc) (hl : vs.length = ps.length) : NdefX.startF N vs [none] = L2.start N vs := by
  have h := congrArg List.length U.pre
  rw [List.length_take, List.length_append] at h
  simp only [List.length_cons, List.length_nil] at h
  unfold NdefX.startF L2.start
  congr 1
  have : N.length - vs.length = (N.length - vs.length - 1) + 1 := by omega
  rw [this, List.replicate_succ]
  simp
theorem start_ix {N : List Str} {vs : List V} {j : Nat} {y : V} (h : vs[j]? = some y) : (L2.start N vs)[j]? = some (some y) := by
  unfold L2.start
  rw [List.getElem?_append_left (by simpa using (List.getElem?_eq_some_iff.mp h).1), List.getElem?_map, h]
  rfl
/-- it keeps its promise -/
theorem xinit_ok {P : Program} {w : World} {K : PySem.W.Frag} {mg : Str → Option Value} {base : Heap} {C f D : Addr} {fl N ps : List Str} {fd : FuncData} {x qual file : Str} {params : Arguments} {body : List Stmt} {scope : Scope} {dvs : List V} {kws : List (Str × V)} (Sd : FunS K x qual params body scope dvs kws file D f fd)
    (sc : NdefX.NScope N ps [clsN] scope) (ks : scope.names.lookup ("super" : Str) = some .globalImplicit) (me : ∃ ar, (params.posonlyargs ++ params.args).head? = some ar ∧ N[0]? = some ar.arg ∧ scope.names.lookup ar.arg = some .local) (bd : xinB N scope fl.reverse (ps.drop 1) body = true) (ne : fl ≠ []) (ln : fl.length ≤ 900 ∧ ps.length = fl.length + 1)
    (T : OexC K C) (M : SupX K C D) (nf : ∀ y ∈ fl, PySem.W.findIn K (.ref C) y = some none) (hfree : mg "super" = none) (opq : PySem.W.nsIn K cStatics "thirdparty.any" = some none) (own : ∃ cd, PySem.W.clsIn K D = some cd) (top : (P.main.scope.names.lookup ("super" : Str)).isSome = false) (hfile : ((P.main.file : Str) == file) = true) :
    FnOk P w K mg base (L2.CX P w) 1 f fd ps (spX C fl) := by
  refine FunS.ok Sd sc (fun vs H Q E h => ?_) fun F0 A outer s H vs Q E hsc IS hr h => ?_
  · obtain ⟨a, ws, rfl, hl, _⟩ := h
    rw [ln.2, List.length_cons, hl]
  · obtain ⟨a, ws, rfl, hl, ha, q⟩ := h
    obtain ⟨ar, h1, h2, h3⟩ := me
    obtain ⟨cc, cl, cld, csl, ec, lc⟩ := IS.ce
    obtain ⟨c, vs, ccl, cdd, ccs, tf, e1, e2, e3⟩ := IS.co
    obtain ⟨oc, od, osl, lf⟩ := IS.fl
    have kd : ∀ x, (NdefX.ncx (L2.CX P w) P w K mg base N F0 f A outer s H E).env.kindOf x = scope.names.lookup x := fun x => by
      show F0.scope.names.lookup x = _
      rw [hsc]
    have S : SupC (NdefX.ncx (L2.CX P w) P w K mg base N F0 f A outer s H E) f cc D ar.arg :=
      { fu := IS.fu, fd := ⟨oc, od, osl, fd, ar, lf, by rw [Sd.params]; exact h1, rfl⟩, co := ⟨c, vs, ccl, cdd, ccs, file, tf, e1, e2, e3, hfile⟩, ce := by rw [ec]; rfl, cell := ⟨cl, cld, csl, lc⟩, cls := own,
        mg := hfree, ks := (kd _).trans ks, kc := (kd _).trans (sc.frk _ (by simp)), km := (kd _).trans h3, top := top, opq := opq }
    have hi : interactive (NdefX.envF F0 f s.heap.objs.size) = false := by
      have : (NdefX.envF F0 f s.heap.objs.size).scope.kind = .function := by show F0.scope.kind = _; rw [hsc]; exact sc.kind
      unfold interactive
      rw [this]
      rfl
    have hsc2 : (NdefX.ncx (L2.CX P w) P w K mg base N F0 f A outer s H E).env.scope = scope := IS.sc
    unfold xinB at bd
    split at bd
    · rename_i sn p0 p1 m ap m' j p2 cp pos r
      simp only [Bool.and_eq_true, decide_eq_true_eq] at bd
      obtain ⟨⟨⟨rfl, rfl⟩, hline⟩, bd⟩ := bd
      cases er : fl.reverse with
      | nil => exact absurd (List.reverse_eq_nil_iff.mp er) ne
      | cons f0 fs =>
        rw [er] at bd
        cases ex : ps.drop 1 with
        | nil => rw [ex] at bd; simp [ixB] at bd
        | cons x0 xs =>
          rw [ex] at bd
          have hN : ∀ j x, (ps.drop 1)[j]? = some x → N[1 + j]? = some x := fun j x e => nsc_ix sc (by rw [List.getElem?_drop] at e; exact e)
          rw [ex] at hN
          have hwl : ws.length = fs.length + 1 := by
            have := congrArg List.length er
            rw [List.length_reverse, List.length_cons] at this
            omega
          cases ws with
          | nil => simp at hwl
          | cons y0 ys =>
            have hwl : ys.length = fs.length := by simpa using hwl
            have hst : NdefX.startF N (V.ref a :: y0 :: ys) [none] = L2.start N (V.ref a :: y0 :: ys) := startF_eqX sc (by rw [ln.2, List.length_cons, hl])
            match r, bd with
            | .Assign [.Attribute (.Name y p) g p1'] (.Name z p2') pos' :: r', bd =>
              unfold ixB at bd
              simp only [Bool.and_eq_true, decide_eq_true_eq] at bd
              obtain ⟨⟨⟨⟨⟨rfl, rfl⟩, hm⟩, hv⟩, hw⟩, bd2⟩ := bd
              have hy : N[0]? = some y := by
                cases N with
                | nil => cases hm
                | cons n N => exact congrArg some (of_decide_eq_true hm).symm
              have st1 := ps_st (X := NdefX.ncx (L2.CX P w) P w K mg base N F0 f A outer s H E) (C := C) (f := g) (i := 1) (p := p) (p1 := p1') (p2 := p2') (pos := pos') (by rw [IS.hN]; exact hy) (by rw [hsc2]; exact hv) (by rw [IS.hN]; exact hN 0 z rfl) (by rw [hsc2]; exact hw)
              have st2 := pss_st (X := NdefX.ncx (L2.CX P w) P w K mg base N F0 f A outer s H E) (C := C) IS.hN hy (i := 2) (by rw [hsc2]; exact bd2) fun j x e => by
                have := hN (j + 1) x (by simpa using e)
                rwa [show 1 + (j + 1) = 2 + j by omega] at this
              refine ⟨_, pssa_cons (psa_xsup S (by rw [IS.hN]; exact h2) hi hline) (PSsA.of (pss_cons st1 st2)), ?_⟩
              rw [hst]
              refine ⟨a, C, start_ix rfl, by rw [IS.hK]; exact T, by rw [IS.hK]; exact M, ha, ?_⟩
              refine ⟨a, y0, start_ix rfl, start_ix rfl, by rw [IS.hK]; exact T, by rw [IS.hK]; exact nf g (by rw [← List.mem_reverse, er]; exact List.mem_cons_self ..), .inl ⟨ha, fun d hd hda => ?_⟩⟩
              have had : a ≠ d := fun e => hda e.symm
              refine ⟨a, d, ys, [(g, y0)], hwl.symm, start_ix rfl, fun j y e => start_ix (by rw [show 2 + j = j + 1 + 1 by omega]; simpa using e), by rw [IS.hK]; exact T, fun f' m => by rw [IS.hK]; exact nf f' (by rw [← List.mem_reverse, er]; exact List.mem_cons_of_mem _ m), upd_same, by rw [upd_ne had.symm, upd_same], ?_, had, ?_⟩
              · have := ln.1
                simp at hl ⊢
                omega
              · have eu : upd (upd (upd H d (exd d [(g, y0)])) a (exo a C (some d))) d (exd d ((fs.zip ys).reverse ++ [(g, y0)])) = upd (upd H d (exd d (fl.zip (y0 :: ys).reverse))) a (exo a C (some d)) := by
                  have el : fl = (g :: fs).reverse := by rw [← er, List.reverse_reverse]
                  have ez : fl.zip (y0 :: ys).reverse = (fs.zip ys).reverse ++ [(g, y0)] := by
                    rw [el, ← zip_rev (by simp [hwl])]
                    simp
                  funext b
                  by_cases hb : b = d
                  · rw [hb, upd_same, upd_ne hda, upd_same, ez]
                  · rw [upd_ne hb]
                    by_cases hb2 : b = a
                    · rw [hb2, upd_same, upd_same]
                    · rw [upd_ne hb2, upd_ne hb2, upd_ne hb, upd_ne hb]
                rw [eu]
                exact q d hd hda
    · cases bd
end RS

/-! RsFn -/
namespace RS
open PySem PySem.Spec
open PyProof.Rows L2
/-! ### the instance in the making does not matter elsewhere -/
section
variable {k : Kc} {Z H : Hp} {x : Addr}
theorem XRep.me {c : Nat} {fs : List D} {cls : Value} {dd : Option Addr} (h : XRep k Z H c fs cls dd) : XRep (k.at_ x) Z H c fs cls dd := by
  obtain ⟨h1, h2⟩ := h
  refine ⟨h1, ?_⟩
  rcases h2 with h2 | ⟨d, vs, a, b, c⟩
  · exact .inl h2
  · exact .inr ⟨d, vs, a, b, c.me⟩
theorem spF_em {cal : Cl → R LD} {c : List D → Cl} {vs : List V} {Q : VK} {E : XK} (h : spF (k.at_ x) cal c vs H Q E) : spF k cal c vs H Q E := by
  obtain ⟨Z, ds, zh, hs, q⟩ := h
  refine ⟨Z, ds, zh, hs.em, ?_⟩
  cases e : cal (c ds) with
  | ok p =>
    rw [e] at q
    exact ⟨q.1, fun v Z' H' fp e h n => q.2 v Z' H' fp e (h.me q.1) n⟩
  | exc cc fs => rw [e] at q; exact fun cls dd Z' H' e h => q cls dd Z' H' e h.me
  | bad => rw [e] at q; exact q
theorem spI_em {cal : Cl → R LD} {c f : Nat} {vs : List V} {Q : VK} {E : XK} (h : spI (k.at_ x) cal c f vs H Q E) : spI k cal c f vs H Q E := by
  obtain ⟨y, dx, Hb, Z, ds, ws, h1, h2, h3, h4, h5, h6, hs, q⟩ := h
  refine ⟨y, dx, Hb, Z, ds, ws, h1, h2, h3, h4, h5, h6, hs.em, ?_⟩
  cases e : cal (.mk c f ds) with
  | ok p =>
    rw [e] at q
    exact fun Z' H' fp e0 e h n => q Z' H' fp e0 e h n
  | exc cc fs => rw [e] at q; exact fun cls dd Z' H' e h => q cls dd Z' H' e h.me
  | bad => rw [e] at q; exact q
end
/-! ### the defs of a text -/
/-- the def stands in the heap ahead of the law (su: it says super(); its class, the class's name, the file) -/
def Stands (K : PySem.W.Frag) (t : DefT) (fd : FuncData) : Prop := match t.su with
  | none => FunD K t.x t.q t.args t.body t.scope (t.dv.map (He.Dv.v K)) (t.kw.map fun q => (q.1, q.2.v K)) (t.ad K) fd
  | some q => FunS K t.x t.q t.args t.body t.scope (t.dv.map (He.Dv.v K)) (t.kw.map fun q => (q.1, q.2.v K)) q.2.2 (He.ga K q.2.1) (t.ad K) fd
theorem Stands.kp {K : PySem.W.Frag} {t : DefT} {fd : FuncData} (h : Stands K t fd) : PySem.W.keepIn K (.ref (t.ad K)) = true := by
  unfold Stands at h
  split at h
  · exact FunD.kp h
  · exact FunS.kp h
theorem Stands.fb {K : PySem.W.Frag} {t : DefT} {fd : FuncData} (h : Stands K t fd) : FunB K t.x t.q t.args t.body t.scope (t.dv.map (He.Dv.v K)) (t.kw.map fun q => (q.1, q.2.v K)) fd := by
  unfold Stands at h
  split at h
  · exact FunB.ofD h
  · exact FunB.ofS h
/-- a def that says super() is what the small language says -/
structure DefSu (nm : Nm) (t : DefT) (d : Fd) (n : Nat) : Prop where
  sc : NdefX.NScope t.N t.ps [clsN] t.scope
  ks : t.scope.names.lookup ("super" : Str) = some .globalImplicit
  me : ∃ ar, (t.args.posonlyargs ++ t.args.args).head? = some ar ∧ t.N[0]? = some ar.arg ∧ t.scope.names.lookup ar.arg = some .local
  chk : chkSsA ⟨nm, t.N⟩ t.scope n d.b t.body = true
/-- .. and a def is what the small language says -/
structure DefOk (nm : Nm) (t : DefT) (d : Fd) : Prop where
  np : d.np = t.ps.length
  ns : d.ns = t.N.length
  pl : t.su = none → FnScope t.N t.ps t.scope ∧ chkSs ⟨nm, t.N⟩ t.scope d.b t.body = true
  su : ∀ q, t.su = some q → DefSu nm t d q.1
/-- the def f -/
structure Known (nm : Nm) (Ts : Nat → Option DefT) (Fs : Nat → Option Fd) (K : PySem.W.Frag) (f : Nat) (t : DefT) (d : Fd) : Prop where
  ht : Ts f = some t
  hf : Fs f = some d
  ok : DefOk nm t d
  at_ : ∃ fd, Stands K t fd
/-- what the heap ahead of the law says -/
structure Facts (k : Kc) (nm : Nm) (np : Nat → Nat) (mg : Str → Option Value) (Ts : Nat → Option DefT) (Fs : Nat → Option Fd) : Prop where
  free : ∀ x ∈ freeN, mg x = none
  glo : ∀ f x, nm.fn f = some x → ∃ t d, Known nm Ts Fs k.K f t d ∧ mg x = some (.ref (t.ad k.K)) ∧ np f = t.ps.length ∧ ∀ fd, Stands k.K t fd → Binds k.K fd t.ps []
  spc : nm.at_ mLen = some "__len__" ∧ nm.at_ mGet = some "__getitem__" ∧ nm.at_ mCall = some "__call__"
  cls : ∀ c, ClsFacts k nm c
  mth : ∀ c m f x, k.G.meth c m = some f → nm.at_ m = some x → ∃ t d, Known nm Ts Fs k.K f t d ∧ Meth k.K (k.ca c) x (t.ad k.K) ∧ PySem.W.fnIn k.K (t.ad k.K) = true ∧ (k.sl c = false → Cls k.K (k.ca c) ∧ x ∉ k.fl c) ∧ (k.sl c = true → SlX.SCls k.K (k.ca c)) ∧
    ∀ fd, Stands k.K t fd → Binds k.K fd t.ps []
  mks : ∀ c sh n ks f x, nm.cl c = some x → nm.sh sh = some (c, f, n, ks) → ∃ t d, Known nm Ts Fs k.K f t d ∧ mg x = some (.ref (k.ca c)) ∧ Mk k.K (k.ca c) (t.ad k.K) ∧
    ∀ fd, Stands k.K t fd → ∃ gg gV, KBn k.K fd t.ps (n + 1) ks gg gV ∧
      ∀ (Z : Hp) (y : V) (vs zs : List V) (ds es r : List D), k.G.asm sh ds es = some r → Shs k Z vs ds → Shs k Z zs es → vs.length = n → zs.length = ks.length → ∃ ws, gV (y :: vs) zs = y :: ws ∧ Shs k Z ws r
  con : ∀ gn x d, nm.gl gn = some x → k.G.glo gn = some d → (∃ i t, d = .int i ∧ mg x = some (.int i t)) ∨ ∃ y t, d = .str y ∧ mg x = some (.str y t)
  ccn : ∀ c f x y d, nm.cl c = some x → nm.at_ f = some y → k.G.con c f = some d → ∃ i mc u, d = .int i ∧ mg x = some (.ref (k.ca c)) ∧ ClX.CRead k.K (k.ca c) mc ∧ ClX.CVal k.K (k.ca c) mc y (.int i) u
  prp : ∀ c m f x, k.G.prp c m = some f → nm.at_ m = some x → ∃ t d, Known nm Ts Fs k.K f t d ∧ k.sl c = false ∧ Cls k.K (k.ca c) ∧ (∃ p, PropOf k.K (k.ca c) x p (t.ad k.K)) ∧ ∀ fd, Stands k.K t fd → Binds k.K fd t.ps []
  sup : ∀ c d m f x, k.G.sup c d m = some f → nm.at_ m = some x → m ≠ mIni → ∃ t dd, Known nm Ts Fs k.K f t dd ∧ SupM k.K (k.ca c) (k.ca d) x (t.ad k.K) ∧ ∀ fd, Stands k.K t fd → Binds k.K fd t.ps []
  sui : ∀ c d sh cb n ks f, k.G.sup c d mIni = some f → nm.sh sh = some (cb, f, n, ks) → ∃ t dd, Known nm Ts Fs k.K f t dd ∧ k.sl c = false ∧ SupM k.K (k.ca c) (k.ca d) "__init__" (t.ad k.K) ∧
    ∀ fd, Stands k.K t fd → ∃ gg gV, KBn k.K fd t.ps (n + 1) ks gg gV ∧
      ∀ (Z : Hp) (y : V) (vs zs : List V) (ds es r : List D), k.G.asm sh ds es = some r → Shs k Z vs ds → Shs k Z zs es → vs.length = n → zs.length = ks.length → ∃ ws, gV (y :: vs) zs = y :: ws ∧ Shs k Z ws r
  itr : ∀ c F, k.G.itr c = some F → ∃ t f fd, nm.at_ F = some f ∧ OwnM k.K (k.ca c) "__iter__" (t.ad k.K) ∧ t.su = none ∧ Stands k.K t fd ∧ Binds k.K fd t.ps [] ∧ FnScope t.N t.ps t.scope ∧ t.ps.length = 1 ∧ itB t.N t.scope f t.body = true
  fks : ∀ sh f x n ks, nm.fk sh = some (f, x, n, ks) → ∃ t d, Known nm Ts Fs k.K f t d ∧ mg x = some (.ref (t.ad k.K)) ∧
    ∀ fd, Stands k.K t fd → ∃ gg gV, KBn k.K fd t.ps n ks gg gV ∧ ∀ (Z : Hp) (vs zs : List V) (ds es r : List D), k.G.asm sh ds es = some r → Shs k Z vs ds → Shs k Z zs es → vs.length = n → zs.length = ks.length → Shs k Z (gV vs zs) r
  sts : ∀ sh c m f n ks x y, nm.st sh = some (c, m, f, n, ks) → nm.cl c = some x → nm.at_ m = some y → ∃ t d, Known nm Ts Fs k.K f t d ∧ mg x = some (.ref (k.ca c)) ∧ StM k.K (k.ca c) y (t.ad k.K) ∧
    ∀ fd, Stands k.K t fd → ∃ gg gV, KBn k.K fd t.ps n ks gg gV ∧ ∀ (Z : Hp) (vs zs : List V) (ds es r : List D), k.G.asm sh ds es = some r → Shs k Z vs ds → Shs k Z zs es → vs.length = n → zs.length = ks.length → Shs k Z (gV vs zs) r
  eqn : nm.at_ mEq = some "__eq__"
  eqi : ∀ c e, k.G.eqk c (some e) = true → PySem.W.notFirst k.K (k.ca c) (.ref (k.ca e)) = true
  eqd : ∀ c, k.G.eqk c none = true → ∀ T ∈ dTys, PySem.W.notFirst k.K (k.ca c) (.type T) = true
  isi : ∀ c e b x, nm.cl c = some x → k.G.isk c (some e) = some b → mg x = some (.ref (k.ca c)) ∧ PySem.W.kitOne k.K (.ref (k.ca e)) (.ref (k.ca c)) = some b ∧ IsE k.K (k.ca e)
  isd : ∀ c b x, nm.cl c = some x → k.G.isk c none = some b → mg x = some (.ref (k.ca c)) ∧ ∀ T ∈ dTys, PySem.W.kitOne k.K (.type T) (.ref (k.ca c)) = some b
  own : ∀ f t d q, Known nm Ts Fs k.K f t d → t.su = some q → k.ca q.1 = He.ga k.K q.2.1 ∧ ∃ cd, PySem.W.clsIn k.K (k.ca q.1) = some cd
  opq : PySem.W.nsIn k.K cStatics "thirdparty.any" = some none
  xnm : ∀ c x, c ≠ cVE → nm.xn c = some x → mg x = some (.ref (k.ca c))
  xcs : ∀ c x, c ≠ cVE → nm.xn c = some x → XcC k nm c
  xve : ∀ x, nm.xn cVE = some x → x = "ValueError"
  exm : ∀ d c b, k.G.exm d c = some b → c ≠ cVE ∧ (∃ x, nm.xn c = some x) ∧ (∃ x, nm.xn d = some x) ∧ PySem.W.exmOne k.K (.ref (k.ca c)) (clV k d) = some b ∧ PySem.W.kitOne k.K (.ref (k.ca c)) (clV k d) = some b
  xos : ∀ c, nm.xo c = true → xoIn k.K (k.ca c) = true
  xis : ∀ c n, nm.xi c = some n → ∃ f t fd q, Ts f = some t ∧ Stands k.K t fd ∧ t.su = some q ∧ XinT t (k.fl c) ∧ Binds k.K fd t.ps [] ∧ n = (k.fl c).length ∧ PySem.W.findIn k.K (.ref (k.ca c)) "__init__" = some (some (.ref (t.ad k.K))) ∧
    PySem.W.typeIn k.K (.ref (t.ad k.K)) = some (.type "function") ∧ OexC k.K (k.ca c) ∧ SupX k.K (k.ca c) (He.ga k.K q.2.1) ∧ (∀ y ∈ k.fl c, PySem.W.findIn k.K (.ref (k.ca c)) y = some none) ∧ ∃ cd, PySem.W.clsIn k.K (He.ga k.K q.2.1) = some cd
theorem XcC.me {k : Kc} {nm : Nm} {c : Nat} {x : Addr} (h : XcC k nm c) : XcC (k.at_ x) nm c := ⟨h.ox, h.xf, h.ix, h.fl, h.nd⟩
/-- what the program's own text says -/
structure ProgOk (P : Program) (Ts : Nat → Option DefT) : Prop where
  top : (P.main.scope.names.lookup ("super" : Str)).isSome = false
  fl : ∀ f t q, Ts f = some t → t.su = some q → ((P.main.file : Str) == q.2.2) = true
theorem Facts.me {k : Kc} {nm : Nm} {np : Nat → Nat} {mg : Str → Option Value} {Ts : Nat → Option DefT} {Fs : Nat → Option Fd} (h : Facts k nm np mg Ts Fs) (x : Addr) : Facts (k.at_ x) nm np mg Ts Fs where
  free := h.free
  glo := h.glo
  spc := h.spc
  cls := fun c => ⟨(h.cls c).nd, (h.cls c).fld⟩
  mth := h.mth
  mks := fun c sh n ks f y h1 h2 => by
    obtain ⟨t, d, a, b, c', q⟩ := h.mks c sh n ks f y h1 h2
    refine ⟨t, d, a, b, c', fun fd hs => ?_⟩
    obtain ⟨gg, gV, q1, q2⟩ := q fd hs
    refine ⟨gg, gV, q1, fun Z z vs zs ds es r e s1 s2 l1 l2 => ?_⟩
    obtain ⟨ws, w1, w2⟩ := q2 Z z vs zs ds es r e s1.em s2.em l1 l2
    exact ⟨ws, w1, w2.me⟩
  con := h.con
  itr := h.itr
  fks := fun sh f x n ks h1 => by
    obtain ⟨t, d, a, b, q⟩ := h.fks sh f x n ks h1
    refine ⟨t, d, a, b, fun fd hs => ?_⟩
    obtain ⟨gg, gV, q1, q2⟩ := q fd hs
    exact ⟨gg, gV, q1, fun Z vs zs ds es r e s1 s2 l1 l2 => (q2 Z vs zs ds es r e s1.em s2.em l1 l2).me⟩
  sts := fun sh c m f n ks x y h1 h2 h3 => by
    obtain ⟨t, d, a, b, c', q⟩ := h.sts sh c m f n ks x y h1 h2 h3
    refine ⟨t, d, a, b, c', fun fd hs => ?_⟩
    obtain ⟨gg, gV, q1, q2⟩ := q fd hs
    exact ⟨gg, gV, q1, fun Z vs zs ds es r e s1 s2 l1 l2 => (q2 Z vs zs ds es r e s1.em s2.em l1 l2).me⟩
  eqn := h.eqn
  eqi := h.eqi
  eqd := h.eqd
  isi := h.isi
  isd := h.isd
  ccn := h.ccn
  prp := h.prp
  sup := h.sup
  sui := fun c d sh cb n ks f h1 h2 => by
    obtain ⟨t, dd, a, b, c', q⟩ := h.sui c d sh cb n ks f h1 h2
    refine ⟨t, dd, a, b, c', fun fd hs => ?_⟩
    obtain ⟨gg, gV, q1, q2⟩ := q fd hs
    refine ⟨gg, gV, q1, fun Z z vs zs ds es r e s1 s2 l1 l2 => ?_⟩
    obtain ⟨ws, w1, w2⟩ := q2 Z z vs zs ds es r e s1.em s2.em l1 l2
    exact ⟨ws, w1, w2.me⟩
  own := h.own
  opq := h.opq
  xnm := h.xnm
  xcs := fun c y h1 h2 => (h.xcs c y h1 h2).me
  xve := h.xve
  exm := h.exm
  xos := h.xos
  xis := h.xis
def startE (ds : List D) (ns np : Nat) : En := ds.map (fun d => some (0, d)) ++ List.replicate (ns - np) none
theorem rel_start {k : Kc} {Z H : Hp} {N : List Str} {vs : List V} {ds : List D} {ns np : Nat} (zh : Zh Z H) (h : Shs k Z vs ds) (hn : ns = N.length) (hp : ds.length = np) : RelS k Z H Z H (L2.start N vs) (startE ds ns np) (fun _ => []) := by
  subst hn
  subst hp
  refine ⟨?_, fun i s e => ?_, fun _ _ => rfl, fun _ => List.nodup_nil, fun _ _ _ m => by simp at m, fun _ _ m => by simp at m, zh, fun _ _ e => e, fun _ _ e => e, fun _ _ _ => rfl, fun _ _ m => by simp at m⟩
  · unfold L2.start startE
    simp [h.length]
  · unfold startE at e
    unfold L2.start
    by_cases hi : i < ds.length
    · rw [List.getElem?_append_left (by simpa using hi)] at e
      rw [List.getElem?_append_left (by simpa [h.length] using hi)]
      rw [List.getElem?_map] at e
      rw [List.getElem?_map]
      cases hd : ds[i]? with
      | none => rw [hd] at e; cases e
      | some d =>
        rw [hd] at e
        cases e
        obtain ⟨v, e1, e2⟩ := h.get hd
        rw [e1]
        exact ⟨v, rfl, e2, rfl⟩
    · rw [List.getElem?_append_right (by simpa using hi)] at e
      have : s = none := by
        rw [List.getElem?_replicate] at e
        split at e
        · cases e; rfl
        · cases e
      subst this
      rfl
/-- the start of an __init__: self is new -/
theorem rel_startI {k : Kc} {Z Hb : Hp} {N : List Str} {ws : List V} {ds : List D} {ns np c : Nat} {dx : Addr} (zh : Zh Z Hb) (h : Shs k Z ws ds) (hn : ns = N.length) (hp : ds.length + 1 = np) (hx : Hb k.me = none) (hdx : Hb dx = none) (ne : dx ≠ k.me) :
    RelS k Z Hb Z (upd (upd Hb dx (.own k.me)) k.me (.ins (k.ca c) dx [])) (L2.start N (.ref k.me :: ws)) (some (5, .ins c []) :: (ds.map (fun d => some (0, d)) ++ List.replicate (ns - np) none)) (fun i => if i = 0 then [k.me, dx] else []) := by
  have r0 := rel_start (N := N) (vs := .non :: ws) (ds := .non :: ds) (np := np) zh (.cons .non h) hn hp
  have nz : ∀ b o, Z b = some o → b ≠ k.me ∧ b ≠ dx := fun b o e => ⟨(fun q => by rw [q] at e; rw [zh _ _ e] at hx; cases hx), fun q => by rw [q] at e; rw [zh _ _ e] at hdx; cases hdx⟩
  have eq : ∀ b, b ≠ k.me → b ≠ dx → upd (upd Hb dx (.own k.me)) k.me (.ins (k.ca c) dx []) b = Hb b := fun b h1 h2 => by rw [upd_ne h1, upd_ne h2]
  have mF : ∀ i a, a ∈ (if i = 0 then [k.me, dx] else []) → i = 0 ∧ (a = k.me ∨ a = dx) := fun i a m => by
    split at m
    · rename_i e
      exact ⟨e, by simpa using m⟩
    · simp at m
  refine ⟨r0.len, fun i s e => ?_, fun i hi => ?_, fun i => ?_, fun i j a m1 m2 => by rw [(mF i a m1).1, (mF j a m2).1], fun i a m => ?_, fun b o e => ?_, fun b o e => ?_, fun _ _ e => e, fun _ _ _ => rfl, fun i a m => ?_⟩
  · cases i with
    | zero =>
      cases e
      refine ⟨.ref k.me, rfl, k.me, dx, c, [], [], ⟨rfl, rfl⟩, rfl, ⟨Nat.zero_le _, ne, fun _ => ⟨by rw [upd_same, List.zip_nil_right], by rw [upd_ne ne, upd_same]⟩, fun _ => .inl ⟨upd_same, by simp [layS]⟩, ⟨_, upd_same⟩, ⟨_, by rw [upd_ne ne, upd_same]⟩⟩, .nil, rfl⟩
    | succ i =>
      have q := r0.sl (i + 1) s e
      cases s with
      | none => rfl
      | some p =>
        obtain ⟨l, d⟩ := p
        obtain ⟨v, ev, hd⟩ := q
        refine ⟨v, ev, ?_⟩
        have hl : l = 0 := by
          have e : (ds.map (fun d => (some (0, d) : Option LD)) ++ List.replicate (ns - np) none)[i]? = some (some (l, d)) := e
          rcases List.mem_append.mp (List.mem_of_getElem? e) with m | m
          · obtain ⟨d', _, e⟩ := List.mem_map.mp m
            cases e; rfl
          · cases (List.mem_replicate.mp m).2
        subst hl
        exact ⟨hd.1, rfl⟩
  · have : i ≠ 0 := fun e => by subst e; simp at hi
    exact if_neg this
  · show (if i = 0 then [k.me, dx] else []).Nodup
    split
    · simp [Ne.symm ne]
    · exact List.nodup_nil
  · cases e : Z a with
    | none => rfl
    | some o =>
      obtain ⟨h1, h2⟩ := nz a o e
      rcases (mF i a m).2 with q | q
      · exact absurd q h1
      · exact absurd q h2
  · rw [eq b (nz b o e).1 (nz b o e).2]; exact zh b o e
  · rw [eq b (fun q => by rw [q, hx] at e; cases e) (fun q => by rw [q, hdx] at e; cases e)]; exact e
  · rcases (mF i a m).2 with q | q <;> (rw [q]; assumption)
section
variable {P : Program} {w : World} {mg : Str → Option Value} {base : Heap} {nm : Nm} {Fs : Nat → Option Fd} {Ts : Nat → Option DefT} {np : Nat → Nat}
/-- the promises at a level -/
def PF (P : Program) (w : World) (mg : Str → Option Value) (base : Heap) (k : Kc) (nm : Nm) (Ts : Nat → Option DefT) (Fs : Nat → Option Fd) (n : Nat) : Prop :=
  (∀ f t d fd, Known nm Ts Fs k.K f t d → Stands k.K t fd → FnOk P w k.K mg base (L2.CX P w) n (t.ad k.K) fd t.ps (spF k (callI k.G Fs n) (.fn f))) ∧
  ∀ c f t d fd, Known nm Ts Fs k.K f t d → Stands k.K t fd → FnOk P w k.K mg base (L2.CX P w) n (t.ad k.K) fd t.ps (spI k (callI k.G Fs (n + 1)) c f)
theorem PF.me {k : Kc} {n : Nat} (h : PF P w mg base k nm Ts Fs n) (x : Addr) : PF P w mg base (k.at_ x) nm Ts Fs n :=
  ⟨fun f t d fd a b => (h.1 f t d fd a b).imp fun _ _ _ _ q => spF_em q, fun c f t d fd a b => (h.2 c f t d fd a b).imp fun _ _ _ _ q => spI_em q⟩
theorem dep_lt {G : Tb} {Fs : Nat → Option Fd} : ∀ {n m : Nat}, callI G Fs n (.dep m) ≠ .bad → m < n
  | 0, m, h => absurd rfl h
  | n + 1, 0, _ => by omega
  | n + 1, m + 1, h => by
    have := dep_lt (n := n) (m := m) h
    omega
/-- a body's context -/
theorem gd_of {k : Kc} {n : Nat} {N ps : List Str} {x : Str} {sc : Scope} {fa : Addr} {cdv : Value} {A : Around} {outer : List Env} {s : Shared} {H : Hp} {E : XK} (hs : FnScope N ps sc) (Fc : Facts k nm np mg Ts Fs) (PO : ProgOk P Ts) (P1 : PF P w mg base k nm Ts Fs n) (P0 : ∀ m, n = m + 1 → PF P w mg base k nm Ts Fs m)
    (hr : Room n (A.deeper (envOfC x sc s.heap.objs.size fa cdv))) :
    Gd k nm (callI k.G Fs n) np n N sc (cxOf (L2.CX P w) P w k.K mg base N x sc fa cdv A outer s H E) (fun cls d _ H => E cls d H) :=
  have tk : Takes (cxOf (L2.CX P w) P w k.K mg base N x sc fa cdv A outer s H E) (fun cls d _ H => E cls d H) := takes_of rfl rfl rfl (E₁ := fun e' s'' => L2.CX P w outer H s E e' s'') rfl
  { hK := rfl, hN := rfl, nd := hs.nd, sc := rfl, calm := rfl, room := hr, free := Fc.free, tk := tk, own := passes_of rfl
    fns := fun f y h => by
      obtain ⟨t, d, K1, h2, h3, h4⟩ := Fc.glo f y h
      obtain ⟨fd, S⟩ := K1.at_
      exact ⟨_, fd, t.ps, h2, S.kp, h4 fd S, h3.symm, P1.1 f t d fd K1 S⟩
    spc := Fc.spc
    low := fun e c => by subst e; cases c <;> rfl
    cls := Fc.cls
    mth := fun c m f y h1 h2 => by
      obtain ⟨t, d, K1, m1, m2, m3, m4, m5⟩ := Fc.mth c m f y h1 h2
      obtain ⟨fd, S⟩ := K1.at_
      refine ⟨_, fd, t.ps, m1, m2, m3, m4, m5 fd S, P1.1 f t d fd K1 S, fun m e => ?_⟩
      subst e
      exact ((P0 m rfl).1 f t d fd K1 S).imp fun _ _ _ _ q => q
    mks := fun c sh n' ks f y h1 h2 => by
      obtain ⟨t, d, K1, m1, m2, m3⟩ := Fc.mks c sh n' ks f y h1 h2
      obtain ⟨fd, S⟩ := K1.at_
      obtain ⟨gg, gV, q1, q2⟩ := m3 fd S
      refine ⟨_, fd, t.ps, gg, gV, m1, m2, q1, q2, fun m e => ?_⟩
      subst e
      exact (P0 m rfl).2 c f t d fd K1 S
    con := Fc.con
    itr := fun c F h => by
      obtain ⟨t, f, fd, i1, i2, i3, i4, i5, i6, i7, i8⟩ := Fc.itr c F h
      unfold Stands at i4
      rw [i3] at i4
      exact ⟨_, fd, t.ps, f, i1, i2, i5, fun n => it_ok (base := padH base n) i4 i6 i7 (Fc.free _ (by decide)) i8⟩
    fks := fun sh f x n' ks h => by
      obtain ⟨t, d, K1, m1, m2⟩ := Fc.fks sh f x n' ks h
      obtain ⟨fd, S⟩ := K1.at_
      obtain ⟨gg, gV, q1, q2⟩ := m2 fd S
      exact ⟨_, fd, t.ps, gg, gV, m1, S.kp, q1, q2, P1.1 f t d fd K1 S⟩
    sts := fun sh c m f n' ks x y h1 h2 h3 => by
      obtain ⟨t, d, K1, m0, m1, m2⟩ := Fc.sts sh c m f n' ks x y h1 h2 h3
      obtain ⟨fd, S⟩ := K1.at_
      obtain ⟨gg, gV, q1, q2⟩ := m2 fd S
      exact ⟨_, fd, t.ps, gg, gV, m0, m1, S.kp, q1, q2, P1.1 f t d fd K1 S⟩
    eqn := Fc.eqn
    eqi := Fc.eqi
    eqd := Fc.eqd
    isi := Fc.isi
    isd := Fc.isd
    ccn := Fc.ccn
    prp := fun c m f y h1 h2 => by
      obtain ⟨t, d, K1, m0, m1, ⟨p, m2⟩, m3⟩ := Fc.prp c m f y h1 h2
      obtain ⟨fd, S⟩ := K1.at_
      refine ⟨m0, p, _, fd, t.ps, m1, m2, m3 fd S, fun m e => ?_⟩
      subst e
      exact ((P0 m rfl).1 f t d fd K1 S).imp fun _ _ _ _ q => q
    sup := fun c d m f y h1 h2 h3 => by
      obtain ⟨t, dd, K1, m1, m2⟩ := Fc.sup c d m f y h1 h2 h3
      obtain ⟨fd, S⟩ := K1.at_
      exact ⟨_, fd, t.ps, m1, m2 fd S, P1.1 f t dd fd K1 S⟩
    sui := fun c d sh cb n' ks f h1 h2 => by
      obtain ⟨t, dd, K1, m0, m1, m3⟩ := Fc.sui c d sh cb n' ks f h1 h2
      obtain ⟨fd, S⟩ := K1.at_
      obtain ⟨gg, gV, q1, q2⟩ := m3 fd S
      refine ⟨m0, _, fd, t.ps, gg, gV, m1, q1, q2, fun m e => ?_⟩
      subst e
      exact (P0 m rfl).2 c f t dd fd K1 S
    dep := fun m h => dep_lt h
    xnm := Fc.xnm
    xcs := Fc.xcs
    xve := Fc.xve
    exm := Fc.exm
    xos := Fc.xos
    xis := fun c n' h => by
      obtain ⟨f, t, fd, q, h1, h2, h3, h4, h5, h6, h7, h8, h9, h10, h11, h12⟩ := Fc.xis c n' h
      unfold Stands at h2
      rw [h3] at h2
      exact ⟨_, fd, t.ps, h7, h8, h5, h6, xinit_ok h2 h4.sc h4.ks h4.me h4.bd h4.ne h4.ln h9 h10 h11 (Fc.free _ (by decide)) Fc.opq h12 PO.top (PO.fl f t q h1 h3)⟩ }
/-- .. of a def that says super() -/
theorem gd_ofN {k : Kc} {n : Nat} {N ps : List Str} {sc : Scope} {fa : Addr} {F0 : NdefX.NF} {A : Around} {outer : List Env} {s : Shared} {H : Hp} {E : XK} (hs : NdefX.NScope N ps [clsN] sc) (hsc : F0.scope = sc) (Fc : Facts k nm np mg Ts Fs) (PO : ProgOk P Ts) (P1 : PF P w mg base k nm Ts Fs n) (P0 : ∀ m, n = m + 1 → PF P w mg base k nm Ts Fs m)
    (hr : Room n (A.deeper (NdefX.envF F0 fa s.heap.objs.size))) :
    Gd k nm (callI k.G Fs n) np n N sc (NdefX.ncx (L2.CX P w) P w k.K mg base N F0 fa A outer s H E) (fun cls d _ H => E cls d H) :=
  have tk : Takes (NdefX.ncx (L2.CX P w) P w k.K mg base N F0 fa A outer s H E) (fun cls d _ H => E cls d H) := takes_of rfl rfl rfl (E₁ := fun e' s'' => L2.CX P w outer H s E e' s'') rfl
  { hK := rfl, hN := rfl, nd := hs.nd, sc := hsc, calm := rfl, room := hr, free := Fc.free, tk := tk, own := passes_of rfl
    fns := fun f y h => by
      obtain ⟨t, d, K1, h2, h3, h4⟩ := Fc.glo f y h
      obtain ⟨fd, S⟩ := K1.at_
      exact ⟨_, fd, t.ps, h2, S.kp, h4 fd S, h3.symm, P1.1 f t d fd K1 S⟩
    spc := Fc.spc
    low := fun e c => by subst e; cases c <;> rfl
    cls := Fc.cls
    mth := fun c m f y h1 h2 => by
      obtain ⟨t, d, K1, m1, m2, m3, m4, m5⟩ := Fc.mth c m f y h1 h2
      obtain ⟨fd, S⟩ := K1.at_
      refine ⟨_, fd, t.ps, m1, m2, m3, m4, m5 fd S, P1.1 f t d fd K1 S, fun m e => ?_⟩
      subst e
      exact ((P0 m rfl).1 f t d fd K1 S).imp fun _ _ _ _ q => q
    mks := fun c sh n' ks f y h1 h2 => by
      obtain ⟨t, d, K1, m1, m2, m3⟩ := Fc.mks c sh n' ks f y h1 h2
      obtain ⟨fd, S⟩ := K1.at_
      obtain ⟨gg, gV, q1, q2⟩ := m3 fd S
      refine ⟨_, fd, t.ps, gg, gV, m1, m2, q1, q2, fun m e => ?_⟩
      subst e
      exact (P0 m rfl).2 c f t d fd K1 S
    con := Fc.con
    itr := fun c F h => by
      obtain ⟨t, f, fd, i1, i2, i3, i4, i5, i6, i7, i8⟩ := Fc.itr c F h
      unfold Stands at i4
      rw [i3] at i4
      exact ⟨_, fd, t.ps, f, i1, i2, i5, fun n => it_ok (base := padH base n) i4 i6 i7 (Fc.free _ (by decide)) i8⟩
    fks := fun sh f x n' ks h => by
      obtain ⟨t, d, K1, m1, m2⟩ := Fc.fks sh f x n' ks h
      obtain ⟨fd, S⟩ := K1.at_
      obtain ⟨gg, gV, q1, q2⟩ := m2 fd S
      exact ⟨_, fd, t.ps, gg, gV, m1, S.kp, q1, q2, P1.1 f t d fd K1 S⟩
    sts := fun sh c m f n' ks x y h1 h2 h3 => by
      obtain ⟨t, d, K1, m0, m1, m2⟩ := Fc.sts sh c m f n' ks x y h1 h2 h3
      obtain ⟨fd, S⟩ := K1.at_
      obtain ⟨gg, gV, q1, q2⟩ := m2 fd S
      exact ⟨_, fd, t.ps, gg, gV, m0, m1, S.kp, q1, q2, P1.1 f t d fd K1 S⟩
    eqn := Fc.eqn
    eqi := Fc.eqi
    eqd := Fc.eqd
    isi := Fc.isi
    isd := Fc.isd
    ccn := Fc.ccn
    prp := fun c m f y h1 h2 => by
      obtain ⟨t, d, K1, m0, m1, ⟨p, m2⟩, m3⟩ := Fc.prp c m f y h1 h2
      obtain ⟨fd, S⟩ := K1.at_
      refine ⟨m0, p, _, fd, t.ps, m1, m2, m3 fd S, fun m e => ?_⟩
      subst e
      exact ((P0 m rfl).1 f t d fd K1 S).imp fun _ _ _ _ q => q
    sup := fun c d m f y h1 h2 h3 => by
      obtain ⟨t, dd, K1, m1, m2⟩ := Fc.sup c d m f y h1 h2 h3
      obtain ⟨fd, S⟩ := K1.at_
      exact ⟨_, fd, t.ps, m1, m2 fd S, P1.1 f t dd fd K1 S⟩
    sui := fun c d sh cb n' ks f h1 h2 => by
      obtain ⟨t, dd, K1, m0, m1, m3⟩ := Fc.sui c d sh cb n' ks f h1 h2
      obtain ⟨fd, S⟩ := K1.at_
      obtain ⟨gg, gV, q1, q2⟩ := m3 fd S
      refine ⟨m0, _, fd, t.ps, gg, gV, m1, q1, q2, fun m e => ?_⟩
      subst e
      exact (P0 m rfl).2 c f t dd fd K1 S
    dep := fun m h => dep_lt h
    xnm := Fc.xnm
    xcs := Fc.xcs
    xve := Fc.xve
    exm := Fc.exm
    xos := Fc.xos
    xis := fun c n' h => by
      obtain ⟨f, t, fd, q, h1, h2, h3, h4, h5, h6, h7, h8, h9, h10, h11, h12⟩ := Fc.xis c n' h
      unfold Stands at h2
      rw [h3] at h2
      exact ⟨_, fd, t.ps, h7, h8, h5, h6, xinit_ok h2 h4.sc h4.ks h4.me h4.bd h4.ne h4.ln h9 h10 h11 (Fc.free _ (by decide)) Fc.opq h12 PO.top (PO.fl f t q h1 h3)⟩ }
/-- a body that says super() -/
theorem int_of {t : DefT} {d : Fd} {n : Nat} {F0 : NdefX.NF} {f L : Addr} (U : DefSu nm t d n) (hsc : F0.scope = t.scope) : interactive (NdefX.envF F0 f L) = false := by
  have : (NdefX.envF F0 f L).scope.kind = .function := by show F0.scope.kind = _; rw [hsc]; exact U.sc.kind
  unfold interactive
  rw [this]
  rfl
theorem nocell_of {t : DefT} {d : Fd} {n : Nat} (U : DefSu nm t d n) (x : Str) : ¬ t.scope.names.lookup x = some .cell := fun h => U.sc.nocell _ (PySem.mem_of_lookup h) rfl
theorem startF_eq {t : DefT} {d : Fd} {n : Nat} {vs : List V} (U : DefSu nm t d n) (hl : vs.length = t.ps.length) : NdefX.startF t.N vs [none] = L2.start t.N vs := by
  have h := congrArg List.length U.sc.pre
  rw [List.length_take, List.length_append] at h
  simp only [List.length_cons, List.length_nil] at h
  unfold NdefX.startF L2.start
  congr 1
  have : t.N.length - vs.length = (t.N.length - vs.length - 1) + 1 := by omega
  rw [this, List.replicate_succ]
  simp
theorem inC_of {k : Kc} {f : Nat} {t : DefT} {d : Fd} {fd : FuncData} {q : Nat × Str × Str} {F0 : NdefX.NF} {A : Around} {outer : List Env} {s : Shared} {H : Hp} {E : XK} (K1 : Known nm Ts Fs k.K f t d) (hsu : t.su = some q) (U : DefSu nm t d q.1) (Fc : Facts k nm np mg Ts Fs) (PO : ProgOk P Ts) (hsc : F0.scope = t.scope)
    (hfp : fd.params = t.args)
    (IS : InS (NdefX.ncx (L2.CX P w) P w k.K mg base t.N F0 (t.ad k.K) A outer s H E) k.K t.scope t.N (t.ad k.K) (He.ga k.K q.2.1) fd q.2.2) : InC k q.1 (NdefX.ncx (L2.CX P w) P w k.K mg base t.N F0 (t.ad k.K) A outer s H E) := by
  obtain ⟨own, cd, hcd⟩ := Fc.own f t d q K1 hsu
  obtain ⟨ar, h1, h2, h3⟩ := U.me
  obtain ⟨cc, cl, cld, csl, ec, lc⟩ := IS.ce
  obtain ⟨c, vs, ccl, cdd, ccs, tf, e1, e2, e3⟩ := IS.co
  obtain ⟨oc, od, osl, lf⟩ := IS.fl
  have kd : ∀ x, (NdefX.ncx (L2.CX P w) P w k.K mg base t.N F0 (t.ad k.K) A outer s H E).env.kindOf x = t.scope.names.lookup x := fun x => by
    show F0.scope.names.lookup x = _
    rw [hsc]
  refine ⟨t.ad k.K, cc, ar.arg, h2, ?_⟩
  rw [own]
  exact { fu := IS.fu, fd := ⟨oc, od, osl, fd, ar, lf, by rw [hfp]; exact h1, rfl⟩, co := ⟨c, vs, ccl, cdd, ccs, q.2.2, tf, e1, e2, e3, PO.fl f t q K1.ht hsu⟩, ce := by rw [ec]; rfl, cell := ⟨cl, cld, csl, lc⟩, cls := ⟨cd, by rw [← own]; exact hcd⟩,
          mg := Fc.free _ (by decide), ks := (kd _).trans U.ks, kc := (kd _).trans (U.sc.frk _ (by simp)), km := (kd _).trans h3, top := PO.top, opq := Fc.opq }
/-- a def's end -/
theorem endF {k : Kc} {n : Nat} {d : Fd} {ds : List D} {Z H : Hp} {Q : VK} {E : XK} (q : (match (match runs k.G (callI k.G Fs n) d.b (startE ds d.ns d.np) with
      | .nx _ => R.ok (0, D.non)
      | .ret r _ => retV r
      | .exc c fs _ => .exc c fs
      | _ => .bad) with
    | .ok (lv, d) => lv ≤ 2 ∧ ∀ v Z' H' fp, Ext Z H Z' H' → Hd k Z' H' lv v d fp → New Z' H fp → Q v H'
    | .exc c fs => ∀ cls dd Z' H', Ext Z H Z' H' → XRep k Z' H' c fs cls dd → E cls dd H'
    | .bad => False)) : AfterS k Z H (fun cls d _ H => E cls d H) Z { nx := fun _ H' => Q .non H', rt := Q } (runs k.G (callI k.G Fs n) d.b (startE ds d.ns d.np)) := by
  cases ho : runs k.G (callI k.G Fs n) d.b (startE ds d.ns d.np) with
  | nx ε =>
    rw [ho] at q
    exact fun σ' H' Z' F' r z => q.2 .non Z' H' [] r.toExt ⟨.non, rfl⟩ New.nil
  | brk ε => rw [ho] at q; exact q.elim
  | cnt ε => rw [ho] at q; exact q.elim
  | bad => rw [ho] at q; exact q.elim
  | exc c fs ε =>
    rw [ho] at q
    exact fun cls dd σ' H' Z' F' r z x => q cls dd Z' H' r.toExt x
  | ret r ε =>
    rw [ho] at q
    show (match retV r with | .ok (lv, d) => ∀ v Z' H' fp, Ext Z H Z' H' → Hd k Z' H' lv v d fp → New Z' H fp → Q v H' | _ => False)
    dsimp only at q
    cases hr : retV r with
    | bad => rw [hr] at q; exact q.elim
    | exc c fs =>
      unfold retV at hr
      repeat' split at hr
      all_goals cases hr
    | ok p =>
      rw [hr] at q
      exact q.2
/-- a def keeps its promise, if those it calls do -/
theorem def_ok {k : Kc} {n f : Nat} {t : DefT} {d : Fd} {fd : FuncData} (K1 : Known nm Ts Fs k.K f t d) (S : Stands k.K t fd) (Fc : Facts k nm np mg Ts Fs) (PO : ProgOk P Ts) (P1 : PF P w mg base k nm Ts Fs n) (P0 : ∀ m, n = m + 1 → PF P w mg base k nm Ts Fs m) :
    FnOk P w k.K mg base (L2.CX P w) (n + 1) (t.ad k.K) fd t.ps (spF k (callI k.G Fs (n + 1)) (.fn f)) := by
  have hf := K1.hf
  have T := K1.ok
  have len : ∀ vs H Q E, spF k (callI k.G Fs (n + 1)) (.fn f) vs H Q E → vs.length = t.ps.length ∧ ∃ Z ds, Zh Z H ∧ Shs k Z vs ds ∧ ds.length = d.np := fun vs H Q E ⟨Z, ds, zh, hs, q⟩ => by
    unfold callI at q
    rw [hf] at q
    dsimp only at q
    by_cases hl : ds.length = d.np
    · exact ⟨by rw [hs.length, hl, T.np], Z, ds, zh, hs, hl⟩
    · rw [if_neg hl] at q; exact q.elim
  unfold Stands at S
  split at S
  · rename_i hsu
    obtain ⟨sc, chk⟩ := T.pl hsu
    refine FunD.ok S sc (fun vs H Q E h => (len vs H Q E h).1) fun cdv A outer s H vs Q E hr h => ?_
    obtain ⟨Z, ds, zh, hs, q⟩ := h
    have hdl : ds.length = d.np := by
      unfold callI at q
      rw [hf] at q
      dsimp only at q
      by_cases hl : ds.length = d.np
      · exact hl
      · rw [if_neg hl] at q; exact q.elim
    unfold callI at q
    rw [hf] at q
    dsimp only at q
    rw [if_pos hdl] at q
    have g := gd_of (outer := outer) (E := E) (H := H) (s := s) (fa := t.ad k.K) sc Fc PO P1 P0 hr
    exact ⟨tS k Z H (fun cls d _ H => E cls d H) (runs k.G (callI k.G Fs n) d.b), sndSs (c := ⟨nm, t.N⟩) d.b chk g ⟨rfl, rfl⟩ (fun _ _ => rfl), Z, startE ds d.ns d.np, fun _ => [], rel_start zh hs T.ns hdl, endF q⟩
  · rename_i q0 hsu
    have U := T.su q0 hsu
    refine FunS.ok S U.sc (fun vs H Q E h => (len vs H Q E h).1) fun F0 A outer s H vs Q E hsc IS hr h => ?_
    obtain ⟨Z, ds, zh, hs, q⟩ := h
    have hdl : ds.length = d.np := by
      unfold callI at q
      rw [hf] at q
      dsimp only at q
      by_cases hl : ds.length = d.np
      · exact hl
      · rw [if_neg hl] at q; exact q.elim
    unfold callI at q
    rw [hf] at q
    dsimp only at q
    rw [if_pos hdl] at q
    have g := gd_ofN (outer := outer) (E := E) (H := H) (s := s) (fa := t.ad k.K) U.sc hsc Fc PO P1 P0 hr
    have C := inC_of K1 hsu U Fc PO hsc (FunS.params S) IS
    exact ⟨tS k Z H (fun cls d _ H => E cls d H) (runs k.G (callI k.G Fs n) d.b), sndSsA (c := ⟨nm, t.N⟩) g C (int_of U hsc) ⟨rfl, rfl⟩ (fun x hx => absurd hx (nocell_of U x)) d.b U.chk, Z, startE ds d.ns d.np, fun _ => [], by rw [startF_eq U (by rw [hs.length, hdl, T.np])]; exact rel_start zh hs T.ns hdl, endF q⟩
/-- an __init__'s end -/
theorem endI {k : Kc} {n c : Nat} {x : Addr} {d : Fd} {ds : List D} {Z Hb : Hp} {Q : VK} {E : XK} (q : (match finI k.G c (runs k.G (callI k.G Fs n) d.b (some (5, .ins c []) :: (ds.map (fun d => some (0, d)) ++ List.replicate (d.ns - d.np) none))) with
  | .ok (lv, d) => ∀ Z' H' fp, lv = 0 → Ext Z Hb Z' H' → Hd (k.at_ x) Z' H' 5 (.ref x) d fp → New Z' Hb fp → Q .non H'
  | .exc c fs => ∀ cls dd Z' H', Ext Z Hb Z' H' → XRep k Z' H' c fs cls dd → E cls dd H'
  | .bad => False)) : AfterS (k.at_ x) Z Hb (fun cls d _ H => E cls d H) Z { nx := fun _ H' => Q .non H', rt := Q } (runs (k.at_ x).G (callI k.G Fs n) d.b (some (5, .ins c []) :: (ds.map (fun d => some (0, d)) ++ List.replicate (d.ns - d.np) none))) := by
  show AfterS (k.at_ x) Z Hb (fun cls d _ H => E cls d H) Z { nx := fun _ H' => Q .non H', rt := Q } (runs k.G (callI k.G Fs n) d.b (some (5, .ins c []) :: (ds.map (fun d => some (0, d)) ++ List.replicate (d.ns - d.np) none)))
  cases ho : runs k.G (callI k.G Fs n) d.b (some (5, .ins c []) :: (ds.map (fun d => some (0, d)) ++ List.replicate (d.ns - d.np) none)) with
  | nx ε =>
    rw [ho] at q
    intro σ' H' Z' F' r z
    unfold finI at q
    dsimp only at q
    split at q
    · rename_i lv dd e
      split at e
      · rename_i c' fs ε'
        split at e
        · rename_i hc
          obtain ⟨rfl, hlen⟩ := hc
          cases e
          obtain ⟨v, ev, hd⟩ := r.sl 0 _ rfl
          obtain ⟨a, dx', c'', vs', ds', ⟨rfl, hme⟩, e2, mk, hs', hF⟩ := hd
          cases e2
          have hme : a = x := hme
          subst hme
          have h5 : Hd (k.at_ a) Z' H' 5 (.ref a) (.ins c' fs) (F' 0) := ⟨a, dx', c', vs', fs, ⟨rfl, rfl⟩, rfl, mk, hs', hF⟩
          exact q Z' H' (F' 0) rfl r.toExt h5 ⟨r.nd 0, fun b m => r.fn 0 b m, fun b m => r.zf 0 b m⟩
        · cases e
      · cases e
    · rename_i e
      split at e
      · split at e <;> cases e
      · cases e
    · exact q.elim
  | brk ε => rw [ho] at q; exact q.elim
  | cnt ε => rw [ho] at q; exact q.elim
  | bad => rw [ho] at q; exact q.elim
  | exc c fs ε =>
    rw [ho] at q
    exact fun cls dd σ' H' Z' F' r z x => q cls dd Z' H' r.toExt x.me
  | ret r ε => rw [ho] at q; exact q.elim
/-- .. and an __init__ -/
theorem init_ok {k : Kc} {n c f : Nat} {t : DefT} {d : Fd} {fd : FuncData} (K1 : Known nm Ts Fs k.K f t d) (S : Stands k.K t fd) (Fc : Facts k nm np mg Ts Fs) (PO : ProgOk P Ts) (P1 : PF P w mg base k nm Ts Fs n) (P0 : ∀ m, n = m + 1 → PF P w mg base k nm Ts Fs m) :
    FnOk P w k.K mg base (L2.CX P w) (n + 1) (t.ad k.K) fd t.ps (spI k (callI k.G Fs (n + 2)) c f) := by
  have hf := K1.hf
  have T := K1.ok
  have un : ∀ ds, callI k.G Fs (n + 2) (.mk c f ds) = if ds.length + 1 = d.np then finI k.G c (runs k.G (callI k.G Fs n) d.b (some (5, .ins c []) :: (ds.map (fun d => some (0, d)) ++ List.replicate (d.ns - d.np) none))) else .bad := fun ds => by
    show (match Fs f with | none => R.bad | some d => if ds.length + 1 = d.np then finI k.G c (runs k.G (callI k.G Fs n) d.b (some (5, .ins c []) :: (ds.map (fun d => some (0, d)) ++ List.replicate (d.ns - d.np) none))) else .bad) = _
    rw [hf]
  have len : ∀ vs H Q E, spI k (callI k.G Fs (n + 2)) c f vs H Q E → vs.length = t.ps.length := fun vs H Q E ⟨x, dx, Hb, Z, ds, ws, h1, h2, h3, h4, h5, zh, hs, q⟩ => by
    rw [un] at q
    by_cases hl : ds.length + 1 = d.np
    · rw [h1, List.length_cons, hs.length, hl, T.np]
    · rw [if_neg hl] at q; exact q.elim
  unfold Stands at S
  split at S
  · rename_i hsu
    obtain ⟨sc, chk⟩ := T.pl hsu
    refine FunD.ok S sc len fun cdv A outer s H vs Q E hr h => ?_
    obtain ⟨x, dx, Hb, Z, ds, ws, rfl, rfl, hx, hdx, ne, zh, hs, q⟩ := h
    rw [un] at q
    have hdl : ds.length + 1 = d.np := by
      by_cases hl : ds.length + 1 = d.np
      · exact hl
      · rw [if_neg hl] at q; exact q.elim
    rw [if_pos hdl] at q
    have g := gd_of (k := k.at_ x) (outer := outer) (E := E) (H := upd (upd Hb dx (.own x)) x (.ins (k.ca c) dx [])) (s := s) (fa := t.ad k.K) sc (Fc.me x) PO (P1.me x) (fun m e => (P0 m e).me x) hr
    exact ⟨tS (k.at_ x) Z Hb (fun cls d _ H => E cls d H) (runs k.G (callI k.G Fs n) d.b), sndSs (k := k.at_ x) (c := ⟨nm, t.N⟩) d.b chk g ⟨rfl, rfl⟩ (fun _ _ => rfl), Z, _, _, rel_startI (k := k.at_ x) (c := c) zh hs.me T.ns hdl hx hdx ne, endI q⟩
  · rename_i q0 hsu
    have U := T.su q0 hsu
    refine FunS.ok S U.sc len fun F0 A outer s H vs Q E hsc IS hr h => ?_
    obtain ⟨x, dx, Hb, Z, ds, ws, rfl, rfl, hx, hdx, ne, zh, hs, q⟩ := h
    rw [un] at q
    have hdl : ds.length + 1 = d.np := by
      by_cases hl : ds.length + 1 = d.np
      · exact hl
      · rw [if_neg hl] at q; exact q.elim
    rw [if_pos hdl] at q
    have g := gd_ofN (k := k.at_ x) (outer := outer) (E := E) (H := upd (upd Hb dx (.own x)) x (.ins (k.ca c) dx [])) (s := s) (fa := t.ad k.K) U.sc hsc (Fc.me x) PO (P1.me x) (fun m e => (P0 m e).me x) hr
    have C : InC (k.at_ x) q0.1 _ := inC_of (k := k.at_ x) K1 hsu U (Fc.me x) PO hsc (FunS.params S) IS
    exact ⟨tS (k.at_ x) Z Hb (fun cls d _ H => E cls d H) (runs k.G (callI k.G Fs n) d.b), sndSsA (k := k.at_ x) (c := ⟨nm, t.N⟩) g C (int_of U hsc) ⟨rfl, rfl⟩ (fun y hy => absurd hy (nocell_of U y)) d.b U.chk, Z, _, _, by rw [startF_eq U (by rw [List.length_cons, hs.length, hdl, T.np])]; exact rel_startI (k := k.at_ x) (c := c) zh hs.me T.ns hdl hx hdx ne, endI q⟩
/-- all defs keep their promises -/
theorem all_ok {k : Kc} (Fc : Facts k nm np mg Ts Fs) (PO : ProgOk P Ts) : ∀ n, PF P w mg base k nm Ts Fs n ∧ ∀ m, n = m + 1 → PF P w mg base k nm Ts Fs m := by
  intro n
  induction n with
  | zero =>
    refine ⟨⟨fun f t d fd K1 S => ?_, fun c f t d fd K1 S => ?_⟩, fun m e => by cases e⟩
    · have no : ∀ vs H Q E, ¬ spF k (callI k.G Fs 0) (.fn f) vs H Q E := fun vs H Q E ⟨Z, ds, zh, hs, q⟩ => by
        unfold callI at q
        exact q
      exact ⟨fun vs H Q E h => absurd h (no vs H Q E), fun A outer s H args us vs Q E _ _ _ _ h => absurd h (no vs H Q E)⟩
    · have no : ∀ vs H Q E, ¬ spI k (callI k.G Fs (0 + 1)) c f vs H Q E := fun vs H Q E ⟨_, _, _, Z, ds, _, _, _, _, _, _, zh, hs, q⟩ => by
        have : callI k.G Fs (0 + 1) (.mk c f ds) = .bad := rfl
        rw [this] at q
        exact q
      exact ⟨fun vs H Q E h => absurd h (no vs H Q E), fun A outer s H args us vs Q E _ _ _ _ h => absurd h (no vs H Q E)⟩
  | succ n ih =>
    refine ⟨⟨fun f t d fd K1 S => def_ok K1 S Fc PO ih.1 ih.2, fun c f t d fd K1 S => init_ok K1 S Fc PO ih.1 ih.2⟩, fun m e => ?_⟩
    cases e
    exact ih.1
end
end RS

/-! RsLib -/
namespace RS
open PySem
/-! ### the interpreter, step by step (all by definition) -/
def forR (G : Tb) (cal : Cl → R LD) (b : Ss) (tg : Tg) (xs : List D) (ε : En) : Out := forL (fun ε => runs G cal b ε) tg xs ε
def whlR (G : Tb) (cal : Cl → R LD) (t : Tst) (b : Ss) (n : Nat) (ε : En) : Out := whlL (fun ε => evT G cal t ε) (fun ε => runs G cal b ε) n ε
def compR (G : Tb) (cal : Cl → R LD) (tg : Tg) (t : To) (e : E) (ε : En) (xs : List D) : R (List LD) := compL (compF tg (evTo G cal t) (evE G cal e) ε) xs
theorem inR_of {j : Int} (h0 : -1000000000 ≤ j) (h : j ≤ 1000000000) : inR j := by show j.natAbs < 2 ^ 62; omega
theorem inR_nat {n : Nat} (h : n ≤ 1000000000) : inR (n : Int) := inR_of (by omega) (by omega)
theorem inR2_of {i j : Int} (h0 : -1000000000 ≤ i) (h1 : i ≤ 1000000000) (h2 : -1000000000 ≤ j) (h3 : j ≤ 1000000000) : inR2 i j := by show i.natAbs < 2 ^ 62 ∧ j.natAbs < 2 ^ 62; omega
def rngV1 (x : LD) : R (List D) := match x.2 with | .int j => if inR j then .ok (rngD 0 j.toNat) else .bad | _ => .bad
def rngV2 (x y : LD) : R (List D) := match x.2, y.2 with
    | .int i, .int j => if inR2 i j then .ok (rngD i (j - i).toNat) else .bad
    | _, _ => .bad
@[simp] theorem rngV1_ok {l : Nat} {i : Int} (h1 : -1000000000 ≤ i) (h2 : i ≤ 1000000000) : rngV1 (l, .int i) = .ok (rngD 0 i.toNat) := if_pos (inR_of h1 h2)
@[simp] theorem rngV2_ok {l m : Nat} {i j : Int} (h1 : -1000000000 ≤ i) (h2 : i ≤ 1000000000) (h3 : -1000000000 ≤ j) (h4 : j ≤ 1000000000) : rngV2 (l, .int i) (m, .int j) = .ok (rngD i (j - i).toNat) := if_pos (inR2_of h1 h2 h3 h4)
def appV (lv : Nat) (xs : List D) (i : Nat) (ε : En) (x : LD) : Out := if x.1 ≤ 2 ∧ xs.length < lim then putS i (some (lvWith lv x, .lst (xs ++ [x.2]))) ε else .bad
@[simp] theorem appV_ok {lv : Nat} {xs : List D} {i : Nat} {ε : En} {l : Nat} {d : D} (h1 : l ≤ 2) (h2 : xs.length < 1000000) : appV lv xs i ε (l, d) = putS i (some (lvWith lv (l, d), .lst (xs ++ [d]))) ε := if_pos ⟨h1, h2⟩
section
variable {G : Tb} {cal : Cl → R LD} {ε : En}
@[simp] theorem v_var {i} : evE G cal (.var i) ε = getS ε i := rfl
@[simp] theorem v_non : evE G cal .non ε = .ok (0, .non) := rfl
@[simp] theorem v_bl {b} : evE G cal (.bl b) ε = .ok (0, .bl b) := rfl
@[simp] theorem v_int {i} : evE G cal (.int i) ε = .ok (0, .int i) := rfl
@[simp] theorem v_str {i} : evE G cal (.str i) ε = .ok (0, .str i) := rfl
@[simp] theorem v_tup {es} : evE G cal (.tup es) ε = (evEs G cal es ε).bind fun xs => (shrs xs).bind fun ds => if ds.length ≤ lim then .ok (0, .tup ds) else .bad := rfl
@[simp] theorem v_lst {es} : evE G cal (.lst es) ε = (evEs G cal es ε).bind pack := rfl
@[simp] theorem v_bin {op a b} : evE G cal (.bin op a b) ε = (evE G cal a ε).bind fun x => (evE G cal b ε).bind fun y => bopV op x y := rfl
@[simp] theorem v_neg {a} : evE G cal (.neg a) ε = (evE G cal a ε).bind fun x => match x.2 with | .int i => okI (-i) | _ => .bad := rfl
@[simp] theorem v_cmp {op a b} : evE G cal (.cmp op a b) ε = (evE G cal a ε).bind fun x => (evE G cal b ε).bind fun y => copV op x y := rfl
@[simp] theorem v_chain {o1 o2 a b c} : evE G cal (.chain o1 o2 a b c) ε = (evE G cal a ε).bind fun x => (evE G cal b ε).bind fun y => (copV o1 x y).bind fun r => (asB r).bind fun k => if k then (evE G cal c ε).bind fun z => copV o2 y z else okB false := rfl
@[simp] theorem v_and {a b} : evE G cal (.and_ a b) ε = (evE G cal a ε).bind fun x => (asB x).bind fun k => if k then evE G cal b ε else okB false := rfl
@[simp] theorem v_or {a b} : evE G cal (.or_ a b) ε = (evE G cal a ε).bind fun x => (asB x).bind fun k => if k then okB true else evE G cal b ε := rfl
@[simp] theorem v_not {a} : evE G cal (.not_ a) ε = (evE G cal a ε).bind fun x => (asB x).bind fun k => okB (!k) := rfl
@[simp] theorem v_ite {t a b} : evE G cal (.ite t a b) ε = (evT G cal t ε).bind fun k => if k then evE G cal a ε else evE G cal b ε := rfl
@[simp] theorem v_idx {a i} : evE G cal (.idx a i) ε = (evE G cal a ε).bind fun x => (evE G cal i ε).bind fun y => idxO G cal x y := rfl
@[simp] theorem v_slc {a lo hi} : evE G cal (.slc a lo hi) ε = (evE G cal a ε).bind fun x => (evEo G cal lo ε).bind fun l => (evEo G cal hi ε).bind fun h => slV x l h := rfl
@[simp] theorem v_call {f as} : evE G cal (.call f as) ε = (evEs G cal as ε).bind fun xs => match data xs with
    | some ds => back xs (cal (.fn f ds))
    | none => .bad := rfl
@[simp] theorem v_isi {a ts} : evE G cal (.isi a ts) ε = (evE G cal a ε).bind fun x => isiV G x ts := rfl
@[simp] theorem v_bi {b as} : evE G cal (.bi b as) ε = (evEs G cal as ε).bind fun xs => biO G cal b xs := rfl
@[simp] theorem v_comp {tg it t e} : evE G cal (.comp tg it t e) ε = (evI G cal it false ε).bind fun xs => (compR G cal tg t e ε xs).bind pack := rfl
@[simp] theorem v_fz {e} : evE G cal (.fz e) ε = (evE G cal e ε).bind fzV := rfl
@[simp] theorem v_lrg {e} : evE G cal (.lrg e) ε = (evE G cal e ε).bind lrgV := rfl
@[simp] theorem lrgV_int {l : Nat} {n : Int} (h0 : 0 ≤ n) (h1 : n ≤ 1000000) : lrgV (l, .int n) = .ok (2, .lst (rngD 0 n.toNat)) := if_pos ⟨h0, h1⟩
@[simp] theorem v_lidx {a e} : evE G cal (.lidx a e) ε = (evE G cal a ε).bind fun x => match lidxL x with
    | some ns => (evE G cal e ε).bind fun y => lidxV ns y
    | none => .bad := rfl
@[simp] theorem v_callk {f sh as ks} : evE G cal (.callk f sh as ks) ε = (evEs G cal as ε).bind fun xs => (evEs G cal ks ε).bind fun ys => callkV G cal f sh xs ys := rfl
@[simp] theorem v_stat {f sh as ks} : evE G cal (.stat f sh as ks) ε = (evEs G cal as ε).bind fun xs => (evEs G cal ks ε).bind fun ys => callkV G cal f sh xs ys := rfl
@[simp] theorem v_ino {m ni a b} : evE G cal (.ino m ni a b) ε = (evE G cal a ε).bind fun x => (evE G cal b ε).bind fun y => inoV G cal m ni x y := rfl
@[simp] theorem v_eqo {ne a b} : evE G cal (.eqo ne a b) ε = (evE G cal a ε).bind fun x => (evE G cal b ε).bind fun y => eqoV G cal ne x y := rfl
@[simp] theorem v_isc {a c} : evE G cal (.isc a c) ε = (evE G cal a ε).bind fun x => iscV G c x := rfl
@[simp] theorem lidxV_int {l : Nat} {ns : List Int} {i : Int} (h : i ∈ ns) : lidxV ns (l, .int i) = .ok (0, .int (ns.idxOf i)) := if_pos h
@[simp] theorem v_fld {a f} : evE G cal (.fld a f) ε = (evE G cal a ε).bind fun x => fldV G x f := rfl
@[simp] theorem v_glo {g} : evE G cal (.glo g) ε = match G.glo g with | some d => .ok (0, d) | none => .bad := rfl
@[simp] theorem v_sfl {i f} : evE G cal (.sfl i f) ε = sflV G i f ε := rfl
@[simp] theorem v_meth {a m as} : evE G cal (.meth a m as) ε = (evE G cal a ε).bind fun x => match methF G m x with
    | some (f, d) => (evEs G cal as ε).bind fun xs => callD cal f d xs
    | none => .bad := rfl
@[simp] theorem v_callv {a as} : evE G cal (.callv a as) ε = (evE G cal a ε).bind fun x => match methF G mCall x with
    | some (f, d) => (evEs G cal as ε).bind fun xs => callD cal f d xs
    | none => .bad := rfl
@[simp] theorem v_make {c f sh as ks} : evE G cal (.make c f sh as ks) ε = (evEs G cal as ε).bind fun xs => (evEs G cal ks ε).bind fun ys => makeV G cal c f sh xs ys := rfl
@[simp] theorem v_con {c f : Nat} : evE G cal (.con c f) ε = match G.con c f with | some d => .ok (0, d) | none => .bad := rfl
@[simp] theorem v_sup {d m as} : evE G cal (.sup d m as) ε = match supF G d m ε with
    | some (f, x) => (evEs G cal as ε).bind fun xs => callD cal f x xs
    | none => .bad := rfl
@[simp] theorem supF_0 {d m c : Nat} {fs : List D} {r : En} : supF G d m (some (0, .ins c fs) :: r) = (G.sup c d m).map fun f => (f, .ins c fs) := rfl
@[simp] theorem supJ_0 {d f c : Nat} {r : En} : supJ G d f (some (5, .ins c []) :: r) = if G.sup c d mIni = some f then some c else none := rfl
@[simp] theorem w_supi {d f sh as ks} : run G cal (.supi d f sh as ks) ε = (match supJ G d f ε with
    | some c => toO (ε.set 0 none) ((evEs G cal as ε).bind fun xs => (evEs G cal ks ε).bind fun ys => makeS G cal c f sh xs ys) fun x => supI c ε x
    | none => .bad) := rfl
@[simp] theorem supI_ok {c e : Nat} {fs : List D} : supI c ε (0, .ins e fs) = if e = c then .nx (ε.set 0 (some (5, .ins c fs))) else .bad := rfl
@[simp] theorem makeS_eq {c f sh : Nat} {xs ys : List LD} : makeS G cal c f sh xs ys = (shrs xs).bind fun ds => (shrs ys).bind fun es => match G.asm sh ds es with
  | some r => cal (.mk c f r)
  | none => .bad := rfl
@[simp] theorem v_no : evE G cal .no ε = .bad := rfl
@[simp] theorem v_prop {a m} : evE G cal (.prop a m) ε = (evE G cal a ε).bind fun x => prV G cal m x := rfl
@[simp] theorem prV_ins {m c : Nat} {fs : List D} : prV G cal m (0, .ins c fs) = (match G.prp c m with | some f => back [] (noX (cal (.up f [.ins c fs]))) | none => .bad) := rfl
@[simp] theorem w_lm {i m as} : run G cal (.lm i m as) ε = (match own ε i with
    | some (lv, xs) => (match intsOf xs with
      | some ns => toO ε (evEs G cal as ε) fun ys => (match lmV m ns ys with
        | some ms => if ns.length < lim then putS i (some (lv, .lst (ms.map D.int))) ε else .bad
        | none => .bad)
      | none => .bad)
    | none => .bad) := rfl
@[simp] theorem w_forQ {i j t e} : run G cal (.forQ i j t e) ε = forQ i j (fun ε => evT G cal t ε) (fun ε => evE G cal e ε) ε := rfl
@[simp] theorem w_forA {i j p t e} : run G cal (.forA i j p t e) ε = forA i j p (fun ε => evT G cal t ε) (fun ε => evE G cal e ε) ε := rfl
@[simp] theorem w_raim {c} : run G cal (.raim c) ε = .exc c [] ε := rfl
@[simp] theorem w_rais {c as} : run G cal (.rais c as) ε = (match cal (.dep 1) with
    | .ok _ => toO ε (evEs G cal as ε) fun xs => toO ε (shrs xs) fun ds => if ds.length = (G.xfl c).length ∧ ds ≠ [] ∧ ds.length ≤ 900 then .exc c ds.reverse ε else .bad
    | _ => .bad) := rfl
/-- the clauses behind a try's body -/
def tryK (G : Tb) (hs : List Hx) (o : Out) : Out := match o with
  | .exc c fs ε => hdX G c fs hs ε
  | o => o
@[simp] theorem w_tryx {b hs} : run G cal (.tryx b hs) ε = tryK G hs (runs G cal b ε) := rfl
@[simp] theorem tryK_nx {hs} : tryK G hs (.nx ε) = .nx ε := rfl
@[simp] theorem tryK_brk {hs} : tryK G hs (.brk ε) = .brk ε := rfl
@[simp] theorem tryK_cnt {hs} : tryK G hs (.cnt ε) = .cnt ε := rfl
@[simp] theorem tryK_ret {hs r} : tryK G hs (.ret r ε) = .ret r ε := rfl
@[simp] theorem tryK_exc {hs c fs} : tryK G hs (.exc c fs ε) = hdX G c fs hs ε := rfl
@[simp] theorem tryK_bad {hs} : tryK G hs .bad = .bad := rfl
@[simp] theorem tryK_ite {hs} {p : Prop} [Decidable p] {a b : Out} : tryK G hs (if p then a else b) = if p then tryK G hs a else tryK G hs b := by split <;> rfl
@[simp] theorem xis_nil {c} : xis G c [] = some false := rfl
@[simp] theorem xis_cons {c d r} : xis G c (d :: r) = (match G.exm d c, xis G c r with
    | some b, some e => some (b || e)
    | _, _ => none) := rfl
@[simp] theorem hdX_nil {c fs} : hdX G c fs [] ε = .exc c fs ε := rfl
@[simp] theorem hdX_cons {c fs cs tup nm su r} : hdX G c fs (⟨cs, tup, nm, su⟩ :: r) ε = (match xis G c cs with
    | some true => (match nm with
      | none => suX G c fs su ε
      | some i => if i < ε.length ∧ (su.all fun p => p.1 != i) = true then (match suX G c fs su (ε.set i none) with
        | .nx ε' => .nx (ε'.set i none)
        | _ => .bad) else .bad)
    | some false => hdX G c fs r ε
    | none => .bad) := rfl
@[simp] theorem suX_nil {c fs} : suX G c fs [] ε = .nx ε := rfl
@[simp] theorem suX_cons {c fs i fz e r} : suX G c fs ((i, fz, e) :: r) ε = (match evX G c fs e with
    | .ok x => (match keepV fz x with
      | some y => if i < ε.length then suX G c fs r (ε.set i (some y)) else .bad
      | none => .bad)
    | _ => .bad) := rfl
section
variable {c : Nat} {fs : List D}
@[simp] theorem xe_str {x} : evX G c fs (.str x) = .ok (0, .str x) := rfl
@[simp] theorem xe_int {x} : evX G c fs (.int x) = .ok (0, .int x) := rfl
@[simp] theorem xe_bl {x} : evX G c fs (.bl x) = .ok (0, .bl x) := rfl
@[simp] theorem xe_non : evX G c fs .non = .ok (0, .non) := rfl
@[simp] theorem xe_fl {f} : evX G c fs (.fld f) = (match fldIx (G.xfl c) f with
    | some j => (match fs[j]? with | some d => .ok (0, d) | none => .bad)
    | none => .bad) := rfl
@[simp] theorem xe_is {cs tup} : evX G c fs (.isi cs tup) = (match xis G c cs with | some b => .ok (0, .bl b) | none => .bad) := rfl
@[simp] theorem xe_an {a b} : evX G c fs (.and_ a b) = (evX G c fs a).bind fun x => (asB x).bind fun k => if k then evX G c fs b else okB false := rfl
@[simp] theorem xe_no {a} : evX G c fs (.not_ a) = (evX G c fs a).bind fun x => (asB x).bind fun k => okB (!k) := rfl
@[simp] theorem xe_ls {es} : evX G c fs (.lst es) = (evXs G c fs es).bind pack := rfl
@[simp] theorem xe_n0 : evXs G c fs .nil = .ok [] := rfl
@[simp] theorem xe_c1 {e r} : evXs G c fs (.cons e r) = (evX G c fs e).bind fun x => (evXs G c fs r).bind fun xs => .ok (x :: xs) := rfl
end
@[simp] theorem w_rs : run G cal .rs ε = .bad := rfl
@[simp] theorem w_sfld {i f e} : run G cal (.sfld i f e) ε = toO ε (evE G cal e ε) fun x => match ε[i]? with
    | some (some (5, .ins c fs)) => if (G.flds c)[fs.length]? = some f ∧ x.1 ≤ 2 then putS i (some (5, .ins c (fs ++ [x.2]))) ε else .bad
    | _ => .bad := rfl
@[simp] theorem w_sfldO {i f e} : run G cal (.sfldO i f e) ε = toO ε (evE G cal e ε) fun x => match ε[i]?, x.2 with
    | some (some (lv, .ins c fs)), .lst xs => if (lv = 5 ∨ lv = 6) ∧ (G.flds c)[fs.length]? = some f ∧ (x.1 = 1 ∨ (x.1 = 2 ∧ D.lfs xs = true)) then putS i (some (6, .ins c (fs ++ [.mut xs]))) ε else .bad
    | _, _ => .bad := rfl
@[simp] theorem w_sapp {i f e} : run G cal (.sapp i f e) ε = (match ownF G f ε[i]? with
    | some (c, fs, j, xs) => toO ε (evE G cal e ε) fun x => if x.1 ≤ 2 ∧ xs.length < lim then putS i (some (6, .ins c (fs.set j (.mut (xs ++ [x.2]))))) ε else .bad
    | none => .bad) := rfl
@[simp] theorem w_shf {i} : run G cal (.shf i) ε = shf i ε := rfl
@[simp] theorem unm_mut {xs : List D} : D.unm (.mut xs) = .lst xs := rfl
@[simp] theorem unm_lst {xs : List D} : D.unm (.lst xs) = .lst xs := rfl
@[simp] theorem unm_tup {xs : List D} : D.unm (.tup xs) = .tup xs := rfl
@[simp] theorem unm_int {i : Int} : D.unm (.int i) = .int i := rfl
section
variable {l m c f : Nat} {fs xs : List D} {ns : List Int} {x y : LD} {as : List LD} {r : R LD} {d : D} {s : Str}
@[simp] theorem idxO_lst : idxO G cal (l, .lst xs) y = idxV (l, .lst xs) y := rfl
@[simp] theorem idxO_tup : idxO G cal (l, .tup xs) y = idxV (l, .tup xs) y := rfl
@[simp] theorem idxO_scr : idxO G cal (l, .scr ns) y = idxV (l, .scr ns) y := rfl
@[simp] theorem idxO_ins : idxO G cal (l, .ins c fs) y = upV G cal mGet (l, .ins c fs) [y] := rfl
@[simp low] theorem biO_len : biO G cal .len [x] = if isIns x.2 = true then lenR (upV G cal mLen x []) else if x.1 ≤ 4 then biV .len [x] else .bad := rfl
@[simp] theorem biO_int1 : biO G cal .int1 as = if as.all (fun a => a.1 ≤ 4) then biV .int1 as else .bad := rfl
@[simp] theorem biO_abs : biO G cal .abs as = if as.all (fun a => a.1 ≤ 4) then biV .abs as else .bad := rfl
@[simp] theorem biO_list : biO G cal .list as = if as.all (fun a => a.1 ≤ 4) then biV .list as else .bad := rfl
@[simp] theorem biO_tuple : biO G cal .tuple as = if as.all (fun a => a.1 ≤ 4) then biV .tuple as else .bad := rfl
@[simp] theorem biO_min2 : biO G cal .min2 as = if as.all (fun a => a.1 ≤ 4) then biV .min2 as else .bad := rfl
@[simp] theorem biO_max2 : biO G cal .max2 as = if as.all (fun a => a.1 ≤ 4) then biV .max2 as else .bad := rfl
@[simp] theorem biO_minL : biO G cal .minL as = if as.all (fun a => a.1 ≤ 4) then biV .minL as else .bad := rfl
@[simp] theorem biO_maxL : biO G cal .maxL as = if as.all (fun a => a.1 ≤ 4) then biV .maxL as else .bad := rfl
@[simp] theorem biO_sum : biO G cal .sum as = if as.all (fun a => a.1 ≤ 4) then biV .sum as else .bad := rfl
@[simp] theorem biO_str1 : biO G cal .str1 as = if as.all (fun a => a.1 ≤ 4) then biV .str1 as else .bad := rfl
@[simp] theorem biO_any : biO G cal .any as = if as.all (fun a => a.1 ≤ 4) then biV .any as else .bad := rfl
@[simp] theorem isIns_ins : isIns (.ins c fs) = true := rfl
@[simp] theorem isIns_lst : isIns (.lst xs) = false := rfl
@[simp] theorem isIns_tup : isIns (.tup xs) = false := rfl
@[simp] theorem isIns_scr : isIns (.scr ns) = false := rfl
@[simp] theorem isIns_str : isIns (.str s) = false := rfl
@[simp] theorem upV_ins : upV G cal m (0, .ins c fs) as = match data as with
    | some ds => (match G.meth c m with
      | some f => back as (noX (cal (.up f (.ins c fs :: ds))))
      | none => .bad)
    | none => .bad := by
  unfold upV
  cases data as <;> rfl
@[simp] theorem noX_ok {α : Type} {a : α} : noX (.ok a) = .ok a := rfl
@[simp] theorem lenR_ok {n : Int} (h0 : 0 ≤ n) (h : n ≤ 1000000) : lenR (.ok (l, .int n)) = .ok (0, .int n) := if_pos ⟨h0, h⟩
@[simp] theorem methF_ins : methF G m (0, .ins c fs) = (G.meth c m).map fun f => (f, .ins c fs) := rfl
theorem callD_eq : callD cal f d as = match data as with
    | some ds => back as (cal (.fn f (d :: ds)))
    | none => .bad := rfl
theorem makeV_eq {sh : Nat} {bs : List LD} : makeV G cal c f sh as bs = match data as, data bs with
    | some ds, some es => (match G.asm sh ds es with
      | some r => back (as ++ bs) (cal (.mk c f r))
      | none => .bad)
    | _, _ => .bad := rfl
@[simp] theorem sflV_0 {r : En} : sflV G 0 f (some (5, .ins c fs) :: r) = (match fldIx (G.flds c) f with
    | some k => (match fs[k]? with | some d => .ok (0, d) | none => .bad)
    | none => .bad) := rfl
@[simp] theorem sflV_6 {r : En} : sflV G 0 f (some (6, .ins c fs) :: r) = (match fldIx (G.flds c) f with
    | some k => (match fs[k]? with | some (.mut _) => .bad | some d => .ok (0, d) | none => .bad)
    | none => .bad) := rfl
@[simp] theorem shf_6 {r : En} : shf 0 (some (6, .ins c fs) :: r) = .nx (some (5, .ins c (fs.map D.unm)) :: r) := rfl
@[simp] theorem ownF_6 : ownF G f (some (some (6, .ins c fs))) = (match fldIx (G.flds c) f with
    | some j => (match fs[j]? with | some (.mut xs) => some (c, fs, j, xs) | _ => none)
    | none => none) := rfl
@[simp] theorem fldV_ins : fldV G (0, .ins c fs) f = (match fldIx (G.flds c) f with
    | some k => (match fs[k]? with | some d => .ok (0, d) | none => .bad)
    | none => .bad) := rfl
end
@[simp] theorem q_isn_non {l m : Nat} : copV .isn (l, .non) (m, .non) = .ok (0, .bl true) := rfl
@[simp] theorem q_isn_bl {l m : Nat} {b : Bool} : copV .isn (l, .bl b) (m, .non) = .ok (0, .bl false) := rfl
@[simp] theorem q_isn_int {l m : Nat} {i : Int} : copV .isn (l, .int i) (m, .non) = .ok (0, .bl false) := rfl
@[simp] theorem q_isn_str {l m : Nat} {s : Str} : copV .isn (l, .str s) (m, .non) = .ok (0, .bl false) := rfl
@[simp] theorem q_isn_tup {l m : Nat} {xs : List D} : copV .isn (l, .tup xs) (m, .non) = .ok (0, .bl false) := rfl
@[simp] theorem q_isn_lst {l m : Nat} {xs : List D} : copV .isn (l, .lst xs) (m, .non) = .ok (0, .bl false) := rfl
@[simp] theorem q_isn_scr {l m : Nat} {ns : List Int} : copV .isn (l, .scr ns) (m, .non) = .ok (0, .bl false) := rfl
@[simp] theorem q_isn_ins {l m c : Nat} {fs : List D} : copV .isn (l, .ins c fs) (m, .non) = .ok (0, .bl false) := rfl
@[simp] theorem q_notn_non {l m : Nat} : copV .notn (l, .non) (m, .non) = .ok (0, .bl false) := rfl
@[simp] theorem q_notn_bl {l m : Nat} {b : Bool} : copV .notn (l, .bl b) (m, .non) = .ok (0, .bl true) := rfl
@[simp] theorem q_notn_int {l m : Nat} {i : Int} : copV .notn (l, .int i) (m, .non) = .ok (0, .bl true) := rfl
@[simp] theorem q_notn_str {l m : Nat} {s : Str} : copV .notn (l, .str s) (m, .non) = .ok (0, .bl true) := rfl
@[simp] theorem q_notn_tup {l m : Nat} {xs : List D} : copV .notn (l, .tup xs) (m, .non) = .ok (0, .bl true) := rfl
@[simp] theorem q_notn_lst {l m : Nat} {xs : List D} : copV .notn (l, .lst xs) (m, .non) = .ok (0, .bl true) := rfl
@[simp] theorem q_notn_scr {l m : Nat} {ns : List Int} : copV .notn (l, .scr ns) (m, .non) = .ok (0, .bl true) := rfl
@[simp] theorem q_notn_ins {l m c : Nat} {fs : List D} : copV .notn (l, .ins c fs) (m, .non) = .ok (0, .bl true) := rfl
@[simp] theorem v_nil : evEs G cal .nil ε = .ok [] := rfl
@[simp] theorem v_cons {e r} : evEs G cal (.cons e r) ε = (evE G cal e ε).bind fun x => (evEs G cal r ε).bind fun xs => .ok (x :: xs) := rfl
@[simp] theorem v_onone : evEo G cal .none ε = .ok none := rfl
@[simp] theorem v_osome {e} : evEo G cal (.some e) ε = (evE G cal e ε).bind fun x => match x.2 with | .int i => .ok (some i) | _ => .bad := rfl
@[simp] theorem v_val {e} : evT G cal (.val e) ε = (evE G cal e ε).bind asB := rfl
@[simp] theorem v_tru {e} : evT G cal (.tru e) ε = (evE G cal e ε).bind fun x => if x.1 ≤ 4 then tru x else .bad := rfl
@[simp] theorem v_tnot {t} : evT G cal (.not_ t) ε = (evT G cal t ε).bind fun k => .ok (!k) := rfl
@[simp] theorem v_tand {a b} : evT G cal (.and_ a b) ε = (evT G cal a ε).bind fun k => if k then evT G cal b ε else .ok false := rfl
@[simp] theorem v_tor {a b} : evT G cal (.or_ a b) ε = (evT G cal a ε).bind fun k => if k then .ok true else evT G cal b ε := rfl
@[simp] theorem v_tonone : evTo G cal .none ε = .ok true := rfl
@[simp] theorem v_tosome {t} : evTo G cal (.some t) ε = evT G cal t ε := rfl
@[simp] theorem v_seq {e st} : evI G cal (.seq e) st ε = (evE G cal e ε).bind (items st) := rfl
@[simp] theorem v_rng1 {a st} : evI G cal (.rng1 a) st ε = (evE G cal a ε).bind rngV1 := rfl
@[simp] theorem v_rng2 {a b st} : evI G cal (.rng2 a b) st ε = (evE G cal a ε).bind fun x => (evE G cal b ε).bind (rngV2 x) := rfl
@[simp] theorem v_zip {a b st} : evI G cal (.zip a b) st ε = (evE G cal a ε).bind fun x => (evE G cal b ε).bind fun y => (items st x).bind fun xs => (items st y).bind fun ys => .ok (zipD xs ys) := rfl
@[simp] theorem w_asg {i fz e} : run G cal (.asg i fz e) ε = toO ε (evE G cal e ε) fun x => match keepV fz x with | some y => putS i (some y) ε | none => .bad := rfl
@[simp] theorem w_asgT {tg e} : run G cal (.asgT tg e) ε = toO ε (evE G cal e ε) fun x => match x.1, x.2 with
    | 0, .tup xs => (match setTg tg (.tup xs) ε with | some ε' => .nx ε' | none => .bad)
    | _, _ => .bad := rfl
@[simp] theorem w_setI {i k e} : run G cal (.setI i k e) ε = toO ε (evE G cal e ε) fun x => match own ε i with
    | some (lv, xs) => toO ε (evE G cal k ε) fun y => (match y.2 with
      | .int j => (match L2.ixN xs.length j with
        | some n => if x.1 ≤ 2 then putS i (some (lvWith lv x, .lst (xs.set n x.2))) ε else .bad
        | none => .bad)
      | _ => .bad)
    | none => .bad := rfl
@[simp] theorem w_aug {i op e} : run G cal (.aug i op e) ε = toO ε (getS ε i) fun x => toO ε (evE G cal e ε) fun y => match x.2, y.2 with
    | .int m, .int n => toO ε (augV op m n) fun z => putS i (some z) ε
    | _, _ => .bad := rfl
@[simp] theorem w_app {i e} : run G cal (.app i e) ε = (match own ε i with
    | some (lv, xs) => toO ε (evE G cal e ε) (appV lv xs i ε)
    | none => .bad) := rfl
@[simp] theorem w_ex {e} : run G cal (.ex e) ε = toO ε (evE G cal e ε) fun _ => .nx ε := rfl
@[simp] theorem w_ret {e} : run G cal (.ret e) ε = toO ε (evE G cal e ε) fun x => .ret x ε := rfl
@[simp] theorem w_retN : run G cal .retN ε = .ret (0, .non) ε := rfl
@[simp] theorem w_ife {t a b} : run G cal (.ife t a b) ε = toO ε (evT G cal t ε) fun k => if k then runs G cal a ε else runs G cal b ε := rfl
@[simp] theorem w_whl {t b} : run G cal (.whl t b) ε = whlR G cal t b turns ε := rfl
@[simp] theorem w_for {tg it b} : run G cal (.for_ tg it b) ε = toO ε (evI G cal it true ε) fun xs => forR G cal b tg xs ε := rfl
@[simp] theorem w_frz {i} : run G cal (.frz i) ε = (match ε[i]? with
    | some (some (lv, d)) => if lv ≤ 2 then .nx (ε.set i (some (0, d))) else .bad
    | _ => .nx ε) := rfl
@[simp] theorem w_brk : run G cal .brk ε = .brk ε := rfl
@[simp] theorem w_cnt : run G cal .cnt ε = .cnt ε := rfl
@[simp] theorem w_pas : run G cal .pas ε = .nx ε := rfl
@[simp] theorem w_nil : runs G cal .nil ε = .nx ε := rfl
/-- statements one behind another -/
def sq (o : Out) (f : En → Out) : Out := match o with
  | .nx ε => f ε
  | o => o
theorem w_cons {s r} : runs G cal (.cons s r) ε = sq (run G cal s ε) (runs G cal r) := by
  show (match run G cal s ε with | .nx ε' => runs G cal r ε' | o => o) = _
  unfold sq
  cases run G cal s ε <;> rfl
@[simp] theorem sq_nx {f : En → Out} : sq (.nx ε) f = f ε := rfl
@[simp] theorem sq_ret {f : En → Out} {r} : sq (.ret r ε) f = .ret r ε := rfl
@[simp] theorem sq_bad {f : En → Out} : sq .bad f = .bad := rfl
@[simp] theorem sq_brk {f : En → Out} : sq (.brk ε) f = .brk ε := rfl
@[simp] theorem sq_cnt {f : En → Out} : sq (.cnt ε) f = .cnt ε := rfl
@[simp] theorem sq_exc {f : En → Out} {c fs} : sq (.exc c fs ε) f = .exc c fs ε := rfl
@[simp] theorem sq_ite {f : En → Out} {p : Prop} [Decidable p] {a b : Out} : sq (if p then a else b) f = if p then sq a f else sq b f := by split <;> rfl
@[simp] theorem b_ok {α β : Type} {a : α} {f : α → R β} : (R.ok a).bind f = f a := rfl
@[simp] theorem b_exc {α β : Type} {c fs} {f : α → R β} : (R.exc c fs).bind f = .exc c fs := rfl
@[simp] theorem b_bad {α β : Type} {f : α → R β} : R.bad.bind f = .bad := rfl
@[simp] theorem b_ite {α β : Type} {p : Prop} [Decidable p] {a b : R α} {f : α → R β} : (if p then a else b).bind f = if p then a.bind f else b.bind f := by split <;> rfl
@[simp] theorem o_ok {α : Type} {a : α} {f : α → Out} : toO ε (.ok a) f = f a := rfl
@[simp] theorem o_exc {α : Type} {c fs} {f : α → Out} : toO ε (.exc c fs) f = .exc c fs ε := rfl
@[simp] theorem o_ite {α : Type} {p : Prop} [Decidable p] {a b : R α} {f : α → Out} : toO ε (if p then a else b) f = if p then toO ε a f else toO ε b f := by split <;> rfl
@[simp] theorem o_B {b} : okB b = .ok (0, .bl b) := rfl
@[simp] theorem o_I {b} : okI b = .ok (0, .int b) := rfl
@[simp] theorem g_0 {d r} : getS (some (0, d) :: r) 0 = .ok (0, d) := rfl
@[simp] theorem g_1 {d r} : getS (some (1, d) :: r) 0 = .ok (3, d) := rfl
@[simp] theorem g_2 {d r} : getS (some (2, d) :: r) 0 = .ok (4, d) := rfl
@[simp] theorem g_s {s r i} : getS (s :: r) (i + 1) = getS r i := rfl
@[simp] theorem ow_1 {d r} : own (some (1, .lst d) :: r) 0 = some (1, d) := rfl
@[simp] theorem ow_2 {d r} : own (some (2, .lst d) :: r) 0 = some (2, d) := rfl
@[simp] theorem ow_s {s r i} : own (s :: r) (i + 1) = own r i := rfl
@[simp] theorem k_0 {fz d} : keepV fz (0, d) = some (0, d) := by unfold keepV; simp
@[simp] theorem k_t {l d} (h : l ≤ 2) : keepV true (l, d) = some (0, d) := by unfold keepV; simp [h]
@[simp] theorem k_1 {d} : keepV false (1, .lst d) = some (1, .lst d) := by simp [keepV, D.lf]
@[simp] theorem k_2 {d} : keepV false (2, .lst d) = some (2, .lst d) := by simp [keepV, D.lf]
@[simp] theorem p_add {l m i j} : bopV .add (l, .int i) (m, .int j) = .ok (0, .int (i + j)) := rfl
@[simp] theorem p_sub {l m i j} : bopV .sub (l, .int i) (m, .int j) = .ok (0, .int (i - j)) := rfl
theorem p_mul {l m i j} : bopV .mul (l, .int i) (m, .int j) = if i.natAbs < bigN ∧ j.natAbs < bigN then .ok (0, .int (i * j)) else .bad := rfl
theorem p_div {l m i j} : bopV .fdiv (l, .int i) (m, .int j) = if 0 < j ∧ j.natAbs < bigN then .ok (0, .int (i / j)) else .bad := rfl
theorem p_mod {l m i j} : bopV .mod (l, .int i) (m, .int j) = if 0 < j then .ok (0, .int (i % j)) else .bad := rfl
theorem p_pow {l m i j} : bopV .pow (l, .int i) (m, .int j) = if 0 ≤ j ∧ j ≤ 1000000 ∧ i.natAbs < 2 ^ 64 then .ok (0, .int (i ^ j.toNat)) else .bad := rfl
@[simp] theorem p_cat {l m xs ys} : bopV .add (l, .lst xs) (m, .lst ys) = if xs.length + ys.length ≤ lim ∧ shb l xs = true ∧ shb m ys = true then .ok (newL (xs ++ ys) (D.lfs (xs ++ ys))) else .bad := rfl
@[simp] theorem c_lt {l m i j} : copV .lt (l, .int i) (m, .int j) = .ok (0, .bl (decide (i < j))) := rfl
@[simp] theorem c_le {l m i j} : copV .le (l, .int i) (m, .int j) = .ok (0, .bl (decide (i ≤ j))) := rfl
@[simp] theorem c_gt {l m i j} : copV .gt (l, .int i) (m, .int j) = .ok (0, .bl (decide (j < i))) := rfl
@[simp] theorem c_ge {l m i j} : copV .ge (l, .int i) (m, .int j) = .ok (0, .bl (decide (j ≤ i))) := rfl
@[simp] theorem c_eq {l m a b} : copV .eq (l, a) (m, b) = (eqD a b).bind fun r => .ok (0, .bl r) := rfl
@[simp] theorem c_ne {l m a b} : copV .ne (l, a) (m, b) = (eqD a b).bind fun r => .ok (0, .bl (!r)) := rfl
@[simp] theorem t_bl {l b} : asB (l, .bl b) = .ok b := rfl
@[simp] theorem r_bl {l b} : tru (l, .bl b) = .ok b := rfl
@[simp] theorem i_len {l xs} : biV .len [(l, .lst xs)] = .ok (0, .int xs.length) := rfl
@[simp] theorem i_lent {l xs} : biV .len [(l, .tup xs)] = .ok (0, .int xs.length) := rfl
@[simp] theorem i_lens {l ns} : biV .len [(l, .scr ns)] = .ok (0, .int ns.length) := rfl
@[simp] theorem i_int {l i} : biV .int1 [(l, .int i)] = .ok (0, .int i) := rfl
@[simp] theorem i_abs {l i} : biV .abs [(l, .int i)] = .ok (0, .int (i.natAbs : Int)) := by
  show R.ok (0, D.int (if i < 0 then -i else i)) = _
  rw [show (if i < 0 then -i else i) = (i.natAbs : Int) by split <;> omega]
@[simp] theorem i_min {l m i j} : biV .min2 [(l, .int i), (m, .int j)] = .ok (0, .int (if j < i then j else i)) := rfl
@[simp] theorem i_max {l m i j} : biV .max2 [(l, .int i), (m, .int j)] = .ok (0, .int (if j > i then j else i)) := rfl
@[simp] theorem i_tupl {l xs} : biV .tuple [(l, .lst xs)] = if shb l xs then .ok (0, .tup xs) else .bad := rfl
@[simp] theorem i_tupt {l xs} : biV .tuple [(l, .tup xs)] = .ok (0, .tup xs) := rfl
@[simp] theorem i_lstl {l xs} : biV .list [(l, .lst xs)] = if shb l xs then .ok (newL xs (D.lfs xs)) else .bad := rfl
@[simp] theorem i_lstt {l xs} : biV .list [(l, .tup xs)] = .ok (newL xs (D.lfs xs)) := rfl
@[simp] theorem x_l0 {m xs i} : idxV (0, .lst xs) (m, .int i) = (match L2.atI xs i with | some d => .ok (0, d) | none => .bad) := rfl
@[simp] theorem x_l1 {m xs i} : idxV (1, .lst xs) (m, .int i) = (match L2.atI xs i with | some d => .ok (0, d) | none => .bad) := rfl
@[simp] theorem x_l3 {m xs i} : idxV (3, .lst xs) (m, .int i) = (match L2.atI xs i with | some d => .ok (0, d) | none => .bad) := rfl
@[simp] theorem x_l2 {m xs i} : idxV (2, .lst xs) (m, .int i) = (match L2.atI xs i with | some d => .ok (if d.lf then 0 else 2, d) | none => .bad) := rfl
@[simp] theorem x_l4 {m xs i} : idxV (4, .lst xs) (m, .int i) = (match L2.atI xs i with | some d => .ok (if d.lf then 0 else 4, d) | none => .bad) := rfl
@[simp] theorem x_t0 {m xs i} : idxV (0, .tup xs) (m, .int i) = (match L2.atI xs i with | some d => .ok (0, d) | none => .bad) := rfl
@[simp] theorem x_s {l m ns i} : idxV (l, .scr ns) (m, .int i) = (match L2.atI ns i with | some i => .ok (0, .int i) | none => .bad) := rfl
@[simp] theorem y_0 {d} : retV (0, d) = .ok (0, d) := rfl
@[simp] theorem y_1 {d} : retV (1, d) = .ok (1, d) := rfl
@[simp] theorem y_2 {d} : retV (2, d) = .ok (2, d) := rfl
@[simp] theorem y_3 {d} : retV (3, d) = .ok (1, d) := rfl
@[simp] theorem y_4 {d} : retV (4, d) = .ok (2, d) := rfl
end
@[simp] theorem callI_dep1 {G : Tb} {Fs : Nat → Option Fd} {n : Nat} (h : 2 ≤ n) : callI G Fs n (.dep 1) = .ok (0, .non) := by
  obtain ⟨m, rfl⟩ : ∃ m, n = m + 2 := ⟨n - 2, by omega⟩
  rfl
@[simp] theorem callI_up {G : Tb} {Fs : Nat → Option Fd} {n f : Nat} {ds : List D} (h : 1 ≤ n) : callI G Fs n (.up f ds) = callI G Fs (n - 1) (.fn f ds) := by
  obtain ⟨m, rfl⟩ : ∃ m, n = m + 1 := ⟨n - 1, by omega⟩
  rfl
theorem callI_mk {G : Tb} {Fs : Nat → Option Fd} {n c f : Nat} {d : Fd} {ds : List D} (h : Fs f = some d) (hl : ds.length + 1 = d.np) :
    callI G Fs (n + 2) (.mk c f ds) = finI G c (runs G (callI G Fs n) d.b (some (5, .ins c []) :: (ds.map (fun d => some (0, d)) ++ List.replicate (d.ns - d.np) none))) := by
  show (match Fs f with | none => R.bad | some d => if ds.length + 1 = d.np then _ else .bad) = _
  rw [h]
  exact if_pos hl
theorem callI_fn {G : Tb} {Fs : Nat → Option Fd} {n f : Nat} {d : Fd} {ds : List D} (h : Fs f = some d) (hl : ds.length = d.np) :
    callI G Fs (n + 1) (.fn f ds) = (match runs G (callI G Fs n) d.b (startE ds d.ns d.np) with
      | .nx _ => .ok (0, .non)
      | .ret r _ => retV r
      | .exc c fs _ => .exc c fs
      | _ => .bad) := by
  show (match Fs f with | none => R.bad | some d => if ds.length = d.np then _ else .bad) = _
  rw [h]
  exact if_pos hl
theorem atI_nat {α : Type} {xs : List α} {i : Nat} : L2.atI xs (i : Int) = xs[i]? := by
  unfold L2.atI L2.ixN
  by_cases h : i < xs.length
  · have h0 : (0 : Int) ≤ i := Int.natCast_nonneg i
    have h1 : (i : Int) < (xs.length : Int) := Int.ofNat_lt.mpr h
    rw [if_pos h0, if_pos h1]
    simp
  · have h0 : (0 : Int) ≤ i := Int.natCast_nonneg i
    have h1 : ¬ (i : Int) < (xs.length : Int) := fun z => h (Int.ofNat_lt.mp z)
    rw [if_pos h0, if_neg h1]
    simp [List.getElem?_eq_none (Nat.le_of_not_lt h)]
theorem atI_int {α : Type} {xs : List α} {i : Int} (h0 : 0 ≤ i) (h : i < xs.length) : L2.atI xs i = some (xs[i.toNat]'(by omega)) := by
  obtain ⟨n, rfl⟩ := Int.eq_ofNat_of_zero_le h0
  rw [atI_nat, List.getElem?_eq_getElem (by omega)]
  rfl
theorem atI_map {α β : Type} {f : α → β} {xs : List α} {i : Int} : L2.atI (xs.map f) i = (L2.atI xs i).map f := by
  unfold L2.atI
  rw [List.length_map]
  cases L2.ixN xs.length i <;> simp
/-- a for, by an invariant of the place and the names -/
theorem forL_inv {b : En → Out} {tg : Tg} : ∀ {xs : List D} {ε : En} (P : Nat → En → Prop) (i : Nat), P i ε →
    (∀ j d ε, xs[j]? = some d → P (i + j) ε → ∃ ε1 ε2, setTg tg d ε = some ε1 ∧ (b ε1 = .nx ε2 ∨ b ε1 = .cnt ε2) ∧ P (i + j + 1) ε2) → ∃ ε', forL b tg xs ε = .nx ε' ∧ P (i + xs.length) ε'
  | [], ε, P, i, h0, _ => ⟨ε, rfl, h0⟩
  | d :: r, ε, P, i, h0, hs => by
    obtain ⟨ε1, ε2, e1, e2, e3⟩ := hs 0 d ε rfl h0
    obtain ⟨ε', e4, e5⟩ := forL_inv (b := b) (tg := tg) (xs := r) (ε := ε2) P (i + 1) e3 fun j d ε hj hp => by
      obtain ⟨a, c, h1, h2, h3⟩ := hs (j + 1) d ε hj (by rw [show i + (j + 1) = i + 1 + j by omega]; exact hp)
      exact ⟨a, c, h1, h2, by rw [show i + 1 + j + 1 = i + (j + 1) + 1 by omega]; exact h3⟩
    refine ⟨ε', ?_, by rw [List.length_cons, show i + (r.length + 1) = i + 1 + r.length by omega]; exact e5⟩
    unfold forL
    rw [e1]
    rcases e2 with e2 | e2 <;> (simp only [e2]; exact e4)
theorem forR_inv {G : Tb} {cal : Cl → R LD} {b : Ss} {tg : Tg} {xs : List D} {ε : En} (P : Nat → En → Prop) (h0 : P 0 ε)
    (hs : ∀ j d ε, xs[j]? = some d → P j ε → ∃ ε1 ε2, setTg tg d ε = some ε1 ∧ (runs G cal b ε1 = .nx ε2 ∨ runs G cal b ε1 = .cnt ε2) ∧ P (j + 1) ε2) : ∃ ε', forR G cal b tg xs ε = .nx ε' ∧ P xs.length ε' := by
  have := forL_inv (b := fun ε => runs G cal b ε) (tg := tg) (xs := xs) (ε := ε) P 0 h0 (fun j d ε hj hp => by simpa using hs j d ε hj (by simpa using hp))
  simpa [forR] using this
def iL (xs : List Int) : List D := xs.map .int
theorem iL_lf : ∀ xs : List Int, D.lfs (iL xs) = true
  | [] => rfl
  | x :: r => by simp only [iL, List.map_cons, D.lfs, D.lf, Bool.true_and]; exact iL_lf r
theorem iL_len {xs : List Int} : (iL xs).length = xs.length := by simp [iL]
theorem iL_app {xs ys : List Int} : iL xs ++ iL ys = iL (xs ++ ys) := by simp [iL]
theorem iL_snoc {xs : List Int} {y : Int} : iL xs ++ [.int y] = iL (xs ++ [y]) := by simp [iL]
theorem iL_at {xs : List Int} {i : Int} : L2.atI (iL xs) i = (L2.atI xs i).map .int := atI_map
end RS
namespace RS
open PySem
theorem big_of {i : Int} (h0 : 0 ≤ i) (h : i < 2 ^ 250) : i.natAbs < bigN := by
  refine Nat.lt_of_lt_of_le ?_ bigN_ge
  omega
theorem rngD_at {n j : Nat} {d : D} (h : (rngD 0 n)[j]? = some d) : j < n ∧ d = .int j := by
  have hl : j < (rngD 0 n).length := (List.getElem?_eq_some_iff.mp h).1
  rw [rngD_len] at hl
  rw [rngD_get n j 0 hl] at h
  exact ⟨hl, by cases h; simp⟩
end RS
namespace RS
open PySem
/-- a for that may return -/
theorem forL_ret {b : En → Out} {tg : Tg} : ∀ {xs : List D} {ε : En} (P : Nat → En → Prop) (Q : Nat → LD → Prop) (i : Nat), P i ε →
    (∀ j d ε, xs[j]? = some d → P (i + j) ε → ∃ ε1, setTg tg d ε = some ε1 ∧ ((∃ ε2, (b ε1 = .nx ε2 ∨ b ε1 = .cnt ε2) ∧ P (i + j + 1) ε2) ∨ ∃ r ε2, b ε1 = .ret r ε2 ∧ Q (i + j) r)) →
    (∃ ε', forL b tg xs ε = .nx ε' ∧ P (i + xs.length) ε') ∨ ∃ j r ε', j < i + xs.length ∧ forL b tg xs ε = .ret r ε' ∧ Q j r
  | [], ε, P, Q, i, h0, _ => .inl ⟨ε, rfl, h0⟩
  | d :: r, ε, P, Q, i, h0, hs => by
    obtain ⟨ε1, e1, hh⟩ := hs 0 d ε rfl h0
    rcases hh with ⟨ε2, e2, e3⟩ | ⟨q, ε2, e2, e3⟩
    · have step := forL_ret (b := b) (tg := tg) (xs := r) (ε := ε2) P Q (i + 1) e3 fun j d ε hj hp => by
        obtain ⟨a, h1, h2⟩ := hs (j + 1) d ε hj (by rw [show i + (j + 1) = i + 1 + j by omega]; exact hp)
        refine ⟨a, h1, ?_⟩
        rw [show i + (j + 1) = i + 1 + j by omega] at h2
        exact h2
      have e : forL b tg (d :: r) ε = forL b tg r ε2 := by
        unfold forL
        rw [e1]
        rcases e2 with e2 | e2 <;> simp only [e2]
        · cases r <;> rfl
        · cases r <;> rfl
      rw [e, List.length_cons]
      rcases step with ⟨ε', h1, h2⟩ | ⟨j, q, ε', h1, h2, h3⟩
      · exact .inl ⟨ε', h1, by rw [show i + (r.length + 1) = i + 1 + r.length by omega]; exact h2⟩
      · exact .inr ⟨j, q, ε', by omega, h2, h3⟩
    · refine .inr ⟨i, q, ε2, by simp, ?_, e3⟩
      unfold forL
      rw [e1]
      simp only [e2]
theorem forR_ret {G : Tb} {cal : Cl → R LD} {b : Ss} {tg : Tg} {xs : List D} {ε : En} (P : Nat → En → Prop) (Q : Nat → LD → Prop) (h0 : P 0 ε)
    (hs : ∀ j d ε, xs[j]? = some d → P j ε → ∃ ε1, setTg tg d ε = some ε1 ∧ ((∃ ε2, (runs G cal b ε1 = .nx ε2 ∨ runs G cal b ε1 = .cnt ε2) ∧ P (j + 1) ε2) ∨ ∃ r ε2, runs G cal b ε1 = .ret r ε2 ∧ Q j r)) :
    (∃ ε', forR G cal b tg xs ε = .nx ε' ∧ P xs.length ε') ∨ ∃ j r ε', j < xs.length ∧ forR G cal b tg xs ε = .ret r ε' ∧ Q j r := by
  have := forL_ret (b := fun ε => runs G cal b ε) (tg := tg) (xs := xs) (ε := ε) P Q 0 h0 (fun j d ε hj hp => by simpa using hs j d ε hj (by simpa using hp))
  simpa [forR] using this
/-- a list, a tuple of integers -/
def sqI (t : Bool) (xs : List Int) : D := if t then .tup (iL xs) else .lst (iL xs)
theorem zipI : ∀ {xs ys : List Int} {j : Nat} {d : D}, (zipD (iL xs) (iL ys))[j]? = some d → ∃ (h1 : j < xs.length) (h2 : j < ys.length), d = .tup [.int xs[j], .int ys[j]]
  | [], _, j, d, h => by simp [iL, zipD] at h
  | x :: xs, [], j, d, h => by simp [iL, zipD] at h
  | x :: xs, y :: ys, 0, d, h => by
    simp only [iL, List.map_cons, zipD, List.getElem?_cons_zero, Option.some.injEq] at h
    exact ⟨by simp, by simp, h.symm⟩
  | x :: xs, y :: ys, j + 1, d, h => by
    simp only [iL, List.map_cons, zipD, List.getElem?_cons_succ] at h
    obtain ⟨h1, h2, h3⟩ := zipI (xs := xs) (ys := ys) h
    exact ⟨by simp; omega, by simp; omega, by simpa using h3⟩
theorem zipI_len : ∀ {xs ys : List Int}, (zipD (iL xs) (iL ys)).length = min xs.length ys.length
  | [], _ => by simp [iL, zipD]
  | _ :: _, [] => by simp [iL, zipD]
  | x :: xs, y :: ys => by
    simp only [iL, List.map_cons, zipD, List.length_cons]
    have := zipI_len (xs := xs) (ys := ys)
    simp only [iL] at this
    omega
end RS
namespace RS
open PySem
/-! ### == -/
theorem q_int {i j : Int} : eqD (.int i) (.int j) = .ok (decide (i = j)) := by
  simp only [eqD, D.py, SeqAt.shaped, PyData.canLay0, PyData.depth, PyData.eqv]
  simp only [Nat.zero_le, decide_true, Bool.and_true, and_self, if_true, R.ok.injEq]
  by_cases h : i = j <;> simp [h]
theorem q_bl {i j : Bool} : eqD (.bl i) (.bl j) = .ok (i == j) := by
  simp only [eqD, D.py, SeqAt.shaped, PyData.canLay0, PyData.depth, PyData.eqv]
  simp
theorem iL_can : ∀ xs : List Int, PyData.canLayAll0 (D.pys (iL xs)) = true
  | [] => rfl
  | x :: r => by simp only [iL, List.map_cons, D.pys, D.py, PyData.canLayAll0, PyData.canLay0, Bool.true_and]; exact iL_can r
theorem iL_dep : ∀ xs : List Int, PyData.depthAll (D.pys (iL xs)) = 0
  | [] => rfl
  | x :: r => by
    have := iL_dep r
    simp only [iL] at this
    simp only [iL, List.map_cons, D.pys, D.py, PyData.depthAll, PyData.depth, this]; rfl
theorem iL_eqv : ∀ xs ys : List Int, PyData.eqvAll (D.pys (iL xs)) (D.pys (iL ys)) = decide (xs = ys)
  | [], [] => rfl
  | [], _ :: _ => rfl
  | _ :: _, [] => rfl
  | x :: xs, y :: ys => by
    have := iL_eqv xs ys
    simp only [iL] at this
    simp only [iL, List.map_cons, D.pys, D.py, PyData.eqvAll, PyData.eqv, this]
    by_cases h : x = y <;> by_cases h2 : xs = ys <;> simp [h, h2]
theorem q_lst {xs ys : List Int} : eqD (.lst (iL xs)) (.lst (iL ys)) = .ok (decide (xs = ys)) := by
  simp [eqD, D.py, SeqAt.shaped, PyData.canLay0, PyData.depth, PyData.eqv, iL_can, iL_dep, iL_eqv]
theorem q_tup {xs ys : List Int} : eqD (.tup (iL xs)) (.tup (iL ys)) = .ok (decide (xs = ys)) := by
  simp [eqD, D.py, SeqAt.shaped, PyData.canLay0, PyData.depth, PyData.eqv, iL_can, iL_dep, iL_eqv]
end RS
namespace RS
open PySem
/-! ### comprehensions of integers -/
theorem compL_fm {F : D → R (Option LD)} {p : Nat → Bool} {f : Nat → Int} : ∀ {xs : List D} (i : Nat), (∀ j d, xs[j]? = some d → F d = .ok (if p (i + j) = true then some (0, .int (f (i + j))) else none)) →
    compL F xs = .ok (((List.range' i xs.length).filter p).map fun j => (0, D.int (f j)))
  | [], i, _ => rfl
  | d :: r, i, h => by
    have h0 := h 0 d rfl
    have hr := compL_fm (F := F) (p := p) (f := f) (xs := r) (i + 1) fun j d hj => by
      have := h (j + 1) d hj
      rw [show i + (j + 1) = i + 1 + j by omega] at this
      exact this
    unfold compL
    rw [h0]
    show (compL F r).bind _ = _
    rw [hr]
    simp only [List.length_cons, List.range'_succ, Nat.add_zero, List.filter_cons]
    cases p i <;> rfl
theorem shrs_int : ∀ is : List Int, shrs (is.map fun i => (0, D.int i)) = .ok (iL is) ∧ packL (is.map fun i => (0, D.int i)) = true
  | [] => ⟨rfl, rfl⟩
  | i :: r => by
    obtain ⟨h1, h2⟩ := shrs_int r
    refine ⟨?_, by simp only [List.map_cons, packL, D.lf, Bool.or_true, Bool.true_and]; exact h2⟩
    simp only [List.map_cons, shrs]
    rw [h1]; rfl
theorem pack_int {is : List Int} (h : is.length ≤ lim) : pack (is.map fun i => (0, D.int i)) = .ok (2, .lst (iL is)) := by
  obtain ⟨h1, h2⟩ := shrs_int is
  unfold pack
  rw [h1, h2]
  show (if (iL is).length ≤ lim then _ else _) = _
  rw [if_pos (by rw [iL_len]; exact h)]
  rfl
theorem comp_ints {G : Tb} {cal : Cl → R LD} {tg : Tg} {t : To} {e : E} {ε : En} {xs : List D} (p : Nat → Bool) (f : Nat → Int) (hl : xs.length ≤ lim)
    (h : ∀ j d, xs[j]? = some d → ∃ ε', setTg tg d ε = some ε' ∧ evTo G cal t ε' = .ok (p j) ∧ (p j = true → evE G cal e ε' = .ok (0, .int (f j)))) :
    (compR G cal tg t e ε xs).bind pack = .ok (2, .lst (iL (((List.range xs.length).filter p).map f))) := by
  unfold compR
  rw [compL_fm (p := p) (f := f) 0 fun j d hj => by
    obtain ⟨ε', h1, h2, h3⟩ := h j d hj
    unfold compF
    rw [h1]
    simp only [Nat.zero_add, h2, noX, R.bind]
    cases hp : p j with
    | false => simp
    | true => simp [h3 hp]]
  show pack _ = _
  rw [← List.range_eq_range', show (((List.range xs.length).filter p).map fun j => ((0 : Nat), D.int (f j))) = (((List.range xs.length).filter p).map f).map (fun i => (0, D.int i)) by rw [List.map_map]; rfl]
  refine pack_int ?_
  rw [List.length_map]
  exact Nat.le_trans (List.length_filter_le _ _) (by simpa using hl)
theorem comp_map {G : Tb} {cal : Cl → R LD} {tg : Tg} {e : E} {ε : En} {xs : List D} (f : Nat → Int) (hl : xs.length ≤ lim)
    (h : ∀ j d, xs[j]? = some d → ∃ ε', setTg tg d ε = some ε' ∧ evE G cal e ε' = .ok (0, .int (f j))) :
    (compR G cal tg .none e ε xs).bind pack = .ok (2, .lst (iL ((List.range xs.length).map f))) := by
  rw [comp_ints (fun _ => true) f hl fun j d hj => by
    obtain ⟨ε', h1, h2⟩ := h j d hj
    exact ⟨ε', h1, rfl, fun _ => h2⟩]
  rw [List.filter_eq_self.mpr fun _ _ => rfl]
end RS
namespace RS
open PySem
@[simp] theorem at_0 {α : Type} {x : α} {r : List α} : L2.atI (x :: r) 0 = some x := by
  rw [show (0 : Int) = ((0 : Nat) : Int) from rfl, atI_nat]; rfl
@[simp] theorem at_1 {α : Type} {x y : α} {r : List α} : L2.atI (x :: y :: r) 1 = some y := by
  rw [show (1 : Int) = ((1 : Nat) : Int) from rfl, atI_nat]; rfl
@[simp] theorem at_2 {α : Type} {x y z : α} {r : List α} : L2.atI (x :: y :: z :: r) 2 = some z := by
  rw [show (2 : Int) = ((2 : Nat) : Int) from rfl, atI_nat]; rfl
@[simp] theorem at_3 {α : Type} {x y z u : α} {r : List α} : L2.atI (x :: y :: z :: u :: r) 3 = some u := by
  rw [show (3 : Int) = ((3 : Nat) : Int) from rfl, atI_nat]; rfl
theorem pack1 {l1 : Nat} {x : D} (h1 : l1 ≤ 2) : ∃ l, l ≤ 2 ∧ pack [(l1, x)] = .ok (l, .lst [x]) := by
  refine ⟨if packL [(l1, x)] then 2 else 1, by split <;> omega, ?_⟩
  simp [pack, shrs, shr, h1, R.bind, lim]
theorem pack2 {l1 l2 : Nat} {x y : D} (h1 : l1 ≤ 2) (h2 : l2 ≤ 2) : ∃ l, l ≤ 2 ∧ pack [(l1, x), (l2, y)] = .ok (l, .lst [x, y]) := by
  refine ⟨if packL [(l1, x), (l2, y)] then 2 else 1, by split <;> omega, ?_⟩
  simp [pack, shrs, shr, h1, h2, R.bind, lim]
end RS
namespace RS
open PySem
@[simp] theorem at_4 {α : Type} {x y z u v : α} {r : List α} : L2.atI (x :: y :: z :: u :: v :: r) 4 = some v := by
  rw [show (4 : Int) = ((4 : Nat) : Int) from rfl, atI_nat]; rfl
@[simp] theorem at_5 {α : Type} {x y z u v w : α} {r : List α} : L2.atI (x :: y :: z :: u :: v :: w :: r) 5 = some w := by
  rw [show (5 : Int) = ((5 : Nat) : Int) from rfl, atI_nat]; rfl
theorem len6 {α : Type} : ∀ {xs : List α}, xs.length = 6 → ∃ a b c d e f, xs = [a, b, c, d, e, f]
  | [a, b, c, d, e, f], _ => ⟨a, b, c, d, e, f, rfl⟩
theorem len1 {α : Type} : ∀ {xs : List α}, xs.length = 1 → ∃ a, xs = [a]
  | [a], _ => ⟨a, rfl⟩
theorem iL_take {xs : List Int} {n : Nat} : cut (iL xs) none (some (n : Int)) = iL (xs.take n) := by
  unfold cut
  rw [HT.sIx_none, HT.sIx_nat, List.drop_zero]
  show List.take (min n (iL xs).length - 0) (iL xs) = _
  rw [Nat.sub_zero, iL_len, show min n xs.length = min n (iL xs).length by rw [iL_len], List.take_eq_take_min.symm]
  simp [iL, List.map_take]
end RS

/-! RsWp -/
namespace RS
open PySem
/-! ### a function that is not looked into -/
noncomputable def hid {α : Type} (a : α) : α := Classical.choose (⟨a, rfl⟩ : ∃ x, x = a)
theorem hid_eq {α : Type} (a : α) : hid a = a := Classical.choose_spec (⟨a, rfl⟩ : ∃ x, x = a)
/-! ### what is wanted of a block's end -/
structure Po where
  N : En → Prop
  B : En → Prop
  C : En → Prop
  T : LD → Prop
  X : Nat → List D → En → Prop
def Wp (o : Out) (k : Po) : Prop := match o with
  | .nx ε => k.N ε
  | .brk ε => k.B ε
  | .cnt ε => k.C ε
  | .ret r _ => k.T r
  | .exc c fs ε => k.X c fs ε
  | .bad => False
section
variable {k : Po} {ε : En}
@[simp] theorem wp_nx : Wp (.nx ε) k = k.N ε := rfl
@[simp] theorem wp_brk : Wp (.brk ε) k = k.B ε := rfl
@[simp] theorem wp_cnt : Wp (.cnt ε) k = k.C ε := rfl
@[simp] theorem wp_ret {r : LD} : Wp (.ret r ε) k = k.T r := rfl
@[simp] theorem wp_exc {c : Nat} {fs : List D} : Wp (.exc c fs ε) k = k.X c fs ε := rfl
@[simp] theorem wp_bad : Wp .bad k = False := rfl
theorem wp_ite {c : Prop} [Decidable c] {a b : Out} : Wp (if c then a else b) k = if c then Wp a k else Wp b k := by split <;> rfl
end
/-- what a def hands back -/
def Back (res : R LD) : Po := ⟨fun _ => res = .ok (0, .non), fun _ => False, fun _ => False, fun r => retV r = res, fun c fs _ => res = .exc c fs⟩
@[simp] theorem back_N {res : R LD} {ε : En} : (Back res).N ε = (res = .ok (0, .non)) := rfl
@[simp] theorem back_B {res : R LD} {ε : En} : (Back res).B ε = False := rfl
@[simp] theorem back_C {res : R LD} {ε : En} : (Back res).C ε = False := rfl
@[simp] theorem back_T {res : R LD} {r : LD} : (Back res).T r = (retV r = res) := rfl
@[simp] theorem back_X {res : R LD} {c : Nat} {fs : List D} {ε : En} : (Back res).X c fs ε = (res = .exc c fs) := rfl
/-- a def's call, by its body -/
theorem fn_wp {G : Tb} {Fs : Nat → Option Fd} {n q f : Nat} {d : Fd} {ds : List D} {res : R LD} (h : Fs f = some d) (hl : ds.length = d.np) (hn : q + 1 ≤ n) (H : ∀ m, q ≤ m → Wp (runs G (callI G Fs m) d.b (startE ds d.ns d.np)) (Back res)) : callI G Fs n (.fn f ds) = res := by
  obtain ⟨m, rfl⟩ : ∃ m, n = m + 1 := ⟨n - 1, by omega⟩
  have H := H m (by omega)
  rw [callI_fn h hl]
  revert H
  cases runs G (callI G Fs m) d.b (startE ds d.ns d.np) with
  | nx ε => exact fun h => h.symm
  | brk ε => exact fun h => h.elim
  | cnt ε => exact fun h => h.elim
  | ret r ε => exact fun h => h
  | exc c fs ε => exact fun h => h.symm
  | bad => exact fun h => h.elim
theorem fn_wp1 {G : Tb} {Fs : Nat → Option Fd} {m f : Nat} {d : Fd} {ds : List D} {res : R LD} (h : Fs f = some d) (hl : ds.length = d.np) (H : Wp (runs G (callI G Fs m) d.b (startE ds d.ns d.np)) (Back res)) : callI G Fs (m + 1) (.fn f ds) = res := by
  rw [callI_fn h hl]
  revert H
  cases runs G (callI G Fs m) d.b (startE ds d.ns d.np) with
  | nx ε => exact fun h => h.symm
  | brk ε => exact fun h => h.elim
  | cnt ε => exact fun h => h.elim
  | ret r ε => exact fun h => h
  | exc c fs ε => exact fun h => h.symm
  | bad => exact fun h => h.elim
/-- .. of which something is told -/
def BackE (P : LD → Prop) : Po := ⟨fun _ => P (0, .non), fun _ => False, fun _ => False, fun r => ∃ x, retV r = .ok x ∧ P x, fun _ _ _ => False⟩
@[simp] theorem backE_N {P : LD → Prop} {ε : En} : (BackE P).N ε = P (0, .non) := rfl
@[simp] theorem backE_B {P : LD → Prop} {ε : En} : (BackE P).B ε = False := rfl
@[simp] theorem backE_C {P : LD → Prop} {ε : En} : (BackE P).C ε = False := rfl
@[simp] theorem backE_T {P : LD → Prop} {r : LD} : (BackE P).T r = ∃ x, retV r = .ok x ∧ P x := rfl
@[simp] theorem backE_X {P : LD → Prop} {c : Nat} {fs : List D} {ε : En} : (BackE P).X c fs ε = False := rfl
theorem fn_wpE {G : Tb} {Fs : Nat → Option Fd} {n q f : Nat} {d : Fd} {ds : List D} {P : LD → Prop} (h : Fs f = some d) (hl : ds.length = d.np) (hn : q + 1 ≤ n) (H : ∀ m, q ≤ m → Wp (runs G (callI G Fs m) d.b (startE ds d.ns d.np)) (BackE P)) : ∃ r, P r ∧ callI G Fs n (.fn f ds) = .ok r := by
  obtain ⟨m, rfl⟩ : ∃ m, n = m + 1 := ⟨n - 1, by omega⟩
  have H := H m (by omega)
  rw [callI_fn h hl]
  revert H
  cases runs G (callI G Fs m) d.b (startE ds d.ns d.np) with
  | nx ε => exact fun h => ⟨_, h, rfl⟩
  | brk ε => exact fun h => h.elim
  | cnt ε => exact fun h => h.elim
  | ret r ε => exact fun ⟨x, h1, h2⟩ => ⟨x, h2, h1⟩
  | exc c fs ε => exact fun h => h.elim
  | bad => exact fun h => h.elim
/-- what an __init__ hands back -/
def BackI (G : Tb) (c : Nat) (res : R LD) : Po := ⟨fun ε => finI G c (.nx ε) = res, fun _ => False, fun _ => False, fun _ => False, fun e fs _ => res = .exc e fs⟩
@[simp] theorem backI_N {G : Tb} {c : Nat} {res : R LD} {ε : En} : (BackI G c res).N ε = (finI G c (.nx ε) = res) := rfl
@[simp] theorem backI_B {G : Tb} {c : Nat} {res : R LD} {ε : En} : (BackI G c res).B ε = False := rfl
@[simp] theorem backI_C {G : Tb} {c : Nat} {res : R LD} {ε : En} : (BackI G c res).C ε = False := rfl
@[simp] theorem backI_T {G : Tb} {c : Nat} {res : R LD} {r : LD} : (BackI G c res).T r = False := rfl
@[simp] theorem backI_X {G : Tb} {c e : Nat} {res : R LD} {fs : List D} {ε : En} : (BackI G c res).X e fs ε = (res = .exc e fs) := rfl
@[simp] theorem finI_nx {G : Tb} {c e : Nat} {fs : List D} {r : En} : finI G c (.nx (some (5, .ins e fs) :: r)) = if e = c ∧ fs.length = (G.flds c).length then .ok (0, .ins c fs) else .bad := rfl
theorem mk_wp {G : Tb} {Fs : Nat → Option Fd} {n q c f : Nat} {d : Fd} {ds : List D} {res : R LD} (h : Fs f = some d) (hl : ds.length + 1 = d.np) (hn : q + 2 ≤ n)
    (H : ∀ m, q ≤ m → Wp (runs G (callI G Fs m) d.b (some (5, .ins c []) :: (ds.map (fun d => some (0, d)) ++ List.replicate (d.ns - d.np) none))) (BackI G c res)) : callI G Fs n (.mk c f ds) = res := by
  obtain ⟨m, rfl⟩ : ∃ m, n = m + 2 := ⟨n - 2, by omega⟩
  have H := H m (by omega)
  rw [callI_mk h hl]
  revert H
  cases runs G (callI G Fs m) d.b (some (5, .ins c []) :: (ds.map (fun d => some (0, d)) ++ List.replicate (d.ns - d.np) none)) with
  | nx ε => exact fun h => h
  | brk ε => exact fun h => h.elim
  | cnt ε => exact fun h => h.elim
  | ret r ε => exact fun h => h.elim
  | exc c fs ε => exact fun h => h.symm
  | bad => exact fun h => h.elim
/-- an item is stored at its target -/
def WpT (tg : Tg) (d : D) (ε : En) (K : En → Prop) : Prop := match setTg tg d ε with
  | some ε1 => K ε1
  | none => False
theorem WpT_one {i : Nat} {d : D} {ε : En} {K : En → Prop} : WpT (.one i) d ε K = if i < ε.length then K (ε.set i (some (0, d))) else False := by
  unfold WpT setTg
  by_cases h : i < ε.length <;> simp [h]
theorem WpT_two {i j : Nat} {a b : D} {ε : En} {K : En → Prop} : WpT (.two i j) (.tup [a, b]) ε K = if i < ε.length ∧ j < ε.length ∧ i ≠ j then K ((ε.set i (some (0, a))).set j (some (0, b))) else False := by
  unfold WpT setTg
  by_cases h : i < ε.length ∧ j < ε.length ∧ i ≠ j <;> simp [h]
theorem forL_wp {b : En → Out} {tg : Tg} {f : En → Out} {k : Po} : ∀ {xs : List D} {ε : En} (P : Nat → En → Prop) (i : Nat), P i ε →
    (∀ j (h : j < xs.length) ε, P (i + j) ε → WpT tg xs[j] ε fun ε1 => Wp (b ε1) ⟨P (i + j + 1), fun ε => Wp (f ε) k, P (i + j + 1), k.T, k.X⟩) →
    (∀ ε, P (i + xs.length) ε → Wp (f ε) k) → Wp (sq (forL b tg xs ε) f) k
  | [], ε, P, i, h0, _, hd => hd ε h0
  | d :: r, ε, P, i, h0, hs, hd => by
    have h1 := hs 0 (by simp) ε h0
    unfold WpT at h1
    unfold forL
    revert h1
    simp only [List.getElem_cons_zero]
    cases setTg tg d ε with
    | none => exact fun h => h.elim
    | some ε1 =>
      simp only []
      have nxt := fun ε2 (h2 : P (i + 1) ε2) => forL_wp (b := b) (tg := tg) (f := f) (k := k) (xs := r) (ε := ε2) P (i + 1) h2 (fun j h ε hp => by
        have := hs (j + 1) (by simpa using h) ε (by rw [show i + (j + 1) = i + 1 + j by omega]; exact hp)
        rw [show i + (j + 1) = i + 1 + j by omega] at this
        simpa using this) (fun ε hp => hd ε (by rw [List.length_cons, show i + (r.length + 1) = i + 1 + r.length by omega]; exact hp))
      cases b ε1 with
      | nx ε2 => exact fun h => nxt ε2 h
      | brk ε2 => exact fun h => h
      | cnt ε2 => exact fun h => nxt ε2 h
      | ret q ε2 => exact fun h => h
      | exc c fs ε2 => exact fun h => h
      | bad => exact fun h => h
/-- a try, by what holds behind its body -/
theorem wp_try {G : Tb} {cal : Cl → R LD} {b : Ss} {hs : List Hx} {ε : En} {f : En → Out} {k : Po} (h : Wp (runs G cal b ε) ⟨fun ε => Wp (f ε) k, k.B, k.C, k.T, fun c fs ε => Wp (sq (hdX G c fs hs ε) f) k⟩) : Wp (sq (tryK G hs (runs G cal b ε)) f) k := by
  revert h
  cases runs G cal b ε <;> exact id
/-- a for, by what holds ahead of each turn -/
theorem wp_for {G : Tb} {cal : Cl → R LD} {b : Ss} {tg : Tg} {xs : List D} {ε : En} {f : En → Out} {k : Po} (P : Nat → En → Prop) (h0 : P 0 ε)
    (hs : ∀ j (h : j < xs.length) ε, P j ε → WpT tg xs[j] ε fun ε1 => Wp (runs G cal b ε1) ⟨P (j + 1), fun ε => Wp (f ε) k, P (j + 1), k.T, k.X⟩)
    (hd : ∀ ε, P xs.length ε → Wp (f ε) k) : Wp (sq (forR G cal b tg xs ε) f) k :=
  forL_wp (b := fun ε => runs G cal b ε) P 0 h0 (fun j h ε hp => by simpa using hs j h ε (by simpa using hp)) (fun ε hp => hd ε (by simpa using hp))
/-- .. over a range from 0 -/
theorem wp_rng {G : Tb} {cal : Cl → R LD} {b : Ss} {i n : Nat} {ε : En} {f : En → Out} {k : Po} (P : Nat → En → Prop) (h0 : P 0 ε)
    (hs : ∀ j, j < n → ∀ ε, P j ε → i < ε.length ∧ Wp (runs G cal b (ε.set i (some (0, .int j)))) ⟨P (j + 1), fun ε => Wp (f ε) k, P (j + 1), k.T, k.X⟩)
    (hd : ∀ ε, P n ε → Wp (f ε) k) : Wp (sq (forR G cal b (.one i) (rngD 0 n) ε) f) k :=
  wp_for P h0 (fun j h ε hp => by
    rw [rngD_len] at h
    obtain ⟨h1, h2⟩ := hs j h ε hp
    have : (rngD 0 n)[j]'(by rw [rngD_len]; exact h) = .int j := by
      have := rngD_get n j 0 h
      rw [List.getElem?_eq_getElem (by rw [rngD_len]; exact h)] at this
      simpa using this
    rw [WpT_one, this, if_pos h1]
    exact h2) (fun ε hp => hd ε (by rw [rngD_len] at hp; exact hp))
theorem wp_rng2 {G : Tb} {cal : Cl → R LD} {b : Ss} {i n : Nat} {lo : Int} {ε : En} {f : En → Out} {k : Po} (P : Nat → En → Prop) (h0 : P 0 ε)
    (hs : ∀ j, j < n → ∀ ε, P j ε → i < ε.length ∧ Wp (runs G cal b (ε.set i (some (0, .int (lo + j))))) ⟨P (j + 1), fun ε => Wp (f ε) k, P (j + 1), k.T, k.X⟩)
    (hd : ∀ ε, P n ε → Wp (f ε) k) : Wp (sq (forR G cal b (.one i) (rngD lo n) ε) f) k :=
  wp_for P h0 (fun j h ε hp => by
    rw [rngD_len] at h
    obtain ⟨h1, h2⟩ := hs j h ε hp
    have : (rngD lo n)[j]'(by rw [rngD_len]; exact h) = .int (lo + j) := by
      have := rngD_get n j lo h
      rw [List.getElem?_eq_getElem (by rw [rngD_len]; exact h)] at this
      simpa using this
    rw [WpT_one, this, if_pos h1]
    exact h2) (fun ε hp => hd ε (by rw [rngD_len] at hp; exact hp))
/-- .. over what comes of a list -/
theorem wp_map {α : Type} {g : α → D} {G : Tb} {cal : Cl → R LD} {b : Ss} {i : Nat} {xs : List α} {ε : En} {f : En → Out} {k : Po} (P : Nat → En → Prop) (h0 : P 0 ε)
    (hs : ∀ j (h : j < xs.length) ε, P j ε → i < ε.length ∧ Wp (runs G cal b (ε.set i (some (0, g xs[j])))) ⟨P (j + 1), fun ε => Wp (f ε) k, P (j + 1), k.T, k.X⟩)
    (hd : ∀ ε, P xs.length ε → Wp (f ε) k) : Wp (sq (forR G cal b (.one i) (xs.map g) ε) f) k :=
  wp_for P h0 (fun j h ε hp => by
    rw [List.length_map] at h
    obtain ⟨h1, h2⟩ := hs j h ε hp
    rw [WpT_one, List.getElem_map, if_pos h1]
    exact h2) (fun ε hp => hd ε (by rw [List.length_map] at hp; exact hp))
theorem zip_len {α β : Type} {g : α → D} {h : β → D} : ∀ {xs : List α} {ys : List β}, (zipD (xs.map g) (ys.map h)).length = min xs.length ys.length
  | [], _ => by simp [zipD]
  | _ :: _, [] => by simp [zipD]
  | x :: xs, y :: ys => by
    simp only [List.map_cons, zipD, List.length_cons]
    rw [zip_len]
    omega
theorem zip_get {α β : Type} {g : α → D} {h : β → D} : ∀ {xs : List α} {ys : List β} {j : Nat} (hj : j < (zipD (xs.map g) (ys.map h)).length), (zipD (xs.map g) (ys.map h))[j] = .tup [g (xs[j]'(by rw [zip_len] at hj; omega)), h (ys[j]'(by rw [zip_len] at hj; omega))]
  | [], _, j, hj => by simp [zipD] at hj
  | _ :: _, [], j, hj => by simp [zipD] at hj
  | x :: xs, y :: ys, 0, hj => rfl
  | x :: xs, y :: ys, j + 1, hj => by
    simp only [List.map_cons, zipD, List.getElem_cons_succ]
    exact zip_get _
/-- .. over two lists at once -/
theorem wp_zip {α β : Type} {g : α → D} {h : β → D} {G : Tb} {cal : Cl → R LD} {b : Ss} {i1 i2 : Nat} {xs : List α} {ys : List β} {ε : En} {f : En → Out} {k : Po} (P : Nat → En → Prop) (h0 : P 0 ε)
    (hs : ∀ j (h1 : j < xs.length) (h2 : j < ys.length) ε, P j ε → (i1 < ε.length ∧ i2 < ε.length ∧ i1 ≠ i2) ∧ Wp (runs G cal b ((ε.set i1 (some (0, g xs[j]))).set i2 (some (0, h ys[j])))) ⟨P (j + 1), fun ε => Wp (f ε) k, P (j + 1), k.T, k.X⟩)
    (hd : ∀ ε, P (min xs.length ys.length) ε → Wp (f ε) k) : Wp (sq (forR G cal b (.two i1 i2) (zipD (xs.map g) (ys.map h)) ε) f) k :=
  wp_for P h0 (fun j hj ε hp => by
    have hl := hj
    rw [zip_len] at hl
    obtain ⟨h1, h2⟩ := hs j (by omega) (by omega) ε hp
    rw [zip_get, WpT_two, if_pos h1]
    exact h2) (fun ε hp => hd ε (by rw [zip_len] at hp; exact hp))
/-! ### shares of what is told -/
section
variable {l : Nat} {x d : D} {r : List LD} {as : List LD} {ds ys : List D}
@[simp] theorem i_intb {b : Bool} : biV .int1 [(l, .bl b)] = .ok (0, .int (if b then 1 else 0)) := by cases b <;> rfl
@[simp] theorem lf_non : D.non.lf = true := rfl
@[simp] theorem lf_bl {b : Bool} : (D.bl b).lf = true := rfl
@[simp] theorem lf_int {b : Int} : (D.int b).lf = true := rfl
@[simp] theorem lf_str {b : Str} : (D.str b).lf = true := rfl
@[simp] theorem lf_tup : (D.tup ds).lf = D.lfs ds := rfl
@[simp] theorem lf_lst : (D.lst ds).lf = false := rfl
@[simp] theorem lf_ins {c : Nat} : (D.ins c ds).lf = D.lfs ds := rfl
@[simp] theorem lfs_nil : D.lfs [] = true := rfl
@[simp] theorem lfs_cons : D.lfs (d :: ds) = (d.lf && D.lfs ds) := rfl
@[simp] theorem lfs_iL {xs : List Int} : D.lfs (iL xs) = true := iL_lf xs
@[simp] theorem lfs_app : D.lfs (ds ++ ys) = (D.lfs ds && D.lfs ys) := lfs_append ds ys
@[simp] theorem shrs_nil : shrs [] = .ok [] := rfl
@[simp] theorem shrs_cons (h : l ≤ 2) : shrs ((l, x) :: r) = (shrs r).bind fun ds => .ok (x :: ds) := by simp [shrs, shr, h, R.bind]
@[simp] theorem pack_nil : pack [] = .ok (2, .lst []) := by simp [pack, shrs, R.bind, packL, lim]
@[simp] theorem pack_cons {y : LD} : pack (y :: r) = (shrs (y :: r)).bind fun ds => if ds.length ≤ 1000000 then .ok (if packL (y :: r) then 2 else 1, .lst ds) else .bad := rfl
@[simp] theorem packL_nil : packL [] = true := rfl
@[simp] theorem packL_cons {y : LD} : packL (y :: r) = ((y.1 == 2 || y.2.lf) && packL r) := rfl
@[simp] theorem data_nil : data [] = some [] := rfl
@[simp] theorem data_cons (h : l ≤ 4) : data ((l, x) :: r) = (data r).map (x :: ·) := by
  unfold data
  simp only [List.all_cons, h, decide_true, Bool.true_and, List.map_cons]
  split <;> rfl
@[simp] theorem callD_nil {cal : Cl → R LD} {f : Nat} : callD cal f d [] = back [] (cal (.fn f [d])) := rfl
@[simp] theorem callD_cons {cal : Cl → R LD} {f : Nat} {y : LD} : callD cal f d (y :: r) = match data (y :: r) with
    | some ds => back (y :: r) (cal (.fn f (d :: ds)))
    | none => .bad := rfl
@[simp] theorem makeV_nil {G : Tb} {cal : Cl → R LD} {c f sh : Nat} {bs : List LD} : makeV G cal c f sh [] bs = match data bs with
    | some es => (match G.asm sh [] es with
      | some r => back ([] ++ bs) (cal (.mk c f r))
      | none => .bad)
    | none => .bad := by unfold makeV; cases data bs <;> rfl
@[simp] theorem makeV_cons {G : Tb} {cal : Cl → R LD} {c f sh : Nat} {y : LD} {bs : List LD} : makeV G cal c f sh (y :: r) bs = match data (y :: r), data bs with
    | some ds, some es => (match G.asm sh ds es with
      | some q => back (y :: r ++ bs) (cal (.mk c f q))
      | none => .bad)
    | _, _ => .bad := rfl
@[simp] theorem lent_nil : lent [] = false := rfl
@[simp] theorem lent_cons {y : LD} : lent (y :: r) = (decide (3 ≤ y.1) || lent r) := rfl
@[simp] theorem back_ok : back as (.ok (l, d)) = if l ≤ 2 ∧ (lent as = false ∨ l = 2 ∨ d.lf = true ∨ apart as d = true) then .ok (l, d) else .bad := rfl
@[simp] theorem apart_lst {xs : List D} : apart as (.lst xs) = (D.lfs xs && as.all (apA (xs.map hk))) := rfl
@[simp] theorem apA_0 {ks : List Nat} : apA ks (0, x) = true := rfl
@[simp] theorem apA_1 {ks : List Nat} : apA ks (1, x) = true := rfl
@[simp] theorem apA_2 {ks : List Nat} : apA ks (2, x) = true := rfl
@[simp] theorem apA_nil {xs : List Int} (h : 0 < xs.length) : apA ((iL xs).map hk) (4, .lst []) = true := by
  cases xs with
  | nil => simp at h
  | cons x r => simp [apA, apD, apDs, iL]
@[simp] theorem back_exc {c : Nat} : back as (.exc c ds) = if lent as = false ∨ D.lfs ds = true then .exc c ds else .bad := rfl
@[simp] theorem putS_eq {i : Nat} {o : Option LD} {ε : En} : putS i o ε = if i < ε.length then .nx (ε.set i o) else .bad := rfl
@[simp] theorem startE_eq {ns np : Nat} : startE ds ns np = ds.map (fun d => some (0, d)) ++ List.replicate (ns - np) none := rfl
@[simp] theorem fz_ok (h : l ≤ 2) : fzV (l, d) = .ok (0, d) := if_pos h
@[simp] theorem shb_eq {xs : List D} : shb l xs = (l == 0 || l == 1 || l == 3 || D.lfs xs) := rfl
@[simp] theorem newL_eq {xs : List D} {b : Bool} : newL xs b = (if b then 2 else 1, .lst xs) := rfl
@[simp] theorem iL_length {xs : List Int} : (iL xs).length = xs.length := iL_len
@[simp] theorem iL_concat {xs : List Int} {y : Int} : iL xs ++ [.int y] = iL (xs ++ [y]) := iL_snoc
@[simp] theorem lvWith_eq {lv : Nat} {y : LD} : lvWith lv y = if lv = 2 ∧ (y.1 = 2 ∨ y.2.lf = true) then 2 else 1 := rfl
@[simp] theorem lim_eq : lim = 1000000 := rfl
@[simp] theorem eqD_int {i j : Int} : eqD (.int i) (.int j) = .ok (decide (i = j)) := q_int
@[simp] theorem eqD_bl {i j : Bool} : eqD (.bl i) (.bl j) = .ok (i == j) := q_bl
@[simp] theorem eqD_lst {xs ys : List Int} : eqD (.lst (iL xs)) (.lst (iL ys)) = .ok (decide (xs = ys)) := q_lst
@[simp] theorem eqD_tup {xs ys : List Int} : eqD (.tup (iL xs)) (.tup (iL ys)) = .ok (decide (xs = ys)) := q_tup
end
/-! ### lists of integers, rows -/
def gI (xs : List Int) (k : Nat) : Int := xs.getD k 0
def rL (rows : List (List Int)) : List D := rows.map fun r => .lst (iL r)
def rT (rows : List (List Int)) : List D := rows.map fun r => .tup (iL r)
def gR (rows : List (List Int)) (k : Nat) : List Int := rows.getD k []
theorem gI_at {xs : List Int} {k : Nat} (h : k < xs.length) : gI xs k = xs[k] := by simp [gI, h]
theorem gR_at {xs : List (List Int)} {k : Nat} (h : k < xs.length) : gR xs k = xs[k] := by simp [gR, h]
theorem gI_mem {xs : List Int} {k : Nat} (h : k < xs.length) : gI xs k ∈ xs := by rw [gI_at h]; exact List.getElem_mem _
theorem gR_mem {xs : List (List Int)} {k : Nat} (h : k < xs.length) : gR xs k ∈ xs := by rw [gR_at h]; exact List.getElem_mem _
@[simp] theorem apA_rnil {xs : List Int} (h : 0 < xs.length) : apA ((iL xs).map hk) (4, .lst (rL [])) = true := apA_nil h
@[simp] theorem apA_rows {xs : List Int} {rows : List (List Int)} (h : 0 < xs.length) : apA ((iL xs).map hk) (3, .lst (rL rows)) = true := by
  cases xs with
  | nil => simp at h
  | cons x r => cases rows <;> simp [apA, apT, iL, rL, hk]
@[simp] theorem rL_len {rows : List (List Int)} : (rL rows).length = rows.length := by simp [rL]
@[simp] theorem rT_len {rows : List (List Int)} : (rT rows).length = rows.length := by simp [rT]
@[simp] theorem rL_snoc {rows : List (List Int)} {r : List Int} : rL rows ++ [.lst (iL r)] = rL (rows ++ [r]) := by simp [rL]
@[simp] theorem rT_snoc {rows : List (List Int)} {r : List Int} : rT rows ++ [.tup (iL r)] = rT (rows ++ [r]) := by simp [rT]
@[simp] theorem rT_lf {rows : List (List Int)} : D.lfs (rT rows) = true := by
  induction rows with
  | nil => rfl
  | cons r t ih => simp only [rT, List.map_cons, D.lfs, D.lf, iL_lf, Bool.true_and]; exact ih
@[simp] theorem ixN_ok {n : Nat} {i : Int} (h0 : 0 ≤ i) (h : i < n) : L2.ixN n i = some i.toNat := by unfold L2.ixN; rw [if_pos h0, if_pos h]
theorem atI_ok {α : Type} {xs : List α} {i : Int} (h0 : 0 ≤ i) (h : i < xs.length) : L2.atI xs i = xs[i.toNat]? := by
  unfold L2.atI
  rw [ixN_ok h0 h]
  rfl
@[simp] theorem at_gI {xs : List Int} {i : Int} (h0 : 0 ≤ i) (h : i < xs.length) : L2.atI (iL xs) i = some (.int (gI xs i.toNat)) := by
  rw [atI_ok h0 (by rw [iL_len]; exact h), gI]
  have : i.toNat < xs.length := by omega
  simp [iL, this]
@[simp] theorem at_gL {xs : List (List Int)} {i : Int} (h0 : 0 ≤ i) (h : i < xs.length) : L2.atI (rL xs) i = some (.lst (iL (gR xs i.toNat))) := by
  rw [atI_ok h0 (by rw [rL_len]; exact h), gR]
  have : i.toNat < xs.length := by omega
  simp [rL, this]
@[simp] theorem at_gT {xs : List (List Int)} {i : Int} (h0 : 0 ≤ i) (h : i < xs.length) : L2.atI (rT xs) i = some (.tup (iL (gR xs i.toNat))) := by
  rw [atI_ok h0 (by rw [rT_len]; exact h), gR]
  have : i.toNat < xs.length := by omega
  simp [rT, this]
@[simp] theorem iL_set {xs : List Int} {k : Nat} {x : Int} : (iL xs).set k (.int x) = iL (xs.set k x) := by simp [iL, List.map_set]
theorem gI_set {xs : List Int} {k j : Nat} {x : Int} : gI (xs.set k x) j = if j = k ∧ k < xs.length then x else gI xs j := by
  unfold gI
  rw [List.getD_eq_getElem?_getD, List.getElem?_set]
  by_cases h : k = j
  · subst h
    by_cases h2 : k < xs.length <;> simp [h2]
  · have : ¬ j = k := fun e => h e.symm
    simp [h, this]
theorem eq_gI {xs ys : List Int} (h : xs.length = ys.length) (q : ∀ k, k < xs.length → gI xs k = gI ys k) : xs = ys := by
  refine List.ext_getElem h fun k h1 h2 => ?_
  have := q k h1
  rwa [gI_at h1, gI_at h2] at this
@[simp] theorem items_l0 {st : Bool} {xs : List D} : items st (0, .lst xs) = .ok xs := by simp [items, shb]
@[simp] theorem items_l1 {st : Bool} {xs : List D} : items st (1, .lst xs) = .ok xs := by simp [items, shb]
@[simp] theorem items_l3 {xs : List D} : items false (3, .lst xs) = .ok xs := by simp [items, shb]
@[simp] theorem items_l2 {st : Bool} {xs : List D} (h : D.lfs xs = true) : items st (2, .lst xs) = .ok xs := by simp [items, shb, h]
@[simp] theorem items_l4 {xs : List D} (h : D.lfs xs = true) : items false (4, .lst xs) = .ok xs := by simp [items, shb, h]
@[simp] theorem items_tup {st : Bool} {l : Nat} {xs : List D} : items st (l, .tup xs) = .ok xs := rfl
/-! ### numbers of moderate size -/
section
variable {l m : Nat} {i j : Int}
theorem big_le {n : Nat} (h : n ≤ 2 ^ 240) : n < bigN := Nat.lt_of_le_of_lt h (Nat.lt_of_lt_of_le (by decide) bigN_ge)
@[simp] theorem m_mul (h1 : i.natAbs ≤ 2 ^ 240) (h2 : j.natAbs ≤ 2 ^ 240) : bopV .mul (l, .int i) (m, .int j) = .ok (0, .int (i * j)) := by rw [p_mul, if_pos ⟨big_le h1, big_le h2⟩]
@[simp] theorem m_div (h1 : 0 < j) (h2 : j ≤ 2 ^ 240) : bopV .fdiv (l, .int i) (m, .int j) = .ok (0, .int (i / j)) := by rw [p_div, if_pos ⟨h1, big_le (by omega)⟩]
@[simp] theorem m_mod (h1 : 0 < j) : bopV .mod (l, .int i) (m, .int j) = .ok (0, .int (i % j)) := by rw [p_mod, if_pos h1]
@[simp] theorem m_pow (h1 : 0 ≤ j) (h2 : j ≤ 1000000) (h3 : i.natAbs < 2 ^ 64) : bopV .pow (l, .int i) (m, .int j) = .ok (0, .int (i ^ j.toNat)) := by rw [p_pow, if_pos ⟨h1, h2, h3⟩]
end
/-! ### comprehensions -/
theorem compL_map {α : Type} {g : α → D} {F : D → R (Option LD)} {p : α → Bool} {f : α → LD} : ∀ {xs : List α}, (∀ x ∈ xs, F (g x) = .ok (if p x = true then some (f x) else none)) → compL F (xs.map g) = .ok ((xs.filter p).map f)
  | [], _ => rfl
  | x :: r, h => by
    have h1 := h x (List.mem_cons_self ..)
    have h2 := compL_map (g := g) (F := F) (p := p) (f := f) (xs := r) fun y m => h y (List.mem_cons_of_mem _ m)
    simp only [List.map_cons, compL, h1, h2, R.bind, List.filter_cons]
    cases p x <;> rfl
theorem shrs_map {α : Type} {f : α → LD} : ∀ {xs : List α}, (∀ x ∈ xs, (f x).1 ≤ 2) → shrs (xs.map f) = .ok (xs.map fun x => (f x).2)
  | [], _ => rfl
  | x :: r, h => by
    simp only [List.map_cons, shrs, shr, if_pos (h x (List.mem_cons_self ..)), R.bind, shrs_map fun y m => h y (List.mem_cons_of_mem _ m)]
theorem packL_map {α : Type} {f : α → LD} : ∀ {xs : List α}, (∀ x ∈ xs, (f x).1 = 2 ∨ (f x).2.lf = true) → packL (xs.map f) = true
  | [], _ => rfl
  | x :: r, h => by
    simp only [List.map_cons, packL, packL_map fun y m => h y (List.mem_cons_of_mem _ m), Bool.and_true]
    simpa using h x (List.mem_cons_self ..)
/-- what is made is one's own, whole -/
theorem comp2 {α : Type} {g : α → D} {G : Tb} {cal : Cl → R LD} {tg : Tg} {t : To} {e : E} {ε : En} {xs : List α} (p : α → Bool) (f : α → D) (l : α → Nat) (hl : xs.length ≤ 1000000)
    (h : ∀ x ∈ xs, WpT tg (g x) ε fun ε' => evTo G cal t ε' = .ok (p x) ∧ (p x = true → evE G cal e ε' = .ok (l x, f x) ∧ (l x = 2 ∨ (l x ≤ 2 ∧ (f x).lf = true)))) :
    (compR G cal tg t e ε (xs.map g)).bind pack = .ok (2, .lst ((xs.filter p).map f)) := by
  have h' : ∀ x ∈ xs, compF tg (evTo G cal t) (evE G cal e) ε (g x) = .ok (if p x = true then some (l x, f x) else none) := fun x m => by
    have h1 := h x m
    unfold WpT at h1
    unfold compF
    revert h1
    cases setTg tg (g x) ε with
    | none => exact fun h => h.elim
    | some ε' =>
      rintro ⟨h1, h2⟩
      simp only [h1, noX, R.bind]
      cases hp : p x with
      | false => simp
      | true => simp [(h2 hp).1]
  have hl2 : ∀ x ∈ xs.filter p, l x = 2 ∨ (l x ≤ 2 ∧ (f x).lf = true) := fun x m => by
    obtain ⟨m1, m2⟩ := List.mem_filter.mp m
    have h1 := h x m1
    unfold WpT at h1
    revert h1
    cases setTg tg (g x) ε with
    | none => exact fun h => h.elim
    | some ε' => exact fun h => (h.2 m2).2
  unfold compR
  rw [compL_map h']
  show pack _ = _
  unfold pack
  rw [shrs_map (f := fun x => (l x, f x)) fun x m => by
    rcases hl2 x m with q | q
    · show l x ≤ 2; omega
    · exact q.1]
  rw [packL_map fun x m => by
    rcases hl2 x m with q | q
    · exact .inl q
    · exact .inr q.2]
  show (if _ ≤ lim then _ else _) = _
  rw [if_pos]
  · rfl
  · rw [List.length_map]
    exact Nat.le_trans (List.length_filter_le _ _) hl
theorem comp2n {α : Type} {g : α → D} {G : Tb} {cal : Cl → R LD} {tg : Tg} {e : E} {ε : En} {xs : List α} (f : α → D) (l : α → Nat) (hl : xs.length ≤ 1000000)
    (h : ∀ x ∈ xs, WpT tg (g x) ε fun ε' => evE G cal e ε' = .ok (l x, f x) ∧ (l x = 2 ∨ (l x ≤ 2 ∧ (f x).lf = true))) :
    (compR G cal tg .none e ε (xs.map g)).bind pack = .ok (2, .lst (xs.map f)) := by
  rw [comp2 (fun _ => true) f l hl fun x m => by
    have h1 := h x m
    unfold WpT at h1 ⊢
    revert h1
    cases setTg tg (g x) ε with
    | none => exact fun h => h
    | some ε' => exact fun h => ⟨rfl, fun _ => h⟩]
  rw [List.filter_eq_self.mpr fun _ _ => rfl]
/-- what is made is one's own at its top -/
theorem comp1n {α : Type} {g : α → D} {G : Tb} {cal : Cl → R LD} {tg : Tg} {e : E} {ε : En} {xs : List α} (f : α → D) (hl : xs.length ≤ 1000000)
    (h : ∀ x ∈ xs, WpT tg (g x) ε fun ε' => evE G cal e ε' = .ok (0, f x)) :
    ∃ l, (l = 1 ∨ l = 2) ∧ (compR G cal tg .none e ε (xs.map g)).bind pack = .ok (l, .lst (xs.map f)) := by
  have h' : ∀ x ∈ xs, compF tg (evTo G cal .none) (evE G cal e) ε (g x) = .ok (if true = true then some (0, f x) else none) := fun x m => by
    have h1 := h x m
    unfold WpT at h1
    unfold compF
    revert h1
    cases setTg tg (g x) ε with
    | none => exact fun h => h.elim
    | some ε' =>
      intro h1
      simp [evTo, h1, noX, R.bind]
  unfold compR
  rw [compL_map (p := fun _ => true) (f := fun x => (0, f x)) h']
  rw [List.filter_eq_self.mpr fun _ _ => rfl]
  show ∃ l, (l = 1 ∨ l = 2) ∧ pack _ = _
  unfold pack
  rw [shrs_map (f := fun x => ((0 : Nat), f x)) fun x m => by show 0 ≤ 2; omega]
  show ∃ l, (l = 1 ∨ l = 2) ∧ (if _ ≤ lim then _ else _) = _
  rw [if_pos (by rw [List.length_map]; exact hl)]
  exact ⟨_, by split <;> simp, rfl⟩
theorem rng_map : ∀ (n : Nat), rngD 0 n = (List.range n).map fun (i : Nat) => D.int (i : Int) := by
  intro n
  apply List.ext_getElem
  · rw [rngD_len]; simp
  · intro i h1 h2
    rw [rngD_len] at h1
    have := rngD_get n i 0 h1
    rw [List.getElem?_eq_getElem (by rw [rngD_len]; exact h1)] at this
    simpa using this
/-! ### cells: marks that are shown, or not -/
def oD : Option Int → D
  | none => .non
  | some i => .int i
@[simp] theorem oD_none : oD none = .non := rfl
@[simp] theorem oD_some {i : Int} : oD (some i) = .int i := rfl
@[simp] theorem oD_lf {c : Option Int} : (oD c).lf = true := by cases c <;> rfl
def oL (cs : List (Option Int)) : List D := cs.map oD
def oR (rs : List (List (Option Int))) : List D := rs.map fun r => .lst (oL r)
def oT (rs : List (List (Option Int))) : List D := rs.map fun r => .tup (oL r)
def gC (cs : List (Option Int)) (k : Nat) : Option Int := cs.getD k none
def gCs (rs : List (List (Option Int))) (k : Nat) : List (Option Int) := rs.getD k []
@[simp] theorem oL_len {cs : List (Option Int)} : (oL cs).length = cs.length := by simp [oL]
@[simp] theorem oR_len {rs : List (List (Option Int))} : (oR rs).length = rs.length := by simp [oR]
@[simp] theorem oT_len {rs : List (List (Option Int))} : (oT rs).length = rs.length := by simp [oT]
@[simp] theorem oL_lf {cs : List (Option Int)} : D.lfs (oL cs) = true := by
  induction cs with
  | nil => rfl
  | cons c r ih => simp only [oL] at ih; simp only [oL, List.map_cons, D.lfs, oD_lf, Bool.true_and]; exact ih
@[simp] theorem oT_lf {rs : List (List (Option Int))} : D.lfs (oT rs) = true := by
  induction rs with
  | nil => rfl
  | cons r t ih => simp only [oT] at ih; simp only [oT, List.map_cons, D.lfs, D.lf, oL_lf, Bool.true_and]; exact ih
end RS

/-! RsHook -/
namespace RS
open PySem PySem.Spec
open PyProof.Rows L2
/-! ### a text as tables -/
theorem look2_in {α : Type} {x : α} {a b : Nat} : ∀ {l : List (Nat × Nat × α)}, look2 l a b = some x → (a, b, x) ∈ l
  | [], h => by cases h
  | (c, d, y) :: r, h => by
    unfold look2 at h
    split at h
    · rename_i e
      obtain ⟨rfl, rfl⟩ := e
      cases h
      exact List.mem_cons_self ..
    · exact List.mem_cons_of_mem _ (look2_in h)
theorem look3_in {α : Type} {x : α} {a b e : Nat} : ∀ {l : List (Nat × Nat × Nat × α)}, look3 l a b e = some x → (a, b, e, x) ∈ l
  | [], h => by cases h
  | (c, d, f, y) :: r, h => by
    unfold look3 at h
    split at h
    · rename_i e
      obtain ⟨rfl, rfl, rfl⟩ := e
      cases h
      exact List.mem_cons_self ..
    · exact List.mem_cons_of_mem _ (look3_in h)
theorem lookup_in {α : Type} {l : List (Nat × α)} {f : Nat} {p : α} (h : l.lookup f = some p) : (f, p) ∈ l := by
  induction l with
  | nil => cases h
  | cons q r ih =>
    obtain ⟨g, q⟩ := q
    rw [List.lookup_cons] at h
    split at h
    · rename_i e
      rw [beq_iff_eq] at e
      cases h; subst e
      exact List.mem_cons_self ..
    · exact List.mem_cons_of_mem _ (ih h)
theorem emT_sh {k : Kc} {K : PySem.W.Frag} {Z : Hp} {a : Addr} (hk : k.K = K) (h : emT K a = true) : Sh k Z (.ref a) (.tup []) := by
  unfold emT at h
  split at h
  · rename_i c d its n sl e
    simp only [Bool.and_eq_true, beq_iff_eq, List.isEmpty_iff] at h
    obtain ⟨rfl, h2⟩ := h
    refine .tup (xs := []) (.inr ⟨_, its, n, by rw [hk]; exact e, rfl, rfl, ?_, ?_⟩) .nil
    · have : its.size = 0 := by rw [← Array.length_toList, h2]; rfl
      rw [this]; exact Nat.zero_le _
    · rw [h2]; exact .nil
  · cases h
namespace Txt
variable (T : Txt)
def nm : Nm := ⟨T.fnN, fun c => (T.cls.lookup c).map (·.x), fun m => T.ats.lookup m, fun s => T.shs.lookup s, fun g => (T.gls.lookup g).map (·.1), fun s => T.fks.lookup s, fun s => T.sts.lookup s, fun c => if c = 900 then some "ValueError" else (T.xcs.lookup c).map (·.x), fun c => if (T.xin.lookup c).isSome then (T.xcs.lookup c).map (fun q => q.fl.length) else none, fun c => T.xos.contains c⟩
def kc (K : PySem.W.Frag) : Kc := ⟨K, T.ca K, fun c => (T.cl c).fl, fun c => (T.cl c).sl, fun c => (T.cl c).fl.map fun f => (PySem.W.slotIn K (He.ma K (T.ca K c) f) (T.ca K c)).getD 0, T.G, 0⟩
end Txt
/-! ### a def's check -/
theorem scB_ok {N P : List Str} {sc : Scope} (h : scB N P sc = true) : FnScope N P sc := by
  unfold scB at h
  simp only [Bool.and_eq_true, Bool.not_eq_true', decide_eq_true_eq, List.all_eq_true] at h
  obtain ⟨⟨⟨⟨⟨⟨h1, h2⟩, h3⟩, h4⟩, h5⟩, h6⟩, h7⟩ := h
  refine ⟨?_, h2, h3, h4, h5, fun x hx => ?_, fun y hy e => ?_⟩
  · unfold isFn at h1
    split at h1
    · assumption
    · cases h1
  · have := h6 x hx
    split at this
    · exact .inl (by assumption)
    · exact .inr (by assumption)
    · cases this
  · have := h7 y hy
    rw [e] at this
    cases this
def suB (nm : Nm) (t : DefT) (d : Fd) (n : Nat) : Bool := NdefX.nscB t.N t.ps [clsN] t.scope && decide (t.scope.names.lookup ("super" : Str) = some .globalImplicit) &&
  (match (t.args.posonlyargs ++ t.args.args).head? with | some ar => decide (t.N[0]? = some ar.arg) && decide (t.scope.names.lookup ar.arg = some .local) | none => false) && chkSsA ⟨nm, t.N⟩ t.scope n d.b t.body
theorem suB_ok {nm : Nm} {t : DefT} {d : Fd} {n : Nat} (h : suB nm t d n = true) : DefSu nm t d n := by
  unfold suB at h
  simp only [Bool.and_eq_true, decide_eq_true_eq] at h
  obtain ⟨⟨⟨h1, h2⟩, h3⟩, h4⟩ := h
  refine ⟨NdefX.nscope_by h1, h2, ?_, h4⟩
  split at h3
  · rename_i ar e
    simp only [Bool.and_eq_true, decide_eq_true_eq] at h3
    exact ⟨ar, e, h3.1, h3.2⟩
  · cases h3
def chkD (nm : Nm) (p : Nat × DefT × Fd) : Bool := decide (p.2.2.np = p.2.1.ps.length) && decide (p.2.2.ns = p.2.1.N.length) && (match p.2.1.su with
  | none => scB p.2.1.N p.2.1.ps p.2.1.scope && chkSs ⟨nm, p.2.1.N⟩ p.2.1.scope p.2.2.b p.2.1.body
  | some q => suB nm p.2.1 p.2.2 q.1)
theorem chkD_ok {nm : Nm} {p : Nat × DefT × Fd} (h : chkD nm p = true) : DefOk nm p.2.1 p.2.2 := by
  unfold chkD at h
  simp only [Bool.and_eq_true, decide_eq_true_eq] at h
  obtain ⟨⟨h1, h2⟩, h3⟩ := h
  refine ⟨h1, h2, fun e => ?_, fun q e => ?_⟩
  · rw [e] at h3
    simp only [Bool.and_eq_true] at h3
    exact ⟨scB_ok h3.1, h3.2⟩
  · rw [e] at h3
    exact suB_ok h3
/-! ### what the heap says, checked -/
theorem slotB_ok {K : PySem.W.Frag} {C : Addr} {f : Str} (h : slotB K C f = true) : ∃ i, SlX.Slot1 K C f (He.ma K C f) i ∧ PySem.W.slotIn K (He.ma K C f) C = some i := by
  unfold slotB eqF at h
  simp only [Bool.and_eq_true, decide_eq_true_eq] at h
  obtain ⟨⟨⟨⟨h1, h2⟩, h3⟩, h4⟩, h5⟩ := h
  split at h5
  · rename_i i e
    exact ⟨i, ⟨He.eqO_ok h1, He.eqO_ok h2, h3, h4, e, of_decide_eq_true h5⟩, e⟩
  · cases h5
theorem sclsB_ok {K : PySem.W.Frag} {C : Addr} (h : sclsB K C = true) : SlX.SCls K C := by
  unfold sclsB at h
  simp only [Bool.and_eq_true] at h
  exact ⟨h.1.1.1, h.1.1.2, h.1.2, He.eqO_ok h.2⟩

theorem fldIx_to : ∀ {fs : List Nat} {f j : Nat}, fldIx fs f = some j → fs[j]? = some f
  | [], f, j, h => by cases h
  | g :: r, f, j, h => by
    unfold fldIx at h
    by_cases hg : g = f
    · rw [if_pos hg] at h
      cases h; subst hg; rfl
    · rw [if_neg hg] at h
      cases e : fldIx r f with
      | none => rw [e] at h; cases h
      | some i =>
        rw [e] at h
        cases h
        have q : r[i]? = some f := fldIx_to e
        exact q
theorem ba2 {a b : Bool} (h : (a && b) = true) : a = true ∧ b = true := Bool.and_eq_true_iff.mp h
namespace Txt
variable (T : Txt)
/-- what a call shape binds -/
def ShOk (p : Nat × Nat × Nat × Nat × List Str) : Prop := ∀ t d, T.tab.lookup p.2.2.1 = some (t, d) → ∀ (K : PySem.W.Frag), (∀ p ∈ T.ets, emT K (p K) = true) → ∀ fd, Stands K t fd → ∃ gg gV, KBn K fd t.ps (p.2.2.2.1 + 1) p.2.2.2.2 gg gV ∧
  ∀ (k : Kc), k.K = K → ∀ (Z : Hp) (y : V) (vs zs : List V) (ds es r : List D), T.asm p.1 ds es = some r → Shs k Z vs ds → Shs k Z zs es → vs.length = p.2.2.2.1 → zs.length = p.2.2.2.2.length → ∃ ws, gV (y :: vs) zs = y :: ws ∧ Shs k Z ws r
/-- how a def's values are bound by keywords and defaults -/
def KwOk (sh f n : Nat) (ks : List Str) : Prop := ∀ t d, T.tab.lookup f = some (t, d) → ∀ (K : PySem.W.Frag), (∀ p ∈ T.ets, emT K (p K) = true) → ∀ fd, Stands K t fd → ∃ gg gV, KBn K fd t.ps n ks gg gV ∧
  ∀ (k : Kc), k.K = K → ∀ (Z : Hp) (vs zs : List V) (ds es r : List D), T.asm sh ds es = some r → Shs k Z vs ds → Shs k Z zs es → vs.length = n → zs.length = ks.length → Shs k Z (gV vs zs) r
/-- an exception's own __init__, its text checked -/
def xinD (t : DefT) (fl : List Str) : Bool := NdefX.nscB t.N t.ps [clsN] t.scope && (decide (t.scope.names.lookup ("super" : Str) = some .globalImplicit) && ((match (t.args.posonlyargs ++ t.args.args).head? with | some ar => decide (t.N[0]? = some ar.arg) && decide (t.scope.names.lookup ar.arg = some .local) | none => false) &&
  (xinB t.N t.scope fl.reverse (t.ps.drop 1) t.body && (!fl.isEmpty && (decide (fl.length ≤ 900) && decide (t.ps.length = fl.length + 1))))))
theorem xinD_ok {t : DefT} {fl : List Str} (h : xinD t fl = true) : XinT t fl := by
  unfold xinD at h
  obtain ⟨h1, h⟩ := ba2 h
  obtain ⟨h2, h⟩ := ba2 h
  obtain ⟨h3, h⟩ := ba2 h
  obtain ⟨h4, h⟩ := ba2 h
  obtain ⟨h5, h⟩ := ba2 h
  obtain ⟨h6, h7⟩ := ba2 h
  refine ⟨NdefX.nscope_by h1, of_decide_eq_true h2, ?_, h4, (fun e => by rw [e] at h5; cases h5), ⟨of_decide_eq_true h6, of_decide_eq_true h7⟩⟩
  split at h3
  · rename_i ar e
    simp only [Bool.and_eq_true, decide_eq_true_eq] at h3
    exact ⟨ar, e, h3.1, h3.2⟩
  · cases h3
def xiD (p : Nat × Nat) : Bool := match T.xcs.lookup p.1, T.xtb.lookup p.2 with
  | some q, some t => xinD t q.fl
  | _, _ => false
def BdX (t : DefT) : Prop := ∀ (K : PySem.W.Frag) fd, Stands K t fd → Binds K fd t.ps []
def BdOk (p : Nat × DefT × Fd) : Prop := plainD p.2.1 = true → ∀ (K : PySem.W.Frag) fd, Stands K p.2.1 fd → Binds K fd p.2.1.ps []
theorem oex_of {K : PySem.W.Frag} {C : Addr} (h : (match K.lookup C with
    | some ⟨.type "type", _, .cls cd, sl⟩ => (match cd.mro, sl.toList with
      | .ref C' :: bm, [_, _, _, _, some (.builtin n), _] => decide (C' = C) && decide (n = "ValueError.__new__") && cd.hasDict && !cd.hasDel && PySem.HandSPX.refsVE bm
      | _, _ => false)
    | _ => false) = true) : ∃ nm q N bs bm sn sub ab col dd k0 k1 k2 k3 k5, K.lookup C = some (excClassObj nm q C N bs bm true sn sub ab col dd k0 k1 k2 k3 k5 "ValueError.__new__") ∧ PySem.HandSPX.refsVE bm = true := by
  split at h
  · rename_i dd cd sl ho
    split at h
    · rename_i C' bm k0 k1 k2 k3 n k5 hm hs
      simp only [Bool.and_eq_true, decide_eq_true_eq, Bool.not_eq_true'] at h
      obtain ⟨⟨⟨⟨rfl, rfl⟩, hdct⟩, hdel⟩, ht⟩ := h
      obtain ⟨nm, bs, mro, ns, qn, hd, sn, sub, ab, col, del⟩ := cd
      dsimp only at hm hdel hdct
      subst hm hdel hdct
      have hsl : sl = #[k0, k1, k2, k3, some (.builtin "ValueError.__new__"), k5] := by
        obtain ⟨l⟩ := sl
        simp only at hs
        rw [hs]
      subst hsl
      exact ⟨nm, qn, ns, bs, bm, sn, sub, ab, col, dd, k0, k1, k2, k3, k5, ho, ht⟩
    · cases h
  · cases h
theorem xcl {cc : Nat} {q : ClT} (h1 : T.cls.lookup cc = none) (h2 : T.xcs.lookup cc = some q) : T.cl cc = ⟨q.x, [], q.fl, false⟩ := by
  unfold cl
  rw [h1, h2]
/-- an exception's class, checked -/
theorem xc_ok {K : PySem.W.Frag} {h : Heap} {mg : Str → Option Value} (X : K.In h) (G : h.Ns mainGlobals mg) {cc : Nat} {q : ClT} (e : T.xcs.lookup cc = some q) (c : T.xcB K (cc, q) = true) :
    T.ca K cc = He.ga K q.x ∧ (T.kc K).fl cc = q.fl ∧ cc ≠ cVE ∧ mg q.x = some (.ref (T.ca K cc)) ∧ XcC (T.kc K) T.nm cc := by
  unfold xcB at c
  dsimp only at c
  obtain ⟨h1, c⟩ := ba2 c
  obtain ⟨h2, c⟩ := ba2 c
  obtain ⟨h3, c⟩ := ba2 c
  obtain ⟨h4, c⟩ := ba2 c
  obtain ⟨h5, c⟩ := ba2 c
  obtain ⟨h6, c⟩ := ba2 c
  obtain ⟨h7, c⟩ := ba2 c
  obtain ⟨h8, c⟩ := ba2 c
  obtain ⟨h9, c⟩ := ba2 c
  obtain ⟨h10, c⟩ := ba2 c
  obtain ⟨h11, c⟩ := ba2 c
  obtain ⟨h12, c⟩ := ba2 c
  obtain ⟨h13, c⟩ := ba2 c
  obtain ⟨h14, c⟩ := ba2 c
  obtain ⟨h15, c⟩ := ba2 c
  obtain ⟨h16, c⟩ := ba2 c
  obtain ⟨h17, c⟩ := ba2 c
  obtain ⟨h18, h19⟩ := ba2 c
  have e0 : T.cls.lookup cc = none := by simpa using h2
  have ec := T.xcl e0 e
  have ea : T.ca K cc = He.ga K q.x := by unfold ca; rw [ec]
  have ef : (T.kc K).fl cc = q.fl := by show (T.cl cc).fl = _; rw [ec]
  have ex : (T.kc K).G.xfl cc = q.fs := by show ((T.xcs.lookup cc).map (·.fs)).getD [] = _; rw [e]; rfl
  have ea2 : (T.kc K).ca cc = He.ga K q.x := ea
  have eK : (T.kc K).K = K := rfl
  have h14 : PySem.W.hasDictIn K (He.ga K q.x) = true := h14
  refine ⟨ea, ef, by simpa using h1, by rw [ea]; exact He.glo_ok X G h6, ⟨?_, ?_, ?_, fun f j y e1 e2 => ?_, ?_⟩⟩
  · rw [eK, ea2]
    exact ⟨oex_of h7, He.eqO_ok h8, of_decide_eq_true h9, of_decide_eq_true h10, h11⟩
  · rw [eK, ea2]
    exact ⟨He.eqO_ok h12, He.eqO_ok h13, of_decide_eq_true h9, h14⟩
  · rw [eK, ea2]
    refine ⟨?_, He.eqO_ok h15, He.eqO_ok h16, of_decide_eq_true h17, of_decide_eq_true h18⟩
    obtain ⟨cd, hc, _⟩ := PySem.W.any_some h14
    rw [hc]; rfl
  · rw [ex] at e1
    rw [eK, ea2, ef]
    have e2 : T.ats.lookup f = some y := e2
    have hf := fldIx_to e1
    have h5 : q.fs.map (fun f => T.ats.lookup f) = q.fl.map some := of_decide_eq_true h5
    have hx : q.fl[j]? = some y := by
      have z : (q.fs.map (fun f => T.ats.lookup f))[j]? = (q.fl.map some)[j]? := by rw [h5]
      rw [List.getElem?_map, hf, List.getElem?_map] at z
      cases w : q.fl[j]? with
      | none => rw [w] at z; cases z
      | some u =>
        rw [w] at z
        have z : T.ats.lookup f = some u := Option.some.inj z
        rw [e2] at z
        exact congrArg some (Option.some.inj z).symm
    exact ⟨hx, He.eqO_ok (List.all_eq_true.mp h19 y (List.mem_of_getElem? hx))⟩
  · rw [ef, ex]
    exact ⟨of_decide_eq_true h3, of_decide_eq_true h4⟩
theorem xn_of {c : Nat} {x : Str} (hc : c ≠ cVE) (h : T.nm.xn c = some x) : ∃ q, T.xcs.lookup c = some q ∧ q.x = x := by
  have h : (if c = 900 then some ("ValueError" : Str) else (T.xcs.lookup c).map (·.x)) = some x := h
  rw [if_neg hc] at h
  cases e : T.xcs.lookup c with
  | none => rw [e] at h; cases h
  | some q => rw [e] at h; exact ⟨q, rfl, Option.some.inj h⟩
theorem xn_to {c : Nat} {q : ClT} (hc : c ≠ cVE) (h : T.xcs.lookup c = some q) : T.nm.xn c = some q.x := by
  show (if c = 900 then some ("ValueError" : Str) else (T.xcs.lookup c).map (·.x)) = some q.x
  rw [if_neg hc, h]; rfl
theorem facts {K : PySem.W.Frag} {h : Heap} {mg : Str → Option Value} (X : K.In h) (G : h.Ns mainGlobals mg) (c : T.okK K = true) (chk : T.tab.all (chkD T.nm) = true) (st : ∀ p ∈ T.tab, ∃ fd, Stands K p.2.1 fd) (bd : ∀ p ∈ T.tab, BdOk p) (sh : ∀ p ∈ T.shs, T.ShOk p) (fko : ∀ p ∈ T.fks, T.KwOk p.1 p.2.1 p.2.2.2.1 p.2.2.2.2) (sto : ∀ p ∈ T.sts, T.KwOk p.1 p.2.2.2.1 p.2.2.2.2.1 p.2.2.2.2.2) (xst : ∀ p ∈ T.xtb, ∃ fd, Stands K p.2 fd) (xbd : ∀ p ∈ T.xtb, BdX p.2) (xck : T.xin.all T.xiD = true) (xdj : T.xtb.all (fun p => (T.tab.lookup p.1).isNone) = true)
    (spc : T.ats.lookup mLen = some ("__len__" : Str) ∧ T.ats.lookup mGet = some ("__getitem__" : Str) ∧ T.ats.lookup mCall = some ("__call__" : Str)) (ini : T.ats.lookup mIni = some ("__init__" : Str)) (eqn : T.ats.lookup mEq = some ("__eq__" : Str)) : Facts (T.kc K) T.nm T.np mg T.Ts T.Fs := by
  obtain ⟨c1, c⟩ := ba2 c
  obtain ⟨c2, c⟩ := ba2 c
  obtain ⟨c3, c⟩ := ba2 c
  obtain ⟨c4, c⟩ := ba2 c
  obtain ⟨c5, c⟩ := ba2 c
  obtain ⟨c6, c⟩ := ba2 c
  obtain ⟨c7, c⟩ := ba2 c
  obtain ⟨c8, c⟩ := ba2 c
  obtain ⟨c9, c⟩ := ba2 c
  obtain ⟨c11, c⟩ := ba2 c
  obtain ⟨c12, c⟩ := ba2 c
  obtain ⟨c13, c⟩ := ba2 c
  obtain ⟨c14, c⟩ := ba2 c
  obtain ⟨c15, c⟩ := ba2 c
  obtain ⟨c16, c⟩ := ba2 c
  obtain ⟨c17, c⟩ := ba2 c
  obtain ⟨c20, c⟩ := ba2 c
  obtain ⟨c21, c⟩ := ba2 c
  obtain ⟨c22, c⟩ := ba2 c
  obtain ⟨c23, c⟩ := ba2 c
  obtain ⟨c10, c18⟩ := ba2 c
  have em : ∀ p ∈ T.ets, emT K (p K) = true := fun p m => List.all_eq_true.mp c18 p m
  have kn : ∀ f t d, T.tab.lookup f = some (t, d) → Known T.nm T.Ts T.Fs K f t d := fun f t d e =>
    ⟨by unfold Ts; rw [e], by unfold Fs; rw [e]; rfl, chkD_ok (List.all_eq_true.mp chk _ (lookup_in e)), st _ (lookup_in e)⟩
  refine { free := fun x m => He.free_ok X G (List.all_eq_true.mp c1 x m), glo := fun f x e => ?_, spc := spc, cls := fun cc => ?_, mth := fun cc m f x e1 e2 => ?_, mks := fun cc s n ks f x e1 e2 => ?_, con := fun gn x d e1 e2 => ?_, ccn := fun cc f x y d e1 e2 e3 => ?_, sup := fun cc dd m f x e1 e2 e3 => ?_, sui := fun cc dd s cb n ks f e1 e2 => ?_, own := fun f t d q K1 e => ?_, prp := fun cc m f x e1 e2 => ?_, opq := He.eqO_ok c10, itr := fun cc F e => ?itr, fks := fun sh f x n ks e => ?fks, sts := fun sh cc m f n ks x y e1 e2 e3 => ?sts, eqn := eqn, eqi := fun cc ee h => ?eqi, eqd := fun cc h => ?eqd, isi := fun cc ee b x e1 e2 => ?isi, isd := fun cc b x e1 e2 => ?isd, xnm := fun cc x e1 e2 => ?xnm, xcs := fun cc x e1 e2 => ?xcs, xve := fun x e => ?xve, exm := fun d cc b e => ?exm, xos := fun cc e => ?xos, xis := fun cc n e => ?xis }
  case xnm =>
    obtain ⟨q, e3, rfl⟩ := T.xn_of e1 e2
    exact (T.xc_ok X G e3 (List.all_eq_true.mp c20 _ (lookup_in e3))).2.2.2.1
  case xcs =>
    obtain ⟨q, e3, rfl⟩ := T.xn_of e1 e2
    exact (T.xc_ok X G e3 (List.all_eq_true.mp c20 _ (lookup_in e3))).2.2.2.2
  case xve =>
    have e : (if cVE = 900 then some ("ValueError" : Str) else (T.xcs.lookup cVE).map (·.x)) = some x := e
    rw [if_pos rfl] at e
    exact (Option.some.inj e).symm
  case exm =>
    have e : look2 T.xms d cc = some b := e
    have q0 : T.xmB K (d, cc, b) = true := List.all_eq_true.mp c21 _ (look2_in e)
    unfold xmB at q0
    dsimp only at q0
    obtain ⟨h1, q0⟩ := ba2 q0
    obtain ⟨h2, q0⟩ := ba2 q0
    obtain ⟨h3, h4⟩ := ba2 q0
    obtain ⟨q, hq⟩ := Option.isSome_iff_exists.mp h2
    obtain ⟨a1, a2, a3, a4, a5⟩ := T.xc_ok X G hq (List.all_eq_true.mp c20 _ (lookup_in hq))
    refine ⟨a3, ⟨_, T.xn_to a3 hq⟩, ?_, ?_, ?_⟩
    · by_cases hd : d = cVE
      · subst hd
        exact ⟨"ValueError", rfl⟩
      · simp only [Bool.or_eq_true, beq_iff_eq] at h1
        rcases h1 with h1 | h1
        · exact absurd h1 hd
        · obtain ⟨r, hr⟩ := Option.isSome_iff_exists.mp h1
          exact ⟨_, T.xn_to hd hr⟩
    · exact of_decide_eq_true h3
    · exact of_decide_eq_true h4
  case xos =>
    have e : T.xos.contains cc = true := e
    have q0 : T.xoB K cc = true := List.all_eq_true.mp c23 _ (List.contains_iff_mem.mp e)
    exact (ba2 q0).2
  case xis =>
    have e : (if (T.xin.lookup cc).isSome then (T.xcs.lookup cc).map (fun q => q.fl.length) else none) = some n := e
    cases ex : T.xin.lookup cc with
    | none => rw [ex] at e; cases e
    | some f =>
      rw [ex] at e
      have e : (T.xcs.lookup cc).map (fun q => q.fl.length) = some n := e
      cases eq : T.xcs.lookup cc with
      | none => rw [eq] at e; cases e
      | some q =>
        rw [eq] at e
        have hn : q.fl.length = n := Option.some.inj e
        obtain ⟨a1, a2, a3, a4, a5⟩ := T.xc_ok X G eq (List.all_eq_true.mp c20 _ (lookup_in eq))
        have q0 : T.xiB K (cc, f) = true := List.all_eq_true.mp c22 _ (lookup_in ex)
        have q1 : T.xiD (cc, f) = true := List.all_eq_true.mp xck _ (lookup_in ex)
        unfold xiB at q0
        unfold xiD at q1
        dsimp only at q0 q1
        rw [eq] at q0 q1
        cases et : T.xtb.lookup f with
        | none => rw [et] at q0; cases q0
        | some t =>
          rw [et] at q0 q1
          dsimp only at q0 q1
          cases es : t.su with
          | none => rw [es] at q0; cases q0
          | some su =>
            rw [es] at q0
            dsimp only at q0
            obtain ⟨h1, q0⟩ := ba2 q0
            obtain ⟨h2, q0⟩ := ba2 q0
            obtain ⟨h3, q0⟩ := ba2 q0
            obtain ⟨h4, q0⟩ := ba2 q0
            obtain ⟨h5, h6⟩ := ba2 q0
            obtain ⟨fd, S⟩ := xst _ (lookup_in et)
            have c20' := List.all_eq_true.mp c20 _ (lookup_in eq)
            have ca_eq : (T.kc K).ca cc = He.ga K q.x := a1
            have hts : T.Ts f = some t := by
              unfold Ts
              cases etb : T.tab.lookup f with
              | some p =>
                exfalso
                have := List.all_eq_true.mp xdj _ (lookup_in et)
                rw [etb] at this
                cases this
              | none => exact et
            refine ⟨f, t, fd, su, hts, S, es, by rw [a2]; exact xinD_ok q1, xbd _ (lookup_in et) K fd S, by rw [a2]; exact hn.symm, by rw [ca_eq]; exact He.eqO_ok h1, of_decide_eq_true h2, a5.ox, by rw [ca_eq]; exact ⟨of_decide_eq_true h3, He.eqO_ok h4, of_decide_eq_true h5⟩, fun y m => ?_, Option.isSome_iff_exists.mp h6⟩
            rw [a2] at m
            rw [ca_eq]
            unfold xcB at c20'
            dsimp only at c20'
            obtain ⟨_, c20'⟩ := ba2 c20'
            obtain ⟨_, c20'⟩ := ba2 c20'
            obtain ⟨_, c20'⟩ := ba2 c20'
            obtain ⟨_, c20'⟩ := ba2 c20'
            obtain ⟨_, c20'⟩ := ba2 c20'
            obtain ⟨_, c20'⟩ := ba2 c20'
            obtain ⟨_, c20'⟩ := ba2 c20'
            obtain ⟨_, c20'⟩ := ba2 c20'
            obtain ⟨_, c20'⟩ := ba2 c20'
            obtain ⟨_, c20'⟩ := ba2 c20'
            obtain ⟨_, c20'⟩ := ba2 c20'
            obtain ⟨_, c20'⟩ := ba2 c20'
            obtain ⟨_, c20'⟩ := ba2 c20'
            obtain ⟨_, c20'⟩ := ba2 c20'
            obtain ⟨_, c20'⟩ := ba2 c20'
            obtain ⟨_, c20'⟩ := ba2 c20'
            obtain ⟨_, c20'⟩ := ba2 c20'
            obtain ⟨_, c20'⟩ := ba2 c20'
            exact He.eqO_ok (List.all_eq_true.mp c20' y m)
  case itr =>
    have e : (T.its.lookup cc).map (·.1) = some F := e
    cases el : T.its.lookup cc with
    | none => rw [el] at e; cases e
    | some p =>
      obtain ⟨F', f⟩ := p
      rw [el] at e
      obtain rfl : F' = F := Option.some.inj e
      have q0 : T.iterB K (cc, F', f) = true := List.all_eq_true.mp c12 _ (lookup_in el)
      unfold iterB at q0
      dsimp only at q0
      split at q0
      · rename_i y t d ey et
        obtain ⟨h1, q0⟩ := ba2 q0
        obtain ⟨h2, q0⟩ := ba2 q0
        obtain ⟨h3, q0⟩ := ba2 q0
        obtain ⟨h4, q0⟩ := ba2 q0
        obtain ⟨h5, q0⟩ := ba2 q0
        obtain ⟨h6, q0⟩ := ba2 q0
        obtain ⟨h7, h8⟩ := ba2 q0
        obtain ⟨fd, S⟩ := st _ (lookup_in et)
        exact ⟨t, y, fd, ey, ⟨He.eqO_ok h3, h4, h5⟩, by simpa using h2, S, bd _ (lookup_in et) h1 K fd S, scB_ok h6, of_decide_eq_true h7, h8⟩
      · cases q0
  case fks =>
    have e : T.fks.lookup sh = some (f, x, n, ks) := e
    have q0 : T.fkB (sh, f, x, n, ks) = true := List.all_eq_true.mp c13 _ (lookup_in e)
    unfold fkB at q0
    dsimp only at q0
    split at q0
    · rename_i t d el
      obtain ⟨tx, tq, ta, tN, tps, targs, tb, ts, tdv, tkw, tsu, tinn⟩ := t
      obtain ⟨a1, a2⟩ := ta
      obtain ⟨h1, h2⟩ := ba2 q0
      cases a2 with
      | some z => cases h1
      | none =>
        have h1 : a1 = x := of_decide_eq_true h1
        subst h1
        have hi : tinn = false := by simpa using h2
        subst hi
        have hg : He.Fa.ok K (.glo a1) = true := List.all_eq_true.mp c2 _ (lookup_in el)
        refine ⟨_, d, kn f _ d el, He.glo_ok X G hg, fun fd S => ?_⟩
        obtain ⟨gg, gV, w1, w2⟩ := fko _ (lookup_in e) _ d el K em fd S
        exact ⟨gg, gV, w1, fun Z vs zs ds es r e s1 s2 l1 l2 => w2 _ rfl Z vs zs ds es r e s1 s2 l1 l2⟩
    · cases q0
  case sts =>
    have e1 : T.sts.lookup sh = some (cc, m, f, n, ks) := e1
    have e3 : T.ats.lookup m = some y := e3
    have q0 : T.stB K (sh, cc, m, f, n, ks) = true := List.all_eq_true.mp c14 _ (lookup_in e1)
    unfold stB at q0
    dsimp only at q0
    rw [e3] at q0
    split at q0
    · rename_i q y' t d ex ey el
      cases ey
      have eq : q.x = x := by
        unfold nm at e2
        dsimp only at e2
        rw [ex] at e2
        exact Option.some.inj e2
      subst eq
      have ec : T.ca K cc = He.ga K q.x := by unfold ca cl; rw [ex]
      obtain ⟨h1, q0⟩ := ba2 q0
      obtain ⟨h2, q0⟩ := ba2 q0
      obtain ⟨h3, h4⟩ := ba2 q0
      split at h4
      · rename_i b p C' ef
        split at h4
        · rename_i g rest hr
          simp only [Bool.and_eq_true, decide_eq_true_eq] at h4
          obtain ⟨h5, h6, h4⟩ := h4
          subst h5 h6 h4
          refine ⟨t, d, kn f t d el, by show mg q.x = some (.ref (T.ca K cc)); rw [ec]; exact He.glo_ok X G h1, ?_, fun fd S => ?_⟩
          · show StM K (T.ca K cc) y _
            rw [ec]
            exact ⟨_, p, rest, ⟨h2, He.eqO_ok h3⟩, ef, hr⟩
          · obtain ⟨gg, gV, w1, w2⟩ := sto _ (lookup_in e1) t d el K em fd S
            exact ⟨gg, gV, w1, fun Z vs zs ds es r e s1 s2 l1 l2 => w2 _ rfl Z vs zs ds es r e s1 s2 l1 l2⟩
        · simp at h4
      · cases h4
    · cases q0
  case eqi =>
    have h : T.eqs.contains (cc, some ee) = true := h
    exact List.all_eq_true.mp c15 _ (List.contains_iff_mem.mp h)
  case eqd =>
    have h : T.eqs.contains (cc, none) = true := h
    exact fun t ht => List.all_eq_true.mp (List.all_eq_true.mp c15 _ (List.contains_iff_mem.mp h)) t ht
  case isi =>
    have e2 : look2 T.isl cc ee = some b := e2
    have q0 : T.isiB K (cc, ee, b) = true := List.all_eq_true.mp c16 _ (look2_in e2)
    unfold isiB at q0
    dsimp only at q0
    split at q0
    · rename_i q ex
      have eq : q.x = x := by
        unfold nm at e1
        dsimp only at e1
        rw [ex] at e1
        exact Option.some.inj e1
      subst eq
      have ec : T.ca K cc = He.ga K q.x := by unfold ca cl; rw [ex]
      obtain ⟨h1, q0⟩ := ba2 q0
      obtain ⟨h2, q0⟩ := ba2 q0
      obtain ⟨h3, q0⟩ := ba2 q0
      obtain ⟨h4, q0⟩ := ba2 q0
      obtain ⟨h5, q0⟩ := ba2 q0
      obtain ⟨h6, q0⟩ := ba2 q0
      obtain ⟨h7, h8⟩ := ba2 q0
      refine ⟨by show mg q.x = some (.ref (T.ca K cc)); rw [ec]; exact He.glo_ok X G h1, ?_, ⟨h3, h4, ⟨He.eqO_ok h5, He.eqO_ok h6, of_decide_eq_true h7, of_decide_eq_true h8⟩⟩⟩
      show PySem.W.kitOne K (.ref (T.ca K ee)) (.ref (T.ca K cc)) = some b
      rw [ec]
      exact of_decide_eq_true h2
    · cases q0
  case isd =>
    have e2 : (if T.isd.contains cc then some false else none) = some b := e2
    split at e2
    · rename_i hc
      cases e2
      have q0 : T.isdB K cc = true := List.all_eq_true.mp c17 _ (List.contains_iff_mem.mp hc)
      unfold isdB at q0
      split at q0
      · rename_i q ex
        have eq : q.x = x := by
          unfold nm at e1
          dsimp only at e1
          rw [ex] at e1
          exact Option.some.inj e1
        subst eq
        have ec : T.ca K cc = He.ga K q.x := by unfold ca cl; rw [ex]
        obtain ⟨h1, h2⟩ := ba2 q0
        refine ⟨by show mg q.x = some (.ref (T.ca K cc)); rw [ec]; exact He.glo_ok X G h1, fun t ht => ?_⟩
        show PySem.W.kitOne K (.type t) (.ref (T.ca K cc)) = some false
        rw [ec]
        exact of_decide_eq_true (List.all_eq_true.mp h2 t ht)
      · cases q0
    · cases e2
  · unfold nm fnN at e
    dsimp only at e
    split at e
    · rename_i t d el
      obtain ⟨tx, tq, ta, tN, tps, targs, tb, ts, tdv, tkw, tsu, tinn⟩ := t
      obtain ⟨a1, a2⟩ := ta
      cases a2 with
      | some z => cases e
      | none =>
        dsimp only at e
        split at e
        · rename_i hp
          cases e
          have hg : He.Fa.ok K (.glo x) = true := List.all_eq_true.mp c2 _ (lookup_in el)
          obtain ⟨hp, hp2⟩ := ba2 hp
          have hi : tinn = false := by simpa using hp2
          subst hi
          exact ⟨_, d, kn f _ d el, He.glo_ok X G hg, by unfold np; rw [el]; rfl, fun fd S => bd _ (lookup_in el) hp K fd S⟩
        · cases e
    · cases e
  · cases el : T.cls.lookup cc with
    | none =>
      have ef : T.G.flds cc = [] := by show (T.cl cc).fs = []; unfold cl; rw [el]; cases T.xcs.lookup cc <;> rfl
      exact ⟨by show (T.G.flds cc).Nodup; rw [ef]; exact List.nodup_nil, fun f j x e => by have e : fldIx (T.G.flds cc) f = some j := e; rw [ef] at e; cases e⟩
    | some q =>
      have ec : T.cl cc = q := by unfold cl; rw [el]
      have q0 : T.clsB K (cc, q) = true := List.all_eq_true.mp c3 _ (lookup_in el)
      unfold clsB at q0
      obtain ⟨h1, q0⟩ := ba2 q0
      obtain ⟨h2, q0⟩ := ba2 q0
      obtain ⟨h3, q0⟩ := ba2 q0
      obtain ⟨h4, q0⟩ := ba2 q0
      obtain ⟨h5, h6⟩ := ba2 q0
      have h1 : q.fs.Nodup := of_decide_eq_true h1
      have h2 : q.fl.length = q.fs.length := of_decide_eq_true h2
      have h3 : q.fs.map (fun f => T.ats.lookup f) = q.fl.map some := of_decide_eq_true h3
      have h4 : q.fl.Nodup := of_decide_eq_true h4
      have h5 : q.fl.length < 1000 := of_decide_eq_true h5
      have ef : (T.kc K).G.flds cc = q.fs := by show (T.cl cc).fs = _; rw [ec]
      have el2 : (T.kc K).fl cc = q.fl := by show (T.cl cc).fl = _; rw [ec]
      have es : (T.kc K).sl cc = q.sl := by show (T.cl cc).sl = _; rw [ec]
      have ea : (T.kc K).ca cc = He.ga K q.x := by show He.ga K (T.cl cc).x = _; rw [ec]
      have ei : (T.kc K).ix cc = q.fl.map fun f => (PySem.W.slotIn K (He.ma K (He.ga K q.x) f) (He.ga K q.x)).getD 0 := by
        show ((T.cl cc).fl.map fun f => (PySem.W.slotIn K (He.ma K (He.ga K (T.cl cc).x) f) (He.ga K (T.cl cc).x)).getD 0) = _; rw [ec]
      refine ⟨by rw [ef]; exact h1, fun f j x e1 e2 => ?_⟩
      rw [ef] at e1
      have e2 : T.ats.lookup f = some x := e2
      have hf := fldIx_to e1
      have hx : q.fl[j]? = some x := by
        have z : (q.fs.map (fun f => T.ats.lookup f))[j]? = (q.fl.map some)[j]? := by rw [h3]
        rw [List.getElem?_map, hf, List.getElem?_map] at z
        cases w : q.fl[j]? with
        | none => rw [w] at z; cases z
        | some y =>
          rw [w] at z
          have z : T.ats.lookup f = some y := Option.some.inj z
          rw [e2] at z
          exact congrArg some (Option.some.inj z).symm
      have hm : x ∈ q.fl := List.mem_of_getElem? hx
      refine ⟨fun hs => ?_, fun hs => ?_⟩
      · rw [es] at hs
        rw [if_neg (by rw [hs]; decide)] at h6
        obtain ⟨h7, h8⟩ := ba2 h6
        rw [ea, ef, el2]
        exact ⟨He.cls_ok h7, He.eqO_ok (List.all_eq_true.mp h8 x hm), hx, h4, h2, h5⟩
      · rw [es] at hs
        rw [if_pos hs] at h6
        obtain ⟨h7, h8⟩ := ba2 h6
        obtain ⟨h8, h9⟩ := ba2 h8
        obtain ⟨i, S, si⟩ := slotB_ok (List.all_eq_true.mp h9 x hm)
        rw [ea, ef, el2, ei]
        refine ⟨sclsB_ok h7, h2, by rw [List.length_map, h2], _, i, S, ?_, of_decide_eq_true h8⟩
        rw [List.getElem?_map, hx]
        exact congrArg (fun o : Option Nat => some (o.getD 0)) si
  · have e2 : T.ats.lookup m = some x := e2
    have q0 : T.mthB K (cc, m, f) = true := List.all_eq_true.mp c4 _ (look2_in e1)
    unfold mthB at q0
    dsimp only at q0
    rw [e2] at q0
    split at q0
    · rename_i x' t d ex el
      cases ex
      obtain ⟨h1, q0⟩ := ba2 q0
      obtain ⟨h2, q0⟩ := ba2 q0
      obtain ⟨h3, q0⟩ := ba2 q0
      obtain ⟨h4, q0⟩ := ba2 q0
      obtain ⟨h5, h6⟩ := ba2 q0
      refine ⟨t, d, kn f t d el, ⟨He.eqO_ok h2, h3, h4⟩, h5, fun hs => ?_, fun hs => ?_, fun fd S => bd _ (lookup_in el) h1 K fd S⟩
      · have hs : (T.cl cc).sl = false := hs
        rw [if_neg (by rw [hs]; decide)] at h6
        obtain ⟨h7, h8⟩ := ba2 h6
        refine ⟨He.cls_ok h7, fun hm => ?_⟩
        rw [show (T.cl cc).fl.contains x = true from List.contains_iff_mem.mpr hm] at h8
        cases h8
      · have hs : (T.cl cc).sl = true := hs
        rw [if_pos hs] at h6
        exact sclsB_ok h6
    · cases q0
  · have e2 : T.shs.lookup s = some (cc, f, n, ks) := e2
    have q0 : T.shB K (s, cc, f, n, ks) = true := List.all_eq_true.mp c5 _ (lookup_in e2)
    unfold shB at q0
    dsimp only at q0
    split at q0
    · rename_i q t d ex el
      have eq : q.x = x := by
        unfold nm at e1
        dsimp only at e1
        rw [ex] at e1
        exact Option.some.inj e1
      subst eq
      have ec : T.ca K cc = He.ga K q.x := by unfold ca cl; rw [ex]
      obtain ⟨h1, q0⟩ := ba2 q0
      obtain ⟨h2, q0⟩ := ba2 q0
      obtain ⟨h3, q0⟩ := ba2 q0
      obtain ⟨h4, h5⟩ := ba2 q0
      refine ⟨t, d, kn f t d el, by show mg q.x = some (.ref (T.ca K cc)); rw [ec]; exact He.glo_ok X G h1, ?_, fun fd S => ?_⟩
      · show Mk K (T.ca K cc) _
        rw [ec]
        exact ⟨h2, He.eqO_ok h3, h4, h5⟩
      · obtain ⟨gg, gV, w1, w2⟩ := sh _ (lookup_in e2) t d el K em fd S
        exact ⟨gg, gV, w1, fun Z y vs zs ds es r e s1 s2 l1 l2 => w2 _ rfl Z y vs zs ds es r e s1 s2 l1 l2⟩
    · cases q0
  · unfold nm at e1
    dsimp only at e1
    have e2 : (T.gls.lookup gn).map (·.2) = some d := e2
    cases el : T.gls.lookup gn with
    | none => rw [el] at e1; cases e1
    | some p =>
      rw [el] at e1 e2
      cases e1; cases e2
      have q0 : glB K (gn, p) = true := List.all_eq_true.mp c6 _ (lookup_in el)
      obtain ⟨px, pd⟩ := p
      unfold glB at q0
      cases pd with
      | int i =>
        obtain ⟨t, w⟩ := He.int_ok X G q0
        exact .inl ⟨i, t, rfl, w⟩
      | str y =>
        obtain ⟨t, w⟩ := He.str_ok X G q0
        exact .inr ⟨y, t, rfl, w⟩
      | _ => cases q0
  · have e2 : T.ats.lookup f = some y := e2
    have e3 : (look2 T.con cc f).map D.int = some d := e3
    cases el : look2 T.con cc f with
    | none => rw [el] at e3; cases e3
    | some i =>
      rw [el] at e3
      cases e3
      have q0 : T.conB K (cc, f, i) = true := List.all_eq_true.mp c7 _ (look2_in el)
      unfold conB at q0
      dsimp only at q0
      rw [e2] at q0
      split at q0
      · rename_i q y' ex ey
        cases ey
        have eq : q.x = x := by
          unfold nm at e1
          dsimp only at e1
          rw [ex] at e1
          exact Option.some.inj e1
        subst eq
        have ec : T.ca K cc = He.ga K q.x := by unfold ca cl; rw [ex]
        obtain ⟨h1, q0⟩ := ba2 q0
        obtain ⟨h2, q0⟩ := ba2 q0
        obtain ⟨h3, h4⟩ := ba2 q0
        split at h4
        · rename_i j tk ef
          have h4 := of_decide_eq_true h4
          subst h4
          have ca_eq : (T.kc K).ca cc = He.ga K q.x := ec
          refine ⟨_, .type "type", .int j tk, rfl, ?_, ?_, ?_⟩
          · rw [ca_eq]; exact He.glo_ok X G h1
          · rw [ca_eq]; exact ⟨h2, He.eqO_ok h3⟩
          · rw [ca_eq]; exact ⟨ef, ⟨tk, rfl⟩⟩
        · cases h4
      · cases q0
  · have e2 : T.ats.lookup m = some x := e2
    have q0 : T.prB K (cc, m, f) = true := List.all_eq_true.mp c11 _ (look2_in e1)
    unfold prB at q0
    dsimp only at q0
    rw [e2] at q0
    split at q0
    · rename_i x' t d ex el
      cases ex
      obtain ⟨h1, q0⟩ := ba2 q0
      obtain ⟨h2, q0⟩ := ba2 q0
      obtain ⟨h3, q0⟩ := ba2 q0
      obtain ⟨h4, q0⟩ := ba2 q0
      obtain ⟨h5, q0⟩ := ba2 q0
      obtain ⟨h6, h7⟩ := ba2 q0
      split at h7
      · rename_i g rest hr
        have h7 := of_decide_eq_true h7
        subst h7
        exact ⟨t, d, kn f t d el, (show (T.cl cc).sl = false by simpa using h2), He.cls_ok h3, ⟨_, He.eqO_ok h4, He.eqO_ok h5, of_decide_eq_true h6, rest, hr⟩, fun fd S => bd _ (lookup_in el) h1 K fd S⟩
      · cases h7
    · cases q0
  · have e2 : T.ats.lookup m = some x := e2
    have q0 : T.supB K (cc, dd, m, f) = true := List.all_eq_true.mp c8 _ (look3_in e1)
    unfold supB at q0
    dsimp only at q0
    rw [e2] at q0
    split at q0
    · rename_i x' t d ex el
      cases ex
      obtain ⟨h1, q0⟩ := ba2 q0
      obtain ⟨h2, q0⟩ := ba2 q0
      obtain ⟨h3, q0⟩ := ba2 q0
      obtain ⟨h4, q0⟩ := ba2 q0
      obtain ⟨h5, h6⟩ := ba2 q0
      rw [if_neg e3] at h6
      exact ⟨t, d, kn f t d el, ⟨of_decide_eq_true h1, He.eqO_ok h2, of_decide_eq_true h3, h4, by simpa using h5⟩, fun fd S => bd _ (lookup_in el) h6 K fd S⟩
    · cases q0
  · have e2 : T.shs.lookup s = some (cb, f, n, ks) := e2
    have q0 : T.supB K (cc, dd, mIni, f) = true := List.all_eq_true.mp c8 _ (look3_in e1)
    unfold supB at q0
    dsimp only at q0
    rw [ini] at q0
    split at q0
    · rename_i x' t d ex el
      cases ex
      obtain ⟨h1, q0⟩ := ba2 q0
      obtain ⟨h2, q0⟩ := ba2 q0
      obtain ⟨h3, q0⟩ := ba2 q0
      obtain ⟨h4, q0⟩ := ba2 q0
      obtain ⟨h5, h6⟩ := ba2 q0
      rw [if_pos rfl] at h6
      refine ⟨t, d, kn f t d el, (show (T.cl cc).sl = false by simpa using h6), ⟨of_decide_eq_true h1, He.eqO_ok h2, of_decide_eq_true h3, h4, by simpa using h5⟩, fun fd S => ?_⟩
      obtain ⟨gg, gV, w1, w2⟩ := sh _ (lookup_in e2) t d el K em fd S
      exact ⟨gg, gV, w1, fun Z y vs zs ds es r e s1 s2 l1 l2 => w2 _ rfl Z y vs zs ds es r e s1 s2 l1 l2⟩
    · cases q0
  · have hf : (T.tab.lookup f).map (·.2) = some _ := K1.hf
    have ht : T.Ts f = some t := K1.ht
    unfold Ts at ht
    cases el2 : T.tab.lookup f with
    | none => rw [el2] at hf; cases hf
    | some p =>
      obtain ⟨t', d'⟩ := p
      rw [el2] at ht
      have el : t' = t := Option.some.inj ht
      subst el
      have q0 : T.ownB K (f, t', d') = true := List.all_eq_true.mp c9 _ (lookup_in el2)
      unfold ownB at q0
      dsimp only at q0
      rw [e] at q0
      obtain ⟨h1, h2⟩ := ba2 q0
      refine ⟨?_, Option.isSome_iff_exists.mp h2⟩
      show He.ga K (T.cl q.1).x = He.ga K q.2.1
      rw [of_decide_eq_true h1]
/-! ### the Hook -/
theorem codeB_ok {K : PySem.W.Frag} {v : Value} {file : Str} (h : codeB K v file = true) : ∃ c ccl cdd vs ccs tf, v = .ref c ∧ K.lookup c = some ⟨ccl, cdd, .fields vs, ccs⟩ ∧ vs[2]? = some (.str file tf) := by
  unfold codeB at h
  split at h
  · rename_i c
    split at h
    · rename_i ccl cdd vs ccs lc
      split at h
      · rename_i y tf hv
        have h := of_decide_eq_true h
        subst h
        exact ⟨_, _, _, _, _, _, rfl, lc, hv⟩
      · cases h
    · cases h
  · cases h
theorem cellB_ok {K : PySem.W.Frag} {l : List (Str × Addr)} {D : Addr} (h : cellB K l D = true) : ∃ q cl cld csl, l = [q] ∧ K.lookup q.2 = some ⟨cl, cld, .cell (some (.ref D)), csl⟩ := by
  unfold cellB at h
  split at h
  · rename_i q
    split at h
    · rename_i lc
      have h := of_decide_eq_true h
      subst h
      exact ⟨_, _, _, _, rfl, lc⟩
    · cases h
  · cases h
theorem funS {K : PySem.W.Frag} {t : DefT} (e : fnWS K (t.ad K) = valS t) (c : okS K t = true) : ∃ fd, Stands K t fd := by
  obtain ⟨kp, c2⟩ := ba2 c
  unfold fnWS at e
  cases lq : K.lookup (t.ad K) with
  | none => rw [lq] at c2; cases c2
  | some o =>
    obtain ⟨oc, od, dt, osl⟩ := o
    rw [lq] at c2 e
    cases dt with
    | func fd =>
      obtain ⟨n1, n2, n3, n4, n5, n6, n7, n8, n9, n10, n11, n12, n13, n14, n15⟩ := fd
      have e2 : (some (n1, n2, n3, n4, n5, n6, n7.map (·.1), n15) : FnWS) = valS t := e
      unfold valS at e2
      simp only [Option.some.injEq, Prod.mk.injEq] at e2
      obtain ⟨h1, h2, h3, h4, h5, h6, h7, h8⟩ := e2
      subst h1 h2 h3 h4 h5 h6 h8
      dsimp only at c2
      obtain ⟨k1, c2⟩ := ba2 c2
      obtain ⟨k2, c2⟩ := ba2 c2
      obtain ⟨k3, k4⟩ := ba2 c2
      unfold Stands
      cases hsu : t.su with
      | none =>
        rw [hsu] at h7
        have hn : n7 = [] := by simpa using h7
        subst hn
        exact ⟨_, ⟨oc, od, n8, n9, n10, n11, n12, n13, n14, osl, rfl, lq, k1, He.dflB_ok k2, He.kwdB_ok k3⟩, kp⟩
      | some q =>
        rw [hsu] at k4 h7
        dsimp only at k4
        obtain ⟨k4, k5⟩ := ba2 k4
        obtain ⟨cda, ccl, cdd, vs, ccs, tf, ec, lc, hv⟩ := codeB_ok k4
        obtain ⟨⟨nn, cc⟩, cl, cld, csl, en, lcell⟩ := cellB_ok k5
        dsimp only at ec en lcell
        subst ec en
        have hn : nn = clsN := by simpa using h7
        subst hn
        exact ⟨_, ⟨oc, od, n8, n9, n10, n11, n12, n14, osl, cda, cc, vs, ccl, cdd, ccs, tf, cl, cld, csl, rfl, lq, k1, He.dflB_ok k2, He.kwdB_ok k3, lc, hv, lcell⟩, kp⟩
    | _ => cases c2
theorem says_ok {K : PySem.W.Frag} (c : T.obsO K = T.valO) : T.okK K = true ∧ (∀ p ∈ T.tab, ∃ fd, Stands K p.2.1 fd) ∧ ∀ p ∈ T.xtb, ∃ fd, Stands K p.2 fd := by
  have c2 : (T.okK K && T.sus.all fun p => okS K p.2) = true := congrArg (fun z : AlO => z.2.1) c
  have c3 : (T.sus.map fun p => fnWS K (p.2.ad K)) = T.sus.map fun p => valS p.2 := congrArg (fun z : AlO => z.2.2) c
  obtain ⟨c1, c2⟩ := ba2 c2
  have go : ∀ q ∈ T.sus, ∃ fd, Stands K q.2 fd := fun p ms => by
    have k1 := List.all_eq_true.mp c2 p ms
    obtain ⟨i, hi⟩ := List.getElem?_of_mem ms
    have k2 : (T.sus.map fun p => fnWS K (p.2.ad K))[i]? = (T.sus.map fun p => valS p.2)[i]? := by rw [c3]
    rw [List.getElem?_map, List.getElem?_map, hi] at k2
    exact funS (Option.some.inj k2) k1
  refine ⟨c1, fun p m => ?_, fun p m => go p (List.mem_append_right _ m)⟩
  have e : He.SaysD [] T.fns K := congrArg (fun z : AlO => z.1) c
  by_cases hs : (p.2.1.su.isSome || p.2.1.inn) = true
  · exact go (p.1, p.2.1) (List.mem_append_left _ (List.mem_map.mpr ⟨p, List.mem_filter.mpr ⟨m, hs⟩, rfl⟩))
  · simp only [Bool.or_eq_true, not_or, Bool.not_eq_true, Option.isSome_eq_false_iff] at hs
    obtain ⟨i, hi⟩ := List.getElem?_of_mem (show p ∈ T.tab.filter (fun p => p.2.1.su.isNone && !p.2.1.inn) from List.mem_filter.mpr ⟨m, by simp [hs.1, hs.2]⟩)
    have hsu : p.2.1.su = none := by simpa using hs.1
    obtain ⟨fd, F⟩ := e.def_ i (d := toD p.2.1) (by unfold fns; rw [List.getElem?_map, hi]; rfl)
    refine ⟨fd, ?_⟩
    unfold Stands
    rw [hsu]
    have ha : p.2.1.ad K = He.fAd K p.2.1.at_ := by unfold DefT.ad; rw [hs.2]; rfl
    show FunD K p.2.1.x _ _ _ _ _ _ (p.2.1.ad K) fd
    rw [ha]
    exact F
/-- the program's own text -/
def prgB (P : Program) : Bool := !(P.main.scope.names.lookup ("super" : Str)).isSome && ((T.tab.all fun p => match p.2.1.su with
  | none => true
  | some q => (P.main.file : Str) == q.2.2) && T.xtb.all fun p => match p.2.su with
  | none => true
  | some q => (P.main.file : Str) == q.2.2)
theorem prg_ok {P : Program} (h : T.prgB P = true) : ProgOk P T.Ts := by
  unfold prgB at h
  obtain ⟨h1, h⟩ := ba2 h
  obtain ⟨h2, h4⟩ := ba2 h
  refine ⟨by simpa using h1, fun f t q e1 e2 => ?_⟩
  unfold Ts at e1
  cases el : T.tab.lookup f with
  | none =>
    rw [el] at e1
    have h3 := List.all_eq_true.mp h4 _ (lookup_in e1)
    dsimp only at h3
    rw [e2] at h3
    exact h3
  | some p =>
    rw [el] at e1
    have e1 : p.1 = t := Option.some.inj e1
    have h3 := List.all_eq_true.mp h2 _ (lookup_in el)
    dsimp only at h3
    rw [e1, e2] at h3
    exact h3
end Txt
/-! ### the law -/
section
variable {P : Program} {w : World} {K : PySem.W.Frag} {mg : Str → Option Value} {base : Heap} {k : Kc}
/-- a def that lets no exception out -/
theorem fn_calm {n : Nat} {f : Addr} {fd : FuncData} {ps : List Str} {sp : Sp} (F : FnOk P w K mg base (L2.CX P w) n f fd ps sp) : FnOk P w K mg base CX0 n f fd ps (fun vs H Q _ => sp vs H Q fun _ _ _ => False) :=
  ⟨fun vs H Q E h => F.len vs H Q _ h, fun A outer s H args us vs Q E hr he hb hv hs => codeAny_mono (F.run A outer s H args us vs Q (fun _ _ _ => False) hr he hb hv hs) fun r s' h => by
    cases r with
    | error e =>
      obtain ⟨_, _, _, _, _, _, _, _, _, _, _, _, z⟩ := h
      exact z.elim
    | ok fl =>
      cases fl with
      | ret u => exact h
      | next => exact h
      | brk => exact h
      | cont => exact h⟩
/-- the law's promise from what the interpreter says -/
theorem law_sp {cal : Cl → R LD} {c : List D → Cl} {H : Hp} {a : Addr} {ns : List Int} (hK : k.K = K) (hS : SqL K H a (ns.map V.int)) (h : cal (c [.scr ns]) = .ok (0, .bl true)) : spF k cal c [.ref a] H (fun v _ => v = .bl true) (fun _ _ _ => False) := by
  refine ⟨H, [.scr ns], fun _ _ e => e, .cons (.scr (by rw [hK]; exact hS)) .nil, ?_⟩
  rw [h]
  refine ⟨by omega, fun v Z' H' fp e t n => ?_⟩
  have t : Sh k Z' v (.bl true) ∧ fp = [] := t
  cases t.1
  rfl
end
end RS

namespace RS
open PySem PySem.Spec
open PyProof.Rows L2
theorem u_p__wall_1 {G : Tb} {cal : Cl → R LD} {ε : En} : runs G cal b_p__wall_1 ε = sq (run G cal s_p__wall_1 ε) (runs G cal .nil) := w_cons
theorem u_p__wall_0 {G : Tb} {cal : Cl → R LD} {ε : En} : runs G cal b_p__wall_0 ε = sq (run G cal s_p__wall_0 ε) (runs G cal .nil) := w_cons
theorem u_p_is_number_2 {G : Tb} {cal : Cl → R LD} {ε : En} : runs G cal b_p_is_number_2 ε = sq (run G cal s_p_is_number_2 ε) (runs G cal .nil) := w_cons
theorem u_p_is_number_1 {G : Tb} {cal : Cl → R LD} {ε : En} : runs G cal b_p_is_number_1 ε = sq (run G cal s_p_is_number_1 ε) (runs G cal .nil) := w_cons
theorem u_p_is_number_0 {G : Tb} {cal : Cl → R LD} {ε : En} : runs G cal b_p_is_number_0 ε = sq (run G cal s_p_is_number_0 ε) (runs G cal b_p_is_number_2) := w_cons
theorem u_p_check_row_1 {G : Tb} {cal : Cl → R LD} {ε : En} : runs G cal b_p_check_row_1 ε = sq (run G cal s_p_check_row_1 ε) (runs G cal .nil) := w_cons
theorem u_p_check_row_0 {G : Tb} {cal : Cl → R LD} {ε : En} : runs G cal b_p_check_row_0 ε = sq (run G cal s_p_check_row_0 ε) (runs G cal .nil) := w_cons
theorem u_p_check_column_1 {G : Tb} {cal : Cl → R LD} {ε : En} : runs G cal b_p_check_column_1 ε = sq (run G cal s_p_check_column_1 ε) (runs G cal .nil) := w_cons
theorem u_p_check_column_0 {G : Tb} {cal : Cl → R LD} {ε : En} : runs G cal b_p_check_column_0 ε = sq (run G cal s_p_check_column_0 ε) (runs G cal .nil) := w_cons
theorem u_p_marks_tuple_5 {G : Tb} {cal : Cl → R LD} {ε : En} : runs G cal b_p_marks_tuple_5 ε = sq (run G cal s_p_marks_tuple_5 ε) (runs G cal .nil) := w_cons
theorem u_p_marks_tuple_4 {G : Tb} {cal : Cl → R LD} {ε : En} : runs G cal b_p_marks_tuple_4 ε = sq (run G cal s_p_marks_tuple_4 ε) (runs G cal .nil) := w_cons
theorem u_p_marks_tuple_3 {G : Tb} {cal : Cl → R LD} {ε : En} : runs G cal b_p_marks_tuple_3 ε = sq (run G cal s_p_marks_tuple_3 ε) (runs G cal .nil) := w_cons
theorem u_p_marks_tuple_2 {G : Tb} {cal : Cl → R LD} {ε : En} : runs G cal b_p_marks_tuple_2 ε = sq (run G cal s_p_marks_tuple_2 ε) (runs G cal b_p_marks_tuple_5) := w_cons
theorem u_p_marks_tuple_1 {G : Tb} {cal : Cl → R LD} {ε : En} : runs G cal b_p_marks_tuple_1 ε = sq (run G cal s_p_marks_tuple_1 ε) (runs G cal .nil) := w_cons
theorem u_p_marks_tuple_0 {G : Tb} {cal : Cl → R LD} {ε : En} : runs G cal b_p_marks_tuple_0 ε = sq (run G cal s_p_marks_tuple_0 ε) (runs G cal b_p_marks_tuple_2) := w_cons
theorem u_p_width_of_4 {G : Tb} {cal : Cl → R LD} {ε : En} : runs G cal b_p_width_of_4 ε = sq (run G cal s_p_width_of_4 ε) (runs G cal .nil) := w_cons
theorem u_p_width_of_3 {G : Tb} {cal : Cl → R LD} {ε : En} : runs G cal b_p_width_of_3 ε = sq (run G cal s_p_width_of_3 ε) (runs G cal .nil) := w_cons
theorem u_p_width_of_2 {G : Tb} {cal : Cl → R LD} {ε : En} : runs G cal b_p_width_of_2 ε = sq (run G cal s_p_width_of_2 ε) (runs G cal b_p_width_of_4) := w_cons
theorem u_p_width_of_1 {G : Tb} {cal : Cl → R LD} {ε : En} : runs G cal b_p_width_of_1 ε = sq (run G cal s_p_width_of_1 ε) (runs G cal .nil) := w_cons
theorem u_p_width_of_0 {G : Tb} {cal : Cl → R LD} {ε : En} : runs G cal b_p_width_of_0 ε = sq (run G cal s_p_width_of_0 ε) (runs G cal b_p_width_of_2) := w_cons
theorem u_m_Table_init_10 {G : Tb} {cal : Cl → R LD} {ε : En} : runs G cal b_m_Table_init_10 ε = sq (run G cal s_m_Table_init_10 ε) (runs G cal .nil) := w_cons
theorem u_m_Table_init_9 {G : Tb} {cal : Cl → R LD} {ε : En} : runs G cal b_m_Table_init_9 ε = sq (run G cal s_m_Table_init_9 ε) (runs G cal b_m_Table_init_10) := w_cons
theorem u_m_Table_init_8 {G : Tb} {cal : Cl → R LD} {ε : En} : runs G cal b_m_Table_init_8 ε = sq (run G cal s_m_Table_init_8 ε) (runs G cal b_m_Table_init_9) := w_cons
theorem u_m_Table_init_7 {G : Tb} {cal : Cl → R LD} {ε : En} : runs G cal b_m_Table_init_7 ε = sq (run G cal s_m_Table_init_7 ε) (runs G cal .nil) := w_cons
theorem u_m_Table_init_6 {G : Tb} {cal : Cl → R LD} {ε : En} : runs G cal b_m_Table_init_6 ε = sq (run G cal s_m_Table_init_6 ε) (runs G cal b_m_Table_init_8) := w_cons
theorem u_m_Table_init_5 {G : Tb} {cal : Cl → R LD} {ε : En} : runs G cal b_m_Table_init_5 ε = sq (run G cal s_m_Table_init_5 ε) (runs G cal .nil) := w_cons
theorem u_m_Table_init_4 {G : Tb} {cal : Cl → R LD} {ε : En} : runs G cal b_m_Table_init_4 ε = sq (run G cal s_m_Table_init_4 ε) (runs G cal b_m_Table_init_6) := w_cons
theorem u_m_Table_init_3 {G : Tb} {cal : Cl → R LD} {ε : En} : runs G cal b_m_Table_init_3 ε = sq (run G cal s_m_Table_init_3 ε) (runs G cal .nil) := w_cons
theorem u_m_Table_init_2 {G : Tb} {cal : Cl → R LD} {ε : En} : runs G cal b_m_Table_init_2 ε = sq (run G cal s_m_Table_init_2 ε) (runs G cal b_m_Table_init_4) := w_cons
theorem u_m_Table_init_1 {G : Tb} {cal : Cl → R LD} {ε : En} : runs G cal b_m_Table_init_1 ε = sq (run G cal s_m_Table_init_1 ε) (runs G cal .nil) := w_cons
theorem u_m_Table_init_0 {G : Tb} {cal : Cl → R LD} {ε : En} : runs G cal b_m_Table_init_0 ε = sq (run G cal s_m_Table_init_0 ε) (runs G cal b_m_Table_init_2) := w_cons
theorem u_m_Table_len_0 {G : Tb} {cal : Cl → R LD} {ε : En} : runs G cal b_m_Table_len_0 ε = sq (run G cal s_m_Table_len_0 ε) (runs G cal .nil) := w_cons
theorem u_m_Table_getitem_1 {G : Tb} {cal : Cl → R LD} {ε : En} : runs G cal b_m_Table_getitem_1 ε = sq (run G cal s_m_Table_getitem_1 ε) (runs G cal .nil) := w_cons
theorem u_m_Table_getitem_0 {G : Tb} {cal : Cl → R LD} {ε : En} : runs G cal b_m_Table_getitem_0 ε = sq (run G cal s_m_Table_getitem_0 ε) (runs G cal b_m_Table_getitem_1) := w_cons
theorem u_m_Table_iter_0 {G : Tb} {cal : Cl → R LD} {ε : En} : runs G cal b_m_Table_iter_0 ε = sq (run G cal s_m_Table_iter_0 ε) (runs G cal .nil) := w_cons
theorem u_m_Table_eq_0 {G : Tb} {cal : Cl → R LD} {ε : En} : runs G cal b_m_Table_eq_0 ε = sq (run G cal s_m_Table_eq_0 ε) (runs G cal .nil) := w_cons
theorem u_m_Table_column_marks_1 {G : Tb} {cal : Cl → R LD} {ε : En} : runs G cal b_m_Table_column_marks_1 ε = sq (run G cal s_m_Table_column_marks_1 ε) (runs G cal .nil) := w_cons
theorem u_m_Table_column_marks_0 {G : Tb} {cal : Cl → R LD} {ε : En} : runs G cal b_m_Table_column_marks_0 ε = sq (run G cal s_m_Table_column_marks_0 ε) (runs G cal b_m_Table_column_marks_1) := w_cons
theorem u_p_next_group_5 {G : Tb} {cal : Cl → R LD} {ε : En} : runs G cal b_p_next_group_5 ε = sq (run G cal s_p_next_group_5 ε) (runs G cal .nil) := w_cons
theorem u_p_next_group_4 {G : Tb} {cal : Cl → R LD} {ε : En} : runs G cal b_p_next_group_4 ε = sq (run G cal s_p_next_group_4 ε) (runs G cal b_p_next_group_5) := w_cons
theorem u_p_next_group_3 {G : Tb} {cal : Cl → R LD} {ε : En} : runs G cal b_p_next_group_3 ε = sq (run G cal s_p_next_group_3 ε) (runs G cal .nil) := w_cons
theorem u_p_next_group_2 {G : Tb} {cal : Cl → R LD} {ε : En} : runs G cal b_p_next_group_2 ε = sq (run G cal s_p_next_group_2 ε) (runs G cal b_p_next_group_4) := w_cons
theorem u_p_next_group_1 {G : Tb} {cal : Cl → R LD} {ε : En} : runs G cal b_p_next_group_1 ε = sq (run G cal s_p_next_group_1 ε) (runs G cal b_p_next_group_2) := w_cons
theorem u_p_next_group_0 {G : Tb} {cal : Cl → R LD} {ε : En} : runs G cal b_p_next_group_0 ε = sq (run G cal s_p_next_group_0 ε) (runs G cal b_p_next_group_1) := w_cons
theorem u_l_read_2 {G : Tb} {cal : Cl → R LD} {ε : En} : runs G cal b_l_read_2 ε = sq (run G cal s_l_read_2 ε) (runs G cal .nil) := w_cons
theorem u_l_read_1 {G : Tb} {cal : Cl → R LD} {ε : En} : runs G cal b_l_read_1 ε = sq (run G cal s_l_read_1 ε) (runs G cal .nil) := w_cons
theorem u_l_read_0 {G : Tb} {cal : Cl → R LD} {ε : En} : runs G cal b_l_read_0 ε = sq (run G cal s_l_read_0 ε) (runs G cal b_l_read_2) := w_cons
theorem u_l_draws_9 {G : Tb} {cal : Cl → R LD} {ε : En} : runs G cal b_l_draws_9 ε = sq (run G cal s_l_draws_9 ε) (runs G cal .nil) := w_cons
theorem u_l_draws_6 {G : Tb} {cal : Cl → R LD} {ε : En} : runs G cal b_l_draws_6 ε = sq (run G cal s_l_draws_6 ε) (runs G cal .nil) := w_cons
theorem u_l_draws_5 {G : Tb} {cal : Cl → R LD} {ε : En} : runs G cal b_l_draws_5 ε = sq (run G cal s_l_draws_5 ε) (runs G cal b_l_draws_6) := w_cons
theorem u_l_draws_8 {G : Tb} {cal : Cl → R LD} {ε : En} : runs G cal b_l_draws_8 ε = sq (run G cal s_l_draws_8 ε) (runs G cal .nil) := w_cons
theorem u_l_draws_7 {G : Tb} {cal : Cl → R LD} {ε : En} : runs G cal b_l_draws_7 ε = sq (run G cal s_l_draws_7 ε) (runs G cal b_l_draws_8) := w_cons
theorem u_l_draws_4 {G : Tb} {cal : Cl → R LD} {ε : En} : runs G cal b_l_draws_4 ε = sq (run G cal s_l_draws_4 ε) (runs G cal .nil) := w_cons
theorem u_l_draws_3 {G : Tb} {cal : Cl → R LD} {ε : En} : runs G cal b_l_draws_3 ε = sq (run G cal s_l_draws_3 ε) (runs G cal b_l_draws_9) := w_cons
theorem u_l_draws_2 {G : Tb} {cal : Cl → R LD} {ε : En} : runs G cal b_l_draws_2 ε = sq (run G cal s_l_draws_2 ε) (runs G cal b_l_draws_3) := w_cons
theorem u_l_draws_1 {G : Tb} {cal : Cl → R LD} {ε : En} : runs G cal b_l_draws_1 ε = sq (run G cal s_l_draws_1 ε) (runs G cal b_l_draws_2) := w_cons
theorem u_l_draws_0 {G : Tb} {cal : Cl → R LD} {ε : En} : runs G cal b_l_draws_0 ε = sq (run G cal s_l_draws_0 ε) (runs G cal b_l_draws_1) := w_cons
@[simp] theorem u_l_linked_13z {G : Tb} {cal : Cl → R LD} {ε : En} : runs G cal b_l_linked_13z ε = sq (run G cal s_l_linked_13 ε) (runs G cal .nil) := w_cons
theorem u_l_linked_13 {G : Tb} {cal : Cl → R LD} {ε : En} : runs G cal b_l_linked_13 ε = sq (run G cal (.frz 6) ε) (runs G cal b_l_linked_13z) := w_cons
theorem u_l_linked_12 {G : Tb} {cal : Cl → R LD} {ε : En} : runs G cal b_l_linked_12 ε = sq (run G cal s_l_linked_12 ε) (runs G cal b_l_linked_13) := w_cons
theorem u_l_linked_11 {G : Tb} {cal : Cl → R LD} {ε : En} : runs G cal b_l_linked_11 ε = sq (run G cal s_l_linked_11 ε) (runs G cal b_l_linked_12) := w_cons
theorem u_l_linked_10 {G : Tb} {cal : Cl → R LD} {ε : En} : runs G cal b_l_linked_10 ε = sq (run G cal s_l_linked_10 ε) (runs G cal b_l_linked_11) := w_cons
theorem u_l_linked_9 {G : Tb} {cal : Cl → R LD} {ε : En} : runs G cal b_l_linked_9 ε = sq (run G cal s_l_linked_9 ε) (runs G cal .nil) := w_cons
theorem u_l_linked_8 {G : Tb} {cal : Cl → R LD} {ε : En} : runs G cal b_l_linked_8 ε = sq (run G cal s_l_linked_8 ε) (runs G cal b_l_linked_10) := w_cons
theorem u_l_linked_7 {G : Tb} {cal : Cl → R LD} {ε : En} : runs G cal b_l_linked_7 ε = sq (run G cal s_l_linked_7 ε) (runs G cal .nil) := w_cons
theorem u_l_linked_6 {G : Tb} {cal : Cl → R LD} {ε : En} : runs G cal b_l_linked_6 ε = sq (run G cal s_l_linked_6 ε) (runs G cal b_l_linked_8) := w_cons
theorem u_l_linked_5 {G : Tb} {cal : Cl → R LD} {ε : En} : runs G cal b_l_linked_5 ε = sq (run G cal s_l_linked_5 ε) (runs G cal .nil) := w_cons
theorem u_l_linked_4 {G : Tb} {cal : Cl → R LD} {ε : En} : runs G cal b_l_linked_4 ε = sq (run G cal s_l_linked_4 ε) (runs G cal b_l_linked_6) := w_cons
theorem u_l_linked_3 {G : Tb} {cal : Cl → R LD} {ε : En} : runs G cal b_l_linked_3 ε = sq (run G cal s_l_linked_3 ε) (runs G cal b_l_linked_4) := w_cons
theorem u_l_linked_2 {G : Tb} {cal : Cl → R LD} {ε : En} : runs G cal b_l_linked_2 ε = sq (run G cal s_l_linked_2 ε) (runs G cal .nil) := w_cons
theorem u_l_linked_1 {G : Tb} {cal : Cl → R LD} {ε : En} : runs G cal b_l_linked_1 ε = sq (run G cal s_l_linked_1 ε) (runs G cal b_l_linked_3) := w_cons
theorem u_l_linked_0 {G : Tb} {cal : Cl → R LD} {ε : En} : runs G cal b_l_linked_0 ε = sq (run G cal s_l_linked_0 ε) (runs G cal b_l_linked_1) := w_cons
@[simp] theorem u_l_table_14z {G : Tb} {cal : Cl → R LD} {ε : En} : runs G cal b_l_table_14z ε = sq (run G cal s_l_table_14 ε) (runs G cal .nil) := w_cons
theorem u_l_table_14 {G : Tb} {cal : Cl → R LD} {ε : En} : runs G cal b_l_table_14 ε = sq (run G cal (.frz 7) ε) (runs G cal b_l_table_14z) := w_cons
theorem u_l_table_13 {G : Tb} {cal : Cl → R LD} {ε : En} : runs G cal b_l_table_13 ε = sq (run G cal s_l_table_13 ε) (runs G cal .nil) := w_cons
theorem u_l_table_12 {G : Tb} {cal : Cl → R LD} {ε : En} : runs G cal b_l_table_12 ε = sq (run G cal s_l_table_12 ε) (runs G cal b_l_table_13) := w_cons
theorem u_l_table_11 {G : Tb} {cal : Cl → R LD} {ε : En} : runs G cal b_l_table_11 ε = sq (run G cal s_l_table_11 ε) (runs G cal b_l_table_14) := w_cons
theorem u_l_table_10 {G : Tb} {cal : Cl → R LD} {ε : En} : runs G cal b_l_table_10 ε = sq (run G cal s_l_table_10 ε) (runs G cal b_l_table_11) := w_cons
theorem u_l_table_9 {G : Tb} {cal : Cl → R LD} {ε : En} : runs G cal b_l_table_9 ε = sq (run G cal s_l_table_9 ε) (runs G cal b_l_table_10) := w_cons
theorem u_l_table_8 {G : Tb} {cal : Cl → R LD} {ε : En} : runs G cal b_l_table_8 ε = sq (run G cal s_l_table_8 ε) (runs G cal b_l_table_9) := w_cons
theorem u_l_table_7 {G : Tb} {cal : Cl → R LD} {ε : En} : runs G cal b_l_table_7 ε = sq (run G cal s_l_table_7 ε) (runs G cal .nil) := w_cons
theorem u_l_table_6 {G : Tb} {cal : Cl → R LD} {ε : En} : runs G cal b_l_table_6 ε = sq (run G cal s_l_table_6 ε) (runs G cal b_l_table_8) := w_cons
theorem u_l_table_5 {G : Tb} {cal : Cl → R LD} {ε : En} : runs G cal b_l_table_5 ε = sq (run G cal s_l_table_5 ε) (runs G cal b_l_table_6) := w_cons
theorem u_l_table_4 {G : Tb} {cal : Cl → R LD} {ε : En} : runs G cal b_l_table_4 ε = sq (run G cal s_l_table_4 ε) (runs G cal b_l_table_5) := w_cons
theorem u_l_table_3 {G : Tb} {cal : Cl → R LD} {ε : En} : runs G cal b_l_table_3 ε = sq (run G cal s_l_table_3 ε) (runs G cal .nil) := w_cons
theorem u_l_table_2 {G : Tb} {cal : Cl → R LD} {ε : En} : runs G cal b_l_table_2 ε = sq (run G cal s_l_table_2 ε) (runs G cal b_l_table_4) := w_cons
theorem u_l_table_1 {G : Tb} {cal : Cl → R LD} {ε : En} : runs G cal b_l_table_1 ε = sq (run G cal s_l_table_1 ε) (runs G cal b_l_table_2) := w_cons
theorem u_l_table_0 {G : Tb} {cal : Cl → R LD} {ε : En} : runs G cal b_l_table_0 ε = sq (run G cal s_l_table_0 ε) (runs G cal b_l_table_1) := w_cons
theorem u_l_levels_14 {G : Tb} {cal : Cl → R LD} {ε : En} : runs G cal b_l_levels_14 ε = sq (run G cal s_l_levels_14 ε) (runs G cal .nil) := w_cons
theorem u_l_levels_13 {G : Tb} {cal : Cl → R LD} {ε : En} : runs G cal b_l_levels_13 ε = sq (run G cal s_l_levels_13 ε) (runs G cal .nil) := w_cons
theorem u_l_levels_12 {G : Tb} {cal : Cl → R LD} {ε : En} : runs G cal b_l_levels_12 ε = sq (run G cal s_l_levels_12 ε) (runs G cal .nil) := w_cons
theorem u_l_levels_11 {G : Tb} {cal : Cl → R LD} {ε : En} : runs G cal b_l_levels_11 ε = sq (run G cal s_l_levels_11 ε) (runs G cal b_l_levels_13) := w_cons
theorem u_l_levels_10 {G : Tb} {cal : Cl → R LD} {ε : En} : runs G cal b_l_levels_10 ε = sq (run G cal s_l_levels_10 ε) (runs G cal .nil) := w_cons
theorem u_l_levels_9 {G : Tb} {cal : Cl → R LD} {ε : En} : runs G cal b_l_levels_9 ε = sq (run G cal s_l_levels_9 ε) (runs G cal b_l_levels_11) := w_cons
theorem u_l_levels_8 {G : Tb} {cal : Cl → R LD} {ε : En} : runs G cal b_l_levels_8 ε = sq (run G cal s_l_levels_8 ε) (runs G cal .nil) := w_cons
theorem u_l_levels_7 {G : Tb} {cal : Cl → R LD} {ε : En} : runs G cal b_l_levels_7 ε = sq (run G cal s_l_levels_7 ε) (runs G cal b_l_levels_9) := w_cons
theorem u_l_levels_6 {G : Tb} {cal : Cl → R LD} {ε : En} : runs G cal b_l_levels_6 ε = sq (run G cal s_l_levels_6 ε) (runs G cal .nil) := w_cons
theorem u_l_levels_5 {G : Tb} {cal : Cl → R LD} {ε : En} : runs G cal b_l_levels_5 ε = sq (run G cal s_l_levels_5 ε) (runs G cal b_l_levels_7) := w_cons
theorem u_l_levels_4 {G : Tb} {cal : Cl → R LD} {ε : En} : runs G cal b_l_levels_4 ε = sq (run G cal s_l_levels_4 ε) (runs G cal b_l_levels_5) := w_cons
theorem u_l_levels_3 {G : Tb} {cal : Cl → R LD} {ε : En} : runs G cal b_l_levels_3 ε = sq (run G cal s_l_levels_3 ε) (runs G cal b_l_levels_14) := w_cons
theorem u_l_levels_2 {G : Tb} {cal : Cl → R LD} {ε : En} : runs G cal b_l_levels_2 ε = sq (run G cal s_l_levels_2 ε) (runs G cal b_l_levels_3) := w_cons
theorem u_l_levels_1 {G : Tb} {cal : Cl → R LD} {ε : En} : runs G cal b_l_levels_1 ε = sq (run G cal s_l_levels_1 ε) (runs G cal b_l_levels_2) := w_cons
theorem u_l_levels_0 {G : Tb} {cal : Cl → R LD} {ε : En} : runs G cal b_l_levels_0 ε = sq (run G cal s_l_levels_0 ε) (runs G cal b_l_levels_1) := w_cons
theorem u_l_whole_0 {G : Tb} {cal : Cl → R LD} {ε : En} : runs G cal b_l_whole_0 ε = sq (run G cal s_l_whole_0 ε) (runs G cal .nil) := w_cons
theorem u_l_tuple_5 {G : Tb} {cal : Cl → R LD} {ε : En} : runs G cal b_l_tuple_5 ε = sq (run G cal s_l_tuple_5 ε) (runs G cal .nil) := w_cons
theorem u_l_tuple_4 {G : Tb} {cal : Cl → R LD} {ε : En} : runs G cal b_l_tuple_4 ε = sq (run G cal s_l_tuple_4 ε) (runs G cal .nil) := w_cons
theorem u_l_tuple_3 {G : Tb} {cal : Cl → R LD} {ε : En} : runs G cal b_l_tuple_3 ε = sq (run G cal s_l_tuple_3 ε) (runs G cal .nil) := w_cons
theorem u_l_tuple_2 {G : Tb} {cal : Cl → R LD} {ε : En} : runs G cal b_l_tuple_2 ε = sq (run G cal s_l_tuple_2 ε) (runs G cal b_l_tuple_5) := w_cons
theorem u_l_tuple_1 {G : Tb} {cal : Cl → R LD} {ε : En} : runs G cal b_l_tuple_1 ε = sq (run G cal s_l_tuple_1 ε) (runs G cal .nil) := w_cons
theorem u_l_tuple_0 {G : Tb} {cal : Cl → R LD} {ε : En} : runs G cal b_l_tuple_0 ε = sq (run G cal s_l_tuple_0 ε) (runs G cal b_l_tuple_2) := w_cons
theorem u_l_bad_2_1 {G : Tb} {cal : Cl → R LD} {ε : En} : runs G cal b_l_bad_2_1 ε = sq (run G cal s_l_bad_2_1 ε) (runs G cal .nil) := w_cons
theorem u_l_bad_2_0 {G : Tb} {cal : Cl → R LD} {ε : En} : runs G cal b_l_bad_2_0 ε = sq (run G cal s_l_bad_2_0 ε) (runs G cal b_l_bad_2_1) := w_cons
theorem u_l_group_outcome_3 {G : Tb} {cal : Cl → R LD} {ε : En} : runs G cal b_l_group_outcome_3 ε = sq (run G cal s_l_group_outcome_3 ε) (runs G cal .nil) := w_cons
theorem u_l_group_outcome_2 {G : Tb} {cal : Cl → R LD} {ε : En} : runs G cal b_l_group_outcome_2 ε = sq (run G cal s_l_group_outcome_2 ε) (runs G cal .nil) := w_cons
theorem u_l_group_outcome_1 {G : Tb} {cal : Cl → R LD} {ε : En} : runs G cal b_l_group_outcome_1 ε = sq (run G cal s_l_group_outcome_1 ε) (runs G cal b_l_group_outcome_3) := w_cons
theorem u_l_group_outcome_0 {G : Tb} {cal : Cl → R LD} {ε : En} : runs G cal b_l_group_outcome_0 ε = sq (run G cal s_l_group_outcome_0 ε) (runs G cal b_l_group_outcome_1) := w_cons
theorem u_l_group_good_9 {G : Tb} {cal : Cl → R LD} {ε : En} : runs G cal b_l_group_good_9 ε = sq (run G cal s_l_group_good_9 ε) (runs G cal .nil) := w_cons
theorem u_l_group_good_8 {G : Tb} {cal : Cl → R LD} {ε : En} : runs G cal b_l_group_good_8 ε = sq (run G cal s_l_group_good_8 ε) (runs G cal b_l_group_good_9) := w_cons
theorem u_l_group_good_7 {G : Tb} {cal : Cl → R LD} {ε : En} : runs G cal b_l_group_good_7 ε = sq (run G cal s_l_group_good_7 ε) (runs G cal .nil) := w_cons
theorem u_l_group_good_6 {G : Tb} {cal : Cl → R LD} {ε : En} : runs G cal b_l_group_good_6 ε = sq (run G cal s_l_group_good_6 ε) (runs G cal b_l_group_good_8) := w_cons
theorem u_l_group_good_5 {G : Tb} {cal : Cl → R LD} {ε : En} : runs G cal b_l_group_good_5 ε = sq (run G cal s_l_group_good_5 ε) (runs G cal b_l_group_good_6) := w_cons
theorem u_l_group_good_4 {G : Tb} {cal : Cl → R LD} {ε : En} : runs G cal b_l_group_good_4 ε = sq (run G cal s_l_group_good_4 ε) (runs G cal .nil) := w_cons
theorem u_l_group_good_3 {G : Tb} {cal : Cl → R LD} {ε : En} : runs G cal b_l_group_good_3 ε = sq (run G cal s_l_group_good_3 ε) (runs G cal b_l_group_good_5) := w_cons
theorem u_l_group_good_2 {G : Tb} {cal : Cl → R LD} {ε : En} : runs G cal b_l_group_good_2 ε = sq (run G cal s_l_group_good_2 ε) (runs G cal .nil) := w_cons
theorem u_l_group_good_1 {G : Tb} {cal : Cl → R LD} {ε : En} : runs G cal b_l_group_good_1 ε = sq (run G cal s_l_group_good_1 ε) (runs G cal b_l_group_good_3) := w_cons
theorem u_l_group_good_0 {G : Tb} {cal : Cl → R LD} {ε : En} : runs G cal b_l_group_good_0 ε = sq (run G cal s_l_group_good_0 ε) (runs G cal b_l_group_good_1) := w_cons
theorem u_law_k56_22 {G : Tb} {cal : Cl → R LD} {ε : En} : runs G cal b_law_k56_22 ε = sq (run G cal s_law_k56_22 ε) (runs G cal .nil) := w_cons
theorem u_law_k56_21 {G : Tb} {cal : Cl → R LD} {ε : En} : runs G cal b_law_k56_21 ε = sq (run G cal s_law_k56_21 ε) (runs G cal .nil) := w_cons
theorem u_law_k56_20 {G : Tb} {cal : Cl → R LD} {ε : En} : runs G cal b_law_k56_20 ε = sq (run G cal s_law_k56_20 ε) (runs G cal .nil) := w_cons
theorem u_law_k56_19 {G : Tb} {cal : Cl → R LD} {ε : En} : runs G cal b_law_k56_19 ε = sq (run G cal s_law_k56_19 ε) (runs G cal .nil) := w_cons
theorem u_law_k56_18 {G : Tb} {cal : Cl → R LD} {ε : En} : runs G cal b_law_k56_18 ε = sq (run G cal s_law_k56_18 ε) (runs G cal b_law_k56_20) := w_cons
theorem u_law_k56_17 {G : Tb} {cal : Cl → R LD} {ε : En} : runs G cal b_law_k56_17 ε = sq (run G cal s_law_k56_17 ε) (runs G cal b_law_k56_18) := w_cons
theorem u_law_k56_16 {G : Tb} {cal : Cl → R LD} {ε : En} : runs G cal b_law_k56_16 ε = sq (run G cal s_law_k56_16 ε) (runs G cal b_law_k56_22) := w_cons
theorem u_law_k56_15 {G : Tb} {cal : Cl → R LD} {ε : En} : runs G cal b_law_k56_15 ε = sq (run G cal s_law_k56_15 ε) (runs G cal b_law_k56_16) := w_cons
theorem u_law_k56_14 {G : Tb} {cal : Cl → R LD} {ε : En} : runs G cal b_law_k56_14 ε = sq (run G cal s_law_k56_14 ε) (runs G cal b_law_k56_15) := w_cons
theorem u_law_k56_13 {G : Tb} {cal : Cl → R LD} {ε : En} : runs G cal b_law_k56_13 ε = sq (run G cal s_law_k56_13 ε) (runs G cal .nil) := w_cons
theorem u_law_k56_12 {G : Tb} {cal : Cl → R LD} {ε : En} : runs G cal b_law_k56_12 ε = sq (run G cal s_law_k56_12 ε) (runs G cal .nil) := w_cons
theorem u_law_k56_11 {G : Tb} {cal : Cl → R LD} {ε : En} : runs G cal b_law_k56_11 ε = sq (run G cal s_law_k56_11 ε) (runs G cal .nil) := w_cons
theorem u_law_k56_10 {G : Tb} {cal : Cl → R LD} {ε : En} : runs G cal b_law_k56_10 ε = sq (run G cal s_law_k56_10 ε) (runs G cal .nil) := w_cons
theorem u_law_k56_9 {G : Tb} {cal : Cl → R LD} {ε : En} : runs G cal b_law_k56_9 ε = sq (run G cal s_law_k56_9 ε) (runs G cal b_law_k56_11) := w_cons
theorem u_law_k56_8 {G : Tb} {cal : Cl → R LD} {ε : En} : runs G cal b_law_k56_8 ε = sq (run G cal s_law_k56_8 ε) (runs G cal .nil) := w_cons
theorem u_law_k56_7 {G : Tb} {cal : Cl → R LD} {ε : En} : runs G cal b_law_k56_7 ε = sq (run G cal s_law_k56_7 ε) (runs G cal b_law_k56_9) := w_cons
theorem u_law_k56_6 {G : Tb} {cal : Cl → R LD} {ε : En} : runs G cal b_law_k56_6 ε = sq (run G cal s_law_k56_6 ε) (runs G cal b_law_k56_7) := w_cons
theorem u_law_k56_5 {G : Tb} {cal : Cl → R LD} {ε : En} : runs G cal b_law_k56_5 ε = sq (run G cal s_law_k56_5 ε) (runs G cal b_law_k56_12) := w_cons
theorem u_law_k56_4 {G : Tb} {cal : Cl → R LD} {ε : En} : runs G cal b_law_k56_4 ε = sq (run G cal s_law_k56_4 ε) (runs G cal b_law_k56_5) := w_cons
theorem u_law_k56_3 {G : Tb} {cal : Cl → R LD} {ε : En} : runs G cal b_law_k56_3 ε = sq (run G cal s_law_k56_3 ε) (runs G cal b_law_k56_14) := w_cons
theorem u_law_k56_2 {G : Tb} {cal : Cl → R LD} {ε : En} : runs G cal b_law_k56_2 ε = sq (run G cal s_law_k56_2 ε) (runs G cal b_law_k56_3) := w_cons
theorem u_law_k56_1 {G : Tb} {cal : Cl → R LD} {ε : En} : runs G cal b_law_k56_1 ε = sq (run G cal s_law_k56_1 ε) (runs G cal b_law_k56_2) := w_cons
theorem u_law_k56_0 {G : Tb} {cal : Cl → R LD} {ε : En} : runs G cal b_law_k56_0 ε = sq (run G cal s_law_k56_0 ε) (runs G cal b_law_k56_1) := w_cons
theorem tab_chk : T.tab.all (chkD T.nm) = true := by decide +kernel
theorem bd_p__wall : Txt.BdOk (17, t_p__wall, d_p__wall) := fun _ K fd S => FunB.bindsN (Stands.fb S) fun _ _ _ _ _ _ us hl => match us, hl with | [_], _ => rfl
theorem bd_p_is_number : Txt.BdOk (0, t_p_is_number, d_p_is_number) := fun _ K fd S => FunB.bindsN (Stands.fb S) fun _ _ _ _ _ _ us hl => match us, hl with | [_, _, _], _ => rfl
theorem bd_p_check_row : Txt.BdOk (1, t_p_check_row, d_p_check_row) := fun _ K fd S => FunB.bindsN (Stands.fb S) fun _ _ _ _ _ _ us hl => match us, hl with | [_, _], _ => rfl
theorem bd_p_check_column : Txt.BdOk (2, t_p_check_column, d_p_check_column) := fun _ K fd S => FunB.bindsN (Stands.fb S) fun _ _ _ _ _ _ us hl => match us, hl with | [_, _], _ => rfl
theorem bd_p_marks_tuple : Txt.BdOk (18, t_p_marks_tuple, d_p_marks_tuple) := fun _ K fd S => FunB.bindsN (Stands.fb S) fun _ _ _ _ _ _ us hl => match us, hl with | [_, _, _], _ => rfl
theorem bd_p_width_of : Txt.BdOk (19, t_p_width_of, d_p_width_of) := fun _ K fd S => FunB.bindsN (Stands.fb S) fun _ _ _ _ _ _ us hl => match us, hl with | [_], _ => rfl
theorem bd_m_Table_init : Txt.BdOk (399, t_m_Table_init, d_m_Table_init) := fun h => absurd h (by decide)
theorem bd_m_Table_len : Txt.BdOk (400, t_m_Table_len, d_m_Table_len) := fun _ K fd S => FunB.bindsN (Stands.fb S) fun _ _ _ _ _ _ us hl => match us, hl with | [_], _ => rfl
theorem bd_m_Table_getitem : Txt.BdOk (401, t_m_Table_getitem, d_m_Table_getitem) := fun _ K fd S => FunB.bindsN (Stands.fb S) fun _ _ _ _ _ _ us hl => match us, hl with | [_, _], _ => rfl
theorem bd_m_Table_iter : Txt.BdOk (402, t_m_Table_iter, d_m_Table_iter) := fun _ K fd S => FunB.bindsN (Stands.fb S) fun _ _ _ _ _ _ us hl => match us, hl with | [_], _ => rfl
theorem bd_m_Table_eq : Txt.BdOk (403, t_m_Table_eq, d_m_Table_eq) := fun _ K fd S => FunB.bindsN (Stands.fb S) fun _ _ _ _ _ _ us hl => match us, hl with | [_, _], _ => rfl
theorem bd_m_Table_with_row : Txt.BdOk (404, t_m_Table_with_row, d_m_Table_with_row) := fun _ K fd S => FunB.bindsN (Stands.fb S) fun _ _ _ _ _ _ us hl => match us, hl with | [_, _], _ => rfl
theorem bd_m_Table_without : Txt.BdOk (405, t_m_Table_without, d_m_Table_without) := fun _ K fd S => FunB.bindsN (Stands.fb S) fun _ _ _ _ _ _ us hl => match us, hl with | [_, _], _ => rfl
theorem bd_m_Table_with_mark : Txt.BdOk (406, t_m_Table_with_mark, d_m_Table_with_mark) := fun _ K fd S => FunB.bindsN (Stands.fb S) fun _ _ _ _ _ _ us hl => match us, hl with | [_, _, _, _], _ => rfl
theorem bd_m_Table_column_marks : Txt.BdOk (407, t_m_Table_column_marks, d_m_Table_column_marks) := fun _ K fd S => FunB.bindsN (Stands.fb S) fun _ _ _ _ _ _ us hl => match us, hl with | [_, _], _ => rfl
theorem bd_m_Table_written : Txt.BdOk (408, t_m_Table_written, d_m_Table_written) := fun _ K fd S => FunB.bindsN (Stands.fb S) fun _ _ _ _ _ _ us hl => match us, hl with | [_], _ => rfl
theorem bd_m_Table_parse : Txt.BdOk (498, t_m_Table_parse, d_m_Table_parse) := fun _ K fd S => FunB.bindsN (Stands.fb S) fun _ _ _ _ _ _ us hl => match us, hl with | [_], _ => rfl
theorem bd_p_next_group : Txt.BdOk (253, t_p_next_group, d_p_next_group) := fun _ K fd S => FunB.bindsN (Stands.fb S) fun _ _ _ _ _ _ us hl => match us, hl with | [_, _, _], _ => rfl
theorem bd_l_read : Txt.BdOk (4, t_l_read, d_l_read) := fun _ K fd S => FunB.bindsN (Stands.fb S) fun _ _ _ _ _ _ us hl => match us, hl with | [_, _], _ => rfl
theorem bd_l_draws : Txt.BdOk (5, t_l_draws, d_l_draws) := fun _ K fd S => FunB.bindsN (Stands.fb S) fun _ _ _ _ _ _ us hl => match us, hl with | [_, _, _], _ => rfl
theorem bd_l_linked : Txt.BdOk (12, t_l_linked, d_l_linked) := fun _ K fd S => FunB.bindsN (Stands.fb S) fun _ _ _ _ _ _ us hl => match us, hl with | [_, _, _], _ => rfl
theorem bd_l_table : Txt.BdOk (20, t_l_table, d_l_table) := fun _ K fd S => FunB.bindsN (Stands.fb S) fun _ _ _ _ _ _ us hl => match us, hl with | [_], _ => rfl
theorem bd_l_levels : Txt.BdOk (117, t_l_levels, d_l_levels) := fun _ K fd S => FunB.bindsN (Stands.fb S) fun _ _ _ _ _ _ us hl => match us, hl with | [_, _, _, _], _ => rfl
theorem bd_l_whole : Txt.BdOk (21, t_l_whole, d_l_whole) := fun _ K fd S => FunB.bindsN (Stands.fb S) fun _ _ _ _ _ _ us hl => match us, hl with | [_], _ => rfl
theorem bd_l_tuple : Txt.BdOk (22, t_l_tuple, d_l_tuple) := fun _ K fd S => FunB.bindsN (Stands.fb S) fun _ _ _ _ _ _ us hl => match us, hl with | [_, _], _ => rfl
theorem bd_l_bad_2 : Txt.BdOk (196, t_l_bad_2, d_l_bad_2) := fun _ K fd S => FunB.bindsN (Stands.fb S) fun _ _ _ _ _ _ us hl => match us, hl with | [_, _, _], _ => rfl
theorem bd_l_group_outcome : Txt.BdOk (254, t_l_group_outcome, d_l_group_outcome) := fun _ K fd S => FunB.bindsN (Stands.fb S) fun _ _ _ _ _ _ us hl => match us, hl with | [_, _, _], _ => rfl
theorem bd_l_group_good : Txt.BdOk (255, t_l_group_good, d_l_group_good) := fun _ K fd S => FunB.bindsN (Stands.fb S) fun _ _ _ _ _ _ us hl => match us, hl with | [_, _, _, _], _ => rfl
theorem bd_law_k56 : Txt.BdOk (256, t_law_k56, d_law_k56) := fun _ K fd S => FunB.bindsN (Stands.fb S) fun _ _ _ _ _ _ us hl => match us, hl with | [_], _ => rfl
theorem bd_all : ∀ p ∈ T.tab, Txt.BdOk p := by
  show ∀ p ∈ tabT, Txt.BdOk p
  unfold tabT
  refine List.forall_mem_cons.mpr ⟨bd_p__wall, ?_⟩
  refine List.forall_mem_cons.mpr ⟨bd_p_is_number, ?_⟩
  refine List.forall_mem_cons.mpr ⟨bd_p_check_row, ?_⟩
  refine List.forall_mem_cons.mpr ⟨bd_p_check_column, ?_⟩
  refine List.forall_mem_cons.mpr ⟨bd_p_marks_tuple, ?_⟩
  refine List.forall_mem_cons.mpr ⟨bd_p_width_of, ?_⟩
  refine List.forall_mem_cons.mpr ⟨bd_m_Table_init, ?_⟩
  refine List.forall_mem_cons.mpr ⟨bd_m_Table_len, ?_⟩
  refine List.forall_mem_cons.mpr ⟨bd_m_Table_getitem, ?_⟩
  refine List.forall_mem_cons.mpr ⟨bd_m_Table_iter, ?_⟩
  refine List.forall_mem_cons.mpr ⟨bd_m_Table_eq, ?_⟩
  refine List.forall_mem_cons.mpr ⟨bd_m_Table_with_row, ?_⟩
  refine List.forall_mem_cons.mpr ⟨bd_m_Table_without, ?_⟩
  refine List.forall_mem_cons.mpr ⟨bd_m_Table_with_mark, ?_⟩
  refine List.forall_mem_cons.mpr ⟨bd_m_Table_column_marks, ?_⟩
  refine List.forall_mem_cons.mpr ⟨bd_m_Table_written, ?_⟩
  refine List.forall_mem_cons.mpr ⟨bd_m_Table_parse, ?_⟩
  refine List.forall_mem_cons.mpr ⟨bd_p_next_group, ?_⟩
  refine List.forall_mem_cons.mpr ⟨bd_l_read, ?_⟩
  refine List.forall_mem_cons.mpr ⟨bd_l_draws, ?_⟩
  refine List.forall_mem_cons.mpr ⟨bd_l_linked, ?_⟩
  refine List.forall_mem_cons.mpr ⟨bd_l_table, ?_⟩
  refine List.forall_mem_cons.mpr ⟨bd_l_levels, ?_⟩
  refine List.forall_mem_cons.mpr ⟨bd_l_whole, ?_⟩
  refine List.forall_mem_cons.mpr ⟨bd_l_tuple, ?_⟩
  refine List.forall_mem_cons.mpr ⟨bd_l_bad_2, ?_⟩
  refine List.forall_mem_cons.mpr ⟨bd_l_group_outcome, ?_⟩
  refine List.forall_mem_cons.mpr ⟨bd_l_group_good, ?_⟩
  refine List.forall_mem_cons.mpr ⟨bd_law_k56, ?_⟩
  exact fun p m => nomatch m
theorem bx_m_BadRow_init : Txt.BdX t_m_BadRow_init := fun K fd S => FunB.bindsN (Stands.fb S) fun _ _ _ _ _ _ us hl => match us, hl with | [_, _], _ => rfl
theorem bx_m_BadColumn_init : Txt.BdX t_m_BadColumn_init := fun K fd S => FunB.bindsN (Stands.fb S) fun _ _ _ _ _ _ us hl => match us, hl with | [_, _], _ => rfl
theorem bx_m_BadPage_init : Txt.BdX t_m_BadPage_init := fun K fd S => FunB.bindsN (Stands.fb S) fun _ _ _ _ _ _ us hl => match us, hl with | [_, _], _ => rfl
theorem bx_m_ReadOut_init : Txt.BdX t_m_ReadOut_init := fun K fd S => FunB.bindsN (Stands.fb S) fun _ _ _ _ _ _ us hl => match us, hl with | [_, _], _ => rfl
theorem bx_m_NotEnough_init : Txt.BdX t_m_NotEnough_init := fun K fd S => FunB.bindsN (Stands.fb S) fun _ _ _ _ _ _ us hl => match us, hl with | [_, _], _ => rfl
theorem xb_all : ∀ p ∈ T.xtb, Txt.BdX p.2 := by
  show ∀ p ∈ xtbT, Txt.BdX p.2
  unfold xtbT
  refine List.forall_mem_cons.mpr ⟨bx_m_BadRow_init, ?_⟩
  refine List.forall_mem_cons.mpr ⟨bx_m_BadColumn_init, ?_⟩
  refine List.forall_mem_cons.mpr ⟨bx_m_BadPage_init, ?_⟩
  refine List.forall_mem_cons.mpr ⟨bx_m_ReadOut_init, ?_⟩
  refine List.forall_mem_cons.mpr ⟨bx_m_NotEnough_init, ?_⟩
  exact fun p m => nomatch m
theorem xi_chk : T.xin.all T.xiD = true := by decide +kernel
theorem xd_chk : T.xtb.all (fun p => (T.tab.lookup p.1).isNone) = true := by decide +kernel
theorem sh_3 : T.ShOk (3, 13, 399, 1, ["columns", "top"]) := by
  intro t d e K em fd S
  have e2 : T.tab.lookup 399 = some (t_m_Table_init, d_m_Table_init) := by rfl
  obtain ⟨rfl, rfl⟩ := Prod.mk.inj (Option.some.inj (e.symm.trans e2))
  obtain ⟨mv, kb⟩ := FunB.kbinds0 (ps := t_m_Table_init.ps) (Stands.fb S) 2 ["columns", "top"] [] (fun us mv ws => us ++ (ws.drop 0).take 1 ++ (ws.drop 1).take 1) (List.cons_ne_nil _ _) (by simp [t_m_Table_init, He.Dv.v]) (fun r1 r2 r3 => ((r1).append ((r3.drop 0).take 1)).append ((r3.drop 1).take 1)) (fun D doc pm an cdv ct us mv ws l1 l2 l3 => (match us, mv, ws, l1, l2, l3 with | [_, _], [], [_, _], _, _, _ => rfl))
  refine ⟨_, _, kb, ?_⟩
  intro k hk Z y vs zs ds es r e s1 s2 l1 l2
  match vs, zs, ds, es, s1, s2, l1, l2, e with
  | [v0], [z0, z1], [_], [_, _], .cons h0 .nil, .cons g0 (.cons g1 .nil), _, _, e => exact ⟨[v0, z0, z1], rfl, by cases (show _ = _ from e); exact .cons h0 (.cons g0 (.cons g1 .nil))⟩
theorem sh_4 : T.ShOk (4, 13, 399, 1, ["top"]) := by
  intro t d e K em fd S
  have e2 : T.tab.lookup 399 = some (t_m_Table_init, d_m_Table_init) := by rfl
  obtain ⟨rfl, rfl⟩ := Prod.mk.inj (Option.some.inj (e.symm.trans e2))
  obtain ⟨mv, kb⟩ := FunB.kbinds0 (ps := t_m_Table_init.ps) (Stands.fb S) 2 ["top"] [("columns", .non)] (fun us mv ws => us ++ (mv.drop 0).take 1 ++ (ws.drop 0).take 1) (List.cons_ne_nil _ _) (by simp [t_m_Table_init, He.Dv.v]) (fun r1 r2 r3 => ((r1).append ((r2.drop 0).take 1)).append ((r3.drop 0).take 1)) (fun D doc pm an cdv ct us mv ws l1 l2 l3 => (match us, mv, ws, l1, l2, l3 with | [_, _], [_], [_], _, _, _ => ⟨_, _, _, _, _, _, rfl, rfl, rfl⟩))
  refine ⟨_, _, kb, ?_⟩
  intro k hk Z y vs zs ds es r e s1 s2 l1 l2
  match vs, zs, ds, es, s1, s2, l1, l2, e with
  | [v0], [z0], [_], [_], .cons h0 .nil, .cons g0 .nil, _, _, e => exact ⟨[v0, .non, z0], rfl, by cases (show _ = _ from e); exact .cons h0 (.cons .non (.cons g0 .nil))⟩
theorem sh_5 : T.ShOk (5, 13, 399, 1, ["columns"]) := by
  intro t d e K em fd S
  have e2 : T.tab.lookup 399 = some (t_m_Table_init, d_m_Table_init) := by rfl
  obtain ⟨rfl, rfl⟩ := Prod.mk.inj (Option.some.inj (e.symm.trans e2))
  obtain ⟨mv, kb⟩ := FunB.kbinds0 (ps := t_m_Table_init.ps) (Stands.fb S) 2 ["columns"] [("top", .int 9)] (fun us mv ws => us ++ (ws.drop 0).take 1 ++ (mv.drop 0).take 1) (List.cons_ne_nil _ _) (by simp [t_m_Table_init, He.Dv.v]) (fun r1 r2 r3 => ((r1).append ((r3.drop 0).take 1)).append ((r2.drop 0).take 1)) (fun D doc pm an cdv ct us mv ws l1 l2 l3 => (match us, mv, ws, l1, l2, l3 with | [_, _], [_], [_], _, _, _ => ⟨_, _, _, _, _, _, rfl, rfl, rfl⟩))
  refine ⟨_, _, kb, ?_⟩
  intro k hk Z y vs zs ds es r e s1 s2 l1 l2
  match vs, zs, ds, es, s1, s2, l1, l2, e with
  | [v0], [z0], [_], [_], .cons h0 .nil, .cons g0 .nil, _, _, e => exact ⟨[v0, z0, .int 9], rfl, by cases (show _ = _ from e); exact .cons h0 (.cons g0 (.cons (.int _) .nil))⟩
theorem sh_all : ∀ p ∈ T.shs, T.ShOk p := by
  show ∀ p ∈ shsT, T.ShOk p
  unfold shsT
  refine List.forall_mem_cons.mpr ⟨sh_3, ?_⟩
  refine List.forall_mem_cons.mpr ⟨sh_4, ?_⟩
  refine List.forall_mem_cons.mpr ⟨sh_5, ?_⟩
  exact fun p m => nomatch m
theorem fk_all : ∀ p ∈ T.fks, T.KwOk p.1 p.2.1 p.2.2.2.1 p.2.2.2.2 := by
  show ∀ p ∈ fksT, T.KwOk p.1 p.2.1 p.2.2.2.1 p.2.2.2.2
  unfold fksT
  exact fun p m => nomatch m
theorem st_all : ∀ p ∈ T.sts, T.KwOk p.1 p.2.2.2.1 p.2.2.2.2.1 p.2.2.2.2.2 := by
  show ∀ p ∈ stsT, T.KwOk p.1 p.2.2.2.1 p.2.2.2.2.1 p.2.2.2.2.2
  unfold stsT
  exact fun p m => nomatch m
section
variable {o0 o1 o2 o3 o4 o5 o6 o7 o8 o9 o10 o11 o12 o13 o14 o15 o16 o17 o18 o19 o20 o21 o22 o23 o24 o25 o26 o27 o28 o29 o30 o31 o32 o33 o34 o35 o36 o37 o38 o39 o40 o41 o42 o43 o44 o45 o46 o47 o48 o49 o50 o51 o52 o53 o54 o55 o56 o57 o58 o59 : Option LD}
theorem s_read {n : Nat} (hn : 1 ≤ n) (ns : List Int) (i : Int) (h0 : 0 ≤ i) : callI GA FS n (.fn 4 [.scr ns, .int i]) = .ok (0, .int (gI ns i.toNat)) := by
  refine fn_wp (q := 0) F_l_read rfl hn fun m hm => ?_
  obtain ⟨k, rfl⟩ := Int.eq_ofNat_of_zero_le h0
  by_cases hi : k < ns.length
  · simp [d_l_read, u_l_read_0, s_l_read_0, u_l_read_1, s_l_read_1, u_l_read_2, s_l_read_2, hi, atI_nat, gI]
  · simp [d_l_read, u_l_read_0, s_l_read_0, u_l_read_1, s_l_read_1, u_l_read_2, s_l_read_2, hi, gI]
/-- numbers drawn of one -/
def mixed (a : Int) (k : Nat) (base : Int) : Int :=
  (a * (904381726353411577 + 517230984406128813 * (k : Int))) % 2305843009213693951 * ((a * (904381726353411577 + 517230984406128813 * (k : Int))) % 2305843009213693951) % 1000000000000000003 % base
def small (c : Int) : Bool := decide ((c.natAbs : Int) < 1000000000000000000)
theorem small_def {c : Int} : decide ((c.natAbs : Int) < 1000000000000000000) = small c := rfl
theorem small_true {c : Int} (h : small c = true) : (c.natAbs : Int) < 1000000000000000000 := of_decide_eq_true h
def drawn1 (c : Int) (k : Nat) (base : Int) : Int := if small c = true then mixed (c.natAbs : Int) k base else ((c.natAbs : Int) / base ^ k) % base
def drawnI (c : Int) (many : Nat) (base : Int) : List Int := (List.range many).map fun (k : Nat) => drawn1 c k base
noncomputable def drawn : Int → Nat → Int → List Int := hid drawnI
theorem drawn_eq {c : Int} {many : Nat} {base : Int} : drawn c many base = (List.range many).map fun (k : Nat) => drawn1 c k base := by unfold drawn; rw [hid_eq]; rfl
theorem drawn_len {c : Int} {many : Nat} {base : Int} : (drawn c many base).length = many := by simp [drawn_eq]
theorem drawn_mem {c : Int} {many : Nat} {base : Int} (hb : 0 < base) : ∀ x ∈ drawn c many base, 0 ≤ x ∧ x < base := by
  intro x hx
  rw [drawn_eq] at hx
  obtain ⟨k, _, rfl⟩ := List.mem_map.mp hx
  unfold drawn1 mixed
  split <;> exact ⟨Int.emod_nonneg _ (by omega), Int.emod_lt_of_pos _ hb⟩
theorem drawn_snoc {c : Int} {j : Nat} {base : Int} : drawn c (j + 1) base = drawn c j base ++ [drawn1 c j base] := by
  rw [drawn_eq, drawn_eq]
  rw [List.range_succ, List.map_append]
  rfl
def I_draws (c : Int) (many : Nat) (base : Int) (j : Nat) (ε : En) : Prop := ∃ (rest : Int) (o6 o7 : Option LD), ε = [some (0, .int c), some (0, .int many), some (0, .int base), some (0, .int rest), some (0, .bl (small c)), some (2, .lst (iL (drawn c j base))), o6, o7] ∧ ((small c = true → rest = c.natAbs) ∧ (small c = false → rest = (c.natAbs : Int) / base ^ j))
theorem s_drawsN {n : Nat} (hn : 1 ≤ n) (c : Int) (many : Nat) (base : Int) (hb : 0 < base) (hm : many ≤ 1000) (hb2 : base ≤ 10 ^ 60) :
    callI GA FS n (.fn 5 [.int c, .int many, .int base]) = .ok (2, .lst (iL (drawn c many base))) := by
  refine fn_wp (q := 0) F_l_draws rfl hn fun m hm => ?_
  simp (disch := first | omega | assumption | (simp only [oL_len, oR_len, oT_len, List.length_take, List.length_set, iL_length, rL_len, rT_len, List.length_map, List.length_append, List.length_cons, List.length_nil, rngD_len, List.length_range, drawn_len]; omega) | (split <;> omega) | (simp only [List.getElem?_cons_succ, List.getElem?_cons_zero]; done)) [d_l_draws, u_l_draws_0, s_l_draws_0, u_l_draws_1, s_l_draws_1, u_l_draws_2, s_l_draws_2, u_l_draws_3, s_l_draws_3, u_l_draws_4, s_l_draws_4, u_l_draws_5, s_l_draws_5, u_l_draws_6, s_l_draws_6, u_l_draws_7, s_l_draws_7, u_l_draws_8, s_l_draws_8, u_l_draws_9, s_l_draws_9, small_def]
  have e0 : drawn c 0 base = [] := by rw [drawn_eq]; rfl
  refine wp_rng (I_draws c many base) ⟨_, _, _, by rw [e0]; rfl, fun _ => rfl, fun _ => by simp⟩ (fun j hj ε h => ?_) (fun ε h => ?_)
  · obtain ⟨rest, o6, o7, rfl, h1, h2⟩ := h
    refine ⟨by simp, ?_⟩
    cases hp : small c with
    | true =>
      have e := h1 hp
      have hs := small_true hp
      subst e
      have b1 : 0 ≤ ((c.natAbs : Int) * (904381726353411577 + 517230984406128813 * (j : Int))) % 2305843009213693951 := Int.emod_nonneg _ (by omega)
      have b2 : ((c.natAbs : Int) * (904381726353411577 + 517230984406128813 * (j : Int))) % 2305843009213693951 < 2305843009213693951 := Int.emod_lt_of_pos _ (by omega)
      simp (disch := first | omega | assumption | (simp only [oL_len, oR_len, oT_len, List.length_take, List.length_set, iL_length, rL_len, rT_len, List.length_map, List.length_append, List.length_cons, List.length_nil, rngD_len, List.length_range, drawn_len]; omega) | (split <;> omega) | (simp only [List.getElem?_cons_succ, List.getElem?_cons_zero]; done)) [u_l_draws_0, s_l_draws_0, u_l_draws_1, s_l_draws_1, u_l_draws_2, s_l_draws_2, u_l_draws_3, s_l_draws_3, u_l_draws_4, s_l_draws_4, u_l_draws_5, s_l_draws_5, u_l_draws_6, s_l_draws_6, u_l_draws_7, s_l_draws_7, u_l_draws_8, s_l_draws_8, u_l_draws_9, s_l_draws_9]
      exact ⟨_, _, _, by rw [drawn_snoc, drawn1, if_pos hp, hp]; rfl, fun _ => rfl, fun z => by rw [hp] at z; cases z⟩
    | false =>
      have e := h2 hp
      simp (disch := first | omega | assumption | (simp only [oL_len, oR_len, oT_len, List.length_take, List.length_set, iL_length, rL_len, rT_len, List.length_map, List.length_append, List.length_cons, List.length_nil, rngD_len, List.length_range, drawn_len]; omega) | (split <;> omega) | (simp only [List.getElem?_cons_succ, List.getElem?_cons_zero]; done)) [u_l_draws_0, s_l_draws_0, u_l_draws_1, s_l_draws_1, u_l_draws_2, s_l_draws_2, u_l_draws_3, s_l_draws_3, u_l_draws_4, s_l_draws_4, u_l_draws_5, s_l_draws_5, u_l_draws_6, s_l_draws_6, u_l_draws_7, s_l_draws_7, u_l_draws_8, s_l_draws_8, u_l_draws_9, s_l_draws_9]
      refine ⟨_, _, _, by rw [drawn_snoc, drawn1, if_neg (by rw [hp]; simp), hp, ← e], (fun z => by rw [hp] at z; cases z), fun _ => ?_⟩
      rw [e, Int.pow_succ, Int.ediv_ediv_of_nonneg (by exact Int.le_of_lt (Int.pow_pos hb))]
  · obtain ⟨rest, o6, o7, rfl, h1, h2⟩ := h
    simp [u_l_draws_0, s_l_draws_0, u_l_draws_1, s_l_draws_1, u_l_draws_2, s_l_draws_2, u_l_draws_3, s_l_draws_3, u_l_draws_4, s_l_draws_4, u_l_draws_5, s_l_draws_5, u_l_draws_6, s_l_draws_6, u_l_draws_7, s_l_draws_7, u_l_draws_8, s_l_draws_8, u_l_draws_9, s_l_draws_9]

theorem s_draws {n : Nat} (hn : 1 ≤ n) (c many base : Int) (h0 : 0 ≤ many) (hm : many ≤ 1000) (hb : 0 < base) (hb2 : base ≤ 10 ^ 60) :
    callI GA FS n (.fn 5 [.int c, .int many, .int base]) = .ok (2, .lst (iL (drawn c many.toNat base))) := by
  obtain ⟨k, rfl⟩ := Int.eq_ofNat_of_zero_le h0
  exact s_drawsN hn c k base hb (by omega) hb2
def linkedI (rows : List (List Int)) (own : List Int) (link : Int) : List Int :=
  if rows = [] ∨ link % 10 = 0 ∨ 4 < link % 10 then own else
  let other := gR rows (link / 10 % rows.length).toNat
  if link % 10 = 1 then other else
  if link % 10 = 2 then (List.range own.length).map fun k => if gI other k < gI own k then gI other k else gI own k else
  if link % 10 = 3 then (List.range own.length).map fun k => if gI other k > gI own k then gI other k else gI own k else
  let spot := (link / 10 / rows.length % own.length).toNat
  other.set spot (gI own spot)
noncomputable def linkedF : List (List Int) → List Int → Int → List Int := hid linkedI
theorem linkedF_eq {rows : List (List Int)} {own : List Int} {link : Int} : linkedF rows own link = linkedI rows own link := by unfold linkedF; rw [hid_eq]
theorem linkedF_ok {rows : List (List Int)} {own : List Int} {link : Int} (Pp : Int → Prop) (hl : ∀ r ∈ rows, r.length = own.length) (hP : ∀ r ∈ rows, ∀ x ∈ r, Pp x) (hO : ∀ x ∈ own, Pp x) : (linkedF rows own link).length = own.length ∧ ∀ x ∈ linkedF rows own link, Pp x := by
  rw [linkedF_eq]
  unfold linkedI
  split
  · exact ⟨rfl, hO⟩
  · rename_i h
    have hr0 : rows ≠ [] := fun e => h (.inl e)
    have hrp : 0 < rows.length := List.length_pos_iff.mpr hr0
    have hix0 : 0 ≤ link / 10 % (rows.length : Int) := Int.emod_nonneg _ (by omega)
    have hix1 : link / 10 % (rows.length : Int) < rows.length := Int.emod_lt_of_pos _ (by omega)
    have hmem : gR rows (link / 10 % rows.length).toNat ∈ rows := by
      exact gR_mem (by omega)
    generalize gR rows (link / 10 % rows.length).toNat = other at hmem
    have ol := hl _ hmem
    have oP := hP _ hmem
    have g1 : ∀ k, k < own.length → Pp (gI other k) := fun k hk => oP _ (gI_mem (by omega))
    have g2 : ∀ k, k < own.length → Pp (gI own k) := fun k hk => hO _ (gI_mem (by omega))
    simp only []
    split
    · exact ⟨ol, oP⟩
    · split
      · refine ⟨by simp, fun x hx => ?_⟩
        obtain ⟨k, hk, rfl⟩ := List.mem_map.mp hx
        rw [List.mem_range] at hk
        split
        · exact g1 k hk
        · exact g2 k hk
      · split
        · refine ⟨by simp, fun x hx => ?_⟩
          obtain ⟨k, hk, rfl⟩ := List.mem_map.mp hx
          rw [List.mem_range] at hk
          split
          · exact g1 k hk
          · exact g2 k hk
        · refine ⟨by simp [ol], fun x hx => ?_⟩
          by_cases h0 : own.length = 0
          · have : other = [] := List.eq_nil_of_length_eq_zero (by omega)
            rw [this] at hx; simp at hx
          · rcases List.mem_or_eq_of_mem_set hx with hx | rfl
            · exact oP x hx
            · exact g2 _ (by
                have := Int.emod_lt_of_pos (link / 10 / (rows.length : Int)) (b := own.length) (by omega)
                have := Int.emod_nonneg (link / 10 / (rows.length : Int)) (b := own.length) (by omega)
                omega)
theorem c_linked {m : Nat} {own other : List Int} (hl : other.length = own.length) (ho : own.length ≤ 1000) :
    evE GA (callI GA FS m) c_l_linked_1 [o0, some (0, .lst (iL own)), o2, o3, some (0, .lst (iL other)), o5, o6, o7] = .ok (2, .lst (iL ((List.range own.length).map fun k => if gI other k < gI own k then gI other k else gI own k))) ∧
    evE GA (callI GA FS m) c_l_linked_0 [o0, some (0, .lst (iL own)), o2, o3, some (0, .lst (iL other)), o5, o6, o7] = .ok (2, .lst (iL ((List.range own.length).map fun k => if gI other k > gI own k then gI other k else gI own k))) := by
  constructor
  · simp (disch := first | omega | assumption | (simp only [oL_len, oR_len, oT_len, List.length_take, List.length_set, iL_length, rL_len, rT_len, List.length_map, List.length_append, List.length_cons, List.length_nil, rngD_len, List.length_range, drawn_len]; omega) | (split <;> omega) | (simp only [List.getElem?_cons_succ, List.getElem?_cons_zero]; done)) [c_l_linked_1, rng_map]
    rw [comp2n (fun k => .int (if gI other k < gI own k then gI other k else gI own k)) (fun _ => 0) (by simp; omega) fun k hk => ?_]
    · simp [iL]
    · rw [List.mem_range] at hk
      have h2 : k < other.length := by omega
      rw [WpT_one]
      simp (disch := first | omega | assumption | (simp only [oL_len, oR_len, oT_len, List.length_take, List.length_set, iL_length, rL_len, rT_len, List.length_map, List.length_append, List.length_cons, List.length_nil, rngD_len, List.length_range, drawn_len]; omega) | (split <;> omega) | (simp only [List.getElem?_cons_succ, List.getElem?_cons_zero]; done)) []
  · simp (disch := first | omega | assumption | (simp only [oL_len, oR_len, oT_len, List.length_take, List.length_set, iL_length, rL_len, rT_len, List.length_map, List.length_append, List.length_cons, List.length_nil, rngD_len, List.length_range, drawn_len]; omega) | (split <;> omega) | (simp only [List.getElem?_cons_succ, List.getElem?_cons_zero]; done)) [c_l_linked_0, rng_map]
    rw [comp2n (fun k => .int (if gI other k > gI own k then gI other k else gI own k)) (fun _ => 0) (by simp; omega) fun k hk => ?_]
    · simp [iL]
    · rw [List.mem_range] at hk
      have h2 : k < other.length := by omega
      rw [WpT_one]
      simp (disch := first | omega | assumption | (simp only [oL_len, oR_len, oT_len, List.length_take, List.length_set, iL_length, rL_len, rT_len, List.length_map, List.length_append, List.length_cons, List.length_nil, rngD_len, List.length_range, drawn_len]; omega) | (split <;> omega) | (simp only [List.getElem?_cons_succ, List.getElem?_cons_zero]; done)) []
theorem s_linked {n : Nat} (hn : 1 ≤ n) (rows : List (List Int)) (own : List Int) (link : Int) (h0 : 0 ≤ link) (hl : ∀ r ∈ rows, r.length = own.length) (ho : own.length ≤ 1000) (ho0 : 0 < own.length) (hrl : rows.length ≤ 1000) :
    callI GA FS n (.fn 12 [.lst (rL rows), .lst (iL own), .int link]) = .ok (0, .lst (iL (linkedF rows own link))) := by
  refine fn_wp (q := 0) F_l_linked rfl hn fun m hm => ?_
  rw [linkedF_eq]
  unfold linkedI
  by_cases hc : rows = [] ∨ link % 10 = 0 ∨ 4 < link % 10
  · rw [if_pos hc]
    by_cases hr0 : rows = []
    · simp (disch := first | omega | assumption | (simp only [oL_len, oR_len, oT_len, List.length_take, List.length_set, iL_length, rL_len, rT_len, List.length_map, List.length_append, List.length_cons, List.length_nil, rngD_len, List.length_range, drawn_len]; omega) | (split <;> omega) | (simp only [List.getElem?_cons_succ, List.getElem?_cons_zero]; done)) [d_l_linked, u_l_linked_0, s_l_linked_0, u_l_linked_1, s_l_linked_1, u_l_linked_2, s_l_linked_2, hr0]
    · have hr1 := List.length_pos_iff.mpr hr0
      have hr2 : ¬ rows.length = 0 := by omega
      rcases hc with h | h | h
      · exact absurd h hr0
      · simp (disch := first | omega | assumption | (simp only [oL_len, oR_len, oT_len, List.length_take, List.length_set, iL_length, rL_len, rT_len, List.length_map, List.length_append, List.length_cons, List.length_nil, rngD_len, List.length_range, drawn_len]; omega) | (split <;> omega) | (simp only [List.getElem?_cons_succ, List.getElem?_cons_zero]; done)) [d_l_linked, u_l_linked_0, s_l_linked_0, u_l_linked_1, s_l_linked_1, u_l_linked_2, s_l_linked_2, hr0, h]
      · have h2 : ¬ link % 10 = 0 := by omega
        simp (disch := first | omega | assumption | (simp only [oL_len, oR_len, oT_len, List.length_take, List.length_set, iL_length, rL_len, rT_len, List.length_map, List.length_append, List.length_cons, List.length_nil, rngD_len, List.length_range, drawn_len]; omega) | (split <;> omega) | (simp only [List.getElem?_cons_succ, List.getElem?_cons_zero]; done)) [d_l_linked, u_l_linked_0, s_l_linked_0, u_l_linked_1, s_l_linked_1, u_l_linked_2, s_l_linked_2, hr0, h2, h]
  · rw [if_neg hc]
    simp only [not_or] at hc
    obtain ⟨hr0, hk0, hk4⟩ := hc
    have hrp := List.length_pos_iff.mpr hr0
    have hix0 : 0 ≤ link / 10 % (rows.length : Int) := Int.emod_nonneg _ (by omega)
    have hix1 : link / 10 % (rows.length : Int) < rows.length := Int.emod_lt_of_pos _ (by omega)
    have hmem : gR rows (link / 10 % rows.length).toNat ∈ rows := by
      exact gR_mem (by omega)
    simp (disch := first | omega | assumption | (simp only [oL_len, oR_len, oT_len, List.length_take, List.length_set, iL_length, rL_len, rT_len, List.length_map, List.length_append, List.length_cons, List.length_nil, rngD_len, List.length_range, drawn_len]; omega) | (split <;> omega) | (simp only [List.getElem?_cons_succ, List.getElem?_cons_zero]; done)) [d_l_linked, u_l_linked_0, s_l_linked_0, u_l_linked_1, s_l_linked_1, u_l_linked_2, s_l_linked_2, u_l_linked_3, s_l_linked_3, u_l_linked_4, s_l_linked_4, hr0, hk0, hk4]
    generalize gR rows (link / 10 % rows.length).toNat = other at hmem
    have ol := hl _ hmem
    by_cases hk1 : link % 10 = 1
    · simp (disch := first | omega | assumption | (simp only [oL_len, oR_len, oT_len, List.length_take, List.length_set, iL_length, rL_len, rT_len, List.length_map, List.length_append, List.length_cons, List.length_nil, rngD_len, List.length_range, drawn_len]; omega) | (split <;> omega) | (simp only [List.getElem?_cons_succ, List.getElem?_cons_zero]; done)) [hk1, u_l_linked_5, s_l_linked_5]
    by_cases hk2 : link % 10 = 2
    · simp (disch := first | omega | assumption | (simp only [oL_len, oR_len, oT_len, List.length_take, List.length_set, iL_length, rL_len, rT_len, List.length_map, List.length_append, List.length_cons, List.length_nil, rngD_len, List.length_range, drawn_len]; omega) | (split <;> omega) | (simp only [List.getElem?_cons_succ, List.getElem?_cons_zero]; done)) [hk2, u_l_linked_6, s_l_linked_6, u_l_linked_7, s_l_linked_7, c_linked ol ho]
    by_cases hk3 : link % 10 = 3
    · simp (disch := first | omega | assumption | (simp only [oL_len, oR_len, oT_len, List.length_take, List.length_set, iL_length, rL_len, rT_len, List.length_map, List.length_append, List.length_cons, List.length_nil, rngD_len, List.length_range, drawn_len]; omega) | (split <;> omega) | (simp only [List.getElem?_cons_succ, List.getElem?_cons_zero]; done)) [hk3, u_l_linked_6, s_l_linked_6, u_l_linked_7, s_l_linked_7, u_l_linked_8, s_l_linked_8, u_l_linked_9, s_l_linked_9, c_linked ol ho]
    have hs0 : 0 ≤ link / 10 / (rows.length : Int) % (own.length : Int) := Int.emod_nonneg _ (by omega)
    have hs1 : link / 10 / (rows.length : Int) % (own.length : Int) < own.length := Int.emod_lt_of_pos _ (by omega)
    simp (disch := first | omega | assumption | (simp only [oL_len, oR_len, oT_len, List.length_take, List.length_set, iL_length, rL_len, rT_len, List.length_map, List.length_append, List.length_cons, List.length_nil, rngD_len, List.length_range, drawn_len]; omega) | (split <;> omega) | (simp only [List.getElem?_cons_succ, List.getElem?_cons_zero]; done)) [hk1, hk2, hk3, u_l_linked_6, s_l_linked_6, u_l_linked_8, s_l_linked_8, u_l_linked_10, s_l_linked_10, u_l_linked_11, s_l_linked_11, u_l_linked_12, s_l_linked_12, u_l_linked_13, s_l_linked_13]

/-- no mark is less than the other one -/
def geL (xs ys : List Int) : Bool := (xs.zip ys).all fun p => decide (p.2 ≤ p.1)
theorem geL_of {xs ys : List Int} (h : ∀ i, i < xs.length → i < ys.length → gI ys i ≤ gI xs i) : geL xs ys = true := by
  unfold geL
  rw [List.all_eq_true]
  intro p hp
  obtain ⟨i, hi, rfl⟩ := List.mem_iff_getElem.mp hp
  rw [List.length_zip] at hi
  have h1 : i < xs.length := by omega
  have h2 : i < ys.length := by omega
  have := h i h1 h2
  rw [gI_at h1, gI_at h2] at this
  simpa using this
/-- a list, a tuple of integers -/
@[simp] theorem items_sq {st t : Bool} {l : Nat} {xs : List Int} (h : l ≤ 2 ∨ st = false) : items st (l, sqI t xs) = .ok (iL xs) := by
  cases t with
  | true => rfl
  | false =>
    show (if shb l (iL xs) = true ∧ (st = true → l ≤ 2) then R.ok (iL xs) else .bad) = _
    rw [if_pos]
    refine ⟨by unfold shb; rw [iL_lf]; simp, fun z => ?_⟩
    rcases h with h | h
    · exact h
    · rw [z] at h; cases h
@[simp] theorem tup_sq {t : Bool} {l : Nat} {xs : List Int} : biV .tuple [(l, sqI t xs)] = .ok (0, .tup (iL xs)) := by cases t <;> simp [sqI]
@[simp] theorem lst_sq {t : Bool} {l : Nat} {xs : List Int} : biV .list [(l, sqI t xs)] = .ok (2, .lst (iL xs)) := by cases t <;> simp [sqI]
@[simp] theorem len_sq {t : Bool} {l : Nat} {xs : List Int} : biV .len [(l, sqI t xs)] = .ok (0, .int (xs.length : Int)) := by cases t <;> simp [sqI]
/-- beats, as the document says -/
def btL (xs : List Int) (i : Int) (ys : List Int) (j : Int) : Bool := geL xs ys && (decide (xs ≠ ys) || decide (i < j))
theorem at_lit8 {a0 a1 a2 a3 a4 a5 a6 a7 i : Int} (h0 : 0 ≤ i) (h : i < 8) : L2.atI [D.int a0, .int a1, .int a2, .int a3, .int a4, .int a5, .int a6, .int a7] i = some (.int (gI [a0, a1, a2, a3, a4, a5, a6, a7] i.toNat)) :=
  at_gI (xs := [a0, a1, a2, a3, a4, a5, a6, a7]) h0 (by simpa using h)
abbrev highs : List Int := [9, 9, 1, 2, 3, 0, 1000000000000, 9]
theorem highs_ok (k : Nat) : 0 ≤ gI highs k ∧ gI highs k ≤ 1000000000000 := by
  match k with
  | 0 | 1 | 2 | 3 | 4 | 5 | 6 | 7 => decide
  | k + 8 => simp [gI, highs]
theorem pow12 : (10 : Int) ^ 12 = 1000000000000 := by decide
@[simp] theorem iL_slice {l : Nat} {xs : List Int} {n : Int} (h0 : 0 ≤ n) : slV (l, .lst (iL xs)) none (some n) = .ok (2, .lst (iL (xs.take n.toNat))) := by
  obtain ⟨k, rfl⟩ := Int.eq_ofNat_of_zero_le h0
  simp [slV, iL_take]
@[simp] theorem isi_bool {b : Bool} : isiV GA (0, .bl b) [.bool] = .ok (0, .bl true) := by simp [isiV, dTy, isTy, okB]

/-- the rows that a law draws -/
noncomputable def tabR (marks links : List Int) (w : Nat) : Nat → List (List Int)
  | 0 => []
  | j + 1 => tabR marks links w j ++ [linkedF (tabR marks links w j) ((List.range w).map fun k => gI marks (4 * j + k)) (gI links j)]
noncomputable def tabS : List Int → List Int → Nat → Nat → List (List Int) := hid tabR
theorem tabS_0 {marks links : List Int} {w : Nat} : tabS marks links w 0 = [] := by unfold tabS; rw [hid_eq]; rfl
theorem tabS_s {marks links : List Int} {w j : Nat} : tabS marks links w (j + 1) = tabS marks links w j ++ [linkedF (tabS marks links w j) ((List.range w).map fun k => gI marks (4 * j + k)) (gI links j)] := by unfold tabS; rw [hid_eq, tabR]
theorem tabS_ok {marks links : List Int} {w : Nat} {high : Int} (hm : ∀ x ∈ marks, 0 ≤ x ∧ x ≤ high) (h0 : 0 ≤ high) : ∀ j, (tabS marks links w j).length = j ∧ (∀ r ∈ tabS marks links w j, r.length = w) ∧ ∀ r ∈ tabS marks links w j, ∀ x ∈ r, 0 ≤ x ∧ x ≤ high
  | 0 => by rw [tabS_0]; simp
  | j + 1 => by
    obtain ⟨h1, h2, h3⟩ := tabS_ok (links := links) (w := w) hm h0 j
    have hO : ∀ x ∈ (List.range w).map fun k => gI marks (4 * j + k), 0 ≤ x ∧ x ≤ high := fun x hx => by
      obtain ⟨k, _, rfl⟩ := List.mem_map.mp hx
      by_cases hk : 4 * j + k < marks.length
      · exact hm _ (gI_mem hk)
      · have e : gI marks (4 * j + k) = 0 := by simp [gI, List.getElem?_eq_none (Nat.le_of_not_lt hk)]
        rw [e]
        exact ⟨Int.le_refl _, h0⟩
    have q := linkedF_ok (rows := tabS marks links w j) (own := (List.range w).map fun k => gI marks (4 * j + k)) (link := gI links j) (fun x => 0 ≤ x ∧ x ≤ high) (fun r hr => by rw [h2 r hr]; simp) h3 hO
    rw [tabS_s]
    refine ⟨by simp [h1], fun r hr => ?_, fun r hr => ?_⟩
    · rcases List.mem_append.mp hr with hr | hr
      · exact h2 r hr
      · rw [List.mem_singleton.mp hr, q.1]; simp
    · rcases List.mem_append.mp hr with hr | hr
      · exact h3 r hr
      · rw [List.mem_singleton.mp hr]; exact q.2
structure TabOk (rows : List (List Int)) (w : Nat) (high : Int) : Prop where
  len : rows.length ≤ 12
  w1 : 1 ≤ w
  w4 : w ≤ 4
  wid : ∀ r ∈ rows, r.length = w
  h0 : 0 ≤ high
  h1 : high ≤ 1000000000000
  mar : ∀ r ∈ rows, ∀ x ∈ r, 0 ≤ x ∧ x ≤ high
theorem c_tab {m w j : Nat} {marks : List Int} (hw : w ≤ 4) (hl : marks.length = 48) (hj : j < 12) :
    evE GA (callI GA FS m) c_l_table_0 [o0, o1, o2, some (0, .int (w : Int)), o4, some (0, .lst (iL marks)), o6, o7, some (0, .int (j : Int)), o9, o10] = .ok (2, .lst (iL ((List.range w).map fun k => gI marks (4 * j + k)))) := by
  simp (disch := first | omega | assumption | (simp only [oL_len, oR_len, oT_len, List.length_take, List.length_set, iL_length, rL_len, rT_len, List.length_map, List.length_append, List.length_cons, List.length_nil, rngD_len, List.length_range, drawn_len]; omega) | (split <;> omega) | (simp only [List.getElem?_cons_succ, List.getElem?_cons_zero]; done)) [c_l_table_0, rng_map]
  rw [comp2n (fun k => .int (gI marks (4 * j + k))) (fun _ => 0) (by simp; omega) fun k hk => ?_]
  · simp [iL]
  · rw [List.mem_range] at hk
    rw [WpT_one]
    simp (disch := first | omega | assumption | (simp only [oL_len, oR_len, oT_len, List.length_take, List.length_set, iL_length, rL_len, rT_len, List.length_map, List.length_append, List.length_cons, List.length_nil, rngD_len, List.length_range, drawn_len]; omega) | (split <;> omega) | (simp only [List.getElem?_cons_succ, List.getElem?_cons_zero]; done)) []
    have e : ((4 : Int) * (j : Int) + (k : Int)).toNat = 4 * j + k := by omega
    rw [e]
def I_tab (ns shape marks links : List Int) (w sz : Nat) (high : Int) (j : Nat) (ε : En) : Prop := ∃ (lv : Nat) (o8 o9 o10 : Option LD), ε = [some (0, .scr ns), some (0, .lst (iL shape)), some (0, .int high), some (0, .int (w : Int)), some (0, .int (sz : Int)), some (0, .lst (iL marks)), some (0, .lst (iL links)), some (lv, .lst (rL (tabS marks links w j))), o8, o9, o10] ∧ ((lv = 2 ∧ j = 0) ∨ lv = 1)
theorem tab_loop {m : Nat} (hm : 1 ≤ m) (ns shape marks links : List Int) (w sz : Nat) (high : Int) (hw0 : 1 ≤ w) (hw : w ≤ 4) (hsz : sz ≤ 12) (hl : marks.length = 48) (hmk : ∀ x ∈ marks, 0 ≤ x ∧ x ≤ high) (h0 : 0 ≤ high) (hk : links.length = 12) (hlk : ∀ x ∈ links, 0 ≤ x ∧ x < 1000) :
    Wp (runs GA (callI GA FS m) b_l_table_10 [some (0, .scr ns), some (0, .lst (iL shape)), some (0, .int high), some (0, .int (w : Int)), some (0, .int (sz : Int)), some (0, .lst (iL marks)), some (0, .lst (iL links)), o7, o8, o9, o10]) (Back (.ok (0, .tup [.lst (rL (tabS marks links w sz)), .int (w : Int), .int high]))) := by
  simp (disch := first | omega | assumption | (simp only [oL_len, oR_len, oT_len, List.length_take, List.length_set, iL_length, rL_len, rT_len, List.length_map, List.length_append, List.length_cons, List.length_nil, rngD_len, List.length_range, drawn_len]; omega) | (split <;> omega) | (simp only [List.getElem?_cons_succ, List.getElem?_cons_zero]; done)) [u_l_table_10, s_l_table_10, u_l_table_11, s_l_table_11]
  refine wp_rng (I_tab ns shape marks links w sz high) ⟨2, _, _, _, by rw [tabS_0]; rfl, .inl ⟨rfl, rfl⟩⟩ (fun j hj ε h => ?_) (fun ε h => ?_)
  · obtain ⟨lv, o8, o9, o10, rfl, hv⟩ := h
    refine ⟨by simp, ?_⟩
    obtain ⟨t1, t2, t3⟩ := tabS_ok (links := links) (w := w) hmk h0 j
    have hlj := hlk (gI links j) (gI_mem (by omega))
    have ln := s_linked (n := m) hm (tabS marks links w j) ((List.range w).map fun k => gI marks (4 * j + k)) (gI links j) hlj.1 (fun r hr => by rw [t2 r hr]; simp) (by simp only [List.length_map, List.length_range]; omega) (by simp only [List.length_map, List.length_range]; omega) (by omega)
    have lo : (linkedF (tabS marks links w j) ((List.range w).map fun k => gI marks (4 * j + k)) (gI links j)).length = w := by
      have q := (linkedF_ok (rows := tabS marks links w j) (own := (List.range w).map fun k => gI marks (4 * j + k)) (link := gI links j) (fun _ => True) (fun r hr => by rw [t2 r hr]; simp) (fun _ _ _ _ => trivial) (fun _ _ => trivial)).1
      simpa using q
    have go : ∀ a b c : Option LD, I_tab ns shape marks links w sz high (j + 1) [some (0, .scr ns), some (0, .lst (iL shape)), some (0, .int high), some (0, .int (w : Int)), some (0, .int (sz : Int)), some (0, .lst (iL marks)), some (0, .lst (iL links)), some (1, .lst (rL (tabS marks links w j ++ [linkedF (tabS marks links w j) ((List.range w).map fun k => gI marks (4 * j + k)) (gI links j)]))), a, b, c] := fun a b c => ⟨1, a, b, c, by rw [tabS_s], .inr rfl⟩
    have e0 : j = 0 → tabS marks links w j = [] := fun e => by rw [e, tabS_0]
    clear t2 t3
    generalize tabS marks links w j = R at *
    rcases hv with ⟨rfl, hj0⟩ | rfl
    · have eR := e0 hj0
      subst eR
      simp (disch := first | omega | assumption | (simp only [oL_len, oR_len, oT_len, List.length_take, List.length_set, iL_length, rL_len, rT_len, List.length_map, List.length_append, List.length_cons, List.length_nil, rngD_len, List.length_range, drawn_len]; omega) | (split <;> omega) | (simp only [List.getElem?_cons_succ, List.getElem?_cons_zero]; done)) [u_l_table_12, s_l_table_12, u_l_table_13, s_l_table_13, c_tab hw hl, ln, lo]
      exact go _ _ _
    · simp (disch := first | omega | assumption | (simp only [oL_len, oR_len, oT_len, List.length_take, List.length_set, iL_length, rL_len, rT_len, List.length_map, List.length_append, List.length_cons, List.length_nil, rngD_len, List.length_range, drawn_len]; omega) | (split <;> omega) | (simp only [List.getElem?_cons_succ, List.getElem?_cons_zero]; done)) [u_l_table_12, s_l_table_12, u_l_table_13, s_l_table_13, c_tab hw hl, ln, lo]
      exact go _ _ _
  · obtain ⟨lv, o8, o9, o10, rfl, hv⟩ := h
    rcases hv with ⟨rfl, rfl⟩ | rfl <;> simp (disch := first | omega | assumption | (simp only [oL_len, oR_len, oT_len, List.length_take, List.length_set, iL_length, rL_len, rT_len, List.length_map, List.length_append, List.length_cons, List.length_nil, rngD_len, List.length_range, drawn_len]; omega) | (split <;> omega) | (simp only [List.getElem?_cons_succ, List.getElem?_cons_zero]; done)) [u_l_table_14, s_l_table_14]

theorem tab_rest {m : Nat} (hm : 1 ≤ m) (ns shape : List Int) (hs : shape.length = 3) (hp : ∀ x ∈ shape, 0 ≤ x ∧ x < 1000) (high : Int) (h0 : 0 ≤ high) (h1 : high ≤ 1000000000000) :
    ∃ (rows : List (List Int)) (w : Nat), TabOk rows w high ∧ Wp (runs GA (callI GA FS m) b_l_table_4 [some (0, .scr ns), some (0, .lst (iL shape)), some (0, .int high), o3, o4, o5, o6, o7, o8, o9, o10]) (Back (.ok (0, .tup [.lst (rL rows), .int (w : Int), .int high]))) := by
  have hg : ∀ k, k < 3 → 0 ≤ gI shape k ∧ gI shape k < 1000 := fun k hk => hp _ (gI_mem (by omega))
  have g0 := hg 0 (by omega)
  have g1 := hg 1 (by omega)
  obtain ⟨w, hw⟩ : ∃ w : Nat, 1 + gI shape 1 % 4 = (w : Int) := Int.eq_ofNat_of_zero_le (by omega)
  have hmk := drawn_mem (c := gI ns 1) (many := 48) (base := high + 1) (by omega)
  have hml := drawn_len (c := gI ns 1) (many := 48) (base := high + 1)
  have hlk := drawn_mem (c := gI ns 2) (many := 12) (base := 1000) (by omega)
  have hll := drawn_len (c := gI ns 2) (many := 12) (base := 1000)
  have fin : ∀ sz : Nat, sz ≤ 12 → TabOk (tabS (drawn (gI ns 1) 48 (high + 1)) (drawn (gI ns 2) 12 1000) w sz) w high := fun sz hsz => by
    obtain ⟨t1, t2, t3⟩ := tabS_ok (marks := drawn (gI ns 1) 48 (high + 1)) (links := drawn (gI ns 2) 12 1000) (w := w) (high := high) (fun x hx => by have := hmk x hx; omega) h0 sz
    exact ⟨by omega, by omega, by omega, t2, h0, h1, t3⟩
  by_cases h12 : 12 < gI shape 0 % 30
  · obtain ⟨sz, hsz⟩ : ∃ sz : Nat, 2 + gI shape 0 % 30 % 4 = (sz : Int) := Int.eq_ofNat_of_zero_le (by omega)
    refine ⟨_, w, fin sz (by omega), ?_⟩
    simp (disch := first | omega | assumption | (simp only [oL_len, oR_len, oT_len, List.length_take, List.length_set, iL_length, rL_len, rT_len, List.length_map, List.length_append, List.length_cons, List.length_nil, rngD_len, List.length_range, drawn_len]; omega) | (split <;> omega) | (simp only [List.getElem?_cons_succ, List.getElem?_cons_zero]; done)) [u_l_table_4, s_l_table_4, u_l_table_5, s_l_table_5, u_l_table_6, s_l_table_6, u_l_table_7, s_l_table_7, u_l_table_8, s_l_table_8, u_l_table_9, s_l_table_9, s_read, s_draws, h12, hw, hsz]
    exact tab_loop hm ns shape _ _ w sz high (by omega) (by omega) (by omega) hml (fun x hx => by have := hmk x hx; omega) h0 hll hlk
  · obtain ⟨sz, hsz⟩ : ∃ sz : Nat, gI shape 0 % 30 = (sz : Int) := Int.eq_ofNat_of_zero_le (by omega)
    refine ⟨_, w, fin sz (by omega), ?_⟩
    have h12' : ¬ (12 : Int) < (sz : Int) := by omega
    simp (disch := first | omega | assumption | (simp only [oL_len, oR_len, oT_len, List.length_take, List.length_set, iL_length, rL_len, rT_len, List.length_map, List.length_append, List.length_cons, List.length_nil, rngD_len, List.length_range, drawn_len]; omega) | (split <;> omega) | (simp only [List.getElem?_cons_succ, List.getElem?_cons_zero]; done)) [u_l_table_4, s_l_table_4, u_l_table_5, s_l_table_5, u_l_table_6, s_l_table_6, u_l_table_8, s_l_table_8, u_l_table_9, s_l_table_9, s_read, s_draws, h12', hw, hsz]
    exact tab_loop hm ns shape _ _ w sz high (by omega) (by omega) (by omega) hml (fun x hx => by have := hmk x hx; omega) h0 hll hlk
theorem s_table {n : Nat} (hn : 2 ≤ n) (ns : List Int) : ∃ (rows : List (List Int)) (w : Nat) (high : Int), TabOk rows w high ∧ callI GA FS n (.fn 20 [.scr ns]) = .ok (0, .tup [.lst (rL rows), .int (w : Int), .int high]) := by
  have hp := drawn_mem (c := gI ns 0) (many := 3) (base := 1000) (by omega)
  have hs := drawn_len (c := gI ns 0) (many := 3) (base := 1000)
  have g2 : 0 ≤ gI (drawn (gI ns 0) 3 1000) 2 ∧ gI (drawn (gI ns 0) 3 1000) 2 < 1000 := hp _ (gI_mem (by omega))
  have hh := highs_ok (gI (drawn (gI ns 0) 3 1000) 2 % 8).toNat
  obtain ⟨m, rfl⟩ : ∃ m, n = m + 1 := ⟨n - 1, by omega⟩
  by_cases h8 : gI (drawn (gI ns 0) 3 1000) 2 % 8 = 7
  · have hq := drawn_mem (c := gI ns 3) (many := 1) (base := 1000000000001) (by omega) (gI (drawn (gI ns 3) 1 1000000000001) 0) (gI_mem (by rw [drawn_len]; omega))
    obtain ⟨rows, w, ok, run⟩ := tab_rest (m := m) (by omega) ns _ hs hp (gI (drawn (gI ns 3) 1 1000000000001) 0) hq.1 (by omega)
    refine ⟨rows, w, _, ok, ?_⟩
    refine fn_wp1 F_l_table rfl ?_
    simp (disch := first | omega | assumption | (simp only [oL_len, oR_len, oT_len, List.length_take, List.length_set, iL_length, rL_len, rT_len, List.length_map, List.length_append, List.length_cons, List.length_nil, rngD_len, List.length_range, drawn_len]; omega) | (split <;> omega) | (simp only [List.getElem?_cons_succ, List.getElem?_cons_zero]; done)) [d_l_table, u_l_table_0, s_l_table_0, u_l_table_1, s_l_table_1, u_l_table_2, s_l_table_2, u_l_table_3, s_l_table_3, s_read, s_draws, at_lit8, pow12, h8]
    exact run
  · obtain ⟨rows, w, ok, run⟩ := tab_rest (m := m) (by omega) ns _ hs hp _ hh.1 hh.2
    refine ⟨rows, w, _, ok, ?_⟩
    refine fn_wp1 F_l_table rfl ?_
    simp (disch := first | omega | assumption | (simp only [oL_len, oR_len, oT_len, List.length_take, List.length_set, iL_length, rL_len, rT_len, List.length_map, List.length_append, List.length_cons, List.length_nil, rngD_len, List.length_range, drawn_len]; omega) | (split <;> omega) | (simp only [List.getElem?_cons_succ, List.getElem?_cons_zero]; done)) [d_l_table, u_l_table_0, s_l_table_0, u_l_table_1, s_l_table_1, u_l_table_2, s_l_table_2, u_l_table_3, s_l_table_3, s_read, s_draws, at_lit8, pow12, h8]
    exact run

theorem s_isnum {n : Nat} (hn : 1 ≤ n) (v a b : Int) : callI GA FS n (.fn 0 [.int v, .int a, .int b]) = .ok (0, .bl (decide (a ≤ v ∧ v ≤ b))) := by
  refine fn_wp (q := 0) F_p_is_number rfl hn fun m hm => ?_
  by_cases h : a ≤ v <;> simp [d_p_is_number, u_p_is_number_0, s_p_is_number_0, u_p_is_number_1, s_p_is_number_1, u_p_is_number_2, s_p_is_number_2, isiV, dTy, isTy, okB, h]
def I_mt (xs : List Int) (w high : Int) (j : Nat) (ε : En) : Prop := ∃ (o3 : Option LD), ε = [some (0, .lst (iL xs)), some (0, .int w), some (0, .int high), o3] ∧ True
theorem s_marks {n : Nat} (hn : 2 ≤ n) (xs : List Int) (w : Nat) (high : Int) (hw : xs.length = w) (hx : ∀ x ∈ xs, 0 ≤ x ∧ x ≤ high) (hl : w ≤ 1000000) : callI GA FS n (.fn 18 [.lst (iL xs), .int (w : Int), .int high]) = .ok (0, .tup (iL xs)) := by
  refine fn_wp (q := 1) F_p_marks_tuple rfl hn fun m hm => ?_
  subst hw
  simp (disch := first | omega | assumption | (simp only [oL_len, oR_len, oT_len, List.length_take, List.length_set, iL_length, rL_len, rT_len, List.length_map, List.length_append, List.length_cons, List.length_nil, rngD_len, List.length_range, drawn_len]; omega) | (split <;> omega) | (simp only [List.getElem?_cons_succ, List.getElem?_cons_zero]; done)) [d_p_marks_tuple, u_p_marks_tuple_0, s_p_marks_tuple_0, u_p_marks_tuple_2, s_p_marks_tuple_2, isiV, dTy, isTy, okB]
  refine wp_map (g := D.int) (I_mt xs xs.length high) ⟨_, rfl, trivial⟩ (fun j hj ε h => ?_) (fun ε h => ?_)
  · obtain ⟨o3, rfl, _⟩ := h
    refine ⟨by simp, ?_⟩
    have q := hx _ (List.getElem_mem hj)
    simp (disch := first | omega | assumption | (simp only [oL_len, oR_len, oT_len, List.length_take, List.length_set, iL_length, rL_len, rT_len, List.length_map, List.length_append, List.length_cons, List.length_nil, rngD_len, List.length_range, drawn_len]; omega) | (split <;> omega) | (simp only [List.getElem?_cons_succ, List.getElem?_cons_zero]; done)) [u_p_marks_tuple_3, s_p_marks_tuple_3, s_isnum hm, q]
    exact ⟨_, rfl, trivial⟩
  · obtain ⟨o3, rfl, _⟩ := h
    simp (disch := first | omega | assumption | (simp only [oL_len, oR_len, oT_len, List.length_take, List.length_set, iL_length, rL_len, rT_len, List.length_map, List.length_append, List.length_cons, List.length_nil, rngD_len, List.length_range, drawn_len]; omega) | (split <;> omega) | (simp only [List.getElem?_cons_succ, List.getElem?_cons_zero]; done)) [u_p_marks_tuple_5, s_p_marks_tuple_5]
/-- a Table -/
def tblI (rows : List (List Int)) (w : Nat) (high : Int) : D := .ins 13 [.tup (rT rows), .int (w : Int), .int high]
theorem c_tmk {m w : Nat} {high : Int} {rows : List (List Int)} (hm : 2 ≤ m) (ok : TabOk rows w high) :
    evE GA (callI GA FS m) c_m_Table_init_0 [o0, some (0, .lst (rL rows)), some (0, .int (w : Int)), some (0, .int high), o4] = .ok (2, .lst (rT rows)) := by
  simp (disch := first | omega | assumption | (simp only [oL_len, oR_len, oT_len, List.length_take, List.length_set, iL_length, rL_len, rT_len, List.length_map, List.length_append, List.length_cons, List.length_nil, rngD_len, List.length_range, drawn_len]; omega) | (split <;> omega) | (simp only [List.getElem?_cons_succ, List.getElem?_cons_zero]; done)) [c_m_Table_init_0, items_l0]
  have h := comp2n (g := fun r => D.lst (iL r)) (xs := rows) (G := GA) (cal := callI GA FS m) (tg := .one 4) (e := .call 18 (.cons (.var 4) (.cons (.var 2) (.cons (.var 3) .nil)))) (ε := [o0, some (0, .lst (rL rows)), some (0, .int (w : Int)), some (0, .int high), o4]) (fun r => .tup (iL r)) (fun _ => 0) (by have := ok.len; omega) fun r hr => by
    rw [WpT_one]
    have q := s_marks hm r w high (ok.wid r hr) (ok.mar r hr) (by have := ok.w4; omega)
    simp (disch := first | omega | assumption | (simp only [oL_len, oR_len, oT_len, List.length_take, List.length_set, iL_length, rL_len, rT_len, List.length_map, List.length_append, List.length_cons, List.length_nil, rngD_len, List.length_range, drawn_len]; omega) | (split <;> omega) | (simp only [List.getElem?_cons_succ, List.getElem?_cons_zero]; done)) [q]
  exact h
theorem s_tmk {n : Nat} (hn : 4 ≤ n) {rows : List (List Int)} {w : Nat} {high : Int} (ok : TabOk rows w high) : callI GA FS n (.mk 13 399 [.lst (rL rows), .int (w : Int), .int high]) = .ok (0, tblI rows w high) := by
  refine mk_wp (q := 2) F_m_Table_init rfl hn fun m hm => ?_
  obtain ⟨h1, h2, h3, h4, h5, h6, h7⟩ := id ok
  have b1 : 0 ≤ high ∧ high ≤ 1000000000000 := ⟨h5, h6⟩
  have b2 : (1 : Int) ≤ (w : Int) ∧ (w : Int) ≤ 4 := by omega
  have b3 : ¬ (12 : Int) < (rows.length : Int) := by omega
  have i1 := s_isnum (n := m) (by omega) high 0 1000000000000
  have i2 := s_isnum (n := m) (by omega) (w : Int) 1 4
  simp (disch := first | omega | assumption | (simp only [oL_len, oR_len, oT_len, List.length_take, List.length_set, iL_length, rL_len, rT_len, List.length_map, List.length_append, List.length_cons, List.length_nil, rngD_len, List.length_range, drawn_len]; omega) | (split <;> omega) | (simp only [List.getElem?_cons_succ, List.getElem?_cons_zero]; done)) [d_m_Table_init, u_m_Table_init_0, s_m_Table_init_0, u_m_Table_init_2, s_m_Table_init_2, u_m_Table_init_4, s_m_Table_init_4, u_m_Table_init_6, s_m_Table_init_6, u_m_Table_init_8, s_m_Table_init_8, u_m_Table_init_9, s_m_Table_init_9, u_m_Table_init_10, s_m_Table_init_10, isiV, dTy, isTy, okB, i1, i2, b1, b2, b3, c_tmk hm ok, fldIx, tblI]

theorem s_whole {n : Nat} (hn : 1 ≤ n) (v : Int) : callI GA FS n (.fn 21 [.int v]) = .ok (0, .bl true) := by
  refine fn_wp (q := 0) F_l_whole rfl hn fun m hm => ?_
  simp [d_l_whole, u_l_whole_0, s_l_whole_0, isiV, dTy, isTy, okB]
mutual
def nb : D → Nat → Bool
  | .non, _ => true
  | .int _, _ => true
  | .tup xs, n + 1 => nbs xs n
  | .lst xs, n + 1 => nbs xs n
  | _, _ => false
def nbs : List D → Nat → Bool
  | [], _ => true
  | x :: r, n => nb x n && nbs r n
end
mutual
theorem nb_lay : ∀ (x : D) {n : Nat}, nb x n = true → PyData.canLay0 x.py = true ∧ PyData.depth x.py ≤ n
  | .non, _, _ => ⟨rfl, Nat.zero_le _⟩
  | .int _, _, _ => ⟨rfl, Nat.zero_le _⟩
  | .bl _, _, h => by simp [nb] at h
  | .str _, _, h => by simp [nb] at h
  | .ins _ _, _, h => by simp [nb] at h
  | .scr _, _, h => by simp [nb] at h
  | .tup xs, 0, h => by simp [nb] at h
  | .lst xs, 0, h => by simp [nb] at h
  | .tup xs, n + 1, h => by
    have q := nbs_lay xs (n := n) (by simpa [nb] using h)
    simp only [D.py, PyData.canLay0, PyData.depth]
    exact ⟨q.1, by omega⟩
  | .lst xs, n + 1, h => by
    have q := nbs_lay xs (n := n) (by simpa [nb] using h)
    simp only [D.py, PyData.canLay0, PyData.depth]
    exact ⟨q.1, by omega⟩
theorem nbs_lay : ∀ (xs : List D) {n : Nat}, nbs xs n = true → PyData.canLayAll0 (D.pys xs) = true ∧ PyData.depthAll (D.pys xs) ≤ n
  | [], _, _ => ⟨rfl, Nat.zero_le _⟩
  | x :: r, n, h => by
    simp only [nbs, Bool.and_eq_true] at h
    have q1 := nb_lay x h.1
    have q2 := nbs_lay r h.2
    simp only [D.pys, PyData.canLayAll0, PyData.depthAll, q1.1, q2.1, Bool.and_self, true_and]
    omega
end
mutual
theorem nb_eqv : ∀ (x y : D) {n m : Nat}, nb x n = true → nb y m = true → (PyData.eqv x.py y.py = true ↔ x = y)
  | .non, .non, _, _, _, _ => by simp [D.py, PyData.eqv]
  | .non, .int _, _, _, _, _ => by simp [D.py, PyData.eqv]
  | .non, .tup _, _, _, _, _ => by simp [D.py, PyData.eqv]
  | .non, .lst _, _, _, _, _ => by simp [D.py, PyData.eqv]
  | .int _, .non, _, _, _, _ => by simp [D.py, PyData.eqv]
  | .int _, .int _, _, _, _, _ => by simp [D.py, PyData.eqv]
  | .int _, .tup _, _, _, _, _ => by simp [D.py, PyData.eqv]
  | .int _, .lst _, _, _, _, _ => by simp [D.py, PyData.eqv]
  | .tup xs, .tup ys, 0, _, h, _ => by simp [nb] at h
  | .tup xs, .tup ys, _, 0, _, h => by simp [nb] at h
  | .tup xs, .tup ys, n + 1, m + 1, h1, h2 => by
    have q := nbs_eqv xs ys (n := n) (m := m) (by simpa [nb] using h1) (by simpa [nb] using h2)
    simpa [D.py, PyData.eqv] using q
  | .tup _, .non, _, _, _, _ => by simp [D.py, PyData.eqv]
  | .tup _, .int _, _, _, _, _ => by simp [D.py, PyData.eqv]
  | .tup _, .lst _, _, _, _, _ => by simp [D.py, PyData.eqv]
  | .lst xs, .lst ys, 0, _, h, _ => by simp [nb] at h
  | .lst xs, .lst ys, _, 0, _, h => by simp [nb] at h
  | .lst xs, .lst ys, n + 1, m + 1, h1, h2 => by
    have q := nbs_eqv xs ys (n := n) (m := m) (by simpa [nb] using h1) (by simpa [nb] using h2)
    simpa [D.py, PyData.eqv] using q
  | .lst _, .non, _, _, _, _ => by simp [D.py, PyData.eqv]
  | .lst _, .int _, _, _, _, _ => by simp [D.py, PyData.eqv]
  | .lst _, .tup _, _, _, _, _ => by simp [D.py, PyData.eqv]
  | .bl _, _, _, _, h, _ => by simp [nb] at h
  | .str _, _, _, _, h, _ => by simp [nb] at h
  | .ins _ _, _, _, _, h, _ => by simp [nb] at h
  | .scr _, _, _, _, h, _ => by simp [nb] at h
  | _, .bl _, _, _, _, h => by simp [nb] at h
  | _, .str _, _, _, _, h => by simp [nb] at h
  | _, .ins _ _, _, _, _, h => by simp [nb] at h
  | _, .scr _, _, _, _, h => by simp [nb] at h
theorem nbs_eqv : ∀ (xs ys : List D) {n m : Nat}, nbs xs n = true → nbs ys m = true → (PyData.eqvAll (D.pys xs) (D.pys ys) = true ↔ xs = ys)
  | [], [], _, _, _, _ => by simp [D.pys, PyData.eqvAll]
  | [], _ :: _, _, _, _, _ => by simp [D.pys, PyData.eqvAll]
  | _ :: _, [], _, _, _, _ => by simp [D.pys, PyData.eqvAll]
  | x :: xs, y :: ys, n, m, h1, h2 => by
    simp only [nbs, Bool.and_eq_true] at h1 h2
    have q1 := nb_eqv x y h1.1 h2.1
    have q2 := nbs_eqv xs ys h1.2 h2.2
    simp only [D.pys, PyData.eqvAll, Bool.and_eq_true, q1, q2, List.cons.injEq]
end
theorem nb_shaped {x : D} (h : nb x 60 = true) : SeqAt.shaped x.py = true := by
  have q := nb_lay x h
  unfold SeqAt.shaped
  rw [q.1]
  simp only [Bool.true_and, decide_eq_true_eq]
  omega
theorem inD_nb {x : D} {ys : List D} {b : Bool} (hx : nb x 60 = true) (hy : nbs ys 59 = true) (hb : b = true ↔ x ∈ ys) : inD x ys = .ok b := by
  unfold inD
  have hl : nb (.lst ys) 60 = true := hy
  rw [if_pos ⟨nb_shaped hx, nb_shaped hl⟩]
  congr 1
  have mem : ∀ {zs : List D}, nbs zs 59 = true → ((zs.any fun y => PyData.eqv y.py x.py) = true ↔ x ∈ zs) := by
    intro zs
    induction zs with
    | nil => intro _; simp
    | cons z r ih =>
      intro h
      simp only [nbs, Bool.and_eq_true] at h
      have q := nb_eqv z x (n := 59) h.1 hx
      simp only [List.any_cons, Bool.or_eq_true, q, ih h.2, List.mem_cons]
      exact ⟨fun h => h.elim (fun e => .inl e.symm) .inr, fun h => h.elim (fun e => .inl e.symm) .inr⟩
  have q := mem hy
  cases b with
  | true => exact q.mpr (hb.mp rfl)
  | false =>
    cases e : ys.any fun y => PyData.eqv y.py x.py with
    | false => rfl
    | true => exact absurd (hb.mpr (q.mp e)) (by simp)
theorem nbs_iL {n : Nat} : ∀ {xs : List Int}, nbs (iL xs) n = true
  | [] => rfl
  | x :: r => by
    have := nbs_iL (n := n) (xs := r)
    simp only [iL] at this
    simp only [iL, List.map_cons, nbs, nb, this, Bool.and_self]
theorem mem_iL {x : Int} {xs : List Int} : D.int x ∈ iL xs ↔ x ∈ xs := by simp [iL]
theorem inD_iL {x : Int} {ys : List Int} : inD (.int x) (iL ys) = .ok (decide (x ∈ ys)) := inD_nb rfl nbs_iL (by simp [mem_iL])
@[simp] theorem in_lst {l m : Nat} {x : Int} {ys : List Int} : copV .inn (l, .int x) (m, .lst (iL ys)) = .ok (0, .bl (decide (x ∈ ys))) := by simp [copV, seqOf, inD_iL]
@[simp] theorem in_tup {l m : Nat} {x : Int} {ys : List Int} : copV .inn (l, .int x) (m, .tup (iL ys)) = .ok (0, .bl (decide (x ∈ ys))) := by simp [copV, seqOf, inD_iL]
@[simp] theorem nin_lst {l m : Nat} {x : Int} {ys : List Int} : copV .nin (l, .int x) (m, .lst (iL ys)) = .ok (0, .bl (!decide (x ∈ ys))) := by simp [copV, seqOf, inD_iL]
@[simp] theorem nin_tup {l m : Nat} {x : Int} {ys : List Int} : copV .nin (l, .int x) (m, .tup (iL ys)) = .ok (0, .bl (!decide (x ∈ ys))) := by simp [copV, seqOf, inD_iL]
theorem in_lit2 {l m : Nat} {x a b : Int} : copV .inn (l, .int x) (m, .tup [.int a, .int b]) = .ok (0, .bl (decide (x = a ∨ x = b))) := by
  have := in_tup (l := l) (m := m) (x := x) (ys := [a, b])
  simpa [iL] using this
theorem in_lit4 {l m : Nat} {x a b c d : Int} : copV .inn (l, .int x) (m, .tup [.int a, .int b, .int c, .int d]) = .ok (0, .bl (decide (x = a ∨ x = b ∨ x = c ∨ x = d))) := by
  have := in_tup (l := l) (m := m) (x := x) (ys := [a, b, c, d])
  simpa [iL] using this

@[simp] theorem lfs_mapI {α : Type} {f : α → Int} {xs : List α} : D.lfs (xs.map fun x => D.int (f x)) = true := by
  induction xs with
  | nil => rfl
  | cons x r ih => simp only [List.map_cons, D.lfs, D.lf, ih, Bool.and_self]
@[simp] theorem isi_ltl {l : Nat} {xs : List D} (h : l ≤ 4) : isiV GA (l, .lst xs) [.list, .tuple] = .ok (0, .bl true) := by simp [isiV, dTy, isTy, okB, h]
@[simp] theorem isi_ltt {l : Nat} {xs : List D} (h : l ≤ 4) : isiV GA (l, .tup xs) [.list, .tuple] = .ok (0, .bl true) := by simp [isiV, dTy, isTy, okB, h]
@[simp] theorem setTg_2 {i j : Nat} {a b : D} {ε : En} : setTg (.two i j) (.tup [a, b]) ε = if i < ε.length ∧ j < ε.length ∧ i ≠ j then some ((ε.set i (some (0, a))).set j (some (0, b))) else none := rfl
@[simp] theorem setTg_3 {i j k : Nat} {a b c : D} {ε : En} : setTg (.three i j k) (.tup [a, b, c]) ε = if i < ε.length ∧ j < ε.length ∧ k < ε.length ∧ i ≠ j ∧ i ≠ k ∧ j ≠ k then some (((ε.set i (some (0, a))).set j (some (0, b))).set k (some (0, c))) else none := rfl
theorem gC_at {cs : List (Option Int)} {k : Nat} (h : k < cs.length) : gC cs k = cs[k] := by simp [gC, h]
theorem gCs_at {rs : List (List (Option Int))} {k : Nat} (h : k < rs.length) : gCs rs k = rs[k] := by simp [gCs, h]
theorem gCs_mem {rs : List (List (Option Int))} {k : Nat} (h : k < rs.length) : gCs rs k ∈ rs := by rw [gCs_at h]; exact List.getElem_mem _
@[simp] theorem at_oL {cs : List (Option Int)} {i : Int} (h0 : 0 ≤ i) (h : i < cs.length) : L2.atI (oL cs) i = some (oD (gC cs i.toNat)) := by
  rw [atI_ok h0 (by rw [oL_len]; exact h), gC]
  have : i.toNat < cs.length := by omega
  simp [oL, this]
@[simp] theorem at_oR {rs : List (List (Option Int))} {i : Int} (h0 : 0 ≤ i) (h : i < rs.length) : L2.atI (oR rs) i = some (.lst (oL (gCs rs i.toNat))) := by
  rw [atI_ok h0 (by rw [oR_len]; exact h), gCs]
  have : i.toNat < rs.length := by omega
  simp [oR, this]
@[simp] theorem at_oT {rs : List (List (Option Int))} {i : Int} (h0 : 0 ≤ i) (h : i < rs.length) : L2.atI (oT rs) i = some (.tup (oL (gCs rs i.toNat))) := by
  rw [atI_ok h0 (by rw [oT_len]; exact h), gCs]
  have : i.toNat < rs.length := by omega
  simp [oT, this]
@[simp] theorem isn_oD {l m : Nat} {c : Option Int} : copV .isn (l, oD c) (m, .non) = .ok (0, .bl c.isNone) := by cases c <;> rfl
@[simp] theorem notn_oD {l m : Nat} {c : Option Int} : copV .notn (l, oD c) (m, .non) = .ok (0, .bl c.isSome) := by cases c <;> rfl
theorem gC_set {xs : List (Option Int)} {k j : Nat} {x : Option Int} : gC (xs.set k x) j = if j = k ∧ k < xs.length then x else gC xs j := by
  unfold gC
  rw [List.getD_eq_getElem?_getD, List.getElem?_set]
  by_cases h : k = j
  · subst h
    by_cases h2 : k < xs.length <;> simp [h2]
  · have : ¬ j = k := fun e => h e.symm
    simp [h, this]
theorem gCs_set {xs : List (List (Option Int))} {k j : Nat} {x : List (Option Int)} : gCs (xs.set k x) j = if j = k ∧ k < xs.length then x else gCs xs j := by
  unfold gCs
  rw [List.getD_eq_getElem?_getD, List.getElem?_set]
  by_cases h : k = j
  · subst h
    by_cases h2 : k < xs.length <;> simp [h2]
  · have : ¬ j = k := fun e => h e.symm
    simp [h, this]
structure LvOk (ls : List Int) (w : Nat) (high : Int) : Prop where
  len : ls.length = w
  ge : ∀ k, k < w → 0 ≤ gI ls k
  le : ∀ k, k < w → gI ls k ≤ high + 1
def I_lv (ns : List Int) (rows : List (List Int)) (w : Nat) (high : Int) (kinds numbers : List Int) (j : Nat) (ε : En) : Prop := ∃ (ls : List Int) (o7 o8 : Option LD), ε = [some (0, .scr ns), some (0, .lst (rL rows)), some (0, .int (w : Int)), some (0, .int high), some (0, .lst (iL kinds)), some (0, .lst (iL numbers)), some (2, .lst (iL ls)), o7, o8] ∧ (LvOk ls j high)
theorem LvOk.snoc {ls : List Int} {j : Nat} {high x : Int} (h : LvOk ls j high) (h0 : 0 ≤ x) (h1 : x ≤ high + 1) : LvOk (ls ++ [x]) (j + 1) high := by
  have g : ∀ k, gI (ls ++ [x]) k = if k < ls.length then gI ls k else if k = ls.length then x else 0 := fun k => by
    unfold gI
    rw [List.getD_eq_getElem?_getD, List.getD_eq_getElem?_getD, List.getElem?_append]
    split
    · rfl
    · by_cases e : k = ls.length
      · simp [e]
      · have : ¬ k - ls.length < 1 := by omega
        rw [List.getElem?_eq_none (by simpa using (by omega : 1 ≤ k - ls.length)), if_neg e]; rfl
  have hl := h.len
  refine ⟨by simp [hl], fun k hk => ?_, fun k hk => ?_⟩
  · rw [g]
    by_cases e : k < ls.length
    · rw [if_pos e]; exact h.ge k (by omega)
    · rw [if_neg e, if_pos (by omega)]; exact h0
  · rw [g]
    by_cases e : k < ls.length
    · rw [if_pos e]; exact h.le k (by omega)
    · rw [if_neg e, if_pos (by omega)]; exact h1
theorem s_levels {n : Nat} (hn : 2 ≤ n) (ns : List Int) {rows : List (List Int)} {w : Nat} {high : Int} (ok : TabOk rows w high) :
    ∃ ls, LvOk ls w high ∧ callI GA FS n (.fn 117 [.scr ns, .lst (rL rows), .int (w : Int), .int high]) = .ok (2, .lst (iL ls)) := by
  obtain ⟨hl, w1, w4, wid, hh0, hh1, mar⟩ := id ok
  suffices H : ∃ r : LD, (∃ ls, LvOk ls w high ∧ r = (2, .lst (iL ls))) ∧ callI GA FS n (.fn 117 [.scr ns, .lst (rL rows), .int (w : Int), .int high]) = .ok r by
    obtain ⟨r, ⟨ls, h1, rfl⟩, h2⟩ := H
    exact ⟨ls, h1, h2⟩
  refine fn_wpE (q := 1) F_l_levels rfl hn fun m hm => ?_
  simp (disch := first | omega | assumption | (simp only [oL_len, oR_len, oT_len, List.length_take, List.length_set, iL_length, rL_len, rT_len, List.length_map, List.length_append, List.length_cons, List.length_nil, rngD_len, List.length_range, drawn_len]; omega) | (split <;> omega) | (simp only [List.getElem?_cons_succ, List.getElem?_cons_zero]; done)) [d_l_levels, u_l_levels_0, s_l_levels_0, u_l_levels_1, s_l_levels_1, u_l_levels_2, s_l_levels_2, u_l_levels_3, s_l_levels_3, s_read, s_draws]
  have k1 := drawn_len (c := gI ns 5) (many := 4) (base := 10)
  have k2 := drawn_mem (c := gI ns 5) (many := 4) (base := 10) (by omega)
  have n1 := drawn_len (c := gI ns 4) (many := 4) (base := 10 ^ 13)
  have n2 := drawn_mem (c := gI ns 4) (many := 4) (base := 10 ^ 13) (by decide)
  generalize drawn (gI ns 5) 4 10 = kinds at k1 k2
  have e13 : (10 : Int) ^ 13 = 10000000000000 := by decide
  rw [e13] at n1 n2
  generalize drawn (gI ns 4) 4 10000000000000 = numbers at n1 n2
  refine wp_rng (I_lv ns rows w high kinds numbers) ⟨[], _, _, rfl, ⟨rfl, fun k hk => by omega, fun k hk => by omega⟩⟩ (fun j hj ε h => ?_) (fun ε h => ?_)
  · obtain ⟨ls, o7, o8, rfl, hv⟩ := h
    refine ⟨by simp, ?_⟩
    have hvl := hv.len
    have q1 := k2 _ (gI_mem (k := j) (by omega))
    have q2 := n2 _ (gI_mem (k := j) (by omega))
    have m0 : 0 ≤ gI numbers j % (high + 2) ∧ gI numbers j % (high + 2) ≤ high + 1 := ⟨Int.emod_nonneg _ (by omega), by have := Int.emod_lt_of_pos (gI numbers j) (b := high + 2) (by omega); omega⟩
    have m1 : 0 ≤ 1 + gI numbers j % (high + 1) ∧ 1 + gI numbers j % (high + 1) ≤ high + 1 := ⟨by have := Int.emod_nonneg (gI numbers j) (b := high + 1) (by omega); omega, by have := Int.emod_lt_of_pos (gI numbers j) (b := high + 1) (by omega); omega⟩
    have m2 : 0 ≤ gI numbers j % 2 ∧ gI numbers j % 2 ≤ high + 1 := ⟨by omega, by omega⟩
    simp (disch := first | omega | assumption | (simp only [oL_len, oR_len, oT_len, List.length_take, List.length_set, iL_length, rL_len, rT_len, List.length_map, List.length_append, List.length_cons, List.length_nil, rngD_len, List.length_range, drawn_len]; omega) | (split <;> omega) | (simp only [List.getElem?_cons_succ, List.getElem?_cons_zero]; done)) [u_l_levels_4, s_l_levels_4, u_l_levels_5, s_l_levels_5, in_lit2]
    by_cases a1 : gI kinds j = 1 ∨ gI kinds j = 7
    · have a2 : ¬ gI kinds j = 2 ∧ ¬ gI kinds j = 3 ∧ ¬ gI kinds j = 4 ∧ ¬ gI kinds j = 5 ∧ ¬ gI kinds j = 6 ∧ ¬ 7 < gI kinds j := by omega
      simp (disch := first | omega | assumption | (simp only [oL_len, oR_len, oT_len, List.length_take, List.length_set, iL_length, rL_len, rT_len, List.length_map, List.length_append, List.length_cons, List.length_nil, rngD_len, List.length_range, drawn_len]; omega) | (split <;> omega) | (simp only [List.getElem?_cons_succ, List.getElem?_cons_zero]; done)) [u_l_levels_6, s_l_levels_6, u_l_levels_7, s_l_levels_7, u_l_levels_9, s_l_levels_9, u_l_levels_11, s_l_levels_11, u_l_levels_13, s_l_levels_13, in_lit4, a1, a2]
      exact ⟨_, _, _, rfl, hv.snoc m0.1 m0.2⟩
    · by_cases b1 : gI kinds j = 2 ∨ gI kinds j = 3 ∨ gI kinds j = 4 ∨ gI kinds j = 5
      · have a2 : ¬ gI kinds j = 6 ∧ ¬ 7 < gI kinds j := by omega
        by_cases hr : 0 < rows.length
        · have i0 : 0 ≤ gI numbers j % (rows.length : Int) := Int.emod_nonneg _ (by omega)
          have i1 : gI numbers j % (rows.length : Int) < rows.length := Int.emod_lt_of_pos _ (by omega)
          have hmem : gR rows (gI numbers j % (rows.length : Int)).toNat ∈ rows := gR_mem (by omega)
          simp (disch := first | omega | assumption | (simp only [oL_len, oR_len, oT_len, List.length_take, List.length_set, iL_length, rL_len, rT_len, List.length_map, List.length_append, List.length_cons, List.length_nil, rngD_len, List.length_range, drawn_len]; omega) | (split <;> omega) | (simp only [List.getElem?_cons_succ, List.getElem?_cons_zero]; done)) [u_l_levels_7, s_l_levels_7, u_l_levels_8, s_l_levels_8, u_l_levels_9, s_l_levels_9, u_l_levels_11, s_l_levels_11, u_l_levels_13, s_l_levels_13, in_lit4, a1, a2, b1, hr]
          generalize gR rows (gI numbers j % (rows.length : Int)).toNat = row at hmem
          have wl := wid _ hmem
          have g := mar _ hmem (gI row j) (gI_mem (by omega))
          by_cases b5 : gI kinds j = 5
          · simp (disch := first | omega | assumption | (simp only [oL_len, oR_len, oT_len, List.length_take, List.length_set, iL_length, rL_len, rT_len, List.length_map, List.length_append, List.length_cons, List.length_nil, rngD_len, List.length_range, drawn_len]; omega) | (split <;> omega) | (simp only [List.getElem?_cons_succ, List.getElem?_cons_zero]; done)) [b5, a2, u_l_levels_9, s_l_levels_9, u_l_levels_11, s_l_levels_11, u_l_levels_13, s_l_levels_13]
            exact ⟨_, _, _, rfl, hv.snoc (by omega) (by omega)⟩
          · simp (disch := first | omega | assumption | (simp only [oL_len, oR_len, oT_len, List.length_take, List.length_set, iL_length, rL_len, rT_len, List.length_map, List.length_append, List.length_cons, List.length_nil, rngD_len, List.length_range, drawn_len]; omega) | (split <;> omega) | (simp only [List.getElem?_cons_succ, List.getElem?_cons_zero]; done)) [b5, a2, u_l_levels_9, s_l_levels_9, u_l_levels_11, s_l_levels_11, u_l_levels_13, s_l_levels_13]
            exact ⟨_, _, _, rfl, hv.snoc (by omega) (by omega)⟩
        · simp (disch := first | omega | assumption | (simp only [oL_len, oR_len, oT_len, List.length_take, List.length_set, iL_length, rL_len, rT_len, List.length_map, List.length_append, List.length_cons, List.length_nil, rngD_len, List.length_range, drawn_len]; omega) | (split <;> omega) | (simp only [List.getElem?_cons_succ, List.getElem?_cons_zero]; done)) [u_l_levels_7, s_l_levels_7, u_l_levels_9, s_l_levels_9, u_l_levels_11, s_l_levels_11, u_l_levels_13, s_l_levels_13, in_lit4, a1, a2, b1, hr]
          exact ⟨_, _, _, rfl, hv.snoc (by omega) (by omega)⟩
      · by_cases c6 : gI kinds j = 6
        · have a2 : ¬ 7 < gI kinds j := by omega
          simp (disch := first | omega | assumption | (simp only [oL_len, oR_len, oT_len, List.length_take, List.length_set, iL_length, rL_len, rT_len, List.length_map, List.length_append, List.length_cons, List.length_nil, rngD_len, List.length_range, drawn_len]; omega) | (split <;> omega) | (simp only [List.getElem?_cons_succ, List.getElem?_cons_zero]; done)) [u_l_levels_7, s_l_levels_7, u_l_levels_9, s_l_levels_9, u_l_levels_10, s_l_levels_10, u_l_levels_11, s_l_levels_11, u_l_levels_13, s_l_levels_13, in_lit4, a1, a2, b1, c6]
          exact ⟨_, _, _, rfl, hv.snoc m2.1 m2.2⟩
        · by_cases c7 : 7 < gI kinds j
          · simp (disch := first | omega | assumption | (simp only [oL_len, oR_len, oT_len, List.length_take, List.length_set, iL_length, rL_len, rT_len, List.length_map, List.length_append, List.length_cons, List.length_nil, rngD_len, List.length_range, drawn_len]; omega) | (split <;> omega) | (simp only [List.getElem?_cons_succ, List.getElem?_cons_zero]; done)) [u_l_levels_7, s_l_levels_7, u_l_levels_9, s_l_levels_9, u_l_levels_11, s_l_levels_11, u_l_levels_12, s_l_levels_12, u_l_levels_13, s_l_levels_13, in_lit4, a1, b1, c6, c7]
            exact ⟨_, _, _, rfl, hv.snoc m1.1 m1.2⟩
          · simp (disch := first | omega | assumption | (simp only [oL_len, oR_len, oT_len, List.length_take, List.length_set, iL_length, rL_len, rT_len, List.length_map, List.length_append, List.length_cons, List.length_nil, rngD_len, List.length_range, drawn_len]; omega) | (split <;> omega) | (simp only [List.getElem?_cons_succ, List.getElem?_cons_zero]; done)) [u_l_levels_7, s_l_levels_7, u_l_levels_9, s_l_levels_9, u_l_levels_11, s_l_levels_11, u_l_levels_13, s_l_levels_13, in_lit4, a1, b1, c6, c7]
            exact ⟨_, _, _, rfl, hv.snoc (by omega) (by omega)⟩
  · obtain ⟨ls, o7, o8, rfl, hv⟩ := h
    simp (disch := first | omega | assumption | (simp only [oL_len, oR_len, oT_len, List.length_take, List.length_set, iL_length, rL_len, rT_len, List.length_map, List.length_append, List.length_cons, List.length_nil, rngD_len, List.length_range, drawn_len]; omega) | (split <;> omega) | (simp only [List.getElem?_cons_succ, List.getElem?_cons_zero]; done)) [u_l_levels_14, s_l_levels_14]
    exact ⟨_, hv, rfl⟩

/-- shown marks of the rows -/
structure CellsOf (rows : List (List Int)) (w : Nat) (ls : List Int) (cells : List (List (Option Int))) : Prop where
  len : cells.length = rows.length
  wid : ∀ r, r < rows.length → (gCs cells r).length = w
  val : ∀ r k, r < rows.length → k < w → (gC (gCs cells r) k = none ∧ gI (gR rows r) k < gI ls k) ∨ gC (gCs cells r) k = some (gI (gR rows r) k)
theorem CellsOf.set {rows : List (List Int)} {w : Nat} {ls : List Int} {cells : List (List (Option Int))} {r k : Nat} (h : CellsOf rows w ls cells) (hr : r < rows.length) (hk : k < w) :
    CellsOf rows w ls (cells.set r ((gCs cells r).set k (some (gI (gR rows r) k)))) := by
  have hl := h.len
  refine ⟨by simp [h.len], fun r2 h2 => ?_, fun r2 k2 h2 q2 => ?_⟩
  · rw [gCs_set]
    split
    · rw [List.length_set]; exact h.wid r hr
    · exact h.wid r2 h2
  · rw [gCs_set]
    split
    · rename_i e
      obtain ⟨rfl, _⟩ := e
      rw [gC_set]
      split
      · rename_i e
        obtain ⟨rfl, _⟩ := e
        exact .inr rfl
      · exact h.val _ k2 h2 q2
    · exact h.val r2 k2 h2 q2
@[simp] theorem w_setI2 {G : Tb} {cal : Cl → R LD} {ε : En} {i : Nat} {j k e : E} : run G cal (.setI2 i j k e) ε = toO ε (evE G cal e ε) fun x => match own ε i with
    | some (2, xs) => toO ε (evE G cal j ε) fun y => (match y.2 with
      | .int p => (match L2.ixN xs.length p with
        | some n => (match xs[n]? with
          | some (.lst ys) => toO ε (evE G cal k ε) fun z => (match z.2 with
            | .int q => (match L2.ixN ys.length q with
              | some m => if x.2.lf = true ∧ x.1 ≤ 2 ∧ D.lfs ys = true then putS i (some (2, .lst (xs.set n (.lst (ys.set m x.2))))) ε else .bad
              | none => .bad)
            | _ => .bad)
          | _ => .bad)
        | none => .bad)
      | _ => .bad)
    | _ => .bad := rfl
def floorI (cs : List (Option Int)) : List Int := cs.map fun c => c.getD 0
def ceilI (cs : List (Option Int)) (ls : List Int) : List Int := (List.range cs.length).map fun k => (gC cs k).getD (gI ls k - 1)
@[simp] theorem floorI_len {cs : List (Option Int)} : (floorI cs).length = cs.length := by simp [floorI]
@[simp] theorem ceilI_len {cs : List (Option Int)} {ls : List Int} : (ceilI cs ls).length = cs.length := by simp [ceilI]
theorem gI_floor {cs : List (Option Int)} {k : Nat} (h : k < cs.length) : gI (floorI cs) k = (gC cs k).getD 0 := by
  rw [gI_at (by simpa using h), gC_at h]; simp [floorI]
theorem gI_ceil {cs : List (Option Int)} {ls : List Int} {k : Nat} (h : k < cs.length) : gI (ceilI cs ls) k = (gC cs k).getD (gI ls k - 1) := by
  rw [gI_at (by simpa using h)]; simp [ceilI]
structure KnOk (cells : List (List (Option Int))) (ls : List Int) (w : Nat) (high : Int) : Prop where
  h0 : 0 ≤ high
  h1 : high ≤ 1000000000000
  w1 : 1 ≤ w
  w4 : w ≤ 4
  lv : LvOk ls w high
  len : cells.length ≤ 12
  wid : ∀ c ∈ cells, c.length = w
  non : ∀ c ∈ cells, ∀ k, k < w → gC c k = none → gI ls k ≠ 0
  som : ∀ c ∈ cells, ∀ k, k < w → ∀ x, gC c k = some x → 0 ≤ x ∧ x ≤ high
@[simp] theorem isi_sq {t : Bool} {l : Nat} {xs : List Int} (h : l ≤ 4) : isiV GA (l, sqI t xs) [.list, .tuple] = .ok (0, .bl true) := by cases t <;> simp [sqI, isiV, dTy, isTy, okB, h]
@[simp] theorem isIns_sq {t : Bool} {xs : List Int} : isIns (sqI t xs) = false := by cases t <;> rfl
section
variable {c l : Nat} {cells : List (List (Option Int))} {ls : List Int} {high : Int}
end
def lowR (cells : List (List (Option Int))) : List (List Int) := cells.map floorI
def tallR (cells : List (List (Option Int))) (ls : List Int) : List (List Int) := cells.map fun c => ceilI c ls
@[simp] theorem lowR_len {cells : List (List (Option Int))} : (lowR cells).length = cells.length := by simp [lowR]
@[simp] theorem tallR_len {cells : List (List (Option Int))} {ls : List Int} : (tallR cells ls).length = cells.length := by simp [tallR]
theorem gR_low {cells : List (List (Option Int))} {r : Nat} (h : r < cells.length) : gR (lowR cells) r = floorI (gCs cells r) := by
  rw [gR_at (by simpa using h), gCs_at h]; simp [lowR]
theorem gR_tall {cells : List (List (Option Int))} {ls : List Int} {r : Nat} (h : r < cells.length) : gR (tallR cells ls) r = ceilI (gCs cells r) ls := by
  rw [gR_at (by simpa using h), gCs_at h]; simp [tallR]
section
variable {cells : List (List (Option Int))} {ls : List Int} {w : Nat} {high : Int}
theorem KnOk.gwid (ok : KnOk cells ls w high) {r : Nat} (h : r < cells.length) : (gCs cells r).length = w := ok.wid _ (gCs_mem h)
theorem KnOk.le (ok : KnOk cells ls w high) {r k : Nat} (hr : r < cells.length) (hk : k < w) : gI (gR (lowR cells) r) k ≤ gI (gR (tallR cells ls) r) k := by
  have hw := ok.gwid hr
  have hm := gCs_mem hr
  rw [gR_low hr, gR_tall hr, gI_floor (by omega), gI_ceil (by omega)]
  have q2 := ok.non _ hm k hk
  have q3 := ok.lv.ge k hk
  cases e : gC (gCs cells r) k with
  | none => have := q2 e; simp; omega
  | some x => simp
end
/-- the numbers below n that .. -/
def selI (n : Nat) (p : Nat → Bool) : List Int := ((List.range n).filter p).map fun (k : Nat) => (k : Int)
theorem selI_len {n : Nat} {p : Nat → Bool} : (selI n p).length ≤ n := by
  unfold selI
  rw [List.length_map]
  exact Nat.le_trans (List.length_filter_le _ _) (by simp)
theorem iL_sel {n : Nat} {p : Nat → Bool} : iL (selI n p) = ((List.range n).filter p).map fun (k : Nat) => D.int (k : Int) := by simp [selI, iL]
section
variable {c : Nat} {cells : List (List (Option Int))} {ls : List Int} {w : Nat} {high : Int}
end
theorem tblI_lf {rows : List (List Int)} {w : Nat} {high : Int} : (tblI rows w high).lf = true := by simp [tblI]
section
variable {c : Nat} {cells : List (List (Option Int))} {ls : List Int} {w : Nat} {high : Int}
end
section
variable {c : Nat} {cells : List (List (Option Int))} {ls : List Int} {w : Nat} {high : Int}
end
theorem c_copyR {m : Nat} {ε : En} {i : Nat} {rows : List (List Int)} (hi : i < ε.length) (hl : rows.length ≤ 1000) :
    (compR GA (callI GA FS m) (.one i) .none (.bi .list (.cons (.var i) .nil)) ε (rL rows)).bind pack = .ok (2, .lst (rL rows)) :=
  comp2n (g := fun r => D.lst (iL r)) (fun r => .lst (iL r)) (fun _ => 2) (by omega) fun r hr => by
    rw [WpT_one, if_pos hi]
    have g : getS (ε.set i (some (0, D.lst (iL r)))) i = .ok (0, .lst (iL r)) := by simp [getS, hi]
    simp (disch := first | omega | assumption | (simp only [oL_len, oR_len, oT_len, List.length_take, List.length_set, iL_length, rL_len, rT_len, List.length_map, List.length_append, List.length_cons, List.length_nil, rngD_len, List.length_range, drawn_len]; omega) | (split <;> omega) | (simp only [List.getElem?_cons_succ, List.getElem?_cons_zero]; done)) [g]

def bR (rows : List (List Int)) (o r : Int) : Bool := btL (gR rows o.toNat) o (gR rows r.toNat) r
def allI (n : Nat) : List Int := (List.range n).map fun (k : Nat) => (k : Int)
theorem allI_len {n : Nat} : (allI n).length = n := by simp [allI]
theorem mem_allI {n : Nat} {x : Int} : x ∈ allI n ↔ 0 ≤ x ∧ x < n := by
  unfold allI
  simp only [List.mem_map, List.mem_range]
  exact ⟨fun ⟨k, h, e⟩ => by omega, fun h => ⟨x.toNat, by omega, by omega⟩⟩
section
variable {rows : List (List Int)} {w : Nat}
theorem filter_lt2 {α : Type} {p q : α → Bool} : ∀ {l : List α} {a : α}, (∀ x ∈ l, p x = true → q x = true) → a ∈ l → p a = false → q a = true → (l.filter p).length < (l.filter q).length
  | x :: r, a, h, m, h1, h2 => by
    have hx := h x (List.mem_cons_self ..)
    have le : (r.filter p).length ≤ (r.filter q).length := by
      have : r.filter p = (r.filter q).filter p := by
        rw [List.filter_filter]
        refine List.filter_congr fun y hy => ?_
        cases hp : p y with
        | false => rfl
        | true => simp [h y (List.mem_cons_of_mem _ hy) hp]
      rw [this]
      exact List.length_filter_le _ _
    rcases List.mem_cons.mp m with rfl | m
    · simp only [List.filter_cons, h1, h2, if_true, List.length_cons]
      simp only [Bool.false_eq_true, if_false]
      omega
    · have := filter_lt2 (fun y hy => h y (List.mem_cons_of_mem _ hy)) m h1 h2
      simp only [List.filter_cons]
      cases hp : p x with
      | true => rw [hx hp]; simp only [if_true, List.length_cons]; omega
      | false => cases q x <;> simp <;> omega
/-- rows left and an order begun -/
structure FSt (rows : List (List Int)) (left order : List Int) : Prop where
  perm : (left ++ order).Perm (allI rows.length)
  sub : left.Sublist (allI rows.length)
  pw : order.Pairwise fun a b => bR rows b a = false
  ah : ∀ a ∈ order, ∀ b ∈ left, bR rows b a = false
theorem FSt.lv {left order : List Int} (h : FSt rows left order) : ∀ x ∈ left, 0 ≤ x ∧ x < rows.length := fun x hx => mem_allI.mp (h.sub.subset hx)
theorem FSt.len {left order : List Int} (h : FSt rows left order) : left.length + order.length = rows.length := by
  have := h.perm.length_eq
  rw [allI_len, List.length_append] at this
  exact this
/-- a fair order -/
structure FairOk (rows : List (List Int)) (order : List Int) : Prop where
  perm : order.Perm (allI rows.length)
  pw : order.Pairwise fun a b => bR rows b a = false
theorem FairOk.len {order : List Int} (h : FairOk rows order) : order.length = rows.length := by rw [h.perm.length_eq, allI_len]
end
@[simp] theorem intsOf_fL : ∀ {xs : List Int}, intsOf (iL xs) = some xs
  | [] => rfl
  | x :: r => by
    have := intsOf_fL (xs := r)
    simp only [iL, List.map_cons, intsOf] at this ⊢
    rw [this]; rfl
theorem cut_from {xs : List Int} {n : Nat} : cut (iL xs) (some (n : Int)) none = iL (xs.drop n) := by
  unfold cut
  rw [HT.sIx_none, HT.sIx_nat, iL_len, List.take_of_length_le (by simp [iL_len])]
  by_cases h : n ≤ xs.length
  · rw [Nat.min_eq_left h]; simp [iL, List.map_drop]
  · rw [Nat.min_eq_right (by omega), List.drop_of_length_le (by simp [iL_len]), List.drop_of_length_le (by omega)]; rfl
@[simp] theorem iL_from {l : Nat} {xs : List Int} {n : Int} (h0 : 0 ≤ n) : slV (l, .lst (iL xs)) (some n) none = .ok (2, .lst (iL (xs.drop n.toNat))) := by
  obtain ⟨k, rfl⟩ := Int.eq_ofNat_of_zero_le h0
  simp [slV, cut_from]
/-- no whole number -/
def oddD : D → Bool
  | .non | .bl _ | .str _ | .tup _ | .lst _ => true
  | _ => false
theorem s_isnumO {n : Nat} (hn : 1 ≤ n) (v : D) (h : oddD v = true) (a b : Int) : callI GA FS n (.fn 0 [v, .int a, .int b]) = .ok (0, .bl false) := by
  refine fn_wp (q := 0) F_p_is_number rfl hn fun m hm => ?_
  cases v <;> first | (simp [d_p_is_number, u_p_is_number_0, s_p_is_number_0, u_p_is_number_1, s_p_is_number_1, u_p_is_number_2, s_p_is_number_2, isiV, dTy, isTy, okB]; done) | (simp [oddD] at h)
section
variable {rows : List (List Int)} {w : Nat} {high : Int}
end

@[simp] theorem lidx_iL {l : Nat} {xs : List Int} : lidxL (l, .lst (iL xs)) = some xs := by simp [lidxL]
section
variable {wr : List (List Int)} {order : List Int}
end

/-- is d an integer from a to b? -/
def isnD (d : D) (a b : Int) : Bool := match d with | .int i => decide (a ≤ i ∧ i ≤ b) | _ => false
theorem isnD_int {i a b : Int} : isnD (.int i) a b = decide (a ≤ i ∧ i ≤ b) := rfl
theorem isnD_odd {d : D} (h : oddD d = true) {a b : Int} : isnD d a b = false := by cases d <;> first | rfl | simp [oddD] at h
/-- an integer, or what is none -/
def valD (d : D) : Prop := oddD d = true ∨ ∃ i, d = .int i
theorem s_isnumD {n : Nat} (hn : 1 ≤ n) {d : D} (hd : valD d) (a b : Int) : callI GA FS n (.fn 0 [d, .int a, .int b]) = .ok (0, .bl (isnD d a b)) := by
  rcases hd with h | ⟨i, rfl⟩
  · rw [isnD_odd h]; exact s_isnumO hn d h a b
  · rw [isnD_int]; exact s_isnum hn i a b
theorem s_checkcolD {n : Nat} (hn : 4 ≤ n) {d : D} (hd : valD d) (z : Int) : callI GA FS n (.fn 2 [d, .int z]) = if isnD d 0 (z - 1) = true then .ok (0, .non) else .exc 6 [d] := by
  refine fn_wp (q := 3) F_p_check_column rfl (by omega) fun m hm => ?_
  cases h : isnD d 0 (z - 1) with
  | true => simp (disch := first | omega | assumption | (simp only [oL_len, oR_len, oT_len, List.length_take, List.length_set, iL_length, rL_len, rT_len, List.length_map, List.length_append, List.length_cons, List.length_nil, rngD_len, List.length_range, drawn_len]; omega) | (split <;> omega) | (simp only [List.getElem?_cons_succ, List.getElem?_cons_zero]; done)) [d_p_check_column, u_p_check_column_0, s_p_check_column_0, u_p_check_column_1, s_p_check_column_1, s_isnumD (n := m) (by omega) hd, h]
  | false => simp (disch := first | omega | assumption | (simp only [oL_len, oR_len, oT_len, List.length_take, List.length_set, iL_length, rL_len, rT_len, List.length_map, List.length_append, List.length_cons, List.length_nil, rngD_len, List.length_range, drawn_len]; omega) | (split <;> omega) | (simp only [List.getElem?_cons_succ, List.getElem?_cons_zero]; done)) [d_p_check_column, u_p_check_column_0, s_p_check_column_0, u_p_check_column_1, s_p_check_column_1, s_isnumD (n := m) (by omega) hd, h]
theorem eqD_self {d : D} (h : SeqAt.shaped d.py = true) : eqD d d = .ok true := by
  unfold eqD
  have h2 := h
  unfold SeqAt.shaped at h2
  rw [if_pos ⟨h, h⟩, SeqAt.eqv_refl d.py (ba2 h2).1]
theorem cop_ne {l m : Nat} {x y : D} : copV .ne (l, x) (m, y) = (eqD x y).bind fun r => .ok (0, .bl (!r)) := rfl
theorem cop_eq {l m : Nat} {x y : D} : copV .eq (l, x) (m, y) = (eqD x y).bind fun r => .ok (0, .bl r) := rfl

section
variable {cells : List (List (Option Int))} {ls : List Int} {w : Nat} {high : Int}
theorem KnOk.wtall (ok : KnOk cells ls w high) {r : Nat} (h : r < cells.length) : (gR (tallR cells ls) r).length = w := by rw [gR_tall h, ceilI_len, ok.gwid h]
theorem KnOk.ge (ok : KnOk cells ls w high) {r : Nat} (hr : r < cells.length) : geL (gR (tallR cells ls) r) (gR (lowR cells) r) = true :=
  geL_of fun k h1 _ => ok.le hr (by rw [ok.wtall hr] at h1; exact h1)
end

section
variable {m : Nat} {cells : List (List (Option Int))} {ls : List Int} {w : Nat} {high : Int} {rows : List (List Int)}
end
theorem tb_columns {rows : List (List Int)} {w : Nat} {high : Int} : fldV GA (0, tblI rows w high) 14 = .ok (0, .int (w : Int)) := by simp [tblI, fldIx]
theorem tb_rows {rows : List (List Int)} {w : Nat} {high : Int} : fldV GA (0, tblI rows w high) 13 = .ok (0, .tup (rT rows)) := by simp [tblI, fldIx]
theorem TabOk.set {rows other : List (List Int)} {w : Nat} {high : Int} (h : TabOk rows w high) (h2 : TabOk other w high) {q : Nat} (hq : q < other.length) : TabOk (rows.set q (gR other q)) w high :=
  ⟨by rw [List.length_set]; exact h.len, h.w1, h.w4, fun r hr => (List.mem_or_eq_of_mem_set hr).elim (h.wid r) fun e => e ▸ h2.wid _ (gR_mem hq), h.h0, h.h1, fun r hr => (List.mem_or_eq_of_mem_set hr).elim (h.mar r) fun e => e ▸ h2.mar _ (gR_mem hq)⟩
section
variable {cells : List (List (Option Int))} {ls : List Int} {w : Nat} {high : Int}
end
theorem s_checkcol {n : Nat} (hn : 2 ≤ n) (r z : Int) (h0 : 0 ≤ r) (h : r < z) : callI GA FS n (.fn 2 [.int r, .int z]) = .ok (0, .non) := by
  refine fn_wp (q := 1) F_p_check_column rfl hn fun m hm => ?_
  have h2 : 0 ≤ r ∧ r ≤ z - 1 := by omega
  simp [d_p_check_column, u_p_check_column_0, s_p_check_column_0, u_p_check_column_1, s_p_check_column_1, s_isnum hm, h2]
section
variable {c : Nat} {cells : List (List (Option Int))} {ls : List Int} {w : Nat} {high : Int}
end
def I_tup (xs : List Int) (j : Nat) (ε : En) : Prop := ∃ (o2 : Option LD), ε = [some (0, .tup (iL xs)), some (0, .lst (iL xs)), o2] ∧ True
theorem s_ltup {n : Nat} (hn : 2 ≤ n) (xs : List Int) (hl : xs.length ≤ 1000000) : callI GA FS n (.fn 22 [.tup (iL xs), .lst (iL xs)]) = .ok (0, .bl true) := by
  refine fn_wp (q := 1) F_l_tuple rfl hn fun m hm => ?_
  simp (disch := first | omega | assumption | (simp only [oL_len, oR_len, oT_len, List.length_take, List.length_set, iL_length, rL_len, rT_len, List.length_map, List.length_append, List.length_cons, List.length_nil, rngD_len, List.length_range, drawn_len]; omega) | (split <;> omega) | (simp only [List.getElem?_cons_succ, List.getElem?_cons_zero]; done)) [d_l_tuple, u_l_tuple_0, s_l_tuple_0, u_l_tuple_2, s_l_tuple_2, isiV, dTy, isTy, okB]
  refine wp_rng (I_tup xs) ⟨_, rfl, trivial⟩ (fun j hj ε h => ?_) (fun ε h => ?_)
  · obtain ⟨o2, rfl, _⟩ := h
    refine ⟨by simp, ?_⟩
    simp (disch := first | omega | assumption | (simp only [oL_len, oR_len, oT_len, List.length_take, List.length_set, iL_length, rL_len, rT_len, List.length_map, List.length_append, List.length_cons, List.length_nil, rngD_len, List.length_range, drawn_len]; omega) | (split <;> omega) | (simp only [List.getElem?_cons_succ, List.getElem?_cons_zero]; done)) [u_l_tuple_3, s_l_tuple_3, s_whole hm]
    exact ⟨_, rfl, trivial⟩
  · obtain ⟨o2, rfl, _⟩ := h
    simp (disch := first | omega | assumption | (simp only [oL_len, oR_len, oT_len, List.length_take, List.length_set, iL_length, rL_len, rT_len, List.length_map, List.length_append, List.length_cons, List.length_nil, rngD_len, List.length_range, drawn_len]; omega) | (split <;> omega) | (simp only [List.getElem?_cons_succ, List.getElem?_cons_zero]; done)) [u_l_tuple_5, s_l_tuple_5]
@[simp] theorem v_seqO' {G : Tb} {cal : Cl → R LD} {e : E} {st : Bool} {ε : En} : evI G cal (.seqO e) st ε = (evE G cal e ε).bind (itemsO G cal st) := rfl
section
variable {c : Nat} {cells : List (List (Option Int))} {ls : List Int} {w : Nat} {high : Int}
end

def MisOk (n w : Nat) (high : Int) (ts : List (List (List Int) × Nat × Int)) : Prop := ∀ t ∈ ts, TabOk t.1 t.2.1 t.2.2 ∧ (t.1.length ≠ n ∨ t.2.1 ≠ w ∨ t.2.2 ≠ high)
theorem MisOk.snoc {n w : Nat} {high : Int} {ts : List (List (List Int) × Nat × Int)} (h : MisOk n w high ts) {a : List (List Int)} {b : Nat} {c : Int} (h1 : TabOk a b c) (h2 : a.length ≠ n ∨ b ≠ w ∨ c ≠ high) : MisOk n w high (ts ++ [(a, b, c)]) := fun t ht => by
  rcases List.mem_append.mp ht with q | q
  · exact h t q
  · rw [List.mem_singleton.mp q]; exact ⟨h1, h2⟩
def pT (q : Int × Int) : D := .tup [.int q.1, .int q.2]
def pL (q : Int × Int) : D := .lst [.int q.1, .int q.2]
@[simp] theorem pT_lfs {xs : List (Int × Int)} : D.lfs (xs.map pT) = true := by induction xs <;> simp_all [pT]
@[simp] theorem pL_lfs {xs : List (Int × Int)} (h : xs ≠ []) : D.lfs (xs.map pL) = false := by cases xs <;> simp_all [pL, D.lf]
section
variable {c : Nat} {cells : List (List (Option Int))} {ls : List Int} {w : Nat} {high : Int}
end

section
variable {cells : List (List (Option Int))} {ls : List Int} {w : Nat} {high : Int} {p : Int}
end
@[simp] theorem intsOf_iL : ∀ {xs : List Int}, intsOf (iL xs) = some xs
  | [] => rfl
  | x :: r => by
    have := intsOf_iL (xs := r)
    simp only [iL, List.map_cons, intsOf] at this ⊢
    rw [this]; rfl
section
variable {cells : List (List (Option Int))} {ls : List Int} {w : Nat} {high : Int} {p : Int}
end
section
variable {cells : List (List (Option Int))} {ls : List Int} {w : Nat} {high : Int}
end

section
variable {cells : List (List (Option Int))} {ls : List Int} {w : Nat} {high : Int}
def colI (W : List (List Int)) (c : Nat) : List Int := W.map fun x => gI x c
end

section
variable {cells : List (List (Option Int))} {ls : List Int} {w : Nat} {high : Int} {p : Int}
end

section
variable {cells : List (List (Option Int))} {ls : List Int} {w : Nat} {high : Int} {p : Int}
end
theorem tru_iL {l : Nat} {xs : List Int} : tru (l, .lst (iL xs)) = .ok (decide (xs ≠ [])) := by cases xs <;> simp [tru, iL]
theorem foldl_maxM : ∀ (r : List Int) (a : Int), r.foldl (fun a b => if b > a then b else a) a = a ∨ r.foldl (fun a b => if b > a then b else a) a ∈ r
  | [], a => .inl rfl
  | y :: r, a => by
    rw [List.foldl_cons]
    rcases foldl_maxM r (if y > a then y else a) with h | h
    · rw [h]
      split
      · exact .inr (List.mem_cons_self ..)
      · exact .inl rfl
    · exact .inr (List.mem_cons_of_mem _ h)
theorem maxL_mem {xs : List Int} (h : xs ≠ []) : ∃ i, maxL xs = some i ∧ i ∈ xs := by
  cases xs with
  | nil => exact absurd rfl h
  | cons a r =>
    refine ⟨_, rfl, ?_⟩
    rcases foldl_maxM r a with h | h
    · rw [h]; exact List.mem_cons_self ..
    · exact List.mem_cons_of_mem _ h
theorem biV_max {l : Nat} {xs : List Int} : biV .maxL [(l, .lst (iL xs))] = (match maxL xs with | some i => .ok (0, .int i) | none => .bad) := by
  show (match (intsOf (iL xs)).bind maxL with | some i => okI i | none => .bad) = _
  rw [intsOf_iL]
  rfl
section
variable {rows : List (List Int)} {w : Nat} {high : Int}
theorem s_colm {n : Nat} (hn : 3 ≤ n) (ok : TabOk rows w high) (c : Nat) (hc : c < w) : callI GA FS n (.fn 407 [tblI rows w high, .int (c : Int)]) = .ok (2, .lst (iL (colI rows c))) := by
  refine fn_wp (q := 2) F_m_Table_column_marks rfl hn fun m hm => ?_
  have hl := ok.len
  have k2 := s_checkcol (n := m) hm (c : Int) w (by omega) (by omega)
  have cm : ∀ o2 : Option LD, (compR GA (callI GA FS m) (.one 2) .none (.idx (.var 2) (.var 1)) [some (0, tblI rows w high), some (0, .int (c : Int)), o2] (rT rows)).bind pack = .ok (2, .lst (iL (colI rows c))) := by
    intro o2
    have e : iL (colI rows c) = rows.map fun r => D.int (gI r c) := by simp [colI, iL]
    rw [e]
    exact comp2n (g := fun r => D.tup (iL r)) (fun r => D.int (gI r c)) (fun _ => 0) (by omega) fun r hr => by
      have := ok.wid r hr
      rw [WpT_one]
      simp (disch := first | omega | assumption | (simp only [oL_len, oR_len, oT_len, List.length_take, List.length_set, iL_length, rL_len, rT_len, List.length_map, List.length_append, List.length_cons, List.length_nil, rngD_len, List.length_range, drawn_len]; omega) | (split <;> omega) | (simp only [List.getElem?_cons_succ, List.getElem?_cons_zero]; done)) []
  simp (disch := first | omega | assumption | (simp only [oL_len, oR_len, oT_len, List.length_take, List.length_set, iL_length, rL_len, rT_len, List.length_map, List.length_append, List.length_cons, List.length_nil, rngD_len, List.length_range, drawn_len]; omega) | (split <;> omega) | (simp only [List.getElem?_cons_succ, List.getElem?_cons_zero]; done)) [d_m_Table_column_marks, u_m_Table_column_marks_0, s_m_Table_column_marks_0, u_m_Table_column_marks_1, s_m_Table_column_marks_1, c_m_Table_column_marks_0, tb_columns, tb_rows, k2, cm]
end
section
variable {rows : List (List Int)} {w : Nat} {high : Int}
end

section
variable {rows : List (List Int)} {ls : List Int} {w : Nat} {high : Int} {p : Int}
end

section
variable {rows : List (List Int)} {ls : List Int} {w : Nat} {high : Int}
end

section
variable {rows : List (List Int)} {ls : List Int} {w : Nat} {high : Int}
end

def lowM (ms : List Int) (lev : Int) : List Int := ms.filter fun x => decide (x < lev)
def holdI (ms : List Int) (mx : Int) : List Int := selI ms.length fun r => decide (gI ms r = mx)
theorem lowM_lt {ms : List Int} {lev mx : Int} (h : maxL (lowM ms lev) = some mx) : (lowM ms mx).length < (lowM ms lev).length := by
  have hne : lowM ms lev ≠ [] := fun e => by rw [e] at h; cases h
  obtain ⟨i, i1, i2⟩ := maxL_mem hne
  rw [h] at i1
  cases i1
  obtain ⟨i3, i4⟩ := List.mem_filter.mp i2
  rw [decide_eq_true_eq] at i4
  exact filter_lt2 (p := fun x => decide (x < mx)) (q := fun x => decide (x < lev)) (l := ms) (a := mx) (fun x _ h => by simp only [decide_eq_true_eq] at *; omega) i3 (by simp) (by simpa using i4)
theorem c_low {m i : Nat} {ε : En} {ms : List Int} {lev : Int} {t : To} (hi : i < ε.length) (hl : ms.length ≤ 1000) (ht : ∀ x : Int, evTo GA (callI GA FS m) t (ε.set i (some (0, .int x))) = .ok (decide (x < lev))) :
    (compR GA (callI GA FS m) (.one i) t (.var i) ε (iL ms)).bind pack = .ok (2, .lst (iL (lowM ms lev))) := by
  show (compR _ _ _ _ _ _ (ms.map D.int)).bind pack = _
  rw [comp2 (fun x => decide (x < lev)) D.int (fun _ => 0) (by omega) fun x hx => ?_]
  · rfl
  · rw [WpT_one, if_pos hi]
    exact ⟨ht x, fun _ => ⟨by simp [getS, hi], .inr ⟨by omega, rfl⟩⟩⟩
section
variable {rows : List (List Int)} {w : Nat} {high : Int}
theorem s_colmD {n : Nat} (hn : 6 ≤ n) {d : D} (hd : valD d) (h : isnD d 0 ((w : Int) - 1) = false) : callI GA FS n (.fn 407 [tblI rows w high, d]) = .exc 6 [d] := by
  refine fn_wp (q := 5) F_m_Table_column_marks rfl (by omega) fun m hm => ?_
  have k2 := s_checkcolD (n := m) (by omega) hd (w : Int)
  simp (disch := first | omega | assumption | (simp only [oL_len, oR_len, oT_len, List.length_take, List.length_set, iL_length, rL_len, rT_len, List.length_map, List.length_append, List.length_cons, List.length_nil, rngD_len, List.length_range, drawn_len]; omega) | (split <;> omega) | (simp only [List.getElem?_cons_succ, List.getElem?_cons_zero]; done)) [d_m_Table_column_marks, u_m_Table_column_marks_0, s_m_Table_column_marks_0, u_m_Table_column_marks_1, s_m_Table_column_marks_1, tb_columns, tb_rows, k2, h]
def ngR (ms : List Int) (c : D) (lev : Int) : R LD := match maxL (lowM ms lev) with
  | none => .exc 9 [c]
  | some mx => .ok (0, .tup [.int mx, .tup (iL (holdI ms mx))])
theorem s_nextg {n : Nat} (hn : 4 ≤ n) (ok : TabOk rows w high) (c : Nat) (hc : c < w) (lev : Int) : callI GA FS n (.fn 253 [tblI rows w high, .int (c : Int), .int lev]) = ngR (colI rows c) (.int (c : Int)) lev := by
  refine fn_wp (q := 3) F_p_next_group rfl hn fun m hm => ?_
  have hl := ok.len
  have cm := s_colm (n := m) hm ok c hc
  have cl : (colI rows c).length ≤ 12 := by simpa [colI] using hl
  have mt : methF GA 21 (0, tblI rows w high) = some (407, tblI rows w high) := by simp [tblI]
  generalize colI rows c = ms at cm cl
  have ll : (lowM ms lev).length ≤ 12 := Nat.le_trans (List.length_filter_le _ _) cl
  have cf : ∀ o4 o5 o6 o7 : Option LD, (compR GA (callI GA FS m) (.one 6) (.some (.val (.cmp .lt (.var 6) (.var 2)))) (.var 6) [some (0, tblI rows w high), some (0, .int (c : Int)), some (0, .int lev), some (0, .lst (iL ms)), o4, o5, o6, o7] (iL ms)).bind pack = .ok (2, .lst (iL (lowM ms lev))) := fun o4 o5 o6 o7 =>
    c_low (by simp) (by omega) fun x => by simp (disch := first | omega | assumption | (simp only [oL_len, oR_len, oT_len, List.length_take, List.length_set, iL_length, rL_len, rT_len, List.length_map, List.length_append, List.length_cons, List.length_nil, rngD_len, List.length_range, drawn_len]; omega) | (split <;> omega) | (simp only [List.getElem?_cons_succ, List.getElem?_cons_zero]; done)) []
  unfold ngR
  cases e : maxL (lowM ms lev) with
  | none =>
    have hn : lowM ms lev = [] := Classical.byContradiction fun z => by obtain ⟨i, i1, _⟩ := maxL_mem z; rw [e] at i1; cases i1
    rw [hn] at cf
    simp (disch := first | omega | assumption | (simp only [oL_len, oR_len, oT_len, List.length_take, List.length_set, iL_length, rL_len, rT_len, List.length_map, List.length_append, List.length_cons, List.length_nil, rngD_len, List.length_range, drawn_len]; omega) | (split <;> omega) | (simp only [List.getElem?_cons_succ, List.getElem?_cons_zero]; done)) [d_p_next_group, u_p_next_group_0, s_p_next_group_0, u_p_next_group_1, s_p_next_group_1, u_p_next_group_2, s_p_next_group_2, u_p_next_group_3, s_p_next_group_3, mt, cm, tblI_lf, c_p_next_group_1, cf, tru_iL]
  | some mx =>
    have hne : lowM ms lev ≠ [] := fun z => by rw [z] at e; cases e
    have bx := fun l2 => biV_max (l := l2) (xs := lowM ms lev)
    rw [e] at bx
    have ch : ∀ o6 o7 : Option LD, (compR GA (callI GA FS m) (.one 7) (.some (.val (.cmp .eq (.idx (.var 3) (.var 7)) (.var 5)))) (.var 7) [some (0, tblI rows w high), some (0, .int (c : Int)), some (0, .int lev), some (0, .lst (iL ms)), some (0, .lst (iL (lowM ms lev))), some (0, .int mx), o6, o7] (rngD 0 ms.length)).bind pack = .ok (2, .lst (iL (holdI ms mx))) := fun o6 o7 => by
      rw [rng_map, comp2 (fun r => decide (gI ms r = mx)) (fun (k : Nat) => .int (k : Int)) (fun _ => 0) (by simp; omega) fun r hr => ?_]
      · simp [holdI, iL_sel]
      · rw [List.mem_range] at hr
        rw [WpT_one]
        simp (disch := first | omega | assumption | (simp only [oL_len, oR_len, oT_len, List.length_take, List.length_set, iL_length, rL_len, rT_len, List.length_map, List.length_append, List.length_cons, List.length_nil, rngD_len, List.length_range, drawn_len]; omega) | (split <;> omega) | (simp only [List.getElem?_cons_succ, List.getElem?_cons_zero]; done)) []
    simp (disch := first | omega | assumption | (simp only [oL_len, oR_len, oT_len, List.length_take, List.length_set, iL_length, rL_len, rT_len, List.length_map, List.length_append, List.length_cons, List.length_nil, rngD_len, List.length_range, drawn_len]; omega) | (split <;> omega) | (simp only [List.getElem?_cons_succ, List.getElem?_cons_zero]; done)) [d_p_next_group, u_p_next_group_0, s_p_next_group_0, u_p_next_group_1, s_p_next_group_1, u_p_next_group_2, s_p_next_group_2, u_p_next_group_4, s_p_next_group_4, u_p_next_group_5, s_p_next_group_5, mt, cm, tblI_lf, c_p_next_group_0, c_p_next_group_1, cf, ch, tru_iL, hne, bx]
theorem s_nextgD {n : Nat} (hn : 7 ≤ n) {d : D} (hd : valD d) (h : isnD d 0 ((w : Int) - 1) = false) (lev : Int) : callI GA FS n (.fn 253 [tblI rows w high, d, .int lev]) = .exc 6 [d] := by
  refine fn_wp (q := 6) F_p_next_group rfl hn fun m hm => ?_
  have cm := s_colmD (n := m) (rows := rows) (high := high) hm hd h
  have mt : methF GA 21 (0, tblI rows w high) = some (407, tblI rows w high) := by simp [tblI]
  simp (disch := first | omega | assumption | (simp only [oL_len, oR_len, oT_len, List.length_take, List.length_set, iL_length, rL_len, rT_len, List.length_map, List.length_append, List.length_cons, List.length_nil, rngD_len, List.length_range, drawn_len]; omega) | (split <;> omega) | (simp only [List.getElem?_cons_succ, List.getElem?_cons_zero]; done)) [d_p_next_group, u_p_next_group_0, s_p_next_group_0, mt, cm, tblI_lf]
end

theorem eqD_bb (a b : Bool) : eqD (.bl a) (.bl b) = .ok (a == b) := by cases a <;> cases b <;> rfl
theorem eqD_ss {a b : PySem.Str} (h1 : PyData.strOk a = true) (h2 : PyData.strOk b = true) : eqD (.str a) (.str b) = .ok (decide (a = b)) := by
  by_cases h : a = b <;> simp [eqD, D.py, SeqAt.shaped, PyData.canLay0, PyData.depth, PyData.eqv, h, h1, h2]
theorem e56 : eqD (.str "group") (.str "group") = .ok true ∧ eqD (.str "out") (.str "out") = .ok true ∧ eqD (.str "bad") (.str "bad") = .ok true ∧ eqD (.str "group") (.str "out") = .ok false :=
  ⟨(eqD_ss (by decide +kernel) (by decide +kernel)).trans (congrArg R.ok (by decide +kernel)), (eqD_ss (by decide +kernel) (by decide +kernel)).trans (congrArg R.ok (by decide +kernel)), (eqD_ss (by decide +kernel) (by decide +kernel)).trans (congrArg R.ok (by decide +kernel)), (eqD_ss (by decide +kernel) (by decide +kernel)).trans (congrArg R.ok (by decide +kernel))⟩
/-- is d a bool? -/
def isBl : D → Bool
  | .bl _ => true
  | _ => false
theorem isi_bl {l : Nat} {d : D} (hl : l ≤ 4) (hd : valD d) : isiV GA (l, d) [.bool] = .ok (0, .bl (isBl d)) := by
  rcases hd with h | ⟨i, rfl⟩
  · cases d <;> first | (simp [isiV, dTy, isTy, okB, isBl, hl]; done) | (simp [oddD] at h)
  · simp [isiV, dTy, isTy, okB, isBl, hl]
/-- the refused columns -/
def bd56 (k : Nat) (num w : Int) : D := match k with
  | 0 => .int (-1 - num) | 1 => .int w | 2 => .int (w + num) | 3 => .non | 4 => .bl true | 5 => .str "0" | 6 => .lst [.int 0] | 7 => .tup [.int 0] | 8 => .int (10 ^ 30 + num) | 9 => .str "" | _ => .bl false
theorem s_bad56 {n : Nat} (hn : 1 ≤ n) (ch num w : Int) (h0 : 0 ≤ ch) : callI GA FS n (.fn 196 [.int ch, .int num, .int w]) = .ok (0, bd56 (ch % 11).toNat num w) := by
  refine fn_wp (q := 0) F_l_bad_2 rfl hn fun m hm => ?_
  have e : (10 : Int) ^ 30 = 1000000000000000000000000000000 := by decide
  obtain ⟨k, hk⟩ : ∃ k : Nat, ch % 11 = (k : Int) := Int.eq_ofNat_of_zero_le (by omega)
  have hk2 : k < 11 := by omega
  rw [hk, Int.toNat_natCast]
  have at11 : L2.atI [D.int (-1 - num), .int w, .int (w + num), .non, .bl true, .str "0", .lst [.int 0], .tup [.int 0], .int (1000000000000000000000000000000 + num), .str "", .bl false] (k : Int) = some (bd56 k num w) := by
    match k, hk2 with
    | 0, _ | 1, _ | 2, _ | 3, _ | 4, _ | 5, _ | 6, _ | 7, _ | 8, _ | 9, _ | 10, _ => rfl
  simp (disch := first | omega | assumption | (simp only [oL_len, oR_len, oT_len, List.length_take, List.length_set, iL_length, rL_len, rT_len, List.length_map, List.length_append, List.length_cons, List.length_nil, rngD_len, List.length_range, drawn_len]; omega) | (split <;> omega) | (simp only [List.getElem?_cons_succ, List.getElem?_cons_zero]; done)) [d_l_bad_2, u_l_bad_2_0, s_l_bad_2_0, u_l_bad_2_1, s_l_bad_2_1, hk, e, at11]
theorem bd56_ok (k : Nat) {num w : Int} (h0 : 0 ≤ num) (hw : 1 ≤ w) (w4 : w ≤ 4) : valD (bd56 k num w) ∧ isnD (bd56 k num w) 0 (w - 1) = false ∧ SeqAt.shaped (bd56 k num w).py = true := by
  have e : (10 : Int) ^ 30 = 1000000000000000000000000000000 := by decide
  unfold bd56
  split
  · exact ⟨.inr ⟨_, rfl⟩, by simp [isnD]; omega, rfl⟩
  · exact ⟨.inr ⟨_, rfl⟩, by simp [isnD]; omega, rfl⟩
  · exact ⟨.inr ⟨_, rfl⟩, by simp [isnD]; omega, rfl⟩
  · exact ⟨.inl rfl, rfl, rfl⟩
  · exact ⟨.inl rfl, rfl, rfl⟩
  · exact ⟨.inl rfl, rfl, by decide +kernel⟩
  · exact ⟨.inl rfl, rfl, rfl⟩
  · exact ⟨.inl rfl, rfl, rfl⟩
  · exact ⟨.inr ⟨_, rfl⟩, by simp [isnD]; omega, rfl⟩
  · exact ⟨.inl rfl, rfl, by decide +kernel⟩
  · exact ⟨.inl rfl, rfl, rfl⟩
section
variable {rows : List (List Int)} {w : Nat} {high : Int}
def seen56 (ms : List Int) (c : Int) (lev : Int) : D := match maxL (lowM ms lev) with
  | none => .lst [.str "out", .int c, .bl true, .bl false]
  | some mx => .lst [.str "group", .tup [.int mx, .tup (iL (holdI ms mx))], .bl true, .bl false]
theorem s_out56 {n : Nat} (hn : 5 ≤ n) (ok : TabOk rows w high) (c : Nat) (hc : c < w) (lev : Int) : callI GA FS n (.fn 254 [tblI rows w high, .int (c : Int), .int lev]) = .ok (0, seen56 (colI rows c) (c : Int) lev) := by
  refine fn_wp (q := 4) F_l_group_outcome rfl hn fun m hm => ?_
  have q := s_nextg (n := m) hm ok c hc lev
  unfold ngR at q
  unfold seen56
  cases e : maxL (lowM (colI rows c) lev) with
  | none => rw [e] at q; simp (disch := first | omega | assumption | (simp only [oL_len, oR_len, oT_len, List.length_take, List.length_set, iL_length, rL_len, rT_len, List.length_map, List.length_append, List.length_cons, List.length_nil, rngD_len, List.length_range, drawn_len]; omega) | (split <;> omega) | (simp only [List.getElem?_cons_succ, List.getElem?_cons_zero]; done)) [d_l_group_outcome, u_l_group_outcome_0, s_l_group_outcome_0, u_l_group_outcome_1, s_l_group_outcome_1, u_l_group_outcome_2, s_l_group_outcome_2, u_l_group_outcome_3, s_l_group_outcome_3, q, tblI_lf, fldIx]
  | some mx => rw [e] at q; simp (disch := first | omega | assumption | (simp only [oL_len, oR_len, oT_len, List.length_take, List.length_set, iL_length, rL_len, rT_len, List.length_map, List.length_append, List.length_cons, List.length_nil, rngD_len, List.length_range, drawn_len]; omega) | (split <;> omega) | (simp only [List.getElem?_cons_succ, List.getElem?_cons_zero]; done)) [d_l_group_outcome, u_l_group_outcome_0, s_l_group_outcome_0, u_l_group_outcome_1, s_l_group_outcome_1, u_l_group_outcome_2, s_l_group_outcome_2, u_l_group_outcome_3, s_l_group_outcome_3, q, tblI_lf, fldIx]
theorem s_out56D {n : Nat} (hn : 8 ≤ n) {d : D} (hd : valD d) (h : isnD d 0 ((w : Int) - 1) = false) (lev : Int) : callI GA FS n (.fn 254 [tblI rows w high, d, .int lev]) = .ok (0, .lst [.str "bad", d, .bl true, .bl false]) := by
  refine fn_wp (q := 7) F_l_group_outcome rfl hn fun m hm => ?_
  have q := s_nextgD (n := m) (rows := rows) (high := high) hm hd h lev
  simp (disch := first | omega | assumption | (simp only [oL_len, oR_len, oT_len, List.length_take, List.length_set, iL_length, rL_len, rT_len, List.length_map, List.length_append, List.length_cons, List.length_nil, rngD_len, List.length_range, drawn_len]; omega) | (split <;> omega) | (simp only [List.getElem?_cons_succ, List.getElem?_cons_zero]; done)) [d_l_group_outcome, u_l_group_outcome_0, s_l_group_outcome_0, u_l_group_outcome_1, s_l_group_outcome_1, u_l_group_outcome_2, s_l_group_outcome_2, u_l_group_outcome_3, s_l_group_outcome_3, q, tblI_lf, fldIx]
theorem s_good56 {n : Nat} (hn : 4 ≤ n) (ok : TabOk rows w high) (c : Nat) (hc : c < w) (lev : Int) : callI GA FS n (.fn 255 [seen56 (colI rows c) (c : Int) lev, .lst (rL rows), .int (c : Int), .int lev]) = .ok (0, .bl true) := by
  refine fn_wp (q := 3) F_l_group_good rfl hn fun m hm => ?_
  have hl := ok.len
  have ll : (lowM (colI rows c) lev).length ≤ 12 := Nat.le_trans (List.length_filter_le _ _) (by simpa [colI] using hl)
  have cf : ∀ (sn : D) (o4 o5 o6 o7 o8 : Option LD), (compR GA (callI GA FS m) (.one 7) (.some (.val (.cmp .lt (.idx (.var 7) (.var 2)) (.var 3)))) (.idx (.var 7) (.var 2)) [some (0, sn), some (0, .lst (rL rows)), some (0, .int (c : Int)), some (0, .int lev), o4, o5, o6, o7, o8] (rL rows)).bind pack = .ok (2, .lst (iL (lowM (colI rows c) lev))) := by
    intro sn o4 o5 o6 o7 o8
    have e : iL (lowM (colI rows c) lev) = (rows.filter fun r => decide (gI r c < lev)).map fun r => D.int (gI r c) := by simp [lowM, colI, iL, List.filter_map, Function.comp_def]
    rw [e]
    exact comp2 (g := fun r => D.lst (iL r)) (fun r => decide (gI r c < lev)) (fun r => D.int (gI r c)) (fun _ => 0) (by omega) fun r hr => by
      have := ok.wid r hr
      rw [WpT_one]
      simp (disch := first | omega | assumption | (simp only [oL_len, oR_len, oT_len, List.length_take, List.length_set, iL_length, rL_len, rT_len, List.length_map, List.length_append, List.length_cons, List.length_nil, rngD_len, List.length_range, drawn_len]; omega) | (split <;> omega) | (simp only [List.getElem?_cons_succ, List.getElem?_cons_zero]; done)) []
  unfold seen56
  cases e : maxL (lowM (colI rows c) lev) with
  | none =>
    have hn : lowM (colI rows c) lev = [] := Classical.byContradiction fun z => by obtain ⟨i, i1, _⟩ := maxL_mem z; rw [e] at i1; cases i1
    rw [hn] at cf
    have cf2 := cf (.lst [.str "out", .int (c : Int), .bl true, .bl false])
    simp (disch := first | omega | assumption | (simp only [oL_len, oR_len, oT_len, List.length_take, List.length_set, iL_length, rL_len, rT_len, List.length_map, List.length_append, List.length_cons, List.length_nil, rngD_len, List.length_range, drawn_len]; omega) | (split <;> omega) | (simp only [List.getElem?_cons_succ, List.getElem?_cons_zero]; done)) [d_l_group_good, u_l_group_good_0, s_l_group_good_0, u_l_group_good_1, s_l_group_good_1, u_l_group_good_2, s_l_group_good_2, u_l_group_good_3, s_l_group_good_3, u_l_group_good_4, s_l_group_good_4, c_l_group_good_1, cf2, s_whole, e56]
  | some mx =>
    have hne : lowM (colI rows c) lev ≠ [] := fun z => by rw [z] at e; cases e
    have l0 : ¬ (lowM (colI rows c) lev).length = 0 := fun z => hne (List.length_eq_zero_iff.mp z)
    have bx := fun l2 => biV_max (l := l2) (xs := lowM (colI rows c) lev)
    rw [e] at bx
    have cf2 := cf (.lst [.str "group", .tup [.int mx, .tup (iL (holdI (colI rows c) mx))], .bl true, .bl false])
    have cl : (colI rows c).length = rows.length := by simp [colI]
    have hh : (holdI (colI rows c) mx).length ≤ 12 := Nat.le_trans selI_len (by omega)
    have ch : ∀ (o6 o7 o8 : Option LD), (compR GA (callI GA FS m) (.one 8) (.some (.val (.cmp .eq (.idx (.idx (.var 1) (.var 8)) (.var 2)) (.bi .maxL (.cons (.var 4) .nil))))) (.var 8) [some (0, .lst [.str "group", .tup [.int mx, .tup (iL (holdI (colI rows c) mx))], .bl true, .bl false]), some (0, .lst (rL rows)), some (0, .int (c : Int)), some (0, .int lev), some (0, .lst (iL (lowM (colI rows c) lev))), some (0, .tup [.int mx, .tup (iL (holdI (colI rows c) mx))]), o6, o7, o8] (rngD 0 rows.length)).bind pack = .ok (2, .lst (iL (holdI (colI rows c) mx))) := fun o6 o7 o8 => by
      rw [rng_map, comp2 (fun r => decide (gI (colI rows c) r = mx)) (fun (k : Nat) => .int (k : Int)) (fun _ => 0) (by simp; omega) fun r hr => ?_]
      · simp [holdI, iL_sel, cl]
      · rw [List.mem_range] at hr
        rw [WpT_one]
        have wr := ok.wid _ (gR_mem hr)
        have eg : gI (colI rows c) r = gI (gR rows r) c := by simp [colI, gI, gR, List.getD_eq_getElem?_getD, hr]
        simp (disch := first | omega | assumption | (simp only [oL_len, oR_len, oT_len, List.length_take, List.length_set, iL_length, rL_len, rT_len, List.length_map, List.length_append, List.length_cons, List.length_nil, rngD_len, List.length_range, drawn_len]; omega) | (split <;> omega) | (simp only [List.getElem?_cons_succ, List.getElem?_cons_zero]; done)) [bx, eg]
    have lt := s_ltup (n := m) (by omega) (holdI (colI rows c) mx) (by omega)
    simp (disch := first | omega | assumption | (simp only [oL_len, oR_len, oT_len, List.length_take, List.length_set, iL_length, rL_len, rT_len, List.length_map, List.length_append, List.length_cons, List.length_nil, rngD_len, List.length_range, drawn_len]; omega) | (split <;> omega) | (simp only [List.getElem?_cons_succ, List.getElem?_cons_zero]; done)) [d_l_group_good, u_l_group_good_0, s_l_group_good_0, u_l_group_good_1, s_l_group_good_1, u_l_group_good_2, s_l_group_good_2, u_l_group_good_3, s_l_group_good_3, u_l_group_good_5, s_l_group_good_5, u_l_group_good_6, s_l_group_good_6, u_l_group_good_8, s_l_group_good_8, u_l_group_good_9, s_l_group_good_9, c_l_group_good_0, c_l_group_good_1, cf2, ch, s_whole, e56, l0, bx, cop_ne, isiV, dTy, isTy, lt]
def I_56a (ns : List Int) (rows : List (List Int)) (w : Nat) (high : Int) (ls : List Int) (j : Nat) (ε : En) : Prop := ∃ (o3 o4 o5 o6 o10 o11 o12 : Option LD), ε = [some (0, .scr ns), some (0, .lst (iL ls)), some (0, tblI rows w high), o3, o4, o5, o6, some (0, .lst (rL rows)), some (0, .int (w : Int)), some (0, .int high), o10, o11, o12] ∧ True
def I_56b (ns : List Int) (rows : List (List Int)) (w : Nat) (high : Int) (ls : List Int) (c : Nat) (j : Nat) (ε : En) : Prop := ∃ (lev : Int) (o4 o5 o10 o11 o12 : Option LD), ε = [some (0, .scr ns), some (0, .lst (iL ls)), some (0, tblI rows w high), some (0, .int (c : Int)), o4, o5, some (0, .int lev), some (0, .lst (rL rows)), some (0, .int (w : Int)), some (0, .int high), o10, o11, o12] ∧ ((lowM (colI rows c) lev).length + j ≤ 12)
def I_56c (ns : List Int) (rows : List (List Int)) (w : Nat) (high : Int) (ls : List Int) (d : D) (ex : List Int) (j : Nat) (ε : En) : Prop := ∃ (o3 o6 o10 o11 o12 : Option LD), ε = [some (0, .scr ns), some (0, .lst (iL ls)), some (0, tblI rows w high), o3, some (0, .lst (iL ex)), some (0, d), o6, some (0, .lst (rL rows)), some (0, .int (w : Int)), some (0, .int high), o10, o11, o12] ∧ True
theorem s_law_k56 {n : Nat} (hn : 12 ≤ n) (ns : List Int) : callI GA FS n (.fn 256 [.scr ns]) = .ok (0, .bl true) := by
  refine fn_wp (q := 11) F_law_k56 rfl hn fun m hm => ?_
  obtain ⟨rows, w, high, ok, run⟩ := s_table (n := m) (by omega) ns
  obtain ⟨ls, lv, rl⟩ := s_levels (n := m) (by omega) ns ok
  have rlen := ok.len
  have w4 := ok.w4
  have w1 := ok.w1
  have lvl := lv.len
  have tmk := s_tmk (n := m) (by omega) ok
  have dd := s_draws (n := m) (by omega) (gI ns 12) 2 1000 (by omega) (by omega) (by omega) (by omega)
  simp only [show (2 : Int).toNat = 2 from rfl] at dd
  have dl : (drawn (gI ns 12) 2 1000).length = 2 := drawn_len
  have dm : ∀ k, k < 2 → 0 ≤ gI (drawn (gI ns 12) 2 1000) k ∧ gI (drawn (gI ns 12) 2 1000) k < 1000 := fun k hk => drawn_mem (c := gI ns 12) (many := 2) (base := 1000) (by omega) _ (gI_mem (by rw [drawn_len]; omega))
  generalize drawn (gI ns 12) 2 1000 = ex at dd dl dm
  have g0 := dm 0 (by omega)
  have g1 := dm 1 (by omega)
  obtain ⟨v1, v2, v3⟩ := bd56_ok (gI ex 0 % 11).toNat (num := gI ex 1) (w := w) (by omega) (by omega) (by omega)
  have cp := fun ε hi => c_copyR (m := m) (ε := ε) (i := 12) (rows := rows) hi (by omega)
  simp (disch := first | omega | assumption | (simp only [oL_len, oR_len, oT_len, List.length_take, List.length_set, iL_length, rL_len, rT_len, List.length_map, List.length_append, List.length_cons, List.length_nil, rngD_len, List.length_range, drawn_len]; omega) | (split <;> omega) | (simp only [List.getElem?_cons_succ, List.getElem?_cons_zero]; done)) [d_law_k56, u_law_k56_0, s_law_k56_0, u_law_k56_1, s_law_k56_1, u_law_k56_2, s_law_k56_2, u_law_k56_3, s_law_k56_3, run, rl, c_law_k56_0, cp, tmk]
  refine wp_rng (I_56a ns rows w high ls) ⟨_, _, _, _, _, _, _, rfl, trivial⟩ (fun c hc ε h => ?_) (fun ε h => ?_)
  · obtain ⟨o3, o4, o5, o6, o10, o11, o12, rfl, _⟩ := h
    refine ⟨by simp, ?_⟩
    have so := fun lev => s_out56 (n := m) (by omega) ok c hc lev
    have sg := fun lev => s_good56 (n := m) (by omega) ok c hc lev
    have fin : ∀ (lev : Int) (o4 o5 o10 o12 : Option LD), Wp (runs GA (callI GA FS m) b_law_k56_12 [some (0, .scr ns), some (0, .lst (iL ls)), some (0, tblI rows w high), some (0, .int (c : Int)), o4, o5, some (0, .int lev), some (0, .lst (rL rows)), some (0, .int (w : Int)), some (0, .int high), o10, some (0, .lst [.str "out", .int (c : Int), .bl true, .bl false]), o12]) ⟨I_56a ns rows w high ls (c + 1), fun ε => Wp (runs GA (callI GA FS m) b_law_k56_14 ε) (Back (.ok (0, .bl true))), I_56a ns rows w high ls (c + 1), (Back (.ok (0, .bl true))).T, (Back (.ok (0, .bl true))).X⟩ := by
      intro lev o4 o5 o10 o12
      simp (disch := first | omega | assumption | (simp only [oL_len, oR_len, oT_len, List.length_take, List.length_set, iL_length, rL_len, rT_len, List.length_map, List.length_append, List.length_cons, List.length_nil, rngD_len, List.length_range, drawn_len]; omega) | (split <;> omega) | (simp only [List.getElem?_cons_succ, List.getElem?_cons_zero]; done)) [u_law_k56_12, s_law_k56_12, so, sg, e56, cop_ne, tblI_lf]
      exact ⟨_, _, _, _, _, _, _, rfl, trivial⟩
    simp (disch := first | omega | assumption | (simp only [oL_len, oR_len, oT_len, List.length_take, List.length_set, iL_length, rL_len, rT_len, List.length_map, List.length_append, List.length_cons, List.length_nil, rngD_len, List.length_range, drawn_len]; omega) | (split <;> omega) | (simp only [List.getElem?_cons_succ, List.getElem?_cons_zero]; done)) [u_law_k56_4, s_law_k56_4, u_law_k56_5, s_law_k56_5]
    have ll : (lowM (colI rows c) (gI ls c)).length ≤ 12 := Nat.le_trans (List.length_filter_le _ _) (by simpa [colI] using rlen)
    refine wp_rng (n := 14) (I_56b ns rows w high ls c) ⟨_, _, _, _, _, _, rfl, by omega⟩ (fun j hj ε h => ?_) (fun ε h => ?_)
    · obtain ⟨lev, o4, o5, o10, o11, o12, rfl, h0⟩ := h
      refine ⟨by simp, ?_⟩
      have so1 := so lev
      have sg1 := sg lev
      unfold seen56 at so1 sg1
      cases e : maxL (lowM (colI rows c) lev) with
      | none =>
        rw [e] at so1 sg1
        simp (disch := first | omega | assumption | (simp only [oL_len, oR_len, oT_len, List.length_take, List.length_set, iL_length, rL_len, rT_len, List.length_map, List.length_append, List.length_cons, List.length_nil, rngD_len, List.length_range, drawn_len]; omega) | (split <;> omega) | (simp only [List.getElem?_cons_succ, List.getElem?_cons_zero]; done)) [u_law_k56_6, s_law_k56_6, u_law_k56_7, s_law_k56_7, u_law_k56_9, s_law_k56_9, u_law_k56_10, s_law_k56_10, so1, sg1, e56, cop_eq, tblI_lf]
        exact fin _ _ _ _ _
      | some mx =>
        have lt := lowM_lt e
        rw [e] at so1 sg1
        simp (disch := first | omega | assumption | (simp only [oL_len, oR_len, oT_len, List.length_take, List.length_set, iL_length, rL_len, rT_len, List.length_map, List.length_append, List.length_cons, List.length_nil, rngD_len, List.length_range, drawn_len]; omega) | (split <;> omega) | (simp only [List.getElem?_cons_succ, List.getElem?_cons_zero]; done)) [u_law_k56_6, s_law_k56_6, u_law_k56_7, s_law_k56_7, u_law_k56_9, s_law_k56_9, u_law_k56_11, s_law_k56_11, so1, sg1, e56, cop_eq, tblI_lf]
        exact ⟨_, _, _, _, _, _, rfl, by omega⟩
    · obtain ⟨lev, o4, o5, o10, o11, o12, rfl, h0⟩ := h
      omega
  · obtain ⟨o3, o4, o5, o6, o10, o11, o12, rfl, _⟩ := h
    have sb := s_bad56 (n := m) (by omega) (gI ex 0) (gI ex 1) (w : Int) g0.1
    simp (disch := first | omega | assumption | (simp only [oL_len, oR_len, oT_len, List.length_take, List.length_set, iL_length, rL_len, rT_len, List.length_map, List.length_append, List.length_cons, List.length_nil, rngD_len, List.length_range, drawn_len]; omega) | (split <;> omega) | (simp only [List.getElem?_cons_succ, List.getElem?_cons_zero]; done)) [u_law_k56_14, s_law_k56_14, u_law_k56_15, s_law_k56_15, u_law_k56_16, s_law_k56_16, s_read, dd, sb]
    generalize bd56 (gI ex 0 % 11).toNat (gI ex 1) (w : Int) = d at v1 v2 v3
    have sd := fun lev => s_out56D (n := m) (rows := rows) (high := high) (by omega) v1 v2 lev
    refine wp_map (g := D.int) (xs := [high + 1, 0]) (I_56c ns rows w high ls d ex) ⟨_, _, _, _, _, rfl, trivial⟩ (fun i hi ε h => ?_) (fun ε h => ?_)
    · obtain ⟨o3, o6, o10, o11, o12, rfl, _⟩ := h
      refine ⟨by simp, ?_⟩
      have il := fun l (hl : l ≤ 4) => isi_bl hl v1
      simp (disch := first | omega | assumption | (simp only [oL_len, oR_len, oT_len, List.length_take, List.length_set, iL_length, rL_len, rT_len, List.length_map, List.length_append, List.length_cons, List.length_nil, rngD_len, List.length_range, drawn_len]; omega) | (split <;> omega) | (simp only [List.getElem?_cons_succ, List.getElem?_cons_zero]; done)) [u_law_k56_17, s_law_k56_17, u_law_k56_18, s_law_k56_18, u_law_k56_20, s_law_k56_20, sd, e56, cop_ne, il, eqD_bb, eqD_self v3, tblI_lf]
      exact ⟨_, _, _, _, _, rfl, trivial⟩
    · obtain ⟨o3, o6, o10, o11, o12, rfl, _⟩ := h
      simp (disch := first | omega | assumption | (simp only [oL_len, oR_len, oT_len, List.length_take, List.length_set, iL_length, rL_len, rT_len, List.length_map, List.length_append, List.length_cons, List.length_nil, rngD_len, List.length_range, drawn_len]; omega) | (split <;> omega) | (simp only [List.getElem?_cons_succ, List.getElem?_cons_zero]; done)) [u_law_k56_22, s_law_k56_22]
end


end
theorem law_eq (ns : List Int) : callI GA FS 40 (.fn 256 [.scr ns]) = .ok (0, .bl true) := s_law_k56 (by omega) ns
end RS
open PySem PySem.W PySem.Calls PyProof.Rows
theorem PySem.Challenge.cw_risingscores_k56_next_groups_holds : PySem.Challenge.rw_risingscores_k56_next_groups.Holds := by
  w_on; o_law
  refine HandSHeadRun.head_any (r := OpenLaw.row PySem.Challenge.rw_risingscores_k56_next_groups) (q := view (OpenLaw.row PySem.Challenge.rw_risingscores_k56_next_groups).prog [30]) (H := RS.hkO) (ob := RS.hob) (M := 100000) (loose := RS.loose) (d := HandSHeadRun.topDef (OpenLaw.row PySem.Challenge.rw_risingscores_k56_next_groups).prog 30) (kwd := []) RS.hob_eq
    (by kernel_rfl) (fun s => by kernel_rfl) RS.hrun (by kernel_rfl) (by kernel_rfl) (by kernel_rfl) (by rfl) (by first | assumption | decide +kernel) (by decide +kernel) ⟨rfl, rfl, rfl, rfl, rfl, by decide +kernel⟩ ?hw ?hc
  case hw => w_witness2
  case hc =>
    refine L2.walk_ofE (l := PySem.Challenge.rw_risingscores_k56_next_groups) (n := 63) (k := 40) (x := "_law_script") (CX := L2.CX0) rfl (by decide) (by kernel_rfl) ⟨rfl, by decide, by decide⟩ ?F (fun _ _ _ _ z => z)
    intro w mg fa h Y G hmg0
    obtain ⟨K, KX, c⟩ := Y
    have hmg : mg ("law" : PySem.Str) = some (.ref fa) := by
      have e : (HandSHeadRun.topDef (OpenLaw.row PySem.Challenge.rw_risingscores_k56_next_groups).prog 30).name = ("law" : PySem.Str) := by kernel_rfl
      rw [← e]
      exact hmg0
    obtain ⟨c1, c2, c3⟩ := RS.T.says_ok c
    have Fc := RS.T.facts KX G c1 RS.tab_chk c2 RS.bd_all RS.sh_all RS.fk_all RS.st_all c3 RS.xb_all RS.xi_chk RS.xd_chk ⟨by rfl, by rfl, by rfl⟩ (by rfl) (by rfl)
    obtain ⟨t, d, K1, h1, h2, hb⟩ := Fc.glo 256 "law" (by rfl)
    have et : t = RS.t_law_k56 := Option.some.inj (K1.ht.symm.trans (by rfl))
    subst et
    obtain ⟨fd, S⟩ := K1.at_
    have e := hmg.symm.trans h1
    cases e
    have b := RS.FunB.bindsA (ps := ["_law_script"]) (RS.Stands.fb S) fun _ _ _ _ _ _ us hl => match us, hl with | [_], _ => rfl
    have PO : RS.ProgOk _ RS.T.Ts := RS.T.prg_ok (P := (OpenLaw.row PySem.Challenge.rw_risingscores_k56_next_groups).prog) (by kernel_rfl)
    refine ⟨K, fd, fun vs H Q _ => RS.spF (RS.T.kc K) (RS.callI RS.GA RS.FS 40) (.fn 256) vs H Q (fun _ _ _ => False), KX, fun s v => b s [v] rfl, fun H a ns hl _ hS => RS.law_sp (k := RS.T.kc K) rfl hS (RS.law_eq ns), fun base KI GI => ?_⟩
    exact RS.fn_calm ((RS.all_ok Fc PO 40).1.1 256 RS.t_law_k56 d fd K1 S)
