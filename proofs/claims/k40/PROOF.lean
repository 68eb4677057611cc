import PyProof.Rows.All
import Wide.All
import OpenK.AllK
import Wide.FinOn
import HandS.ForMost
import HandS.Defaults
import HandS.Exc
import HandS.ExcOwn
import HandS.ExcInit
import HandS.IsInst
import HandS.Gcd
import HandS.Zip
import HandS.Rev
import HandS.SortInts
import HandS.TupAny
import HandS.TupMul
import HandS.Wide
import HandS.WideBits
import HandS.Star
import HandS.ClsMeth
import HandS.AnyAll
import HandS.EndTab
import HandS.OwnEq
import HandS.CallSlots
import HandS.TupLe
import HandS.Deep
import HandS.SlotsOwn
import HandS.ExcField
import HandS.Conv
import HandS.RevRange
import HandS.GenBody
import PyProof.GenQ
import HandS.GenList
import PyProof.ConsumeS
import PyProof.TupleOfGen
import PyProof.WalkInts
import KE.KStateDown
import HandS.Head0
import HandS.Head1
import HandS.Head2
import HandS.HeadEnd
import HandS.HeadHook1
import HandS.HeadHook2
import HandS.HeadHook3
import HandS.HeadHook4
import HandS.HeadWalk
import HandS.Head3
import PySem.Challenge.RW_fourread_k40_whole_two_tables_by_product
set_option linter.all false
set_option Elab.async false
set_option maxRecDepth 100000
/-! A small language of data, and what its texts compute: values without a heap, lists that change in a store. -/
namespace Ev
open PySem PySem.Spec PyProof.Rows L2

inductive D where
  | non | bl (b : Bool) | int (i : Int) | str (x : Str)
  | tup (xs : List D) | lst (xs : List D)
  | obj (c : Nat) (fs : List Nat) (vs : List D)
  | ref (n : Nat) | fn (f : Nat) | scr (ns : List Int) | cls (c : Nat)
abbrev Sto := List D
abbrev Env := List (Option D)
def lim : Nat := 100000
theorem lim_line : lim < sizeLine := by unfold lim; rw [sizeLine_eq]; decide

inductive R (α : Type) where
  | ok (a : α) (S : Sto)
  | err (c : Nat) (fs : List Nat) (vs : List D) (S : Sto)
  | bad
@[reducible] def bnd {α β : Type} (r : R α) (k : α → Sto → R β) : R β := match r with
  | .ok a S => k a S
  | .err c fs vs S => .err c fs vs S
  | .bad => .bad

inductive Bop | add | sub | mul | fdiv | mod | shl | shr | band | bxor | bor | pow
inductive Cop | eq | ne | lt | le | gt | ge | inn | nin
inductive Ty | int | bool | str | tuple | list | cls (c : Nat)
inductive Bi | len | abs | int | tuple | list | gcd | max2 | min2 | sum | all | any | max | min | sorted
inductive Tg | nm (i : Nat) | tp (is : List Nat)

mutual
inductive E where
  | loc (i : Nat) | int (i : Int) | bl (b : Bool) | non | str (x : Str) | kint (x : Str) (i : Int) | fnv (f : Nat)
  | bin (o : Bop) (a b : E) | neg (a : E)
  | cmp (o : Cop) (a b : E) | chn (o o' : Cop) (a b c : E)
  | isn (a : E) | nisn (a : E) | isb (a : E) (b : Bool)
  | and (a b : E) | or (a b : E) | not (a : E) | ife (c a b : E)
  | tup (es : Es) | frz (a : A)
  | sub (a i : E) | slc (a : E) (lo hi : O)
  | fld (a : E) (f : Nat)
  | call (f : Nat) (es : Es) | mk (c : Nat) (es : Es) | mkl (i : Nat) (c : Nat) (es : Es) | mth (m : Nat) (o : E) (es : Es) | cmt (c m : Nat) (es : Es)
  | bi (b : Bi) (es : Es) | maxd (a : E) (d : Int)
  | ist (a : E) (ts : List Ty)
  | gen (g : Bi) (t : Tg) (it : I) (c : O) (e : E)
  | app (a e : E) | pop (a : E) | popi (a i : E)
inductive Es where
  | nil | cons (e : E) (r : Es)
inductive O where
  | none | some (e : E)
inductive A where
  | disp (es : Es) | comp (t : Tg) (it : I) (c : O) (e : E) | ofs (e : E) | rgl (a : E) | lrv (e : E) | srt (e : E) | cat (a b : E) | rep (a k : E) | slc (a : E) (lo hi : O)
inductive I where
  | val (e : E) | rng1 (a : E) | rng2 (a b : E) | zip (a b : E) | enu (a : E) | rev (a : E) | revr (a : E)
end
mutual
inductive St where
  | set (i : Nat) (e : E) | new (i : Nat) (a : A) | setc (i : Nat) (t : Tg) (it : I) (c : O) (e : E) | newc (i : Nat) (t : Tg) (it : I) (c : O) (e : E) | raw (i : Nat) (f : Nat) (es : Es)
  | sets (o i e : E) | setf (o : E) (f : Nat) (e : E)
  | tpl (is : List Nat) (e : E) | par (i j : Nat) (a b : E)
  | aug (i : Nat) (o : Bop) (e : E)
  | exp (e : E) | ret (e : E) | retn
  | ifs (c : E) (a b : Ss) | whl (n : Nat) (c : E) (b : Ss) | for (t : Tg) (it : I) (b : Ss)
  | brk | cnt | pss | shut (i : Nat)
  | rais (c : Nat) (es : Es) | tryx (b : Ss) (c : Nat) (i : Nat) (h : Ss)
inductive Ss where
  | nil | cons (s : St) (r : Ss)
end

/-! ### values -/
mutual
def D.pyd : D → PyData
  | .bl b => .bool b
  | .int i => .int i
  | .str x => .str x
  | .tup xs => .tuple (D.pyds xs)
  | .lst xs => .list (D.pyds xs)
  | _ => .none
def D.pyds : List D → List PyData
  | [] => []
  | x :: r => D.pyd x :: D.pyds r
end
def D.flat : D → Bool
  | .non => true
  | .bl _ => true
  | .int _ => true
  | .str _ => true
  | _ => false
/-! equal data; answers for data alone -/
mutual
def D.eqv : D → D → Bool
  | .non, .non => true
  | .bl a, .bl b => a == b
  | .int a, .int b => a == b
  | .bl a, .int b => (if a then 1 else 0) == b
  | .int a, .bl b => a == (if b then 1 else 0)
  | .str a, .str b => a == b
  | .tup xs, .tup ys => D.eqvs xs ys
  | .lst xs, .lst ys => D.eqvs xs ys
  | _, _ => false
def D.eqvs : List D → List D → Bool
  | [], [] => true
  | x :: r, y :: t => D.eqv x y && D.eqvs r t
  | _, _ => false
end
/-! data of small depth (d: the depth that is left) -/
mutual
def D.dat : Nat → D → Bool
  | _, .non => true
  | _, .bl _ => true
  | _, .int _ => true
  | _, .str x => PySem.PyData.strOk x
  | 0, .tup _ => false
  | 0, .lst _ => false
  | d + 1, .tup xs => D.dats d xs
  | d + 1, .lst xs => D.dats d xs
  | _, .obj _ _ _ => false
  | _, .ref _ => false
  | _, .fn _ => false
  | _, .scr _ => false
  | _, .cls _ => false
def D.dats : Nat → List D → Bool
  | _, [] => true
  | d, x :: r => D.dat d x && D.dats d r
end
mutual
def D.beq : D → D → Bool
  | .non, .non => true
  | .bl a, .bl b => a == b
  | .int a, .int b => a == b
  | .str a, .str b => a == b
  | .tup xs, .tup ys => D.beqs xs ys
  | .lst xs, .lst ys => D.beqs xs ys
  | .obj c fs vs, .obj d gs ws => c == d && (fs == gs && D.beqs vs ws)
  | .ref a, .ref b => a == b
  | .fn a, .fn b => a == b
  | .scr a, .scr b => a == b
  | .cls a, .cls b => a == b
  | _, _ => false
def D.beqs : List D → List D → Bool
  | [], [] => true
  | x :: r, y :: t => D.beq x y && D.beqs r t
  | _, _ => false
end
mutual
theorem D.beq_eq : ∀ (a b : D), D.beq a b = true → a = b
  | .non, b, h => by cases b <;> simp_all [D.beq]
  | .bl _, b, h => by cases b <;> simp_all [D.beq]
  | .int _, b, h => by cases b <;> simp_all [D.beq]
  | .str _, b, h => by cases b <;> simp_all [D.beq]
  | .tup xs, b, h => by
    cases b <;> simp only [D.beq, Bool.false_eq_true] at h
    rw [D.beqs_eq _ _ h]
  | .lst xs, b, h => by
    cases b <;> simp only [D.beq, Bool.false_eq_true] at h
    rw [D.beqs_eq _ _ h]
  | .obj c fs vs, b, h => by
    cases b <;> simp only [D.beq, Bool.false_eq_true, Bool.and_eq_true, beq_iff_eq] at h
    obtain ⟨h1, h2, h3⟩ := h
    rw [h1, h2, D.beqs_eq _ _ h3]
  | .ref _, b, h => by cases b <;> simp_all [D.beq]
  | .fn _, b, h => by cases b <;> simp_all [D.beq]
  | .scr _, b, h => by cases b <;> simp_all [D.beq]
  | .cls _, b, h => by cases b <;> simp_all [D.beq]
theorem D.beqs_eq : ∀ (a b : List D), D.beqs a b = true → a = b
  | [], b, h => by cases b <;> simp_all [D.beqs]
  | x :: r, b, h => by
    cases b with
    | nil => simp [D.beqs] at h
    | cons y t =>
      simp only [D.beqs, Bool.and_eq_true] at h
      rw [D.beq_eq _ _ h.1, D.beqs_eq _ _ h.2]
end
mutual
theorem D.beq_refl : ∀ (a : D), D.beq a a = true
  | .non => rfl
  | .bl _ => by simp [D.beq]
  | .int _ => by simp [D.beq]
  | .str _ => by simp [D.beq]
  | .tup xs => by rw [D.beq]; exact D.beqs_refl xs
  | .lst xs => by rw [D.beq]; exact D.beqs_refl xs
  | .obj c fs vs => by rw [D.beq]; simp [D.beqs_refl vs]
  | .ref _ => by simp [D.beq]
  | .fn _ => by simp [D.beq]
  | .scr _ => by simp [D.beq]
  | .cls _ => by simp [D.beq]
theorem D.beqs_refl : ∀ (a : List D), D.beqs a a = true
  | [] => rfl
  | x :: r => by rw [D.beqs, D.beq_refl x, D.beqs_refl r]; rfl
end

/-- what a cell holds, else the value itself -/
def dr (S : Sto) (d : D) : D := match d with
  | .ref n => (match S[n]? with
    | some c => c
    | none => .ref n)
  | d => d
/-! no cell within -/
mutual
def D.pure : D → Bool
  | .tup xs => D.pures xs
  | .lst xs => D.pures xs
  | .obj _ _ vs => D.pures vs
  | .ref _ => false
  | _ => true
def D.pures : List D → Bool
  | [] => true
  | x :: r => D.pure x && D.pures r
end
/-! every cell within has a number below n -/
mutual
def D.blw (n : Nat) : D → Bool
  | .tup xs => D.blws n xs
  | .lst xs => D.blws n xs
  | .obj _ _ vs => D.blws n vs
  | .ref m => decide (m < n)
  | _ => true
def D.blws (n : Nat) : List D → Bool
  | [] => true
  | x :: r => D.blw n x && D.blws n r
end
def allM (f : D → Option D) : List D → Option (List D)
  | [] => some []
  | x :: r => match f x, allM f r with
    | some a, some b => some (a :: b)
    | _, _ => none
/-- cells of number n and more become what they hold (to some depth) -/
def frz (n : Nat) (S : Sto) : Nat → D → Option D
  | 0, _ => none
  | k + 1, d => match d with
    | .tup xs => (allM (frz n S k) xs).map .tup
    | .lst xs => (allM (frz n S k) xs).map .lst
    | .obj c fs vs => (allM (frz n S k) vs).map (.obj c fs)
    | .ref m => if m < n then some (.ref m) else (match S[m]? with
      | some d => frz n S k d
      | none => none)
    | d => some d
def fz (n : Nat) (S : Sto) (d : D) : Option D := if d.pure = true then some d else frz n S 8 d
end Ev


set_option maxHeartbeats 200000
set_option Elab.async false
set_option maxRecDepth 100000
/-! What the texts compute. -/
namespace Ev
open PySem PySem.Spec PyProof.Rows L2

/-- a def: its number of parameters, of slots, its body -/
structure Fn where
  np : Nat
  nl : Nat
  body : Ss
/-- a program: defs by number; a class's method, its __init__; classes whose instances stay as made; the field that an instance's iteration walks -/
structure Tb where
  fns : Nat → Option Fn
  mth : Nat → Nat → Option Nat
  cms : Nat → Nat → Option Nat
  ini : Nat → Option Nat
  imm : Nat → Bool
  cok : Nat → Bool
  exc : Nat → Option Nat
  fld : Nat → Nat → Bool
/-! names that the language itself uses -/
abbrev nEq : Nat := 1
abbrev nAdd : Nat := 2
abbrev nSub : Nat := 3
abbrev nMul : Nat := 4
abbrev nLen : Nat := 5
abbrev nIn : Nat := 6

def isTy (d : D) : Ty → Bool
  | .int => (match d with | .int _ => true | .bl _ => true | _ => false)
  | .bool => (match d with | .bl _ => true | _ => false)
  | .str => (match d with | .str _ => true | _ => false)
  | .tuple => (match d with | .tup _ => true | _ => false)
  | .list => (match d with | .lst _ => true | .scr _ => true | _ => false)
  | .cls c => (match d with | .obj k _ _ => k == c | _ => false)
def isTys (cok : Nat → Bool) (d : D) (ts : List Ty) : Option Bool := match d with
  | .obj c fs vs => if cok c = true then some (ts.any (isTy (.obj c fs vs))) else none
  | .ref _ => none
  | .fn _ => none
  | .cls _ => none
  | d => some (ts.any (isTy d))

/-- whole numbers -/
def iop (o : Bop) (i j : Int) : Option Int := match o with
  | .add => some (i + j)
  | .sub => some (i - j)
  | .mul => if i.natAbs < 2 ^ 20000 ∧ j.natAbs < 2 ^ 20000 then some (i * j) else none
  | .fdiv => if 0 < j ∧ j.natAbs < 2 ^ 8000 then some (i / j) else none
  | .mod => if 0 < j then some (i % j) else none
  | .shl => if 0 ≤ j ∧ j ≤ 1000000 ∧ i.natAbs < 2 ^ 64 then some (i * 2 ^ j.toNat) else none
  | .shr => if 0 ≤ j then some (i / 2 ^ j.toNat) else none
  | .band => some (Builtin.bitAnd i j)
  | .bxor => some (Builtin.bitXor i j)
  | .bor => some (Builtin.bitOr i j)
  | .pow => if 0 ≤ j ∧ j ≤ 1000000 ∧ i.natAbs < 2 ^ 64 then some (i ^ j.toNat) else none
def dun : Bop → Option Nat
  | .add => some nAdd
  | .sub => some nSub
  | .mul => some nMul
  | _ => none
def rpt (xs : List D) (k : Int) : List D := (List.replicate k.toNat xs).flatten
/-- operators by values, but for own ones -/
def vop (o : Bop) (x y : D) : Option D := match x, y with
  | .int i, .int j => (iop o i j).map .int
  | .tup xs, .tup ys => (match o with
    | .add => if xs.length + ys.length ≤ lim then some (.tup (xs ++ ys)) else none
    | _ => none)
  | .lst xs, .lst ys => (match o with
    | .add => if xs.length + ys.length ≤ lim then some (.lst (xs ++ ys)) else none
    | _ => none)
  | .tup xs, .int k => (match o with
    | .mul => if xs.length = 1 ∧ 2 ≤ k ∧ k ≤ 1000 then some (.tup (rpt xs k)) else none
    | _ => none)
  | .lst xs, .int k => (match o with
    | .mul => if 0 ≤ k ∧ k ≤ 1000 ∧ xs.length ≤ 100 then some (.lst (rpt xs k)) else none
    | _ => none)
  | _, _ => none
def dInts : List D → Option (List Int)
  | [] => some []
  | .int i :: r => (dInts r).map (i :: ·)
  | _ => none
def icmp (o : Cop) (i j : Int) : Bool := match o with
  | .eq => decide (i = j)
  | .ne => !decide (i = j)
  | .lt => decide (i < j)
  | .le => decide (i ≤ j)
  | .gt => decide (j < i)
  | .ge => decide (j ≤ i)
  | _ => false
def items? : D → Option (List D)
  | .tup xs => some xs
  | .lst xs => some xs
  | .scr ns => some (ns.map .int)
  | _ => none
def inAny (x : D) (ys : List D) : Bool := ys.any fun y => D.eqv y x
def inV (x y : D) : Option Bool := match y with
  | .lst ys => if D.dat 8 x = true ∧ D.dats 8 ys = true then some (inAny x ys) else none
  | .tup ys => if x.flat = true ∧ ys.all D.flat = true then some (inAny x ys) else none
  | _ => none
/-- comparisons by values, but for own ones -/
def vcmp (o : Cop) (x y : D) : Option Bool := match o with
  | .eq => if D.dat 8 x = true ∧ D.dat 8 y = true then some (D.eqv x y) else none
  | .ne => if D.dat 8 x = true ∧ D.dat 8 y = true then some (!D.eqv x y) else none
  | .inn => inV x y
  | .nin => (inV x y).map (!·)
  | o => (match x, y with
    | .int i, .int j => some (icmp o i j)
    | .tup xs, .tup ys => (match o with
      | .lt => (match dInts xs, dInts ys with
        | some ns, some ms => some (HT.lexLt ns ms)
        | _, _ => none)
      | _ => none)
    | _, _ => none)
def cut (xs : List D) (lo hi : Option Int) : List D := (xs.drop (HT.sIx xs.length 0 lo)).take (HT.sIx xs.length xs.length hi - HT.sIx xs.length 0 lo)
def dBls : List D → Option (List Bool)
  | [] => some []
  | .bl i :: r => (dBls r).map (i :: ·)
  | _ => none
/-- ascending -/
def insI (x : Int) : List Int → List Int
  | [] => [x]
  | y :: r => if x ≤ y then x :: y :: r else y :: insI x r
def srtI (xs : List Int) : List Int := xs.foldr insI []
def maxI : List Int → Int
  | [] => 0
  | x :: r => r.foldl (fun a b => if b > a then b else a) x
def minI : List Int → Int
  | [] => 0
  | x :: r => r.foldl (fun a b => if b < a then b else a) x
/-- sums stay within 64 bits (the built-in's own road) -/
def fitI (xs : List Int) : Bool := xs.length ≤ lim && xs.all fun i => decide (i.natAbs < 2 ^ 40)
/-- a built-in over the items -/
def vagg (b : Bi) (xs : List D) : Option D := match b with
  | .sum => (match dInts xs with
    | some ns => some (.int ns.sum)
    | none => none)
  | .max => (match dInts xs with
    | some ns => if ns ≠ [] then some (.int (maxI ns)) else none
    | none => none)
  | .min => (match dInts xs with
    | some ns => if ns ≠ [] then some (.int (minI ns)) else none
    | none => none)
  | .all => (match dBls xs with
    | some bs => some (.bl (bs.all id))
    | none => none)
  | .any => (match dBls xs with
    | some bs => some (.bl (bs.any id))
    | none => none)
  | .tuple => some (.tup xs)
  | .list => some (.lst xs)
  | _ => none
/-- a built-in by its arguments' values, but for own ones -/
def vbi (b : Bi) (ds : List D) : Option D := match b, ds with
  | .len, [d] => (items? d).map fun xs => .int xs.length
  | .abs, [.int i] => some (.int (if i < 0 then -i else i))
  | .int, [.int i] => some (.int i)
  | .int, [.bl k] => some (.int (if k then 1 else 0))
  | .gcd, [.int i, .int j] => some (.int ((Nat.gcd i.natAbs j.natAbs : Nat) : Int))
  | .max2, [.int i, .int j] => some (.int (if j > i then j else i))
  | .min2, [.int i, .int j] => some (.int (if j < i then j else i))
  | .tuple, [.tup xs] => some (.tup xs)
  | .tuple, [.lst xs] => some (.tup xs)
  | .sum, [.lst xs] => vagg .sum xs
  | .all, [.lst xs] => vagg .all xs
  | .any, [.lst xs] => vagg .any xs
  | .max, [.lst xs] => vagg .max xs
  | .min, [.lst xs] => vagg .min xs
  | _, _ => none

def setAll : List Nat → List D → Env → Env
  | i :: is, d :: ds, env => setAll is ds (env.set i (some d))
  | _, _, env => env
def setT (t : Tg) (d : D) (env : Env) : Option Env := match t with
  | .nm i => some (env.set i (some d))
  | .tp is => (match d with
    | .tup ds => if ds.length = is.length then some (setAll is ds env) else none
    | _ => none)
def ofO {α : Type} (o : Option α) (S : Sto) : R α := match o with
  | some a => .ok a S
  | none => .bad
/-- the walked list stands as it stood -/
def still (ck : Option Nat) (all : List D) (S : Sto) : Bool := match ck with
  | none => true
  | some n => (match S[n]? with
    | some (.lst ys) => D.beqs ys all
    | _ => false)
abbrev EF := Env → Sto → R D
abbrev CF := Env → Sto → R Bool
/-- no error is told from here -/
@[reducible] def ne {α : Type} (r : R α) : R α := match r with
  | .err _ _ _ _ => .bad
  | r => r
/-- a list comprehension: the new list is the cell n -/
def compL (ck : Option Nat) (all : List D) (f : EF) (c : CF) (t : Tg) (n : Nat) (env : Env) : List D → Sto → R Unit
  | [], S => .ok () S
  | x :: r, S => (match setT t x env with
    | none => .bad
    | some env' => bnd (ne (c env' S)) fun b S1 => match b with
      | true => bnd (ne (f env' S1)) fun y S2 => (match S2[n]? with
        | some (.lst acc) => if acc.length < lim ∧ still ck all (S2.set n (.lst (acc ++ [y]))) = true then compL ck all f c t n env r (S2.set n (.lst (acc ++ [y]))) else .bad
        | _ => .bad)
      | false => if still ck all S1 = true then compL ck all f c t n env r S1 else .bad)
/-- a generator expression's consumer: fin behind the last item, stp at each (.inr: no more is asked for) -/
def genF {α : Type} (fin : α → Option D) (stp : α → D → Option (Sum α D)) (ck : Option Nat) (all : List D) (f : EF) (c : CF) (t : Tg) (env : Env) : List D → α → Sto → R D
  | [], a, S => (match fin a with
    | some d => .ok d S
    | none => .bad)
  | x :: r, a, S => (match setT t x env with
    | none => .bad
    | some env' => bnd (ne (c env' S)) fun b S1 => match b with
      | true => bnd (ne (f env' S1)) fun y S2 => (match stp a y with
        | none => .bad
        | some (.inr d) => .ok d S2
        | some (.inl a') => if still ck all S2 = true then genF fin stp ck all f c t env r a' S2 else .bad)
      | false => if still ck all S1 = true then genF fin stp ck all f c t env r a S1 else .bad)
def in64 (i : Int) : Bool := decide (-(2 ^ 63) ≤ i ∧ i < 2 ^ 63)
def stpB (stop : Bool) : Unit → D → Option (Sum Unit D) := fun _ y => match y with
  | .bl v => if v = stop then some (.inr (.bl stop)) else some (.inl ())
  | _ => none
def stpS : Int → D → Option (Sum Int D) := fun a y => match y with
  | .int j => if in64 j = true ∧ in64 (a + j) = true then some (.inl (a + j)) else none
  | _ => none
def stpT : List D → D → Option (Sum (List D) D) := fun a y => if a.length < lim then some (.inl (a ++ [y])) else none
def mxI (acc : Option Int) (j : Int) : Int := match acc with
  | none => j
  | some b => if j > b then j else b
def stpM : Option Int → D → Option (Sum (Option Int) D) := fun a y => match y with
  | .int j => some (.inl (some (mxI a j)))
  | _ => none
def genV (b : Bi) (ck : Option Nat) (all : List D) (f : EF) (c : CF) (t : Tg) (env : Env) (S : Sto) : R D := match b with
  | .all => genF (fun _ => some (.bl true)) (stpB false) ck all f c t env all () S
  | .any => genF (fun _ => some (.bl false)) (stpB true) ck all f c t env all () S
  | .sum => genF (fun a => some (.int a)) stpS ck all f c t env all 0 S
  | .tuple => genF (fun a => some (.tup a)) stpT ck all f c t env all [] S
  | .max => genF (fun a => a.map .int) stpM ck all f c t env all none S
  | _ => .bad
def rng (lo : Int) (n : Nat) : List D := (List.range n).map fun (k : Nat) => D.int (lo + (k : Int))
def enuL : Nat → List D → List D
  | _, [] => []
  | k, x :: r => .tup [.int k, x] :: enuL (k + 1) r
def zipL : List D → List D → List D
  | x :: r, y :: t => .tup [x, y] :: zipL r t
  | _, _ => []
def small (i : Int) : Bool := decide (-1000000 ≤ i ∧ i ≤ 1000000)
/-- the walked thing's items; the cell, if it is one -/
def itsOf (S : Sto) (d : D) : Option (List D × Option Nat) := match d with
  | .tup xs => some (xs, none)
  | .lst xs => some (xs, none)
  | .scr ns => some (ns.map .int, none)
  | .ref n => (match S[n]? with
    | some (.lst xs) => some (xs, some n)
    | _ => none)
  | _ => none
/-- an allocating form's cell is closed again: nothing but it is new -/
def closed (n : Nat) (S : Sto) : R D := match S.drop n with
  | [.lst ds] => if D.blws n S = true then .ok (.lst ds) (S.take n) else .bad
  | _ => .bad

def oB (n : Nat) : Option D → Bool
  | some d => d.blw n
  | none => true
/-- but for the slot i, the frame's cells have numbers below n -/
def envB (n : Nat) : Nat → Env → Bool
  | _, [] => true
  | 0, _ :: r => r.all (oB n)
  | i + 1, o :: r => oB n o && envB n i r
section
variable (T : Tb) (cf : Nat → List D → Sto → R D) (b₀ : Nat)
def bop2 (o : Bop) (x y : D) (S : Sto) : R D := match dr S x, dr S y with
  | .obj c _ _, .obj c' _ _ => (match dun o with
    | some m => (match T.mth c m with
      | some f => if c = c' then ne (cf f [x, y] S) else .bad
      | none => .bad)
    | none => .bad)
  | x', y' => ofO (vop o x' y') S
def notD (r : R D) : R D := bnd r fun v S => (match v with
  | .bl b => .ok (.bl (!b)) S
  | _ => .bad)
def cmp2 (o : Cop) (x y : D) (S : Sto) : R D := match dr S x, dr S y with
  | .obj c _ _, .obj c' _ _ => (match T.mth c nEq, o with
    | some f, .eq => if c = c' then ne (cf f [x, y] S) else .bad
    | some f, .ne => if c = c' then notD (ne (cf f [x, y] S)) else .bad
    | _, _ => .bad)
  | x', y' => ofO ((vcmp o x' y').map .bl) S
def bi2 (b : Bi) (ds : List D) (S : Sto) : R D := ofO (vbi b (ds.map (dr S))) S
/-- a new instance, made by its __init__ -/
def make (c : Nat) (ds : List D) (S : Sto) : R D := match T.ini c, T.imm c with
  | some f, true => if D.pures ds = true then (match cf f (.ref 0 :: ds) [.obj c [] []] with
    | .ok .non [d] => if d.pure = true then .ok d S else .bad
    | .err e fs vs _ => if D.pures vs = true then .err e fs vs S else .bad
    | _ => .bad) else .bad
  | _, _ => .bad
def isT (v : D) (S : Sto) (k : Sto → R D) (l : Sto → R D) : R D := match v with
  | .bl true => k S
  | .bl false => l S
  | _ => .bad
def lookF (f : Nat) : List Nat → List D → Option D
  | g :: gs, v :: vs => if g = f then some v else lookF f gs vs
  | _, _ => none
def putF (f : Nat) (d : D) : List Nat → List D → List Nat × List D
  | g :: gs, v :: vs => if g = f then (g :: gs, d :: vs) else let r := putF f d gs vs; (g :: r.1, v :: r.2)
  | _, _ => ([f], [d])
def isNon : D → Bool
  | .non => true
  | _ => false
mutual
def evE : E → Env → Sto → R D
  | .loc i => fun env S => (match env[i]? with
    | some (some d) => .ok d S
    | _ => .bad)
  | .int i => fun _ S => .ok (.int i) S
  | .bl b => fun _ S => .ok (.bl b) S
  | .non => fun _ S => .ok .non S
  | .str x => fun _ S => .ok (.str x) S
  | .kint _ i => fun _ S => .ok (.int i) S
  | .fnv f => fun _ S => .ok (.fn f) S
  | .bin o a b => fun env S => bnd (evE a env S) fun x S1 => bnd (evE b env S1) fun y S2 => bop2 T cf o x y S2
  | .neg a => fun env S => bnd (evE a env S) fun x S1 => (match x with
    | .int i => .ok (.int (-i)) S1
    | _ => .bad)
  | .cmp o a b => fun env S => bnd (evE a env S) fun x S1 => bnd (evE b env S1) fun y S2 => cmp2 T cf o x y S2
  | .chn o o' a b c => fun env S => bnd (evE a env S) fun x S1 => bnd (evE b env S1) fun y S2 => bnd (ofO (vcmp o (dr S2 x) (dr S2 y)) S2) fun v S3 => (match v with
    | true => bnd (evE c env S3) fun z S4 => ofO ((vcmp o' (dr S4 y) (dr S4 z)).map .bl) S4
    | false => .ok (.bl false) S3)
  | .isn a => fun env S => bnd (evE a env S) fun x S1 => .ok (.bl (isNon x)) S1
  | .nisn a => fun env S => bnd (evE a env S) fun x S1 => .ok (.bl (!isNon x)) S1
  | .isb a b => fun env S => bnd (evE a env S) fun x S1 => (match x with
    | .bl v => .ok (.bl (decide (v = b))) S1
    | _ => .bad)
  | .and a b => fun env S => bnd (evE a env S) fun x S1 => isT x S1 (fun S2 => evE b env S2) (fun S2 => .ok (.bl false) S2)
  | .or a b => fun env S => bnd (evE a env S) fun x S1 => isT x S1 (fun S2 => .ok (.bl true) S2) (fun S2 => evE b env S2)
  | .not a => fun env S => bnd (evE a env S) fun x S1 => (match x with
    | .bl v => .ok (.bl (!v)) S1
    | _ => .bad)
  | .ife c a b => fun env S => bnd (evE c env S) fun x S1 => isT x S1 (fun S2 => evE a env S2) (fun S2 => evE b env S2)
  | .tup es => fun env S => bnd (evEs es env S) fun ds S1 => .ok (.tup ds) S1
  | .frz a => fun env S => bnd (evA a env S) fun n S1 => if n = S.length then closed n S1 else .bad
  | .sub a i => fun env S => bnd (evE a env S) fun x S1 => bnd (evE i env S1) fun y S2 => (match items? (dr S2 x), y with
    | some xs, .int k => ofO (atI xs k) S2
    | _, _ => .bad)
  | .slc a lo hi => fun env S => bnd (evE a env S) fun x S1 => bnd (evP lo env S1) fun l S2 => bnd (evP hi env S2) fun h S3 => (match dr S3 x with
    | .tup xs => .ok (.tup (cut xs l h)) S3
    | .lst xs => .ok (.lst (cut xs l h)) S3
    | .scr ns => .ok (.lst (cut (ns.map .int) l h)) S3
    | _ => .bad)
  | .fld a f => fun env S => bnd (evE a env S) fun x S1 => (match dr S1 x with
    | .obj c fs vs => if T.fld c f = true then ofO (lookF f fs vs) S1 else .bad
    | _ => .bad)
  | .call f es => fun env S => bnd (evEs es env S) fun ds S1 => cf f ds S1
  | .mk c es => fun env S => bnd (evEs es env S) fun ds S1 => make T cf c ds S1
  | .mkl i c es => fun env S => (match env[i]? with
    | some (some (.cls c')) => if c = c' then bnd (evEs es env S) fun ds S1 => make T cf c ds S1 else .bad
    | _ => .bad)
  | .mth m o es => fun env S => bnd (evE o env S) fun x S1 => (match dr S1 x with
    | .obj c fs _ => (match T.mth c m, fs.contains m with
      | some f, false => bnd (evEs es env S1) fun ds S2 => cf f (x :: ds) S2
      | _, _ => .bad)
    | _ => .bad)
  | .cmt c m es => fun env S => (match T.cms c m with
    | some f => bnd (evEs es env S) fun ds S1 => cf f (.cls c :: ds) S1
    | none => .bad)
  | .bi b es => fun env S => bnd (evEs es env S) fun ds S1 => bi2 b ds S1
  | .maxd a d => fun env S => bnd (evE a env S) fun x S1 => (match dr S1 x with
    | .lst [] => .ok (.int d) S1
    | .lst xs => ofO (vagg .max xs) S1
    | _ => .bad)
  | .ist a ts => fun env S => bnd (evE a env S) fun x S1 => ofO ((isTys T.cok (dr S1 x) ts).map .bl) S1
  | .gen b t it c e => fun env S => bnd (evI it env S) fun q S1 => genV b q.2 q.1 (evE e) (evC c) t env S1
  | .app a e => fun env S => bnd (evE a env S) fun x S1 => (match x with
    | .ref n => (match S1[n]? with
      | some (.lst _) => bnd (evE e env S1) fun y S2 => (match S2[n]? with
        | some (.lst xs) => if xs.length < lim ∧ (y.pure = true ∨ b₀ ≤ n) then .ok .non (S2.set n (.lst (xs ++ [y]))) else .bad
        | _ => .bad)
      | _ => .bad)
    | _ => .bad)
  | .pop a => fun env S => bnd (evE a env S) fun x S1 => (match x with
    | .ref n => (match S1[n]? with
      | some (.lst xs) => (match xs[xs.length - 1]? with
        | some y => .ok y (S1.set n (.lst xs.dropLast))
        | none => .bad)
      | _ => .bad)
    | _ => .bad)
  | .popi a i => fun env S => bnd (evE a env S) fun x S1 => (match x with
    | .ref n => (match S1[n]? with
      | some (.lst _) => bnd (evE i env S1) fun k S2 => (match S2[n]?, k with
        | some (.lst xs), .int k => (match ixN xs.length k with
          | some j => (match xs[j]? with
            | some y => if -(2 ^ 63) ≤ k ∧ k < 2 ^ 63 then .ok y (S2.set n (.lst (xs.eraseIdx j))) else .bad
            | none => .bad)
          | none => .bad)
        | _, _ => .bad)
      | _ => .bad)
    | _ => .bad)
def evEs : Es → Env → Sto → R (List D)
  | .nil => fun _ S => .ok [] S
  | .cons e r => fun env S => bnd (evE e env S) fun x S1 => bnd (evEs r env S1) fun xs S2 => .ok (x :: xs) S2
/-- a filter -/
def evC : O → Env → Sto → R Bool
  | .none => fun _ S => .ok true S
  | .some e => fun env S => bnd (evE e env S) fun x S1 => (match x with
    | .bl b => .ok b S1
    | _ => .bad)
/-- a slice's end -/
def evP : O → Env → Sto → R (Option Int)
  | .none => fun _ S => .ok none S
  | .some e => fun env S => bnd (evE e env S) fun x S1 => (match x with
    | .int i => .ok (some i) S1
    | _ => .bad)
/-- the new list is a cell: its number -/
def evA : A → Env → Sto → R Nat
  | .disp es => fun env S => bnd (evEs es env S) fun ds S1 => .ok S1.length (S1 ++ [.lst ds])
  | .comp t it c e => fun env S => bnd (evI it env S) fun q S1 => bnd (compL q.2 q.1 (evE e) (evC c) t S1.length env q.1 (S1 ++ [.lst []])) fun _ S2 => .ok S1.length S2
  | .ofs e => fun env S => bnd (evE e env S) fun x S1 => (match items? (dr S1 x) with
    | some xs => .ok S1.length (S1 ++ [.lst xs])
    | none => .bad)
  | .rgl a => fun env S => bnd (evE a env S) fun x S1 => (match x with
    | .int i => if small i = true then .ok S1.length (S1 ++ [.lst (rng 0 i.toNat)]) else .bad
    | _ => .bad)
  | .lrv e => fun env S => bnd (evE e env S) fun x S1 => (match dr S1 x with
    | .lst xs => .ok S1.length (S1 ++ [.lst xs.reverse])
    | _ => .bad)
  | .srt e => fun env S => bnd (evE e env S) fun x S1 => (match dr S1 x with
    | .lst xs => (match dInts xs with
      | some ns => .ok S1.length (S1 ++ [.lst ((srtI ns).map .int)])
      | none => .bad)
    | _ => .bad)
  | .cat a b => fun env S => bnd (evE a env S) fun x S1 => bnd (evE b env S1) fun y S2 => (match vop .add (dr S2 x) (dr S2 y) with
    | some (.lst zs) => .ok S2.length (S2 ++ [.lst zs])
    | _ => .bad)
  | .rep a k => fun env S => bnd (evE a env S) fun x S1 => bnd (evE k env S1) fun y S2 => (match vop .mul (dr S2 x) (dr S2 y) with
    | some (.lst zs) => .ok S2.length (S2 ++ [.lst zs])
    | _ => .bad)
  | .slc a lo hi => fun env S => bnd (evE a env S) fun x S1 => bnd (evP lo env S1) fun l S2 => bnd (evP hi env S2) fun h S3 => (match dr S3 x with
    | .lst xs => .ok S3.length (S3 ++ [.lst (cut xs l h)])
    | _ => .bad)
def evI : I → Env → Sto → R (List D × Option Nat)
  | .val e => fun env S => bnd (evE e env S) fun x S1 => ofO (itsOf S1 x) S1
  | .rng1 a => fun env S => bnd (evE a env S) fun x S1 => (match x with
    | .int i => if small i = true then .ok (rng 0 i.toNat, none) S1 else .bad
    | _ => .bad)
  | .rng2 a b => fun env S => bnd (evE a env S) fun x S1 => bnd (evE b env S1) fun y S2 => (match x, y with
    | .int i, .int j => if small i = true ∧ small j = true then .ok (rng i (j - i).toNat, none) S2 else .bad
    | _, _ => .bad)
  | .zip a b => fun env S => bnd (evE a env S) fun x S1 => bnd (evE b env S1) fun y S2 => (match x, y with
    | .tup xs, .tup ys => .ok (zipL xs ys, none) S2
    | .lst xs, .lst ys => .ok (zipL xs ys, none) S2
    | _, _ => .bad)
  | .enu a => fun env S => bnd (evE a env S) fun x S1 => (match x with
    | .lst xs => .ok (enuL 0 xs, none) S1
    | _ => .bad)
  | .rev a => fun env S => bnd (evE a env S) fun x S1 => (match x with
    | .lst xs => .ok (xs.reverse, none) S1
    | .tup xs => .ok (xs.reverse, none) S1
    | _ => .bad)
  | .revr a => fun env S => bnd (evE a env S) fun x S1 => (match x with
    | .int i => if small i = true then .ok ((rng 0 i.toNat).reverse, none) S1 else .bad
    | _ => .bad)
end

/-! ### an except suite: its value, told of the exception's fields -/
mutual
def hvE (i : Nat) (fs : List Nat) (vs : List D) : E → Option D
  | .int k => some (.int k)
  | .bl b => some (.bl b)
  | .non => some .non
  | .str x => some (.str x)
  | .fld (.loc j) f => if j = i then lookF f fs vs else none
  | .tup es => (hvEs i fs vs es).map .tup
  | _ => none
def hvEs (i : Nat) (fs : List Nat) (vs : List D) : Es → Option (List D)
  | .nil => some []
  | .cons e r => (match hvE i fs vs e, hvEs i fs vs r with
    | some d, some ds => some (d :: ds)
    | _, _ => none)
end
def hvS (i : Nat) (fs : List Nat) (vs : List D) : Ss → Option D
  | .cons (.ret e) .nil => hvE i fs vs e
  | _ => none
/-! ### statements -/
inductive Out where
  | nx (env : Env) (S : Sto) | rt (d : D) (S : Sto) | bk (env : Env) (S : Sto) | ct (env : Env) (S : Sto)
  | err (c : Nat) (fs : List Nat) (vs : List D) (env : Env) (S : Sto) | bad
@[reducible] def bndS {α : Type} (r : R α) (env : Env) (k : α → Sto → Out) : Out := match r with
  | .ok a S => k a S
  | .err c fs vs S => .err c fs vs env S
  | .bad => .bad
abbrev BF := Env → Sto → Out
def forL (ck : Option Nat) (all : List D) (t : Tg) (body : BF) : List D → Env → Sto → Out
  | [], env, S => .nx env S
  | x :: r, env, S => (match setT t x env with
    | none => .bad
    | some env1 => (match body env1 S with
      | .nx env2 S2 => if still ck all S2 = true then forL ck all t body r env2 S2 else .bad
      | .ct env2 S2 => if still ck all S2 = true then forL ck all t body r env2 S2 else .bad
      | .bk env2 S2 => .nx env2 S2
      | .rt d S2 => .rt d S2
      | .err c fs vs e S2 => .err c fs vs e S2
      | .bad => .bad))
def whlL (c : EF) (body : BF) : Nat → Env → Sto → Out
  | 0, _, _ => .bad
  | n + 1, env, S => bndS (c env S) env fun v S1 => (match v with
    | .bl true => (match body env S1 with
      | .nx env2 S2 => whlL c body n env2 S2
      | .ct env2 S2 => whlL c body n env2 S2
      | .bk env2 S2 => .nx env2 S2
      | .rt d S2 => .rt d S2
      | .err c fs vs e S2 => .err c fs vs e S2
      | .bad => .bad)
    | .bl false => .nx env S1
    | _ => .bad)
mutual
/-- p: cells below stay -/
def evS : St → Nat → Env → Sto → Out
  | .set i e => fun _ env S => bndS (evE T cf b₀ e env S) env fun d S1 => .nx (env.set i (some d)) S1
  | .new i a => fun _ env S => bndS (evA T cf b₀ a env S) env fun n S1 => .nx (env.set i (some (.ref n))) S1
  | .setc i t it c e => fun _ env S => bndS (evE T cf b₀ (.frz (.comp t it c e)) env S) env fun d S1 => .nx (env.set i (some d)) S1
  | .newc i t it c e => fun _ env S => bndS (evA T cf b₀ (.comp t it c e) env S) env fun n S1 => .nx (env.set i (some (.ref n))) S1
  | .raw _ _ _ => fun _ _ _ => .bad
  | .sets o i e => fun _ env S => bndS (evE T cf b₀ e env S) env fun d S1 => bndS (evE T cf b₀ o env S1) env fun x S2 => bndS (evE T cf b₀ i env S2) env fun y S3 => (match x, y with
    | .ref n, .int k => (match S3[n]? with
      | some (.lst xs) => (match ixN xs.length k with
        | some j => if d.pure = true ∨ b₀ ≤ n then .nx env (S3.set n (.lst (xs.set j d))) else .bad
        | none => .bad)
      | _ => .bad)
    | _, _ => .bad)
  | .setf o f e => fun _ env S => bndS (evE T cf b₀ e env S) env fun d S1 => bndS (evE T cf b₀ o env S1) env fun x S2 => (match x with
    | .ref n => (match S2[n]? with
      | some (.obj c fs vs) => if T.fld c f = true ∧ fs.length < 100 ∧ (d.pure = true ∨ b₀ ≤ n) then .nx env (S2.set n (.obj c (putF f d fs vs).1 (putF f d fs vs).2)) else .bad
      | _ => .bad)
    | _ => .bad)
  | .tpl is e => fun _ env S => bndS (evE T cf b₀ e env S) env fun d S1 => (match setT (.tp is) d env with
    | some env' => .nx env' S1
    | none => .bad)
  | .par _ _ _ _ => fun _ _ _ => .bad
  | .aug i o e => fun _ env S => (match env[i]? with
    | some (some (.int k)) => bndS (evE T cf b₀ e env S) env fun y S1 => (match y with
      | .int j => (match iop o k j with
        | some r => .nx (env.set i (some (.int r))) S1
        | none => .bad)
      | _ => .bad)
    | _ => .bad)
  | .exp e => fun _ env S => bndS (evE T cf b₀ e env S) env fun _ S1 => .nx env S1
  | .ret e => fun _ env S => bndS (evE T cf b₀ e env S) env fun d S1 => .rt d S1
  | .retn => fun _ _ S => .rt .non S
  | .ifs c a b => fun p env S => bndS (evE T cf b₀ c env S) env fun v S1 => (match v with
    | .bl true => evSs a p env S1
    | .bl false => evSs b p env S1
    | _ => .bad)
  | .whl n c b => fun p env S => whlL (evE T cf b₀ c) (evSs b p) n env S
  | .for t it b => fun _ env S => bndS (evI T cf b₀ it env S) env fun q S1 => forL q.2 q.1 t (evSs b S1.length) q.1 env S1
  | .brk => fun _ env S => .bk env S
  | .cnt => fun _ env S => .ct env S
  | .pss => fun _ env S => .nx env S
  | .shut i => fun p env S => (match env[i]?, S.getLast? with
    | some (some (.ref n)), some (.lst xs) => if n + 1 = S.length ∧ p ≤ n ∧ envB n i env = true ∧ D.blws n S = true then .nx (env.set i (some (.lst xs))) S.dropLast else .bad
    | _, _ => .bad)
  | .rais c es => fun _ env S => (match es, T.exc c with
    | .cons e .nil, some f => bndS (evE T cf b₀ e env S) env fun d S1 => .err c [f] [d] env S1
    | _, _ => .bad)
  | .tryx b c i h => fun p env S => (match evSs b p env S with
    | .err c' fs vs env1 S1 => if (T.exc c).isSome = true ∧ (T.exc c').isSome = true ∧ i < env1.length then (if c' = c then (match hvS i fs vs h with
      | some d => .rt d S1
      | none => .bad) else .err c' fs vs env1 S1) else .bad
    | o => o)
def evSs : Ss → Nat → Env → Sto → Out
  | .nil => fun _ env S => .nx env S
  | .cons s r => fun p env S => (match evS s p env S with
    | .nx env1 S1 => evSs r p env1 S1
    | o => o)
end
/-- a def's call -/
def fin (n : Nat) (d : D) (S : Sto) : R D := match fz n S d with
  | some d' => .ok d' (S.take n)
  | none => .bad
def runF (fn : Fn) (ds : List D) (S : Sto) : R D := if ds.length = fn.np then (match evSs T cf S.length fn.body S.length (ds.map some ++ List.replicate (fn.nl - fn.np) none) S with
  | .nx _ S1 => fin S.length .non S1
  | .rt d S1 => fin S.length d S1
  | .err c fs vs _ S1 => if D.pures vs = true then .err c fs vs (S1.take S.length) else .bad
  | _ => .bad) else .bad
end
/-- calls to the depth k: of pure values alone, on an empty store -/
def lv (T : Tb) : Nat → (Nat → List D → Sto → R D) × Unit
  | 0 => (fun _ _ _ => .bad, ())
  | k + 1 => (fun f ds S => (match T.fns f with
      | some fn => if D.pures ds = true then (match runF T (lv T k).1 fn ds [] with
        | .ok d _ => .ok d S
        | .err c fs vs _ => if D.pures vs = true then .err c fs vs S else .bad
        | .bad => .bad) else runF T (lv T k).1 fn ds S
      | none => .bad), ())
end Ev


set_option maxHeartbeats 200000
set_option Elab.async false
set_option maxRecDepth 100000
/-! How values stand in the abstract heap. -/
namespace Ev
open PySem PySem.Spec PyProof.Rows L2

/-- where classes and defs stand; the attributes' names -/
structure Wd where
  cl : Nat → Addr
  nm : Nat → Str
  fa : Nat → Addr
  z : List Addr
  K : PySem.W.Frag
  ts : List Addr
/-- a list of the module -/
def SqK (K : PySem.W.Frag) (a : Addr) (xs : List V) : Prop := ∃ (o : Obj) (its : Array Value) (n : Nat), K.lookup a = some o ∧ o.cls = .type "list" ∧ o.dict = none ∧ o.data = .seq its n ∧ its.size ≤ sizeLine ∧ Vals xs its.toList
variable (G : Wd)
mutual
inductive Rp (G : Wd) (ρ : List Addr) (H : Hp) : D → V → Prop
  | non : Rp G ρ H .non .non
  | bl (b : Bool) : Rp G ρ H (.bl b) (.bl b)
  | int (i : Int) : Rp G ρ H (.int i) (.int i)
  | str (x : Str) : Rp G ρ H (.str x) (.str x)
  | tup {a : Addr} {xs : List D} {vs : List V} (e : H a = some (.tup vs)) (r : Rps G ρ H xs vs) : Rp G ρ H (.tup xs) (.ref a)
  | lst {a : Addr} {xs : List D} {vs : List V} (e : H a = some (.lst vs)) (n : a ∉ ρ) (m : a ∉ G.z) (r : Rps G ρ H xs vs) : Rp G ρ H (.lst xs) (.ref a)
  | obj {a dx : Addr} {c : Nat} {fs : List Nat} {vs : List D} {ws : List V} (e : H a = some (.ins (G.cl c) dx ((fs.map G.nm).zip ws))) (n : a ∉ ρ) (m : a ∉ G.z) (r : Rps G ρ H vs ws) (l : fs.length = vs.length) : Rp G ρ H (.obj c fs vs) (.ref a)
  | ref {n : Nat} {a : Addr} (e : ρ[n]? = some a) : Rp G ρ H (.ref n) (.ref a)
  | fn (f : Nat) : Rp G ρ H (.fn f) (.ref (G.fa f))
  | cls (c : Nat) : Rp G ρ H (.cls c) (.ref (G.cl c))
  | scrK {a : Addr} {ns : List Int} (e : SqK G.K a (ns.map V.int)) : Rp G ρ H (.scr ns) (.ref a)
  | scr {a : Addr} {ns : List Int} (e : Rd H a (.lst (ns.map V.int))) (n : a ∉ ρ) (m : a ∉ G.z) : Rp G ρ H (.scr ns) (.ref a)
inductive Rps (G : Wd) (ρ : List Addr) (H : Hp) : List D → List V → Prop
  | nil : Rps G ρ H [] []
  | cons {d : D} {ds : List D} {v : V} {vs : List V} (h : Rp G ρ H d v) (t : Rps G ρ H ds vs) : Rps G ρ H (d :: ds) (v :: vs)
end
section
variable {G : Wd} {ρ ρ' ρ₂ : List Addr} {H H' H₂ : Hp}
theorem Rps.length : ∀ {ds : List D} {vs : List V}, Rps G ρ H ds vs → ds.length = vs.length
  | _, _, .nil => rfl
  | _, _, .cons _ t => congrArg Nat.succ (Rps.length t)
theorem Rps.get : ∀ {ds : List D} {vs : List V} {i : Nat} {d : D}, Rps G ρ H ds vs → ds[i]? = some d → ∃ v, vs[i]? = some v ∧ Rp G ρ H d v
  | _, _, _, _, .nil, e => by simp at e
  | _, _, 0, _, .cons h _, e => by simp at e; subst e; exact ⟨_, rfl, h⟩
  | _, _, i + 1, d, .cons _ t, e => by
    obtain ⟨v, h1, h2⟩ := Rps.get (i := i) (d := d) t (by simpa using e)
    exact ⟨v, by simpa using h1, h2⟩
theorem Rps.getV : ∀ {ds : List D} {vs : List V} {i : Nat} {v : V}, Rps G ρ H ds vs → vs[i]? = some v → ∃ d, ds[i]? = some d ∧ Rp G ρ H d v
  | _, _, _, _, .nil, e => by simp at e
  | _, _, 0, _, .cons h _, e => by simp at e; subst e; exact ⟨_, rfl, h⟩
  | _, _, i + 1, v, .cons _ t, e => by
    obtain ⟨d, h1, h2⟩ := Rps.getV (i := i) (v := v) t (by simpa using e)
    exact ⟨d, by simpa using h1, h2⟩
theorem Rps.append : ∀ {ds es : List D} {vs ws : List V}, Rps G ρ H ds vs → Rps G ρ H es ws → Rps G ρ H (ds ++ es) (vs ++ ws)
  | _, _, _, _, .nil, s => s
  | _, _, _, _, .cons h t, s => .cons h (Rps.append t s)
theorem Rps.take : ∀ {ds : List D} {vs : List V} (n : Nat), Rps G ρ H ds vs → Rps G ρ H (ds.take n) (vs.take n)
  | _, _, 0, _ => by simp; exact .nil
  | _, _, _ + 1, .nil => .nil
  | _, _, n + 1, .cons h t => .cons h (Rps.take n t)
theorem Rps.drop : ∀ {ds : List D} {vs : List V} (n : Nat), Rps G ρ H ds vs → Rps G ρ H (ds.drop n) (vs.drop n)
  | _, _, 0, r => r
  | _, _, _ + 1, .nil => .nil
  | _, _, n + 1, .cons _ t => Rps.drop n t
theorem Rps.set {d : D} {v : V} (h : Rp G ρ H d v) : ∀ {ds : List D} {vs : List V} (i : Nat), Rps G ρ H ds vs → Rps G ρ H (ds.set i d) (vs.set i v)
  | _, _, _, .nil => .nil
  | _, _, 0, .cons _ t => .cons h t
  | _, _, i + 1, .cons q t => .cons q (Rps.set h i t)
theorem Rps.eraseIdx : ∀ {ds : List D} {vs : List V} (i : Nat), Rps G ρ H ds vs → Rps G ρ H (ds.eraseIdx i) (vs.eraseIdx i)
  | _, _, _, .nil => .nil
  | _, _, 0, .cons _ t => t
  | _, _, i + 1, .cons q t => .cons q (Rps.eraseIdx i t)
theorem Rps.dropLast {ds : List D} {vs : List V} (h : Rps G ρ H ds vs) : Rps G ρ H ds.dropLast vs.dropLast := by
  rw [List.dropLast_eq_take, List.dropLast_eq_take, h.length]
  exact h.take _
theorem Rps.reverse : ∀ {ds : List D} {vs : List V}, Rps G ρ H ds vs → Rps G ρ H ds.reverse vs.reverse
  | _, _, .nil => .nil
  | _, _, .cons h t => by
    rw [List.reverse_cons, List.reverse_cons]
    exact (Rps.reverse t).append (.cons h .nil)
theorem Rps.flat {ds : List D} {vs : List V} (h : Rps G ρ H ds vs) : ∀ k : Nat, Rps G ρ H (List.replicate k ds).flatten (List.replicate k vs).flatten
  | 0 => .nil
  | k + 1 => by
    rw [List.replicate_succ, List.replicate_succ, List.flatten_cons, List.flatten_cons]
    exact h.append (Rps.flat h k)
theorem Rps.ints : ∀ ns : List Int, Rps G ρ H (ns.map D.int) (ns.map V.int)
  | [] => .nil
  | _ :: r => .cons (.int _) (Rps.ints r)
/-- what stays from H to H' -/
structure Nx (ρ : List Addr) (H : Hp) (ρ' : List Addr) (H' : Hp) : Prop where
  pre : ∃ μ, ρ' = ρ ++ μ ∧ ∀ p ∈ μ, H p = none
  keep : ∀ a o, H a = some o → a ∉ ρ → (∀ ps, o ≠ .tbl ps) → H' a = some o
  dom : ∀ a, H' a = none → H a = none
  tab : ∀ P, GxR.TabG H P → GxR.TabG H' P
theorem Nx.refl : Nx ρ H ρ H := ⟨⟨[], by simp, fun p hp => by simp at hp⟩, fun _ _ e _ _ => e, fun _ e => e, fun _ t => t⟩
theorem Nx.notin (x : Nx ρ H ρ' H') {a : Addr} {o : HO} (e : H a = some o) (n : a ∉ ρ) : a ∉ ρ' := by
  obtain ⟨μ, rfl, f⟩ := x.pre
  intro h
  rcases List.mem_append.mp h with h | h
  · exact n h
  · rw [f a h] at e
    cases e
theorem Nx.at_ (x : Nx ρ H ρ' H') {n : Nat} {a : Addr} (e : ρ[n]? = some a) : ρ'[n]? = some a := by
  obtain ⟨μ, rfl, f⟩ := x.pre
  rw [List.getElem?_append_left (List.getElem?_eq_some_iff.mp e).1]
  exact e
theorem Nx.rd (x : Nx ρ H ρ' H') {a : Addr} {vs : List V} (e : Rd H a (.lst vs)) (n : a ∉ ρ) : Rd H' a (.lst vs) ∧ a ∉ ρ' := by
  rcases e with e | ⟨o, e⟩
  · exact ⟨.inl (x.keep a _ e n fun ps q => by cases q), x.notin e n⟩
  · exact ⟨.inr ⟨o, x.keep a _ e n fun ps q => by cases q⟩, x.notin e n⟩
/-- tuples stay: the store's addresses hold none -/
structure Apt (ρ : List Addr) (H : Hp) : Prop where
  no : ∀ a vs, H a = some (.tup vs) → a ∉ ρ
mutual
theorem Rp.mono (x : Nx ρ H ρ' H') (ap : Apt ρ H) : ∀ {d : D} {v : V}, Rp G ρ H d v → Rp G ρ' H' d v
  | _, _, .non => .non
  | _, _, .bl b => .bl b
  | _, _, .int i => .int i
  | _, _, .str s => .str s
  | _, _, .tup e r => .tup (x.keep _ _ e (ap.no _ _ e) fun ps q => by cases q) (Rps.mono x ap r)
  | _, _, .lst e n m r => .lst (x.keep _ _ e n fun ps q => by cases q) (x.notin e n) m (Rps.mono x ap r)
  | _, _, .obj e n m r l => .obj (x.keep _ _ e n fun ps q => by cases q) (x.notin e n) m (Rps.mono x ap r) l
  | _, _, .cls c => .cls c
  | _, _, .scrK e => .scrK e
  | _, _, .scr e n m => .scr (x.rd e n).1 (x.rd e n).2 m
  | _, _, .ref e => .ref (x.at_ e)
  | _, _, .fn f => .fn f
theorem Rps.mono (x : Nx ρ H ρ' H') (ap : Apt ρ H) : ∀ {ds : List D} {vs : List V}, Rps G ρ H ds vs → Rps G ρ' H' ds vs
  | _, _, .nil => .nil
  | _, _, .cons h t => .cons (Rp.mono x ap h) (Rps.mono x ap t)
end
/-- what a cell's address holds -/
inductive CellOk (G : Wd) (ρ : List Addr) (H : Hp) (a : Addr) : D → Prop
  | lst {xs : List D} {vs : List V} (e : H a = some (.lst vs)) (r : Rps G ρ H xs vs) : CellOk G ρ H a (.lst xs)
  | obj {dx : Addr} {c : Nat} {fs : List Nat} {vs : List D} {ws : List V} (e : H a = some (.ins (G.cl c) dx ((fs.map G.nm).zip ws))) (r : Rps G ρ H vs ws) (l : fs.length = vs.length) : CellOk G ρ H a (.obj c fs vs)
structure StOk (G : Wd) (bs : List Nat) (ρ : List Addr) (S : Sto) (H : Hp) : Prop where
  len : ρ.length = S.length
  nd : ρ.Nodup
  at_ : ∀ (n : Nat) (a : Addr) (d : D), ρ[n]? = some a → S[n]? = some d → CellOk G ρ H a d
  low : ∀ b ∈ bs, ∀ (n : Nat) (d : D), n < b → S[n]? = some d → d.blw b = true
  base : ∀ b ∈ bs, b ≤ S.length
  out : ∀ a ∈ G.z, (∃ o, H a = some o) ∧ a ∉ ρ
theorem StOk.cell {bs : List Nat} {S : Sto} (s : StOk G bs ρ S H) {n : Nat} {d : D} (e : S[n]? = some d) : ∃ a, ρ[n]? = some a ∧ CellOk G ρ H a d := by
  have h1 : n < ρ.length := by rw [s.len]; exact (List.getElem?_eq_some_iff.mp e).1
  exact ⟨ρ[n], List.getElem?_eq_getElem h1, s.at_ n _ d (List.getElem?_eq_getElem h1) e⟩
theorem StOk.cellA {bs : List Nat} {S : Sto} (s : StOk G bs ρ S H) {n : Nat} {a : Addr} (e : ρ[n]? = some a) : ∃ d, S[n]? = some d ∧ CellOk G ρ H a d := by
  have h1 : n < S.length := by rw [← s.len]; exact (List.getElem?_eq_some_iff.mp e).1
  exact ⟨S[n], List.getElem?_eq_getElem h1, s.at_ n _ _ e (List.getElem?_eq_getElem h1)⟩
theorem StOk.apt {bs : List Nat} {S : Sto} (s : StOk G bs ρ S H) : Apt ρ H := ⟨fun a vs e h => by
  obtain ⟨n, hn⟩ := List.getElem?_of_mem h
  obtain ⟨d, _, c⟩ := s.cellA hn
  cases c with
  | lst e' => rw [e] at e'; cases e'
  | obj e' => rw [e] at e'; cases e'⟩
theorem StOk.some_ {bs : List Nat} {S : Sto} (s : StOk G bs ρ S H) {a : Addr} (h : a ∈ ρ) : ∃ o, H a = some o := by
  obtain ⟨n, hn⟩ := List.getElem?_of_mem h
  obtain ⟨d, _, c⟩ := s.cellA hn
  cases c with
  | lst e' => exact ⟨_, e'⟩
  | obj e' => exact ⟨_, e'⟩
theorem Nx.trans (x : Nx ρ H ρ' H') (y : Nx ρ' H' ρ₂ H₂) : Nx ρ H ρ₂ H₂ := by
  obtain ⟨μ, rfl, f⟩ := id x.pre
  obtain ⟨ν, rfl, f'⟩ := id y.pre
  refine ⟨⟨μ ++ ν, by rw [List.append_assoc], fun p hp => ?_⟩, fun a o e n t => y.keep a o (x.keep a o e n t) (x.notin e n) t, fun a e => x.dom a (y.dom a e), fun P t => y.tab P (x.tab P t)⟩
  rcases List.mem_append.mp hp with h | h
  · exact f p h
  · exact x.dom p (f' p h)
/-- a new object, not a cell -/
theorem Nx.new {p : Addr} {o : HO} (hp : H p = none) : Nx ρ H ρ (upd H p o) where
  pre := ⟨[], by simp, fun p hp => by simp at hp⟩
  keep := fun a u e _ _ => by rw [upd_ne (ne_of_none e hp)]; exact e
  dom := fun a e => by
    by_cases h : a = p
    · rw [h]; exact hp
    · rw [upd_ne h] at e; exact e
  tab := fun P ⟨ps, e, t⟩ => ⟨ps, by rw [upd_ne (ne_of_none e hp)]; exact e, t⟩
/-- a new cell -/
theorem Nx.cell {p : Addr} {o : HO} (hp : H p = none) : Nx ρ H (ρ ++ [p]) (upd H p o) where
  pre := ⟨[p], rfl, fun q hq => by rw [List.mem_singleton.mp hq]; exact hp⟩
  keep := (Nx.new (ρ := ρ) hp).keep
  dom := (Nx.new (ρ := ρ) hp).dom
  tab := (Nx.new (ρ := ρ) hp).tab
/-- a cell is written -/
theorem Nx.write {p : Addr} {o u : HO} (m : p ∈ ρ) (e : H p = some u) (t : ∀ ps, u ≠ .tbl ps) : Nx ρ H ρ (upd H p o) where
  pre := ⟨[], by simp, fun p hp => by simp at hp⟩
  keep := fun a v q n _ => by rw [upd_ne (show a ≠ p from fun z => n (by rw [z]; exact m))]; exact q
  dom := fun a q => by
    by_cases h : a = p
    · rw [h, upd_same] at q; cases q
    · rw [upd_ne h] at q; exact q
  tab := fun P ⟨ps, q, tr⟩ => ⟨ps, by
    rw [upd_ne (fun z => by rw [z, e] at q; exact t ps (Option.some.inj q))]; exact q, tr⟩
theorem CellOk.mono {a : Addr} {d : D} (x : Nx ρ H ρ' H') (ap : Apt ρ H) (h : CellOk G ρ H a d) (k : ∀ o, H a = some o → H' a = some o) : CellOk G ρ' H' a d := by
  cases h with
  | lst e r => exact .lst (k _ e) (r.mono x ap)
  | obj e r l => exact .obj (k _ e) (r.mono x ap) l
variable {bs : List Nat} {S : Sto}
/-- a new object beside the store -/
theorem StOk.new {p : Addr} {o : HO} (s : StOk G bs ρ S H) (hp : H p = none) : StOk G bs ρ S (upd H p o) :=
  ⟨s.len, s.nd, fun n a d e1 e2 => (s.at_ n a d e1 e2).mono (Nx.new hp) s.apt fun u e => by rw [upd_ne (ne_of_none e hp)]; exact e, s.low, s.base, fun a ha => let ⟨⟨u, e⟩, n⟩ := s.out a ha; ⟨⟨u, by rw [upd_ne (ne_of_none e hp)]; exact e⟩, n⟩⟩
/-- a new cell -/
theorem StOk.cell_ {p : Addr} {d : D} {o : HO} (s : StOk G bs ρ S H) (hp : H p = none) (c : CellOk G (ρ ++ [p]) (upd H p o) p d) : StOk G bs (ρ ++ [p]) (S ++ [d]) (upd H p o) where
  len := by rw [List.length_append, List.length_append, s.len]; rfl
  nd := by
    refine List.nodup_append.mpr ⟨s.nd, by simp, fun a ha q hq => ?_⟩
    rw [List.mem_singleton.mp hq]
    intro z
    obtain ⟨u, e⟩ := s.some_ ha
    rw [z, hp] at e
    cases e
  at_ := fun n a d' e1 e2 => by
    by_cases h : n < ρ.length
    · rw [List.getElem?_append_left h] at e1
      rw [List.getElem?_append_left (s.len ▸ h)] at e2
      exact (s.at_ n a d' e1 e2).mono (Nx.cell hp) s.apt fun u e => by rw [upd_ne (ne_of_none e hp)]; exact e
    · have h2 : n = ρ.length := by
        have := (List.getElem?_eq_some_iff.mp e1).1
        rw [List.length_append, List.length_singleton] at this
        omega
      rw [h2, List.getElem?_append_right (Nat.le_refl _), Nat.sub_self] at e1
      rw [h2, s.len, List.getElem?_append_right (Nat.le_refl _), Nat.sub_self] at e2
      cases e1
      cases e2
      exact c
  low := fun b hb n d' hn e => by
    rw [List.getElem?_append_left (Nat.lt_of_lt_of_le hn (s.base b hb))] at e
    exact s.low b hb n d' hn e
  base := fun b hb => by rw [List.length_append]; exact Nat.le_trans (s.base b hb) (Nat.le_add_right _ _)
  out := fun a ha => by
    obtain ⟨⟨u, e⟩, n⟩ := s.out a ha
    refine ⟨⟨u, by rw [upd_ne (ne_of_none e hp)]; exact e⟩, fun h => ?_⟩
    rcases List.mem_append.mp h with h | h
    · exact n h
    · rw [List.mem_singleton.mp h, hp] at e; cases e
mutual
theorem D.blw_pure (n : Nat) : ∀ d : D, d.pure = true → d.blw n = true
  | .non, _ => rfl
  | .bl _, _ => rfl
  | .int _, _ => rfl
  | .str _, _ => rfl
  | .tup xs, h => by rw [D.blw]; exact D.blws_pure n xs (by rw [D.pure] at h; exact h)
  | .lst xs, h => by rw [D.blw]; exact D.blws_pure n xs (by rw [D.pure] at h; exact h)
  | .obj _ _ vs, h => by rw [D.blw]; exact D.blws_pure n vs (by rw [D.pure] at h; exact h)
  | .ref _, h => by rw [D.pure] at h; cases h
  | .fn _, _ => rfl
  | .scr _, _ => rfl
  | .cls _, _ => rfl
theorem D.blws_pure (n : Nat) : ∀ ds : List D, D.pures ds = true → D.blws n ds = true
  | [], _ => rfl
  | x :: r, h => by
    rw [D.pures, Bool.and_eq_true] at h
    rw [D.blws, D.blw_pure n x h.1, D.blws_pure n r h.2]
    rfl
end
theorem blws_app {n : Nat} : ∀ {xs ys : List D}, D.blws n xs = true → D.blws n ys = true → D.blws n (xs ++ ys) = true
  | [], _, _, h => h
  | x :: r, ys, h, h' => by
    rw [D.blws, Bool.and_eq_true] at h
    rw [List.cons_append, D.blws, h.1, blws_app h.2 h']
    rfl
theorem blws_mem {n : Nat} : ∀ {xs : List D}, D.blws n xs = true ↔ ∀ x ∈ xs, x.blw n = true
  | [] => by simp [D.blws]
  | x :: r => by rw [D.blws, Bool.and_eq_true, blws_mem (xs := r)]; simp
/-- a cell written anew -/
theorem StOk.write {n : Nat} {a : Addr} {d d' : D} {o : HO} (s : StOk G bs ρ S H) (en : ρ[n]? = some a) (ed : S[n]? = some d) (c : CellOk G ρ (upd H a o) a d') (hb : ∀ b ∈ bs, n < b → d'.blw b = true) : StOk G bs ρ (S.set n d') (upd H a o) ∧ Nx ρ H ρ (upd H a o) := by
  have hm : a ∈ ρ := List.mem_of_getElem? en
  have c0 := s.at_ n a d en ed
  have x : Nx ρ H ρ (upd H a o) := by
    cases c0 with
    | lst e r => exact .write hm e fun ps q => by cases q
    | obj e r l => exact .write hm e fun ps q => by cases q
  refine ⟨⟨by rw [s.len, List.length_set], s.nd, fun m a' d2 e1 e2 => ?_, fun b hbb m d2 hm2 e2 => ?_, fun b hbb => by rw [List.length_set]; exact s.base b hbb, fun q hq => ?_⟩, x⟩
  · by_cases h : m = n
    · subst h
      rw [en] at e1
      cases e1
      rw [List.getElem?_set_self (by rw [← s.len]; exact (List.getElem?_eq_some_iff.mp en).1)] at e2
      cases e2
      exact c
    · rw [List.getElem?_set_ne (Ne.symm h)] at e2
      refine (s.at_ m a' d2 e1 e2).mono x s.apt fun u e => ?_
      rw [upd_ne fun z => h ?_]
      · exact e
      · obtain ⟨h1, q1⟩ := List.getElem?_eq_some_iff.mp e1
        obtain ⟨h2, q2⟩ := List.getElem?_eq_some_iff.mp en
        exact (List.getElem_inj s.nd).mp (q1.trans (z.trans q2.symm))
  · by_cases h : m = n
    · subst h
      rw [List.getElem?_set_self (by rw [← s.len]; exact (List.getElem?_eq_some_iff.mp en).1)] at e2
      cases e2
      exact hb b hbb hm2
    · rw [List.getElem?_set_ne (Ne.symm h)] at e2
      exact s.low b hbb m d2 hm2 e2
  · obtain ⟨⟨u, e⟩, n2⟩ := s.out q hq
    exact ⟨⟨u, by rw [upd_ne (show q ≠ a from fun z => n2 (by rw [z]; exact hm))]; exact e⟩, n2⟩
/-- from one statement to the next: the cells of number b and more may go -/
structure Nb (b : Nat) (ρ : List Addr) (H : Hp) (ρ' : List Addr) (H' : Hp) : Prop where
  low : ρ'.take b = ρ.take b
  new : ∀ p ∈ ρ'.drop b, p ∈ ρ.drop b ∨ H p = none
  keep : ∀ a o, H a = some o → a ∉ ρ → (∀ ps, o ≠ .tbl ps) → H' a = some o
  dom : ∀ a, H' a = none → H a = none
  tab : ∀ P, GxR.TabG H P → GxR.TabG H' P
theorem Nb.notin {b : Nat} (x : Nb b ρ H ρ' H') {a : Addr} {o : HO} (e : H a = some o) (n : a ∉ ρ) : a ∉ ρ' := by
  intro h
  rw [← List.take_append_drop b ρ'] at h
  rcases List.mem_append.mp h with h | h
  · rw [x.low] at h; exact n (List.mem_of_mem_take h)
  · rcases x.new a h with h | h
    · exact n (List.mem_of_mem_drop h)
    · rw [h] at e; cases e
theorem Nb.trans {b : Nat} (x : Nb b ρ H ρ' H') (y : Nb b ρ' H' ρ₂ H₂) : Nb b ρ H ρ₂ H₂ where
  low := y.low.trans x.low
  new := fun p hp => by
    rcases y.new p hp with h | h
    · exact x.new p h
    · exact .inr (x.dom p h)
  keep := fun a o e n t => y.keep a o (x.keep a o e n t) (x.notin e n) t
  dom := fun a e => x.dom a (y.dom a e)
  tab := fun P t => y.tab P (x.tab P t)
theorem Nx.nb {b : Nat} (x : Nx ρ H ρ' H') (hb : b ≤ ρ.length) : Nb b ρ H ρ' H' := by
  obtain ⟨μ, rfl, f⟩ := id x.pre
  refine ⟨by rw [List.take_append_of_le_length hb], fun p hp => ?_, x.keep, x.dom, x.tab⟩
  rw [List.drop_append_of_le_length hb] at hp
  rcases List.mem_append.mp hp with h | h
  · exact .inl h
  · exact .inr (f p h)
theorem Nb.refl {b : Nat} : Nb b ρ H ρ H := ⟨rfl, fun p hp => .inl hp, fun _ _ e _ _ => e, fun _ e => e, fun _ t => t⟩
end
end Ev


set_option maxHeartbeats 200000
set_option Elab.async false
set_option maxRecDepth 100000
set_option maxHeartbeats 1000000
/-! What is computed is what the program does: the frame of the proof; operators. -/
namespace Ev
open PySem PySem.Spec PyProof.Rows L2

/-! ### what is wanted of an answer -/
section
variable (G : Wd) (bs : List Nat) (W : WX) (σ : L2.St) (ρ : List Addr) (H : Hp)
def Sat {α : Type} (r : R α) (K : α → Sto → List Addr → Hp → Prop) : Prop := match r with
  | .ok a S' => ∀ ρ' H', Nx ρ H ρ' H' → StOk G bs ρ' S' H' → K a S' ρ' H'
  | .err c fs vs S' => ∀ ρ' H' dd ws, Nx ρ H ρ' H' → StOk G bs ρ' S' H' → H' dd = some (.xd ((fs.map G.nm).zip ws)) → dd ∉ ρ' → Rps G ρ' H' vs ws → W (.ref (G.cl c)) (some dd) σ H'
  | .bad => False
end
section
variable {G : Wd} {bs : List Nat} {W W' : WX} {σ σ' : L2.St} {ρ ρ' : List Addr} {H H' : Hp} {α β : Type} {r : R α} {K K' : α → Sto → List Addr → Hp → Prop}
theorem Sat.mono (h : Sat G bs W σ ρ H r K) (x : Nx ρ H ρ' H') : Sat G bs W σ ρ' H' r K := by
  cases r with
  | ok a S => exact fun ρ2 H2 y s => h ρ2 H2 (x.trans y) s
  | err c fs vs S => exact fun ρ2 H2 dd ws y s => h ρ2 H2 dd ws (x.trans y) s
  | bad => exact h.elim
theorem Sat.imp (h : Sat G bs W σ ρ H r K) (k : ∀ a S' ρ' H', Nx ρ H ρ' H' → StOk G bs ρ' S' H' → K a S' ρ' H' → K' a S' ρ' H') : Sat G bs W σ ρ H r K' := by
  cases r with
  | ok a S => exact fun ρ2 H2 y s => k _ _ _ _ y s (h ρ2 H2 y s)
  | err c fs vs S => exact h
  | bad => exact h.elim
theorem Sat.bnd {f : α → Sto → R β} {K : β → Sto → List Addr → Hp → Prop} (h : Sat G bs W σ ρ H (bnd r f) K) : Sat G bs W σ ρ H r (fun a S1 ρ1 H1 => Sat G bs W σ ρ1 H1 (f a S1) K) := by
  cases r with
  | ok a S => exact fun ρ2 H2 y s => Sat.mono (r := f a S) h y
  | err c fs vs S => exact h
  | bad => exact h.elim
/-- no error: any wish will do -/
theorem Sat.neW (h : Sat G bs W σ ρ H (ne r) K) : Sat G bs W' σ' ρ H (ne r) K := by
  cases r with
  | ok a S => exact h
  | err c fs vs S => exact h.elim
  | bad => exact h.elim
theorem Sat.here {a : α} {S : Sto} (h : Sat G bs W σ ρ H (.ok a S) K) (s : StOk G bs ρ S H) : K a S ρ H := h ρ H .refl s
theorem Sat.at_ {a : α} {S : Sto} (h : Sat G bs W σ ρ H (.ok a S) K) (x : Nx ρ H ρ' H') (s : StOk G bs ρ' S H') : K a S ρ' H' := h ρ' H' x s
theorem Sat.ofO {o : Option α} {S : Sto} (h : Sat G bs W σ ρ H (ofO o S) K) : ∃ a, o = some a ∧ Sat G bs W σ ρ H (.ok a S) K := by
  cases o with
  | none => exact h.elim
  | some a => exact ⟨a, rfl, h⟩
end
/-- where no error is told, any wish will do -/
theorem Sat.offO {G : Wd} {bs : List Nat} {W W' : WX} {σ σ' : L2.St} {ρ : List Addr} {H : Hp} {α : Type} {o : Option α} {S : Sto} {K : α → Sto → List Addr → Hp → Prop} (h : Sat G bs W σ ρ H (Ev.ofO o S) K) : Sat G bs W' σ' ρ H (Ev.ofO o S) K := by
  cases o with
  | none => exact h.elim
  | some a => exact h
/-- the frame's values -/
structure CfE (G : Wd) (ρ : List Addr) (H : Hp) (env : Env) (σ : L2.St) : Prop where
  len : σ.length = env.length
  at_ : ∀ (i : Nat) (d : D), env[i]? = some (some d) → ∃ v, σ[i]? = some (some v) ∧ Rp G ρ H d v
section
variable {G : Wd} {ρ ρ' : List Addr} {H H' : Hp} {env : Env} {σ : L2.St}
theorem CfE.mono (c : CfE G ρ H env σ) (x : Nx ρ H ρ' H') (ap : Apt ρ H) : CfE G ρ' H' env σ :=
  ⟨c.len, fun i d e => let ⟨v, h1, h2⟩ := c.at_ i d e; ⟨v, h1, h2.mono x ap⟩⟩
theorem CfE.set {d : D} {v : V} (c : CfE G ρ H env σ) (i : Nat) (r : Rp G ρ H d v) : CfE G ρ H (env.set i (some d)) (σ.set i (some v)) := by
  refine ⟨by rw [List.length_set, List.length_set, c.len], fun j d' e => ?_⟩
  by_cases h : i = j
  · subst h
    by_cases hl : i < env.length
    · rw [List.getElem?_set_self hl] at e
      cases e
      exact ⟨v, List.getElem?_set_self (by rw [c.len]; exact hl), r⟩
    · rw [List.getElem?_eq_none (by rw [List.length_set]; omega)] at e
      cases e
  · rw [List.getElem?_set_ne h] at e
    rw [List.getElem?_set_ne h]
    exact c.at_ j d' e
theorem CfE.setAll : ∀ {is : List Nat} {ds : List D} {vs : List V} {env : Env} {σ : L2.St}, CfE G ρ H env σ → Rps G ρ H ds vs → ds.length = is.length → ∃ σ', CfE G ρ H (setAll is ds env) σ' ∧ σ' = (is.zip vs).foldl (fun s p => s.set p.1 (some p.2)) σ
  | [], [], _, env, σ, c, .nil, _ => ⟨σ, c, rfl⟩
  | i :: is, d :: ds, _, env, σ, c, .cons h t, l => CfE.setAll (is := is) (ds := ds) (c.set i h) t (by simpa using l)
end

/-! ### the program around -/
/-- names: a def's, a class's, a number's; the tables of the defs' generator expressions -/
structure Gn where
  fnm : Nat → Option Str
  cnm : Nat → Option Str
  knm : Str → Option Int
  nm : Nat → Str
  gcd : Bool
  xnm : Nat → Option Str
/-- with other cells out of reach -/
@[reducible] def Wd.at_ (G : Wd) (z : List Addr) : Wd := { G with z := z }
def blts : List Str := ["len", "abs", "int", "tuple", "list", "sum", "all", "any", "max", "min", "sorted", "range", "zip", "enumerate", "reversed", "isinstance", "bool", "str"]
def TabsOk (G : Wd) (gn : Gn) (H : Hp) : Prop := ∀ P ∈ G.ts, GxR.TabG H P
theorem TabsOk.mono {G : Wd} {gn : Gn} {ρ ρ' : List Addr} {H H' : Hp} (t : TabsOk G gn H) (x : Nx ρ H ρ' H') : TabsOk G gn H' := fun P hP => x.tab P (t P hP)
/-- what is computed of a def at the depth k, as a promise -/
def spF (T : Tb) (G : Wd) (gn : Gn) (k f : Nat) : Sp := fun vs H Q E => ∃ z bs ρ S ds, StOk (G.at_ z) bs ρ S H ∧ TabsOk G gn H ∧ Rps (G.at_ z) ρ H ds vs ∧
  Sat (G.at_ z) bs (fun c d _ H' => E c d H') [] ρ H ((lv T k).1 f ds S) (fun d _ ρ' H' => ∀ v, Rp (G.at_ z) ρ' H' d v → Q v H')
structure ClsOk (K : PySem.W.Frag) (C : Addr) : Prop where
  cls : Cls K C
  ha : PySem.W.findIn K (.ref C) "__class__" = some (some (.builtin "object.__class__"))
  hn : PySem.W.specialIn K (.builtin "object.__class__") "__get__" = some (some (.builtin "getset_descriptor.__get__"))
  ht : PySem.W.takesIn K (.builtin "object.__class__") = some true
  hm : PySem.W.mroIn K C (.type "object") = some true
/-- no __ne__ of its own -/
def neB (K : PySem.W.Frag) (C : Addr) : Bool := match PySem.W.findIn K (.ref C) "__ne__" with
  | some (some (.builtin i)) => i == "object.__ne__"
  | _ => false
theorem neB_ok {K : PySem.W.Frag} {C : Addr} (h : neB K C = true) : PySem.W.findIn K (.ref C) "__ne__" = some (some (.builtin "object.__ne__")) := by
  unfold neB at h
  split at h
  · rename_i i e; rw [e, eq_of_beq h]
  · cases h
structure Facts (T : Tb) (G : Wd) (gn : Gn) (K : PySem.W.Frag) (mg : Str → Option Value) : Prop where
  kK : G.K = K
  blt : ∀ x ∈ blts, mg x = none
  gcd : gn.gcd = true → mg "gcd" = some (.builtin "math.gcd")
  fn : ∀ f x, gn.fnm f = some x → mg x = some (.ref (G.fa f)) ∧ PySem.W.keepIn K (.ref (G.fa f)) = true
  cn : ∀ c x, gn.cnm c = some x → mg x = some (.ref (G.cl c))
  kn : ∀ x i, gn.knm x = some i → ∃ t, mg x = some (.int i t)
  cls : ∀ c x, gn.cnm c = some x → ClsOk K (G.cl c)
  cok : ∀ c, T.cok c = true → ∃ x, gn.cnm c = some x
  ini : ∀ c f, T.ini c = some f → Mk K (G.cl c) (G.fa f)
  fld : ∀ c f, T.fld c f = true → Cls K (G.cl c) ∧ NoAttr K (G.cl c) (G.nm f)
  mth : ∀ c m f, T.mth c m = some f → Cls K (G.cl c) ∧ Meth K (G.cl c) (G.nm m) (G.fa f)
  cms : ∀ c m f, T.cms c m = some f → ∃ mc p, ClX.CRead K (G.cl c) mc ∧ ClX.CMet K (G.cl c) mc (G.nm m) p (G.fa f)
  sf : ∀ c m f, T.mth c m = some f → m = nAdd ∨ m = nSub ∨ m = nMul → PySem.W.selfFirst K (G.cl c) = true
  neq : ∀ c f, T.mth c nEq = some f → neB K (G.cl c) = true ∧ PySem.W.mroIn K (G.cl c) (.type "object") = some true
  mfn : ∀ c m f, T.mth c m = some f → ∃ fn, T.fns f = some fn
  cfn : ∀ c m f, T.cms c m = some f → ∃ fn, T.fns f = some fn
  ifn : ∀ c f, T.ini c = some f → ∃ fn, T.fns f = some fn
  nmE : ∀ a, G.nm a = gn.nm a
  nm : ∀ a b, G.nm a = G.nm b → a = b
  nms : G.nm nEq = "__eq__" ∧ G.nm nAdd = "__add__" ∧ G.nm nSub = "__sub__" ∧ G.nm nMul = "__mul__"
  isi : ∀ c d xc xd, gn.cnm c = some xc → gn.cnm d = some xd → PySem.W.kitOne K (.ref (G.cl c)) (.ref (G.cl d)) = some (c == d)
  isb : ∀ (c : Nat) (x : Str) (n : String), gn.cnm c = some x → n ∈ ["int", "bool", "str", "tuple", "list"] → PySem.W.kitOne K (.ref (G.cl c)) (.type n) = some false
  isc : ∀ (c : Nat) (x : Str) (n : String), gn.cnm c = some x → n ∈ ["int", "bool", "str", "tuple", "list", "NoneType"] → PySem.W.kitOne K (.type n) (.ref (G.cl c)) = some false
/-- the __init__ of an own exception: self.f = x -/
structure IniX (K : PySem.W.Frag) (f : Str) (fI : Addr) : Prop where
  ex : ∃ (qual sf x : Str) (params : Arguments) (scope : Scope) (fd : FuncData) (p1 p2 p3 p4 : Pos), FunD K "__init__" qual params [.Assign [.Attribute (.Name sf p1) f p2] (.Name x p3) p4] scope [] [] fI fd ∧ FnScope [sf, x] [sf, x] scope ∧ Binds K fd [sf, x] [] ∧
    Vis scope sf ∧ Vis scope x ∧ (sf == ("__debug__" : Str)) = false ∧ (sf == ("__classdict__" : Str)) = false ∧ (x == ("__debug__" : Str)) = false ∧ (x == ("__classdict__" : Str)) = false
structure ExcC (K : PySem.W.Frag) (C : Addr) (f : Str) : Prop where
  o : OexC K C
  x : XfC K C
  no : PySem.W.findIn K (.ref C) f = some none
  ini : ∃ fI, PySem.W.findIn K (.ref C) "__init__" = some (some (.ref fI)) ∧ PySem.W.typeIn K (.ref fI) = some (.type "function") ∧ IniX K f fI
structure XFacts (T : Tb) (G : Wd) (gn : Gn) (K : PySem.W.Frag) (mg : Str → Option Value) : Prop where
  exc : ∀ c f, T.exc c = some f → ExcC K (G.cl c) (G.nm f)
  xnm : ∀ c x, gn.xnm c = some x → mg x = some (.ref (G.cl c))
  exm : ∀ c c', (T.exc c).isSome = true → (T.exc c').isSome = true → PySem.W.exmOne K (.ref (G.cl c')) (.ref (G.cl c)) = some (decide (c' = c))
/-- the state of a body -/
structure XC (T : Tb) (G : Wd) (gn : Gn) (k : Nat) (X : Cx) (W : WX) : Prop where
  F : Facts T G gn X.K X.mg
  XF : XFacts T G gn X.K X.mg
  tk : Takes X W
  calm : X.calm = true
  nd : X.N.Nodup
  room : Room (9 * k + 5) X.A
  fns : ∀ f fn, T.fns f = some fn → FnR X.prog X.w X.K X.mg X.base (L2.CX X.prog X.w) (9 * k) (G.fa f) (spF T G gn k f)
theorem XC.hu {T : Tb} {G : Wd} {gn : Gn} {k : Nat} {X : Cx} {W : WX} (c : XC T G gn k X W) : X.A.units + 65 < cLine := by have := c.room.un; omega

section
/-- an expression's reading by what is computed -/
def tE (G : Wd) (gn : Gn) (bs : List Nat) (W : WX) (ev : EF) : TE := fun σ H Q => ∃ ρ S env, StOk G bs ρ S H ∧ CfE G ρ H env σ ∧ TabsOk G gn H ∧ Sat G bs W σ ρ H (ev env S) (fun d _ ρ' H' => ∀ v, Rp G ρ' H' d v → Q v H')
def tB (G : Wd) (gn : Gn) (bs : List Nat) (W : WX) (ev : EF) : TT := fun σ H Q => ∃ ρ S env, StOk G bs ρ S H ∧ CfE G ρ H env σ ∧ TabsOk G gn H ∧ Sat G bs W σ ρ H (ev env S) (fun d _ _ H' => ∃ b, d = .bl b ∧ Q b H')
def tEs (G : Wd) (gn : Gn) (bs : List Nat) (W : WX) (ev : Env → Sto → R (List D)) : TA := fun σ H Q => ∃ ρ S env, StOk G bs ρ S H ∧ CfE G ρ H env σ ∧ TabsOk G gn H ∧ Sat G bs W σ ρ H (ev env S) (fun ds _ ρ' H' => ∀ vs, Rps G ρ' H' ds vs → Q vs H')
end
theorem _root_.L2.PE.imp {X : Cx} {e : Expr} {t t' : TE} (h : PE X e t) (k : ∀ σ H Q, t' σ H Q → t σ H Q) : PE X e t' := ⟨fun pins s σ H Q I q => h.run pins s σ H Q I (k σ H Q q)⟩
theorem _root_.L2.PT.imp {X : Cx} {e : Expr} {t t' : TT} (h : PT X e t) (k : ∀ σ H Q, t' σ H Q → t σ H Q) : PT X e t' := ⟨fun pins s σ H Q I q => h.run pins s σ H Q I (k σ H Q q)⟩
theorem _root_.L2.PA.imp {X : Cx} {e : List Expr} {t t' : TA} (h : PA X e t) (k : ∀ σ H Q, t' σ H Q → t σ H Q) : PA X e t' := ⟨fun p pins s σ H Q I q => h.run p pins s σ H Q I (k σ H Q q)⟩

/-! ### expressions that are no stars, slices, sets -/
def plainE : Expr → Bool
  | .Starred .. => false
  | .Slice .. => false
  | .Set .. => false
  | .ListComp .. => true
  | _ => true
def compE : Expr → Bool
  | .ListComp .. => true
  | .SetComp .. => true
  | .DictComp .. => true
  | _ => false
/-- a base of an attribute: no super() -/
def baseE : Expr → Bool
  | .Call (.Name _ _) [] [] _ => false
  | _ => true
theorem star_of {e : Expr} {es : List Expr} {env : PySem.Env} (h : plainE e = true) : starEach (e :: es) env = (false, eval e env) :: starEach es env := by
  cases e <;> first | rfl | cases h
theorem ix_of {e : Expr} (h : plainE e = true) : PlainIx e := by
  cases e <;> first | exact fun _ _ => rfl | cases h
theorem mark_of {e : Expr} {op : CmpOp} (h : plainE e = true) : behindInMarks op e = false := by
  cases e <;> first | rfl | cases h
theorem fold_of {e : Expr} {env : PySem.Env} {x : Value} (h : plainE e = true) : foldedSetIterable e env x = pure x := by
  cases e <;> first | rfl | cases h
theorem base_of {e : Expr} {f : Str} {env : PySem.Env} {t : Sem Value} (h : baseE e = true) : attributeBase e f env t = t := by
  unfold attributeBase
  split
  · cases h
  · rfl
theorem swap_of {e : Expr} {t : Option Expr} {l : Nat} {env : PySem.Env} (h : compE e = false) : swapsWith e t l env = pure false := by
  cases e <;> first | rfl | cases h
end Ev


set_option maxHeartbeats 200000
set_option Elab.async false
set_option maxRecDepth 100000
set_option maxHeartbeats 1000000
/-! Operators and comparisons. -/
namespace Ev
open PySem PySem.Spec PyProof.Rows L2

/-- what can be read of a value -/
inductive Vw (G : Wd) (ρ : List Addr) (H : Hp) : D → V → Prop
  | non : Vw G ρ H .non .non
  | bl (b : Bool) : Vw G ρ H (.bl b) (.bl b)
  | int (i : Int) : Vw G ρ H (.int i) (.int i)
  | str (x : Str) : Vw G ρ H (.str x) (.str x)
  | tup {a : Addr} {xs : List D} {vs : List V} (e : H a = some (.tup vs)) (r : Rps G ρ H xs vs) : Vw G ρ H (.tup xs) (.ref a)
  | lst {a : Addr} {xs : List D} {vs : List V} (e : H a = some (.lst vs)) (r : Rps G ρ H xs vs) : Vw G ρ H (.lst xs) (.ref a)
  | obj {a dx : Addr} {c : Nat} {fs : List Nat} {vs : List D} {ws : List V} (e : H a = some (.ins (G.cl c) dx ((fs.map G.nm).zip ws))) (r : Rps G ρ H vs ws) (l : fs.length = vs.length) : Vw G ρ H (.obj c fs vs) (.ref a)
  | ref (n : Nat) (v : V) : Vw G ρ H (.ref n) v
  | fn (f : Nat) : Vw G ρ H (.fn f) (.ref (G.fa f))
  | cls (c : Nat) : Vw G ρ H (.cls c) (.ref (G.cl c))
  | scr {a : Addr} {ns : List Int} (e : Rd H a (.lst (ns.map V.int))) : Vw G ρ H (.scr ns) (.ref a)
  | scrK {a : Addr} {ns : List Int} (e : SqK G.K a (ns.map V.int)) : Vw G ρ H (.scr ns) (.ref a)
section
variable {G : Wd} {bs : List Nat} {ρ : List Addr} {H : Hp} {S : Sto}
theorem Rp.top {d : D} {v : V} (h : Rp G ρ H d v) : Vw G ρ H d v := by
  cases h with
  | non => exact .non
  | bl b => exact .bl b
  | int i => exact .int i
  | str x => exact .str x
  | tup e r => exact .tup e r
  | lst e n m r => exact .lst e r
  | obj e n m r l => exact .obj e r l
  | ref e => exact .ref _ _
  | fn f => exact .fn f
  | cls c => exact .cls c
  | scr e n m => exact .scr e
  | scrK e => exact .scrK e
theorem Rp.view {d : D} {v : V} (s : StOk G bs ρ S H) (h : Rp G ρ H d v) : Vw G ρ H (dr S d) v := by
  cases h with
  | ref e =>
    rename_i n a
    obtain ⟨d, e2, c⟩ := s.cellA e
    unfold dr
    dsimp only
    rw [e2]
    cases c with
    | lst e r => exact .lst e r
    | obj e r l => exact .obj e r l
  | non => exact .non
  | bl b => exact .bl b
  | int i => exact .int i
  | str x => exact .str x
  | tup e r => exact .tup e r
  | lst e n m r => exact .lst e r
  | obj e n m r l => exact .obj e r l
  | fn f => exact .fn f
  | cls c => exact .cls c
  | scr e n m => exact .scr e
  | scrK e => exact .scrK e
/-- the fresh address is new to all -/
theorem StOk.fr (s : StOk G bs ρ S H) {p : Addr} (hp : H p = none) : p ∉ ρ ∧ p ∉ G.z :=
  ⟨fun h => by (obtain ⟨u, e⟩ := s.some_ h; rw [hp] at e; exact absurd e (by simp)), fun h => by (obtain ⟨⟨u, e⟩, _⟩ := s.out p h; rw [hp] at e; exact absurd e (by simp))⟩
theorem StOk.newTup (s : StOk G bs ρ S H) {p : Addr} (hp : H p = none) {xs : List D} {vs : List V} (r : Rps G ρ H xs vs) : Rp G ρ (upd H p (.tup vs)) (.tup xs) (.ref p) :=
  .tup upd_same (r.mono (Nx.new hp) s.apt)
theorem StOk.newLst (s : StOk G bs ρ S H) {p : Addr} (hp : H p = none) {xs : List D} {vs : List V} (r : Rps G ρ H xs vs) : Rp G ρ (upd H p (.lst vs)) (.lst xs) (.ref p) :=
  .lst upd_same (s.fr hp).1 (s.fr hp).2 (r.mono (Nx.new hp) s.apt)
mutual
theorem Rp.dp {K : PySem.W.Frag} : ∀ {d : D} {v : V} {k : Nat}, Rp G ρ H d v → D.dat k d = true → Dp K H v d.pyd
  | _, _, _, .non, _ => .non
  | _, _, _, .bl b, _ => .bl b
  | _, _, _, .int i, _ => .int i
  | _, _, _, .str x, _ => .str x
  | _, _, 0, .tup e r, h => by simp [D.dat] at h
  | _, _, k + 1, .tup e r, h => by rw [D.pyd]; exact .tup (.of e) (Rps.dp r (by simpa only [D.dat] using h))
  | _, _, 0, .lst e n m r, h => by simp [D.dat] at h
  | _, _, k + 1, .lst e n m r, h => by rw [D.pyd]; exact .lst (.of e) (Rps.dp r (by simpa only [D.dat] using h))
  | _, _, _, .obj _ _ _ _ _, h => by simp [D.dat] at h
  | _, _, _, .ref _, h => by simp [D.dat] at h
  | _, _, _, .fn _, h => by simp [D.dat] at h
  | _, _, _, .cls _, h => by simp [D.dat] at h
  | _, _, _, .scr _ _ _, h => by simp [D.dat] at h
  | _, _, _, .scrK _, h => by simp [D.dat] at h
theorem Rps.dp {K : PySem.W.Frag} : ∀ {ds : List D} {vs : List V} {k : Nat}, Rps G ρ H ds vs → D.dats k ds = true → DpAll K H vs (D.pyds ds)
  | _, _, _, .nil, _ => by rw [D.pyds]; exact .nil
  | _, _, _, .cons h t, q => by
    rw [D.dats, Bool.and_eq_true] at q
    rw [D.pyds]
    exact .cons (Rp.dp h q.1) (Rps.dp t q.2)
end
theorem Vw.dp {K : PySem.W.Frag} {d : D} {v : V} {k : Nat} (w : Vw G ρ H d v) (h : D.dat k d = true) : Dp K H v d.pyd := by
  cases w with
  | non => exact .non
  | bl b => exact .bl b
  | int i => exact .int i
  | str x => exact .str x
  | tup e r =>
    cases k with
    | zero => simp [D.dat] at h
    | succ k => rw [D.pyd]; exact .tup (.of e) (Rps.dp r (by simpa only [D.dat] using h))
  | lst e r =>
    cases k with
    | zero => simp [D.dat] at h
    | succ k => rw [D.pyd]; exact .lst (.of e) (Rps.dp r (by simpa only [D.dat] using h))
  | obj _ _ _ => simp [D.dat] at h
  | ref _ _ => simp [D.dat] at h
  | fn _ => simp [D.dat] at h
  | cls _ => simp [D.dat] at h
  | scr _ => simp [D.dat] at h
  | scrK _ => simp [D.dat] at h
end
mutual
theorem D.dat_lay : ∀ {d : D} {k : Nat}, D.dat k d = true → d.pyd.canLay0 = true ∧ d.pyd.depth ≤ k
  | .non, _, _ => ⟨rfl, Nat.zero_le _⟩
  | .bl _, _, _ => ⟨rfl, Nat.zero_le _⟩
  | .int _, _, _ => ⟨rfl, Nat.zero_le _⟩
  | .str _, _, h => ⟨by rw [D.pyd, PyData.canLay0]; simpa only [D.dat] using h, Nat.zero_le _⟩
  | .tup xs, 0, h => by simp [D.dat] at h
  | .lst xs, 0, h => by simp [D.dat] at h
  | .tup xs, k + 1, h => by
    rw [D.dat] at h
    obtain ⟨h1, h2⟩ := D.dats_lay h
    rw [D.pyd, PyData.canLay0, PyData.depth]
    exact ⟨h1, Nat.succ_le_succ h2⟩
  | .lst xs, k + 1, h => by
    rw [D.dat] at h
    obtain ⟨h1, h2⟩ := D.dats_lay h
    rw [D.pyd, PyData.canLay0, PyData.depth]
    exact ⟨h1, Nat.succ_le_succ h2⟩
  | .obj _ _ _, _, h => by simp [D.dat] at h
  | .ref _, _, h => by simp [D.dat] at h
  | .fn _, _, h => by simp [D.dat] at h
  | .cls _, _, h => by simp [D.dat] at h
  | .scr _, _, h => by simp [D.dat] at h
theorem D.dats_lay : ∀ {ds : List D} {k : Nat}, D.dats k ds = true → PyData.canLayAll0 (D.pyds ds) = true ∧ PyData.depthAll (D.pyds ds) ≤ k
  | [], _, _ => ⟨rfl, Nat.zero_le _⟩
  | x :: r, k, h => by
    rw [D.dats, Bool.and_eq_true] at h
    obtain ⟨h1, h2⟩ := D.dat_lay h.1
    obtain ⟨h3, h4⟩ := D.dats_lay h.2
    rw [D.pyds, PyData.canLayAll0, PyData.depthAll, h1, h3]
    exact ⟨rfl, Nat.max_le.mpr ⟨h2, h4⟩⟩
end
theorem D.dat_shaped {d : D} {k : Nat} (h : D.dat k d = true) (hk : k ≤ 64) : SeqAt.shaped d.pyd = true := by
  obtain ⟨h1, h2⟩ := D.dat_lay h
  unfold SeqAt.shaped
  rw [h1, decide_eq_true (Nat.le_trans h2 hk)]
  rfl
mutual
theorem D.eqv_py : ∀ {d e : D} {k l : Nat}, D.dat k d = true → D.dat l e = true → PyData.eqv d.pyd e.pyd = D.eqv d e
  | .non, .non, _, _, _, _ => by simp only [D.pyd, D.eqv, PyData.eqv]
  | .non, .bl _, _, _, _, _ => by simp only [D.pyd, D.eqv, PyData.eqv]
  | .non, .int _, _, _, _, _ => by simp only [D.pyd, D.eqv, PyData.eqv]
  | .non, .str _, _, _, _, _ => by simp only [D.pyd, D.eqv, PyData.eqv]
  | .non, .tup _, _, _, _, _ => by simp only [D.pyd, D.eqv, PyData.eqv]
  | .non, .lst _, _, _, _, _ => by simp only [D.pyd, D.eqv, PyData.eqv]
  | .bl _, .non, _, _, _, _ => by simp only [D.pyd, D.eqv, PyData.eqv]
  | .bl _, .bl _, _, _, _, _ => by simp only [D.pyd, D.eqv, PyData.eqv]
  | .bl _, .int _, _, _, _, _ => by simp only [D.pyd, D.eqv, PyData.eqv]
  | .bl _, .str _, _, _, _, _ => by simp only [D.pyd, D.eqv, PyData.eqv]
  | .bl _, .tup _, _, _, _, _ => by simp only [D.pyd, D.eqv, PyData.eqv]
  | .bl _, .lst _, _, _, _, _ => by simp only [D.pyd, D.eqv, PyData.eqv]
  | .int _, .non, _, _, _, _ => by simp only [D.pyd, D.eqv, PyData.eqv]
  | .int _, .bl _, _, _, _, _ => by simp only [D.pyd, D.eqv, PyData.eqv]
  | .int _, .int _, _, _, _, _ => by simp only [D.pyd, D.eqv, PyData.eqv]
  | .int _, .str _, _, _, _, _ => by simp only [D.pyd, D.eqv, PyData.eqv]
  | .int _, .tup _, _, _, _, _ => by simp only [D.pyd, D.eqv, PyData.eqv]
  | .int _, .lst _, _, _, _, _ => by simp only [D.pyd, D.eqv, PyData.eqv]
  | .str _, .non, _, _, _, _ => by simp only [D.pyd, D.eqv, PyData.eqv]
  | .str _, .bl _, _, _, _, _ => by simp only [D.pyd, D.eqv, PyData.eqv]
  | .str _, .int _, _, _, _, _ => by simp only [D.pyd, D.eqv, PyData.eqv]
  | .str _, .str _, _, _, _, _ => by simp only [D.pyd, D.eqv, PyData.eqv]
  | .str _, .tup _, _, _, _, _ => by simp only [D.pyd, D.eqv, PyData.eqv]
  | .str _, .lst _, _, _, _, _ => by simp only [D.pyd, D.eqv, PyData.eqv]
  | .tup _, .non, _, _, _, _ => by simp only [D.pyd, D.eqv, PyData.eqv]
  | .tup _, .bl _, _, _, _, _ => by simp only [D.pyd, D.eqv, PyData.eqv]
  | .tup _, .int _, _, _, _, _ => by simp only [D.pyd, D.eqv, PyData.eqv]
  | .tup _, .str _, _, _, _, _ => by simp only [D.pyd, D.eqv, PyData.eqv]
  | .tup _, .lst _, _, _, _, _ => by simp only [D.pyd, D.eqv, PyData.eqv]
  | .lst _, .non, _, _, _, _ => by simp only [D.pyd, D.eqv, PyData.eqv]
  | .lst _, .bl _, _, _, _, _ => by simp only [D.pyd, D.eqv, PyData.eqv]
  | .lst _, .int _, _, _, _, _ => by simp only [D.pyd, D.eqv, PyData.eqv]
  | .lst _, .str _, _, _, _, _ => by simp only [D.pyd, D.eqv, PyData.eqv]
  | .lst _, .tup _, _, _, _, _ => by simp only [D.pyd, D.eqv, PyData.eqv]
  | .tup xs, .tup ys, 0, _, h, _ => by simp [D.dat] at h
  | .tup xs, .tup ys, _, 0, _, h => by simp [D.dat] at h
  | .lst xs, .lst ys, 0, _, h, _ => by simp [D.dat] at h
  | .lst xs, .lst ys, _, 0, _, h => by simp [D.dat] at h
  | .tup xs, .tup ys, k + 1, l + 1, h, h' => by
    rw [D.dat] at h h'
    rw [D.pyd, D.pyd, PyData.eqv, D.eqv, D.eqvs_py h h']
  | .lst xs, .lst ys, k + 1, l + 1, h, h' => by
    rw [D.dat] at h h'
    rw [D.pyd, D.pyd, PyData.eqv, D.eqv, D.eqvs_py h h']
  | .obj _ _ _, _, _, _, h, _ => by simp [D.dat] at h
  | .ref _, _, _, _, h, _ => by simp [D.dat] at h
  | .fn _, _, _, _, h, _ => by simp [D.dat] at h
  | .cls _, _, _, _, h, _ => by simp [D.dat] at h
  | .scr _, _, _, _, h, _ => by simp [D.dat] at h
  | _, .obj _ _ _, _, _, _, h => by simp [D.dat] at h
  | _, .ref _, _, _, _, h => by simp [D.dat] at h
  | _, .fn _, _, _, _, h => by simp [D.dat] at h
  | _, .cls _, _, _, _, h => by simp [D.dat] at h
  | _, .scr _, _, _, _, h => by simp [D.dat] at h
theorem D.eqvs_py : ∀ {ds es : List D} {k l : Nat}, D.dats k ds = true → D.dats l es = true → PyData.eqvAll (D.pyds ds) (D.pyds es) = D.eqvs ds es
  | [], [], _, _, _, _ => by simp only [D.pyds, D.eqvs, PyData.eqvAll]
  | [], _ :: _, _, _, _, _ => by simp only [D.pyds, D.eqvs, PyData.eqvAll]
  | _ :: _, [], _, _, _, _ => by simp only [D.pyds, D.eqvs, PyData.eqvAll]
  | x :: r, y :: t, k, l, h, h' => by
    rw [D.dats, Bool.and_eq_true] at h h'
    simp only [D.pyds, D.eqvs, PyData.eqvAll]
    rw [D.eqv_py h.1 h'.1, D.eqvs_py h.2 h'.2]
end

/-! ### operators -/
def Bop.op : Bop → Operator
  | .add => .Add
  | .sub => .Sub
  | .mul => .Mult
  | .fdiv => .FloorDiv
  | .mod => .Mod
  | .shl => .LShift
  | .shr => .RShift
  | .band => .BitAnd
  | .bxor => .BitXor
  | .bor => .BitOr
  | .pow => .Pow
def Cop.op : Cop → CmpOp
  | .eq => .Eq
  | .ne => .NotEq
  | .lt => .Lt
  | .le => .LtE
  | .gt => .Gt
  | .ge => .GtE
  | .inn => .In
  | .nin => .NotIn
section
variable {X : Cx}
/-- whole numbers -/
theorem iop_ok {o : Bop} {i j r : Int} (h : iop o i j = some r) : OpR X (binaryOp o.op) (fun x y H Q => x = .int i ∧ y = .int j ∧ Q (.int r) H) := by
  intro pins s σ H x y v u Q I rx ry ⟨hx, hy, q⟩
  subst hx hy
  cases o with
  | add => cases h; exact op_add pins s σ H _ _ v u Q I rx ry ⟨i, j, rfl, rfl, q⟩
  | sub => cases h; exact op_sub pins s σ H _ _ v u Q I rx ry ⟨i, j, rfl, rfl, q⟩
  | mul =>
    simp only [iop] at h
    split at h
    · rename_i c; cases h
      exact op_mulW pins s σ H _ _ v u Q I rx ry ⟨i, j, rfl, rfl, wide_mul c.1 c.2 (by decide) (by decide) (by decide), q⟩
    · cases h
  | fdiv =>
    simp only [iop] at h
    split at h
    · rename_i c; cases h
      exact op_fdivW pins s σ H _ _ v u Q I rx ry ⟨i, j, rfl, rfl, wide_div c.1 c.2 (by decide) (by decide), q⟩
    · cases h
  | mod =>
    simp only [iop] at h
    split at h
    · rename_i c; cases h
      exact op_mod pins s σ H _ _ v u Q I rx ry ⟨i, j, rfl, rfl, c, q⟩
    · cases h
  | shl =>
    simp only [iop] at h
    split at h
    · rename_i c; cases h
      exact op_shl pins s σ H _ _ v u Q I rx ry ⟨i, j, rfl, rfl, c, q⟩
    · cases h
  | shr =>
    simp only [iop] at h
    split at h
    · rename_i c; cases h
      exact op_shr pins s σ H _ _ v u Q I rx ry ⟨i, j, rfl, rfl, c, q⟩
    · cases h
  | band => cases h; exact op_and pins s σ H _ _ v u Q I rx ry ⟨i, j, rfl, rfl, q⟩
  | bxor => cases h; exact op_xor pins s σ H _ _ v u Q I rx ry ⟨i, j, rfl, rfl, q⟩
  | bor => cases h; exact op_or pins s σ H _ _ v u Q I rx ry ⟨i, j, rfl, rfl, q⟩
  | pow =>
    simp only [iop] at h
    split at h
    · rename_i c; cases h
      exact op_pow pins s σ H _ _ v u Q I rx ry ⟨i, j, rfl, rfl, c, q⟩
    · cases h
end
section
variable {G : Wd} {bs : List Nat} {S : Sto} {X : Cx} {ρ : List Addr} {H : Hp}
/-- what is told of an answer d in the store S -/
def Tld (G : Wd) (bs : List Nat) (ρ : List Addr) (H : Hp) (S : Sto) (d : D) (Q : VK) : Prop := ∀ ρ' H', Nx ρ H ρ' H' → StOk G bs ρ' S H' → ∀ v, Rp G ρ' H' d v → Q v H'
theorem Tld.at_ {d : D} {Q : VK} (t : Tld G bs ρ H S d Q) (s : StOk G bs ρ S H) {v : V} (r : Rp G ρ H d v) : Q v H := t ρ H .refl s v r
theorem Tld.new {d : D} {Q : VK} (t : Tld G bs ρ H S d Q) (s : StOk G bs ρ S H) {p : Addr} {o : HO} (hp : H p = none) (r : Rp G ρ (upd H p o) d (.ref p)) : Q (.ref p) (upd H p o) := t ρ _ (Nx.new hp) (s.new hp) _ r
theorem lim_le {n : Nat} (h : n ≤ lim) : n ≤ sizeLine := Nat.le_of_lt (Nat.lt_of_le_of_lt h lim_line)
theorem vop_ok {o : Bop} {a b r : D} (h : vop o a b = some r) :
    OpR X (binaryOp o.op) (fun x y H Q => ∃ ρ, StOk G bs ρ S H ∧ Vw G ρ H a x ∧ Vw G ρ H b y ∧ Tld G bs ρ H S r Q) := by
  intro pins s σ H x y v u Q I rx ry ⟨ρ, st, wx, wy, t⟩
  unfold vop at h
  split at h
  · -- ints
    rename_i i j
    cases wx; cases wy
    cases e : iop o i j with
    | none => rw [e] at h; cases h
    | some k =>
      rw [e] at h
      cases h
      exact iop_ok e pins s σ H _ _ v u Q I rx ry ⟨rfl, rfl, t.at_ st (.int _)⟩
  · -- tuples
    rename_i xs ys
    split at h
    · split at h
      · rename_i c
        cases h
        cases wx with | tup e1 r1 => cases wy with | tup e2 r2 =>
        refine op_catA pins s σ H _ _ v u Q I rx ry ⟨_, _, _, _, rfl, rfl, .of e1, .of e2, lim_le (by rw [← r1.length, ← r2.length]; exact c), fun z => ?_, fun _ z => ?_, fun _ _ p hp => ?_⟩
        · subst z
          cases r1
          exact t.at_ st (.tup e2 r2)
        · subst z
          cases r2
          exact t.at_ st (.tup e1 (by rw [List.append_nil]; exact r1))
        · exact t.new st hp (st.newTup hp (r1.append r2))
      · cases h
    · cases h
  · rename_i xs ys
    split at h
    · split at h
      · rename_i c
        cases h
        cases wx with | lst e1 r1 => cases wy with | lst e2 r2 =>
        exact op_cat pins s σ H _ _ v u Q I rx ry ⟨_, _, _, _, rfl, rfl, e1, e2, lim_le (by rw [← r1.length, ← r2.length]; exact c), fun p hp => t.new st hp (st.newLst hp (r1.append r2))⟩
      · cases h
    · cases h
  · rename_i xs k
    split at h
    · split at h
      · rename_i c
        cases h
        cases wx with | tup e1 r1 => cases wy with | int =>
        refine op_repT pins s σ H _ _ v u Q I rx ry ⟨_, _, _, rfl, rfl, .of e1, ?_, c.2.1, c.2.2, ?_, fun p hp => t.new st hp (st.newTup hp (r1.flat _))⟩
        · intro z
          subst z
          cases r1
          simp at c
        · rw [← r1.length, c.1]; decide
      · cases h
    · cases h
  · rename_i xs k
    split at h
    · split at h
      · rename_i c
        cases h
        cases wx with | lst e1 r1 => cases wy with | int =>
        refine op_rep pins s σ H _ _ v u Q I rx ry ⟨_, _, _, rfl, rfl, e1, by omega, by omega, ?_, fun p hp => t.new st hp (st.newLst hp (r1.flat _))⟩
        rw [← r1.length]
        refine lim_le (Nat.le_trans (Nat.mul_le_mul c.2.2 (show k.toNat ≤ 1000 by omega)) (by decide))
      · cases h
    · cases h
  · cases h
theorem Rps.flatAll : ∀ {ds : List D} {vs : List V}, Rps G ρ H ds vs → ds.all D.flat = true → vs.all flatV = true
  | _, _, .nil, _ => rfl
  | _, _, .cons h t, q => by
    rw [List.all_cons, Bool.and_eq_true] at q ⊢
    exact ⟨by cases h <;> first | rfl | simp [D.flat] at q, Rps.flatAll t q.2⟩
theorem Vw.flat {d : D} {v : V} (w : Vw G ρ H d v) (h : d.flat = true) : flatV v = true := by
  cases w <;> first | rfl | simp [D.flat] at h
theorem flat_eqV {d e : D} {v u : V} (w : Rp G ρ H d v) (z : Vw G ρ H e u) (h : d.flat = true) (h' : e.flat = true) : eqV v u = D.eqv d e := by
  cases w <;> simp [D.flat] at h <;> cases z <;> simp [D.flat] at h' <;> rfl
theorem inAny_V {d : D} {v : V} (z : Vw G ρ H d v) (h : d.flat = true) : ∀ {ds : List D} {vs : List V}, Rps G ρ H ds vs → ds.all D.flat = true → L2.inV v vs = inAny d ds
  | _, _, .nil, _ => rfl
  | _, _, .cons w t, q => by
    rw [List.all_cons, Bool.and_eq_true] at q
    unfold L2.inV inAny
    rw [List.any_cons, List.any_cons, flat_eqV w z q.1 h]
    exact congrArg _ (inAny_V z h t q.2)
theorem inAny_py {d : D} (h : D.dat 8 d = true) : ∀ {ds : List D}, D.dats 8 ds = true → ((D.pyds ds).any fun z => PyData.eqv z d.pyd) = inAny d ds
  | [], _ => rfl
  | x :: r, q => by
    rw [D.dats, Bool.and_eq_true] at q
    unfold inAny
    rw [D.pyds, List.any_cons, List.any_cons, D.eqv_py q.1 h]
    exact congrArg _ (inAny_py h q.2)
theorem dInts_V : ∀ {xs : List D} {ns : List Int} {vs : List V}, dInts xs = some ns → Rps G ρ H xs vs → vs = ns.map V.int
  | [], _, _, h, .nil => by cases h; rfl
  | x :: r, ns, _, h, .cons w t => by
    cases x <;> try (simp [dInts] at h; done)
    simp only [dInts] at h
    cases e : dInts r with
    | none => rw [e] at h; cases h
    | some ms =>
      rw [e] at h
      cases h
      cases w
      rw [dInts_V e t]
      rfl
theorem dBls_V : ∀ {xs : List D} {ns : List Bool} {vs : List V}, dBls xs = some ns → Rps G ρ H xs vs → vs = ns.map V.bl
  | [], _, _, h, .nil => by cases h; rfl
  | x :: r, ns, _, h, .cons w t => by
    cases x <;> try (simp [dBls] at h; done)
    simp only [dBls] at h
    cases e : dBls r with
    | none => rw [e] at h; cases h
    | some ms =>
      rw [e] at h
      cases h
      cases w
      rw [dBls_V e t]
      rfl
theorem vcmp_ok (hu : X.A.units + 65 < cLine) {o : Cop} {a b : D} {r : Bool} (h : vcmp o a b = some r) :
    OpR X (compareOp o.op) (fun x y H Q => ∃ ρ, StOk G bs ρ S H ∧ Vw G ρ H a x ∧ Vw G ρ H b y ∧ Q (.bl r) H) := by
  intro pins s σ H x y v u Q I rx ry ⟨ρ, st, wx, wy, t⟩
  have inn : ∀ {r : Bool} (neg : Bool), inV a b = some r → Q (.bl (if neg then !r else r)) H → wpAny (model X.prog X.w) X.A (compareOp (if neg then .NotIn else .In) v u) (EP X pins σ Q) X.xe s := by
    clear h
    intro r neg h t
    unfold inV at h
    split at h
    · split at h
      · rename_i ys c
        cases h
        cases wy with | lst e2 r2 =>
        have dl : D.dat 9 (.lst ys) = true := by rw [D.dat]; exact c.2
        cases neg with
        | false => exact op_inD hu pins s σ H _ _ v u Q I rx ry ⟨_, _, wx.dp c.1, .lst (.of e2) (r2.dp c.2), D.dat_shaped c.1 (by decide), by rw [← D.pyd]; exact D.dat_shaped dl (by decide), by rw [inAny_py c.1 c.2]; exact t⟩
        | true => exact op_notInD hu pins s σ H _ _ v u Q I rx ry ⟨_, _, wx.dp c.1, .lst (.of e2) (r2.dp c.2), D.dat_shaped c.1 (by decide), by rw [← D.pyd]; exact D.dat_shaped dl (by decide), by rw [inAny_py c.1 c.2]; exact t⟩
      · cases h
    · split at h
      · rename_i ys c
        cases h
        cases wy with | tup e2 r2 =>
        have q := inAny_V wx c.1 r2 c.2
        cases neg with
        | false => exact op_in_seq pins s σ H _ _ v u Q I rx ry ⟨_, _, rfl, .inr (.of e2), wx.flat c.1, r2.flatAll c.2, by rw [q]; exact t⟩
        | true => exact op_notIn_seq pins s σ H _ _ v u Q I rx ry ⟨_, _, rfl, .inr (.of e2), wx.flat c.1, r2.flatAll c.2, by rw [q]; exact t⟩
      · cases h
    · cases h
  have hu' : X.A.units + 64 < cLine := by omega
  unfold vcmp at h
  split at h
  · split at h
    · rename_i c
      cases h
      exact op_eqD hu' pins s σ H _ _ v u Q I rx ry ⟨_, _, wx.dp c.1, wy.dp c.2, D.dat_shaped c.1 (by decide), D.dat_shaped c.2 (by decide), by rw [D.eqv_py c.1 c.2]; exact t⟩
    · cases h
  · split at h
    · rename_i c
      cases h
      exact op_neD hu' pins s σ H _ _ v u Q I rx ry ⟨_, _, wx.dp c.1, wy.dp c.2, D.dat_shaped c.1 (by decide), D.dat_shaped c.2 (by decide), by rw [D.eqv_py c.1 c.2]; exact t⟩
    · cases h
  · exact inn false h t
  · cases e : inV a b with
    | none => rw [e] at h; cases h
    | some k => rw [e] at h; cases h; exact inn true e t
  · split at h
    · rename_i i j
      cases h
      cases wx; cases wy
      cases o with
      | eq => rename_i h1 _ _ _; exact absurd rfl h1
      | ne => rename_i _ h1 _ _; exact absurd rfl h1
      | inn => rename_i _ _ h1 _; exact absurd rfl h1
      | nin => rename_i _ _ _ h1; exact absurd rfl h1
      | lt => exact op_lt pins s σ H _ _ v u Q I rx ry ⟨i, j, rfl, rfl, t⟩
      | le => exact op_le pins s σ H _ _ v u Q I rx ry ⟨i, j, rfl, rfl, t⟩
      | gt => exact op_gt pins s σ H _ _ v u Q I rx ry ⟨i, j, rfl, rfl, t⟩
      | ge => exact op_ge pins s σ H _ _ v u Q I rx ry ⟨i, j, rfl, rfl, t⟩
    · split at h
      · split at h
        · rename_i e1 e2
          cases h
          cases wx with | tup f1 r1 => cases wy with | tup f2 r2 =>
          have g1 := dInts_V e1 r1
          have g2 := dInts_V e2 r2
          subst g1 g2
          exact op_ltT (by omega) pins s σ H _ _ v u Q I rx ry ⟨_, _, _, _, rfl, rfl, .of f1, .of f2, t⟩
        · cases h
      · cases h
    · cases h
end
end Ev


set_option maxHeartbeats 200000
set_option Elab.async false
set_option maxRecDepth 100000
set_option maxHeartbeats 1000000
/-! Expressions, one by one. -/
namespace Ev
open PySem PySem.Spec PyProof.Rows L2

/-- a state of the frame -/
structure Fs (G : Wd) (gn : Gn) (bs : List Nat) (ρ : List Addr) (S : Sto) (H : Hp) (env : Env) (σ : L2.St) : Prop where
  st : StOk G bs ρ S H
  ce : CfE G ρ H env σ
  tb : TabsOk G gn H
abbrev KQ (G : Wd) (Q : VK) : D → Sto → List Addr → Hp → Prop := fun d _ ρ' H' => ∀ v, Rp G ρ' H' d v → Q v H'
abbrev KQs (G : Wd) (Q : List V → Hp → Prop) : List D → Sto → List Addr → Hp → Prop := fun ds _ ρ' H' => ∀ vs, Rps G ρ' H' ds vs → Q vs H'
section
variable {T : Tb} {G : Wd} {gn : Gn} {bs : List Nat} {W : WX} {k : Nat} {X : Cx} {ρ ρ' : List Addr} {S S' : Sto} {H H' : Hp} {env : Env} {σ : L2.St} {α β : Type}
theorem Fs.next (f : Fs G gn bs ρ S H env σ) (x : Nx ρ H ρ' H') (s : StOk G bs ρ' S' H') : Fs G gn bs ρ' S' H' env σ := ⟨s, f.ce.mono x f.st.apt, f.tb.mono x⟩
theorem Fs.tE (f : Fs G gn bs ρ S H env σ) {ev : EF} {Q : VK} (h : Sat G bs W σ ρ H (ev env S) (KQ G Q)) : Ev.tE G gn bs W ev σ H Q := ⟨ρ, S, env, f.st, f.ce, f.tb, h⟩
theorem Fs.tEs (f : Fs G gn bs ρ S H env σ) {ev : Env → Sto → R (List D)} {Q : List V → Hp → Prop} (h : Sat G bs W σ ρ H (ev env S) (KQs G Q)) : Ev.tEs G gn bs W ev σ H Q := ⟨ρ, S, env, f.st, f.ce, f.tb, h⟩
theorem Fs.tB (f : Fs G gn bs ρ S H env σ) {ev : EF} {Q : Bool → Hp → Prop} (h : Sat G bs W σ ρ H (ev env S) (fun d _ _ H' => ∃ b, d = .bl b ∧ Q b H')) : Ev.tB G gn bs W ev σ H Q := ⟨ρ, S, env, f.st, f.ce, f.tb, h⟩
/-- first a value, then the rest -/
theorem Fs.seq (f : Fs G gn bs ρ S H env σ) {ev : EF} {g : D → Sto → R β} {K : β → Sto → List Addr → Hp → Prop} {Q : VK} (h : Sat G bs W σ ρ H (bnd (ev env S) g) K)
    (q : ∀ d S1 ρ1 H1 v, Nx ρ H ρ1 H1 → Fs G gn bs ρ1 S1 H1 env σ → Rp G ρ1 H1 d v → Sat G bs W σ ρ1 H1 (g d S1) K → Q v H1) : Ev.tE G gn bs W ev σ H Q :=
  f.tE (h.bnd.imp fun d S1 ρ1 H1 x s h2 v r => q d S1 ρ1 H1 v x (f.next x s) r h2)
theorem Fs.seqs (f : Fs G gn bs ρ S H env σ) {ev : Env → Sto → R (List D)} {g : List D → Sto → R β} {K : β → Sto → List Addr → Hp → Prop} {Q : List V → Hp → Prop} (h : Sat G bs W σ ρ H (bnd (ev env S) g) K)
    (q : ∀ d S1 ρ1 H1 v, Nx ρ H ρ1 H1 → Fs G gn bs ρ1 S1 H1 env σ → Rps G ρ1 H1 d v → Sat G bs W σ ρ1 H1 (g d S1) K → Q v H1) : Ev.tEs G gn bs W ev σ H Q :=
  f.tEs (h.bnd.imp fun d S1 ρ1 H1 x s h2 v r => q d S1 ρ1 H1 v x (f.next x s) r h2)
theorem Fs.seqB (f : Fs G gn bs ρ S H env σ) {ev : EF} {g : D → Sto → R β} {K : β → Sto → List Addr → Hp → Prop} {Q : Bool → Hp → Prop} (h : Sat G bs W σ ρ H (bnd (ev env S) g) K)
    (q : ∀ d S1 ρ1 H1, Nx ρ H ρ1 H1 → Fs G gn bs ρ1 S1 H1 env σ → Sat G bs W σ ρ1 H1 (g d S1) K → ∃ b, d = .bl b ∧ Q b H1) : Ev.tB G gn bs W ev σ H Q :=
  f.tB (h.bnd.imp fun d S1 ρ1 H1 x s h2 => q d S1 ρ1 H1 x (f.next x s) h2)
theorem Fs.done (f : Fs G gn bs ρ S H env σ) {d : D} {v : V} {Q : VK} (h : Sat G bs W σ ρ H (.ok d S) (KQ G Q)) (r : Rp G ρ H d v) : Q v H := h.here f.st v r
theorem Fs.new (f : Fs G gn bs ρ S H env σ) {d : D} {p : Addr} {o : HO} {Q : VK} (h : Sat G bs W σ ρ H (.ok d S) (KQ G Q)) (hp : H p = none) (r : Rp G ρ (upd H p o) d (.ref p)) : Q (.ref p) (upd H p o) := h.at_ (Nx.new hp) (f.st.new hp) _ r
theorem Sat.tld {d : D} {Q : VK} (h : Sat G bs W σ ρ H (.ok d S) (KQ G Q)) : Tld G bs ρ H S d Q := fun ρ' H' x s v r => h.at_ x s v r

variable {T : Tb} {k : Nat} {b₀ : Nat}
/-! ### leaves -/
theorem pe_loc {i : Nat} {x : Str} {pos : Pos} (hN : X.N[i]? = some x) (hv : Vis X.env.scope x) (hd : (x == ("__debug__" : Str)) = false) (hcd : (x == ("__classdict__" : Str)) = false) {cf} : PE X (.Name x pos) (tE G gn bs W (evE T cf b₀ (.loc i))) :=
  (L2.pe_var hN hv hd hcd).imp fun σ H Q ⟨ρ, S, env, st, ce, tb, h⟩ => by
    simp only [evE] at h
    split at h
    · rename_i d e
      obtain ⟨v, e2, r⟩ := ce.at_ i d e
      exact ⟨v, e2, h.here st v r⟩
    · exact h.elim
theorem pe_c {e : Expr} {d : D} {v : V} (he : PE X e (tC v)) (hr : ∀ ρ H, Rp G ρ H d v) : PE X e (tE G gn bs W (fun _ S => .ok d S)) :=
  he.imp fun σ H Q ⟨ρ, S, env, st, ce, tb, h⟩ => h.here st v (hr ρ H)
/-! ### two values -/
theorem pe_2 {op : Operator} {a b : Expr} {ea eb : EF} {g : D → D → Sto → R D} {r : R2} {pos : Pos} (ho : OpR X (binaryOp op) r) (ha : PE X a (tE G gn bs W ea)) (hb : PE X b (tE G gn bs W eb))
    (hr : ∀ ρ S H env σ dx dy x y Q, Fs G gn bs ρ S H env σ → Rp G ρ H dx x → Rp G ρ H dy y → Sat G bs W σ ρ H (g dx dy S) (KQ G Q) → r x y H Q) :
    PE X (.BinOp a op b pos) (tE G gn bs W (fun env S => bnd (ea env S) fun x S1 => bnd (eb env S1) fun y S2 => g x y S2)) :=
  (pe_op ho ha hb).imp fun σ H Q ⟨ρ, S, env, st, ce, tb, h⟩ =>
    (Fs.mk st ce tb).seq h fun dx S1 ρ1 H1 x x1 f1 r1 h1 => f1.seq h1 fun dy S2 ρ2 H2 y x2 f2 r2 h2 => hr ρ2 S2 H2 env σ dx dy x y Q f2 (r1.mono x2 f1.st.apt) r2 h2
theorem pe_2c {op : CmpOp} {a b : Expr} {ea eb : EF} {g : D → D → Sto → R D} {r : R2} {pos : Pos} (ho : OpR X (compareOp op) r) (ha : PE X a (tE G gn bs W ea)) (hb : PE X b (tE G gn bs W eb)) (hm : behindInMarks op b = false)
    (hr : ∀ ρ S H env σ dx dy x y Q, Fs G gn bs ρ S H env σ → Rp G ρ H dx x → Rp G ρ H dy y → Sat G bs W σ ρ H (g dx dy S) (KQ G Q) → r x y H Q) :
    PE X (.Compare a [op] [b] pos) (tE G gn bs W (fun env S => bnd (ea env S) fun x S1 => bnd (eb env S1) fun y S2 => g x y S2)) :=
  (pe_cmpR ho ha hb hm).imp fun σ H Q ⟨ρ, S, env, st, ce, tb, h⟩ =>
    (Fs.mk st ce tb).seq h fun dx S1 ρ1 H1 x x1 f1 r1 h1 => f1.seq h1 fun dy S2 ρ2 H2 y x2 f2 r2 h2 => hr ρ2 S2 H2 env σ dx dy x y Q f2 (r1.mono x2 f1.st.apt) r2 h2
theorem pt_2c {op : CmpOp} {a b : Expr} {ea eb : EF} {g : D → D → Sto → R D} {r : R2} {pos : Pos} (ho : OpR X (compareOp op) r) (ha : PE X a (tE G gn bs W ea)) (hb : PE X b (tE G gn bs W eb)) (hm : behindInMarks op b = false)
    (hr : ∀ ρ S H env σ dx dy x y Q, Fs G gn bs ρ S H env σ → Rp G ρ H dx x → Rp G ρ H dy y → Sat G bs W σ ρ H (g dx dy S) (KQ G Q) → r x y H Q) :
    PT X (.Compare a [op] [b] pos) (tB G gn bs W (fun env S => bnd (ea env S) fun x S1 => bnd (eb env S1) fun y S2 => g x y S2)) :=
  (pt_cmpR ho ha hb hm).imp fun σ H Q ⟨ρ, S, env, st, ce, tb, h⟩ =>
    (Fs.mk st ce tb).seq h fun dx S1 ρ1 H1 x x1 f1 r1 h1 => f1.seq h1 fun dy S2 ρ2 H2 y x2 f2 r2 h2 => hr ρ2 S2 H2 env σ dx dy x y _ f2 (r1.mono x2 f1.st.apt) r2 (h2.imp fun d S3 ρ3 H3 _ _ ⟨b, e, q⟩ v r => by
      subst e; cases r; exact ⟨b, rfl, q⟩)
/-- a value that is a bool, as a test -/
theorem pt_of {e : Expr} {ev : EF} (h : PE X e (tE G gn bs W ev)) (he : ∀ whole, isTrue e X.env whole = (do let v ← whole; standAt e.pos; holding [v] (truthy v))) : PT X e (tB G gn bs W ev) :=
  (pt_val h he).imp fun σ H Q ⟨ρ, S, env, st, ce, tb, h⟩ => ⟨ρ, S, env, st, ce, tb, h.imp fun d S1 ρ1 H1 _ _ ⟨b, e, q⟩ v r => by
    subst e; cases r; exact ⟨b, rfl, q⟩⟩
/-! ### and, or, not, if -/
theorem isT_bl {v : D} {k l : Sto → R D} {K : D → Sto → List Addr → Hp → Prop} (h : Sat G bs W σ ρ H (isT v S k l) K) : ∃ b, v = .bl b ∧ Sat G bs W σ ρ H (if b = true then k S else l S) K := by
  unfold isT at h
  split at h
  · exact ⟨true, rfl, h⟩
  · exact ⟨false, rfl, h⟩
  · exact h.elim
theorem pe_andE {a b : Expr} {rest : List Expr} {ea eb : EF} {pos : Pos} (ha : PE X a (tE G gn bs W ea)) (hb : PE X (.BoolOp .And (b :: rest) pos) (tE G gn bs W eb)) :
    PE X (.BoolOp .And (a :: b :: rest) pos) (tE G gn bs W (fun env S => bnd (ea env S) fun x S1 => isT x S1 (fun S2 => eb env S2) (fun S2 => .ok (.bl false) S2))) :=
  (pe_and ha hb).imp fun σ H Q ⟨ρ, S, env, st, ce, tb, h⟩ =>
    (Fs.mk st ce tb).seq h fun dx S1 ρ1 H1 x x1 f1 r1 h1 => by
      obtain ⟨b, rfl, h2⟩ := isT_bl h1
      cases r1
      refine ⟨b, rfl, ?_⟩
      cases b with
      | true => exact f1.tE h2
      | false => exact f1.done h2 (.bl false)
theorem pe_orE {a b : Expr} {rest : List Expr} {ea eb : EF} {pos : Pos} (ha : PE X a (tE G gn bs W ea)) (hb : PE X (.BoolOp .Or (b :: rest) pos) (tE G gn bs W eb)) :
    PE X (.BoolOp .Or (a :: b :: rest) pos) (tE G gn bs W (fun env S => bnd (ea env S) fun x S1 => isT x S1 (fun S2 => .ok (.bl true) S2) (fun S2 => eb env S2))) :=
  (pe_or ha hb).imp fun σ H Q ⟨ρ, S, env, st, ce, tb, h⟩ =>
    (Fs.mk st ce tb).seq h fun dx S1 ρ1 H1 x x1 f1 r1 h1 => by
      obtain ⟨b, rfl, h2⟩ := isT_bl h1
      cases r1
      refine ⟨b, rfl, ?_⟩
      cases b with
      | false => exact f1.tE h2
      | true => exact f1.done h2 (.bl true)
theorem pt_andE {a b : Expr} {rest : List Expr} {ea eb : EF} {pos : Pos} (ha : PT X a (tB G gn bs W ea)) (hb : PT X (.BoolOp .And (b :: rest) pos) (tB G gn bs W eb)) :
    PT X (.BoolOp .And (a :: b :: rest) pos) (tB G gn bs W (fun env S => bnd (ea env S) fun x S1 => isT x S1 (fun S2 => eb env S2) (fun S2 => .ok (.bl false) S2))) :=
  ((pw_and ha ⟨fun wh => hb.run⟩).pt).imp fun σ H Q ⟨ρ, S, env, st, ce, tb, h⟩ =>
    (Fs.mk st ce tb).seqB h fun dx S1 ρ1 H1 x1 f1 h1 => by
      obtain ⟨b, rfl, h2⟩ := isT_bl h1
      refine ⟨b, rfl, ?_⟩
      cases b with
      | true => exact f1.tB h2
      | false => obtain ⟨b, e, q⟩ := h2.here f1.st; cases e; exact q
theorem pt_orE {a b : Expr} {rest : List Expr} {ea eb : EF} {pos : Pos} (ha : PT X a (tB G gn bs W ea)) (hb : PT X (.BoolOp .Or (b :: rest) pos) (tB G gn bs W eb)) :
    PT X (.BoolOp .Or (a :: b :: rest) pos) (tB G gn bs W (fun env S => bnd (ea env S) fun x S1 => isT x S1 (fun S2 => .ok (.bl true) S2) (fun S2 => eb env S2))) :=
  ((pw_or ha ⟨fun wh => hb.run⟩).pt).imp fun σ H Q ⟨ρ, S, env, st, ce, tb, h⟩ =>
    (Fs.mk st ce tb).seqB h fun dx S1 ρ1 H1 x1 f1 h1 => by
      obtain ⟨b, rfl, h2⟩ := isT_bl h1
      refine ⟨b, rfl, ?_⟩
      cases b with
      | false => exact f1.tB h2
      | true => obtain ⟨b, e, q⟩ := h2.here f1.st; cases e; exact q
theorem pe_notE {a : Expr} {ea : EF} {pos : Pos} (ha : PE X a (tE G gn bs W ea)) :
    PE X (.UnaryOp .Not a pos) (tE G gn bs W (fun env S => bnd (ea env S) fun x S1 => (match x with
      | .bl v => .ok (.bl (!v)) S1
      | _ => .bad))) :=
  (pe_not ha).imp fun σ H Q ⟨ρ, S, env, st, ce, tb, h⟩ =>
    (Fs.mk st ce tb).seq h fun dx S1 ρ1 H1 x x1 f1 r1 h1 => by
      split at h1
      · cases r1
        exact ⟨_, rfl, f1.done h1 (.bl _)⟩
      · exact h1.elim
theorem pt_notE {a : Expr} {ea : EF} {pos : Pos} (ha : PT X a (tB G gn bs W ea)) :
    PT X (.UnaryOp .Not a pos) (tB G gn bs W (fun env S => bnd (ea env S) fun x S1 => (match x with
      | .bl v => .ok (.bl (!v)) S1
      | _ => .bad))) :=
  (pt_not ha).imp fun σ H Q ⟨ρ, S, env, st, ce, tb, h⟩ =>
    (Fs.mk st ce tb).seqB h fun dx S1 ρ1 H1 x1 f1 h1 => by
      split at h1
      · obtain ⟨b, e, q⟩ := h1.here f1.st
        cases e
        exact ⟨_, rfl, q⟩
      · exact h1.elim
theorem pe_ifE {c a b : Expr} {ec ea eb : EF} {pos : Pos} (hc : PT X c (tB G gn bs W ec)) (ha : PE X a (tE G gn bs W ea)) (hb : PE X b (tE G gn bs W eb)) :
    PE X (.IfExp c a b pos) (tE G gn bs W (fun env S => bnd (ec env S) fun x S1 => isT x S1 (fun S2 => ea env S2) (fun S2 => eb env S2))) :=
  (pe_ifExp hc ha hb).imp fun σ H Q ⟨ρ, S, env, st, ce, tb, h⟩ =>
    (Fs.mk st ce tb).seqB h fun dx S1 ρ1 H1 x1 f1 h1 => by
      obtain ⟨b, rfl, h2⟩ := isT_bl h1
      refine ⟨b, rfl, ?_⟩
      cases b with
      | true => exact f1.tE h2
      | false => exact f1.tE h2
/-! ### is -/
theorem Rp.isN {d : D} {v : V} (r : Rp G ρ H d v) : isNon d = decide (v = V.non) := by
  cases r <;> simp [isNon]
theorem pe_isnE {a : Expr} {ea : EF} {pos pos' : Pos} {j} (ha : PE X a (tE G gn bs W ea)) : PE X (.Compare a [.Is] [.Constant .none j pos'] pos) (tE G gn bs W (fun env S => bnd (ea env S) fun x S1 => .ok (.bl (isNon x)) S1)) :=
  (pe_cmp (pc_isN ha) (nobehind _ (by decide) (by decide))).imp fun σ H Q ⟨ρ, S, env, st, ce, tb, h⟩ =>
    (Fs.mk st ce tb).seq h fun dx S1 ρ1 H1 x x1 f1 r1 h1 => by
      rw [← r1.isN]
      exact f1.done h1 (.bl _)
theorem pt_isnE {a : Expr} {ea : EF} {pos pos' : Pos} {j} (ha : PE X a (tE G gn bs W ea)) : PT X (.Compare a [.Is] [.Constant .none j pos'] pos) (tB G gn bs W (fun env S => bnd (ea env S) fun x S1 => .ok (.bl (isNon x)) S1)) :=
  (pt_cmp (pc_isN ha) (nobehind _ (by decide) (by decide))).imp fun σ H Q ⟨ρ, S, env, st, ce, tb, h⟩ =>
    (Fs.mk st ce tb).seq h fun dx S1 ρ1 H1 x x1 f1 r1 h1 => by
      rw [← r1.isN]
      obtain ⟨b, e, q⟩ := h1.here f1.st
      cases e
      exact ⟨_, rfl, q⟩
theorem pe_nisnE {a : Expr} {ea : EF} {pos pos' : Pos} {j} (ha : PE X a (tE G gn bs W ea)) : PE X (.Compare a [.IsNot] [.Constant .none j pos'] pos) (tE G gn bs W (fun env S => bnd (ea env S) fun x S1 => .ok (.bl (!isNon x)) S1)) :=
  (pe_cmp (pc_notN ha) (nobehind _ (by decide) (by decide))).imp fun σ H Q ⟨ρ, S, env, st, ce, tb, h⟩ =>
    (Fs.mk st ce tb).seq h fun dx S1 ρ1 H1 x x1 f1 r1 h1 => by
      rw [← r1.isN]
      exact f1.done h1 (.bl _)
theorem pt_nisnE {a : Expr} {ea : EF} {pos pos' : Pos} {j} (ha : PE X a (tE G gn bs W ea)) : PT X (.Compare a [.IsNot] [.Constant .none j pos'] pos) (tB G gn bs W (fun env S => bnd (ea env S) fun x S1 => .ok (.bl (!isNon x)) S1)) :=
  (pt_cmp (pc_notN ha) (nobehind _ (by decide) (by decide))).imp fun σ H Q ⟨ρ, S, env, st, ce, tb, h⟩ =>
    (Fs.mk st ce tb).seq h fun dx S1 ρ1 H1 x x1 f1 r1 h1 => by
      rw [← r1.isN]
      obtain ⟨b, e, q⟩ := h1.here f1.st
      cases e
      exact ⟨_, rfl, q⟩
theorem isb_r {b : Bool} {x y : V} {dx : D} {Q : VK} (f : Fs G gn bs ρ S H env σ) (r : Rp G ρ H dx x) (r2 : y = V.bl b) (h : Sat G bs W σ ρ H (match dx with
      | .bl v => .ok (.bl (decide (v = b))) S
      | _ => .bad) (KQ G Q)) : ∃ a b, x = .bl a ∧ y = .bl b ∧ Q (.bl (decide (a = b))) H := by
  split at h
  · cases r; exact ⟨_, _, rfl, r2, f.done h (.bl _)⟩
  · exact h.elim
theorem pe_isbE {a : Expr} {ea : EF} {b : Bool} {pos pos' : Pos} {j} (ha : PE X a (tE G gn bs W ea)) : PE X (.Compare a [.Is] [.Constant (.bool b) j pos'] pos) (tE G gn bs W (fun env S => bnd (ea env S) fun x S1 => (match x with
      | .bl v => .ok (.bl (decide (v = b))) S1
      | _ => .bad))) :=
  (pe_cmpR op_is_bl ha (pe_bl (b := b)) (nomark _)).imp fun σ H Q ⟨ρ, S, env, st, ce, tb, h⟩ =>
    (Fs.mk st ce tb).seq h fun dx S1 ρ1 H1 x x1 f1 r1 h1 => isb_r f1 r1 rfl h1
theorem pt_isbE {a : Expr} {ea : EF} {b : Bool} {pos pos' : Pos} {j} (ha : PE X a (tE G gn bs W ea)) : PT X (.Compare a [.Is] [.Constant (.bool b) j pos'] pos) (tB G gn bs W (fun env S => bnd (ea env S) fun x S1 => (match x with
      | .bl v => .ok (.bl (decide (v = b))) S1
      | _ => .bad))) :=
  (pt_cmpR op_is_bl ha (pe_bl (b := b)) (nomark _)).imp fun σ H Q ⟨ρ, S, env, st, ce, tb, h⟩ =>
    (Fs.mk st ce tb).seq h fun dx S1 ρ1 H1 x x1 f1 r1 h1 => isb_r (Q := fun x H' => ∃ k, x = V.bl k ∧ Q k H') f1 r1 rfl (h1.imp fun d S3 ρ3 H3 _ _ ⟨b, e, q⟩ v r => by
      subst e; cases r; exact ⟨b, rfl, q⟩)
/-! ### lists of expressions -/
theorem pa_nilE : PA X [] (tEs G gn bs W (fun _ S => .ok [] S)) := pa_nil.imp fun σ H Q ⟨ρ, S, env, st, ce, tb, h⟩ => h.here st [] .nil
theorem pa_consE {e : Expr} {es : List Expr} {ev : EF} {evs : Env → Sto → R (List D)} (h1 : PE X e (tE G gn bs W ev)) (h2 : PA X es (tEs G gn bs W evs)) (hp : plainE e = true) :
    PA X (e :: es) (tEs G gn bs W (fun env S => bnd (ev env S) fun x S1 => bnd (evs env S1) fun xs S2 => .ok (x :: xs) S2)) :=
  (pa_cons h1 h2 (star_of hp)).imp fun σ H Q ⟨ρ, S, env, st, ce, tb, h⟩ =>
    (Fs.mk st ce tb).seq h fun dx S1 ρ1 H1 x x1 f1 r1 h1 => f1.seqs h1 fun dy S2 ρ2 H2 y x2 f2 r2 h2 => h2.here f2.st _ (.cons (r1.mono x2 f1.st.apt) r2)
theorem pe_tupE {es : List Expr} {evs : Env → Sto → R (List D)} {x1} {pos : Pos} (h : PA X es (tEs G gn bs W evs)) (hl : es.length ≤ 1000) (hn : ∀ env S ds S1, evs env S = .ok ds S1 → ds.length = es.length) :
    PE X (.Tuple es x1 pos) (tE G gn bs W (fun env S => bnd (evs env S) fun ds S1 => .ok (.tup ds) S1)) :=
  (pe_tup h).imp fun σ H Q ⟨ρ, S, env, st, ce, tb, h⟩ => by
    have h0 := h
    refine (Fs.mk st ce tb).tEs ?_
    have h2 := h.bnd
    cases e : evs env S with
    | ok ds S1 =>
      rw [e] at h2
      intro ρ1 H1 x1 s1 vs r
      have f1 : Fs G gn bs ρ1 S1 H1 env σ := (Fs.mk st ce tb).next x1 s1
      refine ⟨?_, fun p hp => f1.new (h2 ρ1 H1 x1 s1) hp (f1.st.newTup hp r)⟩
      rw [← r.length, hn _ _ _ _ e]
      exact Nat.le_trans hl (by rw [sizeLine_eq]; decide)
    | err c fs vs S1 => rw [e] at h2; exact h2
    | bad => rw [e] at h2; exact h2.elim
/-! ### subscripts -/
theorem Vw.items (hK : G.K = X.K) {d : D} {v : V} {xs : List D} (w : Vw G ρ H d v) (e : items? d = some xs) : ∃ p vs, v = .ref p ∧ (SqL X.K H p vs ∨ SqT X.K H p vs) ∧ Rps G ρ H xs vs := by
  cases w <;> first | (simp [items?] at e; done) | skip
  · rename_i e1 r
    cases e
    exact ⟨_, _, rfl, .inr (.of e1), r⟩
  · rename_i e1 r
    cases e
    exact ⟨_, _, rfl, .inl (.of e1), r⟩
  · rename_i e1
    cases e
    exact ⟨_, _, rfl, .inl (.inl e1), Rps.ints _⟩
  · rename_i e1
    cases e
    exact ⟨_, _, rfl, .inl (.inr (by rw [← hK]; exact e1)), Rps.ints _⟩
theorem atI_rp {xs : List D} {vs : List V} {i : Int} {d : D} (r : Rps G ρ H xs vs) (e : atI xs i = some d) : ∃ v, atI vs i = some v ∧ Rp G ρ H d v := by
  unfold atI at e ⊢
  rw [r.length] at e
  cases q : ixN vs.length i with
  | none => rw [q] at e; cases e
  | some j =>
    rw [q] at e
    exact r.get e
theorem pe_subE (hK : G.K = X.K) {a b : Expr} {ea eb : EF} {pos : Pos} (ha : PE X a (tE G gn bs W ea)) (hb : PE X b (tE G gn bs W eb)) (hp : plainE b = true) :
    PE X (.Subscript a b pos) (tE G gn bs W (fun env S => bnd (ea env S) fun x S1 => bnd (eb env S1) fun y S2 => (match items? (dr S2 x), y with
      | some xs, .int k => ofO (atI xs k) S2
      | _, _ => .bad))) :=
  (pe_ix ix_seq ha hb (ix_of hp)).imp fun σ H Q ⟨ρ, S, env, st, ce, tb, h⟩ =>
    (Fs.mk st ce tb).seq h fun dx S1 ρ1 H1 x x1 f1 r1 h1 => f1.seq h1 fun dy S2 ρ2 H2 y x2 f2 r2 h2 => by
      have w := (r1.mono x2 f1.st.apt).view f2.st
      split at h2
      · rename_i e1
        obtain ⟨p, vs, rfl, q, rr⟩ := w.items (X := X) hK e1
        obtain ⟨d, e2, h3⟩ := h2.ofO
        obtain ⟨v, e3, rv⟩ := atI_rp rr e2
        cases r2
        rcases q with q | q
        · exact .inl ⟨_, _, _, _, rfl, rfl, q, e3, f2.done h3 rv⟩
        · exact .inr (.inl ⟨_, _, _, _, rfl, rfl, q, e3, f2.done h3 rv⟩)
      · exact h2.elim
/-- a slice's end -/
def tP (G : Wd) (gn : Gn) (bs : List Nat) (W : WX) (ev : Env → Sto → R (Option Int)) : TO := fun σ H Q => ∃ ρ S env, StOk G bs ρ S H ∧ CfE G ρ H env σ ∧ TabsOk G gn H ∧ Sat G bs W σ ρ H (ev env S) (fun o _ _ H' => Q o H')
theorem po_imp {e : Option Expr} {t t' : TO} (h : PO X e t) (k : ∀ σ H Q, t' σ H Q → t σ H Q) : PO X e t' := ⟨fun pins s σ H Q I q => h.run pins s σ H Q I (k σ H Q q)⟩
theorem po_noneE : PO X none (tP G gn bs W (fun _ S => .ok none S)) := po_imp po_none fun σ H Q ⟨ρ, S, env, st, ce, tb, h⟩ => h.here st
theorem po_someE {e : Expr} {ev : EF} (h : PE X e (tE G gn bs W ev)) : PO X (some e) (tP G gn bs W (fun env S => bnd (ev env S) fun x S1 => (match x with
    | .int i => .ok (some i) S1
    | _ => .bad))) :=
  po_imp (po_some h) fun σ H Q ⟨ρ, S, env, st, ce, tb, h⟩ => (Fs.mk st ce tb).seq h fun dx S1 ρ1 H1 x x1 f1 r1 h1 => by
    split at h1
    · cases r1; exact ⟨_, rfl, h1.here f1.st⟩
    · exact h1.elim
theorem Fs.seqP (f : Fs G gn bs ρ S H env σ) {ev : Env → Sto → R (Option Int)} {g : Option Int → Sto → R β} {K : β → Sto → List Addr → Hp → Prop} {Q : Option Int → Hp → Prop} (h : Sat G bs W σ ρ H (bnd (ev env S) g) K)
    (q : ∀ d S1 ρ1 H1, Nx ρ H ρ1 H1 → Fs G gn bs ρ1 S1 H1 env σ → Sat G bs W σ ρ1 H1 (g d S1) K → Q d H1) : tP G gn bs W ev σ H Q :=
  ⟨ρ, S, env, f.st, f.ce, f.tb, h.bnd.imp fun d S1 ρ1 H1 x s h2 => q d S1 ρ1 H1 x (f.next x s) h2⟩
theorem Rps.cut {xs : List D} {vs : List V} (r : Rps G ρ H xs vs) (l h : Option Int) : Rps G ρ H (Ev.cut xs l h) (cutV vs l h) := by
  unfold Ev.cut cutV
  rw [r.length]
  exact (r.drop _).take _
theorem map_cut {α β : Type} (f : α → β) (xs : List α) (n m : Nat) : ((xs.map f).drop n).take m = ((xs.drop n).take m).map f := by
  rw [List.map_take, List.map_drop]
theorem pe_slcE (hK : G.K = X.K) {a : Expr} {lo hi : Option Expr} {ea : EF} {el eh : Env → Sto → R (Option Int)} {pos p2 : Pos} (ha : PE X a (tE G gn bs W ea)) (hl : PO X lo (tP G gn bs W el)) (hh : PO X hi (tP G gn bs W eh)) :
    PE X (.Subscript a (.Slice lo hi none p2) pos) (tE G gn bs W (fun env S => bnd (ea env S) fun x S1 => bnd (el env S1) fun l S2 => bnd (eh env S2) fun h S3 => (match dr S3 x with
      | .tup xs => .ok (.tup (Ev.cut xs l h)) S3
      | .lst xs => .ok (.lst (Ev.cut xs l h)) S3
      | .scr ns => .ok (.lst (Ev.cut (ns.map .int) l h)) S3
      | _ => .bad))) :=
  (pe_slice (SlR.or sl_list sl_tupA) ha hl hh).imp fun σ H Q ⟨ρ, S, env, st, ce, tb, h⟩ =>
    (Fs.mk st ce tb).seq h fun dx S1 ρ1 H1 x x1 f1 r1 h1 => f1.seqP h1 fun l S2 ρ2 H2 x2 f2 h2 => f2.seqP h2 fun u S3 ρ3 H3 x3 f3 h3 => by
      have w := ((r1.mono x2 f1.st.apt).mono x3 f2.st.apt).view f3.st
      split at h3
      · rename_i xs e
        rw [e] at w
        cases w with | tup e1 r =>
        refine .inr ⟨_, _, rfl, .of e1, fun z => ?_, fun z p hp => f3.new h3 hp (f3.st.newTup hp (r.cut l u))⟩
        have : Ev.cut xs l u = xs := by
          unfold Ev.cut
          rw [r.length, z.1, z.2, List.drop_zero, Nat.sub_zero, ← r.length, List.take_length]
        rw [this] at h3
        exact f3.done h3 (.tup e1 r)
      · rename_i xs e
        rw [e] at w
        cases w with | lst e1 r =>
        exact .inl ⟨_, _, rfl, .of e1, fun p hp => f3.new h3 hp (f3.st.newLst hp (r.cut l u))⟩
      · rename_i ns e
        rw [e] at w
        have sq : ∃ a, x = .ref a ∧ SqL X.K H3 a (ns.map V.int) := by
          cases w with
          | scr e1 => exact ⟨_, rfl, .inl e1⟩
          | scrK e1 => exact ⟨_, rfl, .inr (by rw [← hK]; exact e1)⟩
        obtain ⟨a, rfl, sq⟩ := sq
        refine .inl ⟨_, _, rfl, sq, fun p hp => f3.new h3 hp (f3.st.newLst hp ?_)⟩
        exact (Rps.ints ns).cut l u
      · exact h3.elim
end
end Ev


set_option maxHeartbeats 200000
set_option Elab.async false
set_option maxRecDepth 100000
set_option maxHeartbeats 1000000
/-! Fields, calls, makings. -/
namespace Ev
open PySem PySem.Spec PyProof.Rows L2

section
variable {T : Tb} {G : Wd} {gn : Gn} {bs : List Nat} {W : WX} {k : Nat} {X : Cx} {ρ ρ' : List Addr} {S S' : Sto} {H H' : Hp} {env : Env} {σ : L2.St} {α β : Type}
theorem plain_all : ∀ {es : List Expr} {env : PySem.Env}, es.all plainE = true → ∀ pos : Pos, (backTo pos (starEach es env)).any (·.1) = false ∧ (backTo pos (starEach es env)).all (fun x => !x.1) = true
  | [], _, _, _ => ⟨rfl, rfl⟩
  | e :: es, env, h, pos => by
    rw [List.all_cons, Bool.and_eq_true] at h
    rw [star_of h.1]
    obtain ⟨h1, h2⟩ := plain_all (env := env) h.2 pos
    exact ⟨by show (false || (backTo pos (starEach es env)).any (·.1)) = false; rw [h1]; rfl, by show (true && (backTo pos (starEach es env)).all (fun x => !x.1)) = true; rw [h2]; rfl⟩
/-! ### fields -/
theorem lookF_ok (inj : ∀ a b, G.nm a = G.nm b → a = b) {f : Nat} {d : D} : ∀ {fs : List Nat} {vs : List D} {ws : List V}, lookF f fs vs = some d → Rps G ρ H vs ws → ∃ v, ((fs.map G.nm).zip ws).lookup (G.nm f) = some v ∧ Rp G ρ H d v
  | [], _, _, h, _ => by simp [lookF] at h
  | g :: gs, [], _, h, _ => by simp [lookF] at h
  | g :: gs, v :: vs, _, h, .cons (v := w) (vs := ws) r t => by
    rw [lookF] at h
    show ∃ u, (((G.nm g, w)) :: ((gs.map G.nm).zip ws)).lookup (G.nm f) = some u ∧ _
    rw [List.lookup_cons]
    by_cases e : g = f
    · rw [if_pos e] at h
      cases h
      rw [e]
      exact ⟨w, by rw [beq_self_eq_true], r⟩
    · rw [if_neg e] at h
      obtain ⟨u, h1, h2⟩ := lookF_ok inj h t
      refine ⟨u, ?_, h2⟩
      have : (G.nm f == G.nm g) = false := by
        rw [beq_eq_false_iff_ne]
        exact fun z => e (inj _ _ z).symm
      rw [this]
      exact h1
theorem lookF_no (inj : ∀ a b, G.nm a = G.nm b → a = b) {m : Nat} : ∀ {fs : List Nat} {ws : List V}, fs.contains m = false → ((fs.map G.nm).zip ws).lookup (G.nm m) = none
  | [], _, _ => rfl
  | g :: gs, [], _ => rfl
  | g :: gs, w :: ws, h => by
    rw [List.contains_cons, Bool.or_eq_false_iff] at h
    show (((G.nm g, w)) :: ((gs.map G.nm).zip ws)).lookup (G.nm m) = none
    rw [List.lookup_cons]
    have : (G.nm m == G.nm g) = false := by
      rw [beq_eq_false_iff_ne]
      intro z
      have := inj _ _ z
      rw [this, beq_self_eq_true] at h
      exact absurd h.1 (by simp)
    rw [this]
    exact lookF_no inj h.2
theorem pe_fldE (F : Facts T G gn X.K X.mg) {a : Expr} {ea : EF} {f : Nat} {x : Str} {pos : Pos} (ha : PE X a (tE G gn bs W ea)) (hb : baseE a = true) (hx : G.nm f = x) :
    PE X (.Attribute a x pos) (tE G gn bs W (fun env S => bnd (ea env S) fun x S1 => (match dr S1 x with
      | .obj c fs vs => if T.fld c f = true then ofO (lookF f fs vs) S1 else .bad
      | _ => .bad))) :=
  (pe_fld ha (base_of hb)).imp fun σ H Q ⟨ρ, S, env, st, ce, tb, h⟩ =>
    (Fs.mk st ce tb).seq h fun dx S1 ρ1 H1 x x1 f1 r1 h1 => by
      have w := r1.view f1.st
      split at h1
      · rename_i c fs vs e
        rw [e] at w
        split at h1
        · rename_i hf
          obtain ⟨d, e2, h2⟩ := h1.ofO
          cases w with | obj e1 r l =>
          obtain ⟨v, h3, h4⟩ := lookF_ok F.nm e2 r
          obtain ⟨k1, k2⟩ := F.fld _ _ hf
          subst hx
          exact ⟨_, _, _, _, v, rfl, e1, k1, k2, h3, f1.done h2 h4⟩
        · exact h1.elim
      · exact h1.elim
/-! ### calls -/
theorem Sat.cv {σ' : L2.St} {r : R α} {K : α → Sto → List Addr → Hp → Prop} (h : Sat G bs W σ ρ H r K) : Sat G bs (fun c d _ H' => WE W σ c d H') σ' ρ H r K := by
  cases r with
  | ok a S => exact h
  | err c fs vs S => exact h
  | bad => exact h.elim
theorem run_fnRC {CX : CXT} {k : Nat} {f : Addr} {sp : Sp} {E : XK} {Q : VK} {pins : List (Addr × Obj)} {s : Shared} {us : List Value} {vs : List V} (F : FnR X.prog X.w X.K X.mg X.base CX k f sp) (hr : Room k X.A) (hx : PassesAt CX X σ E) (I : Inv X pins σ H s) (r : Vals vs us) (h : sp vs H Q E) :
    codeAny (model X.prog X.w) X.A (.call (.ref f) ⟨us, []⟩) (fun r s' => match r with | .ok (.ret v) => EP X pins σ Q v s' | .ok _ => False | .error e => X.xe e s') s := by
  refine codeAny_mono (F X.A X.stack s H us vs Q E hr I.env0 r h) fun r s' hq => ?_
  cases r with
  | error e => exact hx pins H s e s' I hq
  | ok fl =>
    cases fl with
    | ret u => exact I.after hq
    | next => exact False.elim hq
    | brk => exact False.elim hq
    | cont => exact False.elim hq
theorem run_fnRA {CX : CXT} {k : Nat} {f : Addr} {sp : Sp} {E : XK} {Q : VK} {pins : List (Addr × Obj)} {s : Shared} {us : List Value} {vs : List V} (F : FnR X.prog X.w X.K X.mg X.base CX k f sp) (hr : Room k X.A) (hx : PassesAt CX X σ E) (I : Inv X pins σ H s) (r : Vals vs us) (h : sp vs H Q E) :
    wpAny (model X.prog X.w) X.A (call (.ref f) us) (EP X pins σ Q) X.xe s := by
  refine wpAny_call (codeAny_mono (run_fnRC F hr hx I r h) fun r s' hq => ?_)
  cases r with
  | error e => exact hq
  | ok fl => cases fl <;> first | exact hq | exact hq.elim
theorem Fs.toF (f : Fs G gn bs ρ S H env σ) {g : Nat} {ds : List D} {vs : List V} {Q : VK} (r : Rps G ρ H ds vs) (h : Sat G bs W σ ρ H ((lv T k).1 g ds S) (KQ G Q)) : spF T G gn k g vs H Q (WE W σ) :=
  ⟨G.z, bs, ρ, S, ds, f.st, f.tb, r, h.cv⟩
def tCl (sp : Sp) (E : L2.St → XK) (t : TA) : TE := fun σ H Q => t σ H fun vs H1 => sp vs H1 Q (E σ)
theorem pe_callRA {CX : CXT} {n : Nat} {f : Addr} {sp : Sp} {E : L2.St → XK} {x : Str} {p pos : Pos} {e : Expr} {es : List Expr} {t : TA} (F : FnR X.prog X.w X.K X.mg X.base CX n f sp) (hr : Room n X.A) (hk : PySem.W.keepIn X.K (.ref f) = true) (hg : Gl X x) (hm : X.mg x = some (.ref f)) (hx : ∀ σ, PassesAt CX X σ (E σ)) (ha : PA X (e :: es) t) (hdb : (x == ("__debug__" : Str)) = false) (hp : (e :: es).all plainE = true) :
    PE X (.Call (.Name x p) (e :: es) [] pos) (tCl sp E t) := by
  refine ⟨fun pins s σ H Q I h => ?_⟩
  rw [List.all_cons, Bool.and_eq_true] at hp
  refine wpAny_Call_Name_kw (ld_glob I hg hm ?_ hdb)
  refine PySem.W.callWith_K (h₀ := X.base) I.ok.mod.kin hk (thn (ha.run pos pins s σ H _ I h) fun us s1 ⟨vs, H1, I1, r, q⟩ => ⟨I1.kIn, ?_⟩) (star_of hp.1) (plain_all hp.2 pos).1
  exact run_fnRA F hr (hx σ) I1 r q
theorem pe_callE (C : XC T G gn k X W) {f : Nat} {fn : Fn} {x : Str} {p pos : Pos} {e : Expr} {es : List Expr} {evs : Env → Sto → R (List D)} (hf : T.fns f = some fn) (hn : gn.fnm f = some x) (hg : Gl X x) (hdb : (x == ("__debug__" : Str)) = false)
    (ha : PA X (e :: es) (tEs G gn bs W evs)) (hp : (e :: es).all plainE = true) : PE X (.Call (.Name x p) (e :: es) [] pos) (tE G gn bs W (fun env S => bnd (evs env S) fun ds S1 => (lv T k).1 f ds S1)) :=
  (pe_callRA (C.fns f fn hf) (C.room.mono (by omega)) (C.F.fn f x hn).2 hg (C.F.fn f x hn).1 (passAt C.tk) ha hdb hp).imp fun σ H Q ⟨ρ, S, env, st, ce, tb, h⟩ =>
    (Fs.mk st ce tb).seqs h fun dx S1 ρ1 H1 x x1 f1 r1 h1 => f1.toF r1 h1
/-! ### pure values, elsewhere -/
mutual
theorem Rp.into {z : List Addr} {ρ₁ : List Addr} {H₁ : Hp} (hz : z = G.z ++ ρ) (hk : ∀ a o, H a = some o → a ∉ ρ → (∀ ps, o ≠ .tbl ps) → H₁ a = some o) (hf : ∀ a ∈ ρ₁, H a = none) (ap : Apt ρ H) : ∀ {d : D} {v : V}, Rp G ρ H d v → d.pure = true → Rp (G.at_ z) ρ₁ H₁ d v
  | _, _, .non, _ => .non
  | _, _, .bl b, _ => .bl b
  | _, _, .int i, _ => .int i
  | _, _, .str x, _ => .str x
  | _, _, .tup e r, h => .tup (hk _ _ e (ap.no _ _ e) (by intro ps q; cases q)) (Rps.into hz hk hf ap r (by simpa only [D.pure] using h))
  | _, _, .lst e n m r, h => .lst (hk _ _ e n (by intro ps q; cases q)) (fun q => by rw [hf _ q] at e; cases e) (by rw [hz]; exact fun q => (List.mem_append.mp q).elim m n) (Rps.into hz hk hf ap r (by simpa only [D.pure] using h))
  | _, _, .obj e n m r l, h => .obj (hk _ _ e n (by intro ps q; cases q)) (fun q => by rw [hf _ q] at e; cases e) (by rw [hz]; exact fun q => (List.mem_append.mp q).elim m n) (Rps.into hz hk hf ap r (by simpa only [D.pure] using h)) l
  | _, _, .ref _, h => by simp [D.pure] at h
  | _, _, .fn f, _ => .fn f
  | _, _, .cls c, _ => .cls c
  | _, _, .scrK e, _ => .scrK e
  | _, _, .scr e n m, _ => .scr (by
    rcases e with e | ⟨o, e⟩
    · exact .inl (hk _ _ e n (by intro ps q; cases q))
    · exact .inr ⟨o, hk _ _ e n (by intro ps q; cases q)⟩) (fun q => by
    rcases e with e | ⟨o, e⟩
    · rw [hf _ q] at e; cases e
    · rw [hf _ q] at e; cases e) (by rw [hz]; exact fun q => (List.mem_append.mp q).elim m n)
theorem Rps.into {z : List Addr} {ρ₁ : List Addr} {H₁ : Hp} (hz : z = G.z ++ ρ) (hk : ∀ a o, H a = some o → a ∉ ρ → (∀ ps, o ≠ .tbl ps) → H₁ a = some o) (hf : ∀ a ∈ ρ₁, H a = none) (ap : Apt ρ H) : ∀ {ds : List D} {vs : List V}, Rps G ρ H ds vs → D.pures ds = true → Rps (G.at_ z) ρ₁ H₁ ds vs
  | _, _, .nil, _ => .nil
  | _, _, .cons h t, q => by
    rw [D.pures, Bool.and_eq_true] at q
    exact .cons (Rp.into hz hk hf ap h q.1) (Rps.into hz hk hf ap t q.2)
end
mutual
theorem Rp.out {z : List Addr} {ρ₁ : List Addr} (hz : z = G.z ++ ρ) : ∀ {d : D} {v : V}, Rp (G.at_ z) ρ₁ H d v → d.pure = true → Rp G ρ H d v
  | _, _, .non, _ => .non
  | _, _, .bl b, _ => .bl b
  | _, _, .int i, _ => .int i
  | _, _, .str x, _ => .str x
  | _, _, .tup e r, h => .tup e (Rps.out hz r (by simpa only [D.pure] using h))
  | _, _, .lst e n m r, h => .lst e (fun q => m (by show _ ∈ z; rw [hz]; exact List.mem_append_right _ q)) (fun q => m (by show _ ∈ z; rw [hz]; exact List.mem_append_left _ q)) (Rps.out hz r (by simpa only [D.pure] using h))
  | _, _, .obj e n m r l, h => .obj e (fun q => m (by show _ ∈ z; rw [hz]; exact List.mem_append_right _ q)) (fun q => m (by show _ ∈ z; rw [hz]; exact List.mem_append_left _ q)) (Rps.out hz r (by simpa only [D.pure] using h)) l
  | _, _, .ref _, h => by simp [D.pure] at h
  | _, _, .fn f, _ => .fn f
  | _, _, .cls c, _ => .cls c
  | _, _, .scrK e, _ => .scrK e
  | _, _, .scr e n m, _ => .scr e (fun q => m (by show _ ∈ z; rw [hz]; exact List.mem_append_right _ q)) (fun q => m (by show _ ∈ z; rw [hz]; exact List.mem_append_left _ q))
theorem Rps.out {z : List Addr} {ρ₁ : List Addr} (hz : z = G.z ++ ρ) : ∀ {ds : List D} {vs : List V}, Rps (G.at_ z) ρ₁ H ds vs → D.pures ds = true → Rps G ρ H ds vs
  | _, _, .nil, _ => .nil
  | _, _, .cons h t, q => by
    rw [D.pures, Bool.and_eq_true] at q
    exact .cons (Rp.out hz h q.1) (Rps.out hz t q.2)
end
/-- what is outside stays while another frame works -/
theorem StOk.stay {ρ₁ ρ₂ : List Addr} {H₁ H₂ : Hp} (s : StOk G bs ρ S H) (h1 : ∀ a o, H a = some o → H₁ a = some o) (x : Nx ρ₁ H₁ ρ₂ H₂) (hf : ∀ a ∈ ρ₁, H a = none) (hd : ∀ a, H₁ a = none → H a = none) (ht : ∀ P, GxR.TabG H P → GxR.TabG H₁ P) : StOk G bs ρ S H₂ ∧ Nx ρ H ρ H₂ := by
  have kp : ∀ a o, H a = some o → (∀ ps, o ≠ .tbl ps) → H₂ a = some o := fun a o e t => x.keep a o (h1 a o e) (fun q => by rw [hf a q] at e; cases e) t
  have N : Nx ρ H ρ H₂ := ⟨⟨[], by simp, fun p hp => by simp at hp⟩, fun a o e _ t => kp a o e t, fun a e => hd a (x.dom a e), fun P t => x.tab P (ht P t)⟩
  refine ⟨⟨s.len, s.nd, fun n a d e1 e2 => ?_, s.low, s.base, fun a ha => ?_⟩, N⟩
  · have c := s.at_ n a d e1 e2
    refine c.mono N s.apt fun o e => kp a o e fun ps q => ?_
    cases c with
    | lst e' => rw [e] at e'; cases e'; cases q
    | obj e' => rw [e] at e'; cases e'; cases q
  · obtain ⟨⟨o, e⟩, n⟩ := s.out a ha
    refine ⟨?_, n⟩
    by_cases q : ∃ ps, o = .tbl ps
    · cases e2 : H₂ a with
      | none => exact absurd (hd a (x.dom a e2)) (by rw [e]; simp)
      | some u => exact ⟨u, rfl⟩
    · exact ⟨o, kp a o e fun ps z => q ⟨ps, z⟩⟩
/-! ### makings -/
theorem run_makeRA {CX : CXT} {k : Nat} {f C : Addr} {sp : Sp} {E : XK} {pins : List (Addr × Obj)} {s : Shared} {Q : VK} {us : List Value} {vs : List V} (M : Mk X.K C f) (F : FnR X.prog X.w X.K X.mg X.base CX k f sp) (hr : Room (k + 1) X.A) (hx : PassesAt CX X σ E) (I : Inv X pins σ H s) (r : Vals vs us)
    (h : ∀ x dx, H x = Option.none → H dx = Option.none → dx ≠ x → sp (V.ref x :: vs) (upd (upd H dx (.own x)) x (.ins C dx [])) (fun v H2 => v = .non ∧ Q (.ref x) H2) E) :
    wpAny (model X.prog X.w) X.A (call (.ref C) us) (EP X pins σ Q) X.xe s := by
  have hq := h (s.heap.objs.size + 1) s.heap.objs.size (I.hok.fresh (Nat.le_succ _)) (I.hok.fresh (Nat.le_refl _)) (Nat.ne_of_lt (Nat.lt_succ_self _))
  have I2 := Inv.made (C := C) I
  have r2 : Vals (V.ref (s.heap.objs.size + 1) :: vs) (Value.ref (s.heap.objs.size + 1) :: us) := .cons rfl r
  refine wpAny_call (make_map (f := f) I.kIn M.makes M.init (beq_iff_eq.mp M.fn) (codeAny_mono (F _ X.stack _ _ (Value.ref (s.heap.objs.size + 1) :: us) _ _ E (hr.make C us []) (I2.env0.make C us []) r2 hq) fun r s' hq' => ?_))
  cases r with
  | error e => exact hx pins _ _ e s' I2 hq'
  | ok fl =>
    cases fl with
    | ret u =>
      obtain ⟨v, H', I3, rv, ev, q3⟩ := I2.after hq'
      subst ev
      exact ⟨rv, ⟨V.ref (s.heap.objs.size + 1), H', I3, rfl, q3⟩⟩
    | next => exact False.elim hq'
    | brk => exact False.elim hq'
    | cont => exact False.elim hq'
/-- the promise of the __init__ -/
theorem Fs.spMk (f : Fs G gn bs ρ S H env σ) {c g : Nat} {ds : List D} {vs : List V} {Q : VK} (hi : T.ini c = some g) (r : Rps G ρ H ds vs) (h : Sat G bs W σ ρ H (make T (lv T k).1 c ds S) (KQ G Q)) {x dx : Addr} (hx : H x = none) (hdx : H dx = none) (hne : dx ≠ x) :
    Ev.spF T G gn k g (.ref x :: vs) (upd (upd H dx (.own x)) x (.ins (G.cl c) dx [])) (fun v H2 => v = .non ∧ Q (.ref x) H2) (WE W σ) := by
  unfold make at h
  rw [hi] at h
  cases him : T.imm c with
  | false => rw [him] at h; exact h.elim
  | true =>
    rw [him] at h
    dsimp only at h
    split at h
    · rename_i hp
      have hx1 : upd H dx (.own x) x = none := by rw [upd_ne (Ne.symm hne)]; exact hx
      have k1 : ∀ a o, H a = some o → upd (upd H dx (.own x)) x (.ins (G.cl c) dx []) a = some o := fun a o e => by
        rw [upd_ne (fun z => by rw [z, hx] at e; cases e), upd_ne (fun z => by rw [z, hdx] at e; cases e)]; exact e
      have hd : ∀ a, upd (upd H dx (.own x)) x (.ins (G.cl c) dx []) a = none → H a = none := fun a e => by
        cases q : H a with
        | none => rfl
        | some o => rw [k1 a o q] at e; cases e
      have ht : ∀ P, GxR.TabG H P → GxR.TabG (upd (upd H dx (.own x)) x (.ins (G.cl c) dx [])) P := fun P ⟨ps, e, t⟩ => ⟨ps, k1 _ _ e, t⟩
      have hf : ∀ a ∈ [x], H a = none := fun a ha => by rw [List.mem_singleton.mp ha]; exact hx
      have hself : upd (upd H dx (.own x)) x (.ins (G.cl c) dx []) x = some (.ins (G.cl c) dx []) := upd_same
      refine ⟨G.z ++ ρ, [], [x], [.obj c [] []], .ref 0 :: ds, ⟨rfl, by simp, fun n a d e1 e2 => ?_, fun b hb => absurd hb (by simp), fun b hb => absurd hb (by simp), fun a ha => ?_⟩, fun P hP => ht P (f.tb P hP), .cons (.ref rfl) (r.into rfl (fun a o e _ _ => k1 a o e) hf f.st.apt hp), ?_⟩
      · cases n with
        | succ n => simp at e1
        | zero =>
          cases e1
          cases e2
          exact .obj (ws := []) hself .nil rfl
      · have sm : ∃ o, H a = some o := by
          rcases List.mem_append.mp ha with q | q
          · exact (f.st.out a q).1
          · exact f.st.some_ q
        obtain ⟨o, e⟩ := sm
        exact ⟨⟨o, k1 a o e⟩, fun q => by rw [hf a q] at e; cases e⟩
      · cases e : (lv T k).1 g (D.ref 0 :: ds) [D.obj c [] []] with
        | bad => rw [e] at h; exact h.elim
        | err ec fs ws S1 =>
          rw [e] at h
          dsimp only at h
          split at h
          · rename_i hpw
            intro ρ' H' dd us x1 s1 hdd hnd rr
            obtain ⟨s2, x2⟩ := f.st.stay k1 x1 hf hd ht
            refine h ρ H' dd us x2 s2 hdd (fun q => ?_) (rr.out rfl hpw)
            obtain ⟨n, hn⟩ := List.getElem?_of_mem q
            obtain ⟨d, _, cc⟩ := s2.cellA hn
            cases cc with
            | lst e' => rw [hdd] at e'; cases e'
            | obj e' => rw [hdd] at e'; cases e'
          · exact h.elim
        | ok d S1 =>
          rw [e] at h
          split at h
          · rename_i e'
            cases e'
            split at h
            · rename_i d hpd
              intro ρ' H' x1 s1 v rv
              cases rv
              refine ⟨rfl, ?_⟩
              obtain ⟨s2, x2⟩ := f.st.stay k1 x1 hf hd ht
              obtain ⟨μ, rfl, _⟩ := id x1.pre
              have hc := s1.at_ 0 x d rfl rfl
              have hxn := f.st.fr hx
              refine h ρ H' x2 s2 _ ?_
              cases hc with
              | lst e1 r1 => exact .lst e1 hxn.1 hxn.2 (r1.out rfl (by simpa only [D.pure] using hpd))
              | obj e1 r1 l => exact .obj e1 hxn.1 hxn.2 (r1.out rfl (by simpa only [D.pure] using hpd)) l
            · exact h.elim
          · rename_i e'
            cases e'
          · exact h.elim
    · exact h.elim
def tMk (C : Addr) (sp : Sp) (E : L2.St → XK) (t : TA) : TE := fun σ H Q => t σ H fun vs H1 => ∀ x dx, H1 x = Option.none → H1 dx = Option.none → dx ≠ x →
  sp (V.ref x :: vs) (upd (upd H1 dx (.own x)) x (.ins C dx [])) (fun v H2 => v = .non ∧ Q (.ref x) H2) (E σ)
theorem pe_mkRA {CX : CXT} {n : Nat} {f C : Addr} {sp : Sp} {E : L2.St → XK} {x : Str} {p pos : Pos} {e : Expr} {es : List Expr} {t : TA} (M : Mk X.K C f) (F : FnR X.prog X.w X.K X.mg X.base CX n f sp) (hr : Room (n + 1) X.A) (hg : Gl X x) (hm : X.mg x = some (.ref C)) (hx : ∀ σ, PassesAt CX X σ (E σ)) (ha : PA X (e :: es) t) (hdb : (x == ("__debug__" : Str)) = false) (hp : (e :: es).all plainE = true) :
    PE X (.Call (.Name x p) (e :: es) [] pos) (tMk C sp E t) := by
  refine ⟨fun pins s σ H Q I h => ?_⟩
  rw [List.all_cons, Bool.and_eq_true] at hp
  refine wpAny_Call_Name_kw (ld_glob I hg hm ?_ hdb)
  refine PySem.W.callWith_K (h₀ := X.base) I.ok.mod.kin M.kp (thn (ha.run pos pins s σ H _ I h) fun us s1 ⟨vs, H1, I1, r, q⟩ => ⟨I1.kIn, ?_⟩) (star_of hp.1) (plain_all hp.2 pos).1
  exact run_makeRA M F hr (hx σ) I1 r q
theorem pe_mkE (C : XC T G gn k X W) {c f : Nat} {fn : Fn} {x : Str} {p pos : Pos} {e : Expr} {es : List Expr} {evs : Env → Sto → R (List D)} (hi : T.ini c = some f) (hf : T.fns f = some fn) (hn : gn.cnm c = some x) (hg : Gl X x) (hdb : (x == ("__debug__" : Str)) = false)
    (ha : PA X (e :: es) (tEs G gn bs W evs)) (hp : (e :: es).all plainE = true) : PE X (.Call (.Name x p) (e :: es) [] pos) (tE G gn bs W (fun env S => bnd (evs env S) fun ds S1 => make T (lv T k).1 c ds S1)) :=
  (pe_mkRA (C.F.ini c f hi) (C.fns f fn hf) (C.room.mono (by omega)) hg (C.F.cn c x hn) (passAt C.tk) ha hdb hp).imp fun σ H Q ⟨ρ, S, env, st, ce, tb, h⟩ =>
    (Fs.mk st ce tb).seqs h fun dx S1 ρ1 H1 x x1 f1 r1 h1 => fun a b ha hb hne => f1.spMk hi r1 h1 ha hb hne
end
end Ev


set_option maxHeartbeats 200000
set_option Elab.async false
set_option maxRecDepth 100000
/-! != of instances whose class has an __eq__ of its own and no __ne__. -/
namespace HNe
open PySem PySem.Spec PyProof.Rows PySem.SeqAt
section
variable {M : Model} {prog : Program} {w : World} {A : Around} {E : Value → Shared → Prop} {s : Shared} {K : PySem.W.Frag} {x y f C L : Addr} {h₀ : Heap} {m : Str → Option Value} {ox : Obj} {od : Option Obj}
theorem entry {Q : Fin → Shared → Prop} (X : K.In s.heap) (I : PySem.W.InstAt s.heap x ox C od) (hs : PySem.W.findIn K (.ref C) "__eq__" = some (some (.ref f))) (hf : PySem.W.isFn K (.ref f) = true) (hu : A.units < cLine)
    (hcall : wpAny (model prog w) A (call (.ref f) [.ref x, .ref y]) (fun v s' => ∃ b, v = .bool b ∧ Q (.done (.ret (.bool (!b)))) s') E s) :
    wpAny (model prog w) A (Builtin.«object.__ne__» ⟨[.ref x, .ref y], []⟩) Q E s := by
  unfold Builtin.«object.__ne__»
  repeat (first
    | with_reducible refine wpAny_cRoomFor hu ?_
    | (refine wpAny_bind (m := callSpecialIfBound? (.ref x) (Str.ofString "__eq__") [.ref y])
        (PySem.W.ifBound_K X I hs hf (wpAny_mono hcall (fun r s' hr => by
          obtain ⟨b, rfl, hq⟩ := hr
          repeat (first | exact hq | exact wpAny_pure hq | exact wpAny_truthy_bool hq | (refine wpAny_bind (m := truthy (.bool _)) (wpAny_truthy_bool ?_)) | wp_step)) fun _ _ e => e)))
    | wp_step)
theorem ifBound {args : List Value} {Q : Option Value → Shared → Prop} (X : K.In s.heap) (I : PySem.W.InstAt s.heap x ox C od) (hs : PySem.W.findIn K (.ref C) "__ne__" = some (some (.builtin "object.__ne__")))
    (h : wpAny M A (call (.builtin "object.__ne__") (.ref x :: args)) (fun v => Q (some v)) E s) : wpAny M A (callSpecialIfBound? (.ref x) "__ne__" args) Q E s := by
  simp only [callSpecialIfBound?, bindSpecialIfBound?]
  refine wpAny_holding (wpAny_bind (wpAny_bind (wpAny_bind (I.type.here ((PySem.W.looks_findIn X hs).here ?_)))))
  refine wpAny_bind (wpAny_askSetting (wpAny_ite ?_))
  have fin : wpAny M A (call (.builtin "object.__ne__") ([.ref x] ++ args) >>= fun v => pure (some v)) Q E s := wpAny_bind (wpAny_mono h (fun v s' h' => wpAny_pure h') fun _ _ h' => h')
  split
  · exact wpAny_bind (wpAny_of_eq (F.cmp_object.ne.bind _) (wpAny_pure (by exact fin)))
  · exact wpAny_tryCatch (wpAny_bind (wpAny_of_eq (F.cmp_object.ne.bind _) (wpAny_pure (by exact fin))))
theorem ne_K {Q : Value → Shared → Prop} (hu : A.units + 1 < cLine) (X : K.In s.heap) (I : PySem.W.InstAt s.heap x ox C od) (hb : PySem.W.Looks (model prog w) s.heap (typeOf (.ref y)) (.ref C)) (hne : PySem.W.findIn K (.ref C) "__ne__" = some (some (.builtin "object.__ne__"))) (hob : PySem.W.mroIn K C (.type "object") = some true)
    (hs : PySem.W.findIn K (.ref C) "__eq__" = some (some (.ref f))) (hf : PySem.W.isFn K (.ref f) = true)
    (h : wpAny (model prog w) A.in1 (call (.ref f) [.ref x, .ref y]) (fun v s' => ∃ u, v = .bool u ∧ Q (.bool (!u)) s') E s) : wpAny (model prog w) A (richCompare .NotEq (.ref x) (.ref y)) Q E s := by
  have one : wpAny (model prog w) A (tryCompare (.ref x) "__ne__" (.ref y)) (fun r s' => ∃ v, r = some v ∧ Q v s') E s := by
    unfold tryCompare
    refine wpAny_bind (ifBound X I hne (wpAny_call (codeAny_call_builtin F.cmp_object.ne.plain F.cmpEntry_ne (PySem.W.check_slot F.cmpKind_ne F.cmpSplit_ne (I.type.andThen (PySem.W.looks_mroIn X hob)) (F.cmpArgs_ne _ _)
      (entry X I hs hf hu (wpAny_mono h (fun v s' hv => ?_) fun _ _ e => e))))))
    obtain ⟨b, rfl, hq⟩ := hv
    first | exact ⟨b, rfl, wpAny_pure ⟨_, rfl, hq⟩⟩ | exact ⟨b, rfl, wpAny_pure (wpAny_pure ⟨_, rfl, hq⟩)⟩ | exact ⟨b, rfl, ⟨_, rfl, hq⟩⟩
  unfold richCompare
  simp only [oneThing_ref]
  refine wpAny_holding (wpAny_bind (wpAny_cRoomFor (Nat.lt_of_succ_lt hu) ?_))
  rw [cmpInfo_NotEq]
  dsimp only
  refine wpAny_bind (I.type.here (wpAny_bind (hb.here ?_)))
  rw [show (Value.ref C != Value.ref C) = false from by simp]
  simp only [Bool.false_eq_true, if_false]
  refine wpAny_bind (wpAny_pure ?_)
  simp only [Bool.false_eq_true, if_false]
  refine wpAny_bind (wpAny_mono one (fun r s' z => ?_) fun _ _ e => e)
  obtain ⟨v, rfl, hq⟩ := z
  exact wpAny_pure hq
end
end HNe


set_option maxHeartbeats 200000
set_option Elab.async false
set_option maxRecDepth 100000
set_option maxHeartbeats 1000000
/-! Methods, own operators, built-ins. -/
namespace Ev
open PySem PySem.Spec PyProof.Rows L2

section
variable {T : Tb} {G : Wd} {gn : Gn} {bs : List Nat} {W : WX} {k : Nat} {X : Cx} {ρ ρ' : List Addr} {S S' : Sto} {H H' : Hp} {env : Env} {σ : L2.St} {α β : Type}
/-! ### methods -/
theorem few_of {args : List Expr} {pos : Pos} {env : PySem.Env} (hp : args.all plainE = true) (hn : args.length < 30) : ((backTo pos (starEach args env)).all (fun x => !x.1) && (backToKw pos (keywordEach [] env)).all (fun x => x.1.isSome)
    && decide (args.length + ([] : List Keyword).length + (if ([] : List Keyword).isEmpty then 0 else 1) < 30)) = true := by
  rw [(plain_all hp pos).2]
  show (true && true && decide (args.length + 0 + 0 < 30)) = true
  simpa using hn
theorem methO {prog : Program} {w : World} {A : Around} {E : Value → Shared → Prop} {s : Shared} {env : PySem.Env} {o : Expr} {name : Str} {apos pos : Pos} {args : List Expr} {Q : Value → Shared → Prop}
    (hbase : attributeBase o name env (eval o env) = eval o env) (hp : args.all plainE = true) (hn : args.length < 30) (hline : (apos.endLine == pos.line) = true)
    (h : wpAny (model prog w) A (eval o env) (fun ov s₁ => wpAny (model prog w) A (getMethod ov name (do return (← importBound o env).getD true)) (fun fx s₂ => wpAny (model prog w) A (callWith pos fx.1 fx.2 (backTo pos (starEach args env)) []) Q E s₂) E s₁) E s) :
    wpAny (model prog w) A (eval (.Call (.Attribute o name apos) args [] pos) env) Q E s := by
  rw [arm_eval_Call, hbase]
  refine wpAny_bind (wpAny_mono h (fun ov s₁ h₁ => ?_) fun _ _ e => e)
  refine wpAny_bind (wpAny_standAt ?_)
  have hform : methodCallForm (args.length + ([] : List Keyword).length) (backTo pos (starEach args env)) (backToKw pos (keywordEach [] env)) = true := few_of hp hn
  have hpos : methodCallPos true o env apos pos = pure pos := by unfold methodCallPos; simp [hline]
  unfold methodCall
  rw [hform]
  refine wpAny_bind (wpAny_holding (wpAny_mono h₁ (fun fx s₂ h₂ => ?_) fun _ _ e => e))
  exact wpAny_bind (wpAny_of_eq hpos h₂)
theorem callK {M : Model} {A : Around} {E : Value → Shared → Prop} {s : Shared} {K : PySem.W.Frag} {f : Value} {first : List Value} {pos : Pos} {env : PySem.Env} {Q : Value → Shared → Prop} {h₀ : Heap} : ∀ {args : List Expr}, args.all plainE = true → K.In h₀ → K.In s.heap → PySem.W.keepIn K f = true →
    (h : wpAny M A (spliced (backTo pos (starEach args env))) (fun vs s₁ => K.In s₁.heap ∧ wpAny M A (call f (first ++ vs)) Q E s₁) E s) → wpAny M A (callWith pos f first (backTo pos (starEach args env)) []) Q E s
  | [], _, _, hs, hk, h => PySem.W.callWith_K0 hs hk (by
    have h2 : wpAny M A (pure ([] : List Value)) (fun vs s₁ => K.In s₁.heap ∧ wpAny M A (call f (first ++ vs)) Q E s₁) E s := h
    exact fun Γ p hi => (h2 Γ p hi).2 Γ p hi)
  | e :: es, hp, h0, _, hk, h => by
    rw [List.all_cons, Bool.and_eq_true] at hp
    exact PySem.W.callWith_K (h₀ := h₀) h0 hk h (star_of hp.1) (plain_all hp.2 pos).1
theorem pe_mthE (C : XC T G gn k X W) {m : Nat} {x : Str} {apos pos : Pos} {o : Expr} {args : List Expr} {eo : EF} {evs : Env → Sto → R (List D)} (ho : PE X o (tE G gn bs W eo)) (ha : PA X args (tEs G gn bs W evs)) (hx : G.nm m = x) (hb : baseE o = true) (hp : args.all plainE = true) (hn : args.length < 30) (hline : (apos.endLine == pos.line) = true) :
    PE X (.Call (.Attribute o x apos) args [] pos) (tE G gn bs W (fun env S => bnd (eo env S) fun x S1 => (match dr S1 x with
      | .obj c fs _ => (match T.mth c m, fs.contains m with
        | some f, false => bnd (evs env S1) fun ds S2 => (lv T k).1 f (x :: ds) S2
        | _, _ => .bad)
      | _ => .bad))) := by
  refine ⟨fun pins s σ H Q I ⟨ρ, S, env, st, ce, tb, h⟩ => methO (base_of hb) hp hn hline (thn (ho.run pins s σ H (fun v H1 => ∃ ρ1 S1 d, Fs G gn bs ρ1 S1 H1 env σ ∧ Rp G ρ1 H1 d v ∧ Sat G bs W σ ρ1 H1 (match dr S1 d with
      | .obj c fs _ => (match T.mth c m, fs.contains m with
        | some f, false => bnd (evs env S1) fun ds S2 => (lv T k).1 f (d :: ds) S2
        | _, _ => .bad)
      | _ => .bad) (KQ G Q)) I ((Fs.mk st ce tb).seq h fun dx S1 ρ1 H1 x x1 f1 r1 h1 => ⟨ρ1, S1, dx, f1, r1, h1⟩)) ?_)⟩
  intro u s1 ⟨v, H1, I1, rv, ρ1, S1, d, f1, r1, h1⟩
  have w := r1.view f1.st
  split at h1
  · rename_i c fs vs e
    rw [e] at w
    split at h1
    · rename_i f hm hc
      cases w with | @obj a dx _ _ _ ws e1 r l =>
      obtain rfl : u = Value.ref a := rv
      obtain ⟨k1, k2⟩ := C.F.mth _ _ _ hm
      obtain ⟨fn, hfn⟩ := C.F.mfn _ _ _ hm
      subst hx
      refine getmeth_ok I1 e1 k1 k2 (lookF_no C.F.nm hc) ?_
      refine callK (first := [.ref a]) (h₀ := X.base) hp I.ok.mod.kin I1.kIn k2.kp (thn (ha.run pos pins s1 σ H1 (fun ws H2 => spF T G gn k f (V.ref a :: ws) H2 Q (WE W σ)) I1 ?_) fun us s2 ⟨ws, H2, I2, rr, q2⟩ => ⟨I2.kIn, ?_⟩)
      · exact f1.seqs h1 fun ds S2 ρ2 H2 vs x2 f2 r2 h2 => f2.toF (.cons (r1.mono x2 f1.st.apt) r2) h2
      · exact run_fnRA (us := .ref a :: us) (vs := .ref a :: ws) (C.fns f fn hfn) (C.room.mono (by omega)) (passAt C.tk σ) I2 (.cons rfl rr) q2
    · exact h1.elim
  · exact h1.elim
theorem run_cmA {CX : CXT} {C g q : Addr} {n : Nat} {sp : Sp} {E : XK} {Q : VK} {pins : List (Addr × Obj)} {s : Shared} {us : List Value} {vs : List V} (F : FnR X.prog X.w X.K X.mg X.base CX n g sp) (hr : Room n X.A) (hx : PassesAt CX X σ E) (I : Inv X ((q, PySem.W.methodObj (.ref g) (.ref C)) :: pins) σ H s) (r : Vals vs us) (h : sp (.ref C :: vs) H Q E) :
    wpAny (model X.prog X.w) X.A (call (.ref q) us) (EP X pins σ Q) X.xe s := by
  have z : wpAny (model X.prog X.w) X.A (call (.ref q) us) (EP X ((q, PySem.W.methodObj (.ref g) (.ref C)) :: pins) σ Q) X.xe s :=
    wpAny_call (PySem.W.method_call (ClX.pin_at I) (run_fnRC (us := .ref C :: us) (vs := .ref C :: vs) F hr hx I (.cons rfl r) h))
  exact thn z fun _ _ y => ClX.unpinE y
theorem pe_cmtE (C : XC T G gn k X W) {c m f : Nat} {y x : Str} {p apos pos : Pos} {e : Expr} {es : List Expr} {evs : Env → Sto → R (List D)} (hm : T.cms c m = some f) (hc : gn.cnm c = some y) (hg : Gl X y) (hdb : (y == ("__debug__" : Str)) = false) (ha : PA X (e :: es) (tEs G gn bs W evs)) (hx : G.nm m = x) (hp : (e :: es).all plainE = true) (hn : (e :: es).length < 30) (hline : (apos.endLine == pos.line) = true) :
    PE X (.Call (.Attribute (.Name y p) x apos) (e :: es) [] pos) (tE G gn bs W (fun env S => bnd (evs env S) fun ds S1 => (lv T k).1 f (.cls c :: ds) S1)) := by
  refine ⟨fun pins s σ H Q I ⟨ρ, S, env, st, ce, tb, h⟩ => methO (base_of rfl) hp hn hline (ld_glob I hg (C.F.cn c y hc) ?_ hdb)⟩
  obtain ⟨mc, q, k1, k2⟩ := C.F.cms _ _ _ hm
  obtain ⟨fn, hfn⟩ := C.F.cfn _ _ _ hm
  subst hx
  refine ClX.getmethcm_ok I k1 k2 fun s2 I2 => ?_
  have hp' := hp
  rw [List.all_cons, Bool.and_eq_true] at hp
  refine ClX.callwith_cm I2 (ClX.base_none I (Nat.le_refl _)) k2.fi (thn (ha.run pos _ s2 σ H (fun ws H2 => spF T G gn k f (V.ref (G.cl c) :: ws) H2 Q (WE W σ)) I2 ?_) fun us s3 ⟨vs, H2, I3, rv, q2⟩ => ⟨⟨ClX.pin_at I3, I3.kIn⟩, ?_⟩) (star_of hp.1) (plain_all hp.2 pos).1
  · exact (Fs.mk st ce tb).seqs h fun ds S2 ρ2 H2 vs x2 f2 r2 h2 => f2.toF (.cons (.cls c) r2) h2
  · exact run_cmA (C.fns f fn hfn) (C.room.mono (by omega)) (passAt C.tk σ) I3 rv q2
/-- a making by a local name -/
theorem pe_mklE (C : XC T G gn k X W) {c f i : Nat} {x : Str} {p pos : Pos} {e : Expr} {es : List Expr} {evs : Env → Sto → R (List D)} (hi : T.ini c = some f) (hN : X.N[i]? = some x) (hv : Vis X.env.scope x) (hd : (x == ("__debug__" : Str)) = false) (hcd : (x == ("__classdict__" : Str)) = false)
    (ha : PA X (e :: es) (tEs G gn bs W evs)) (hp : (e :: es).all plainE = true) : PE X (.Call (.Name x p) (e :: es) [] pos) (tE G gn bs W (fun env S => (match env[i]? with
      | some (some (.cls c')) => if c = c' then bnd (evs env S) fun ds S1 => make T (lv T k).1 c ds S1 else .bad
      | _ => .bad))) := by
  refine ⟨fun pins s σ H Q I ⟨ρ, S, env, st, ce, tb, h⟩ => ?_⟩
  have hp' := hp
  rw [List.all_cons, Bool.and_eq_true] at hp
  dsimp only at h
  split at h
  · rename_i c' hc
    split at h
    · rename_i he
      subst he
      obtain ⟨fn, hfn⟩ := C.F.ifn _ _ hi
      have M := C.F.ini c f hi
      refine wpAny_Call_Name_kw (thn ((pe_loc (G := G) (gn := gn) (bs := bs) (W := W) (T := T) (cf := (lv T k).1) (b₀ := 0) hN hv hd hcd).run pins s σ H (fun v H1 => v = V.ref (G.cl c) ∧ ∃ ρ1, Fs G gn bs ρ1 S H1 env σ ∧ Sat G bs W σ ρ1 H1 (bnd (evs env S) fun ds S1 => make T (lv T k).1 c ds S1) (KQ G Q)) I ⟨ρ, S, env, st, ce, tb, ?_⟩) fun u s1 ⟨v, H1, I1, rv, ev, ρ1, f0, h0⟩ => ?_)
      · simp only [evE, hc]
        intro ρ' H' x s' v r
        cases r
        exact ⟨rfl, ρ', (Fs.mk st ce tb).next x s', Sat.mono h x⟩
      · subst ev
        obtain rfl : u = Value.ref (G.cl c) := rv
        refine PySem.W.callWith_K (h₀ := X.base) I.ok.mod.kin M.kp (thn (ha.run pos pins s1 σ H1 (fun vs H2 => ∀ a b, H2 a = none → H2 b = none → b ≠ a → Ev.spF T G gn k f (V.ref a :: vs) (upd (upd H2 b (.own a)) a (.ins (G.cl c) b [])) (fun v H3 => v = .non ∧ Q (V.ref a) H3) (WE W σ)) I1 (f0.seqs h0 fun dx S1 ρ1 H2 x x1 f1 r1 h1 => fun a b ha hb hne => f1.spMk hi r1 h1 ha hb hne)) fun us s2 ⟨vs, H2, I2, r, q⟩ => ⟨I2.kIn, ?_⟩) (star_of hp.1) (plain_all hp.2 pos).1
        exact run_makeRA M (C.fns f fn hfn) (C.room.mono (by omega)) (passAt C.tk σ) I2 r q
    · exact h.elim
  · exact h.elim
/-! ### own operators -/
theorem no_pass {σ : L2.St} : PassesAt (L2.CX X.prog X.w) X σ (fun _ _ _ => False) := fun pins H s e s' I c => by
  obtain ⟨_, _, _, _, _, _, _, _, _, _, _, _, z⟩ := c
  exact z.elim
theorem Sat.nope {r : R α} {σ' : L2.St} {K : α → Sto → List Addr → Hp → Prop} (h : Sat G bs W σ ρ H (ne r) K) : Sat G bs (fun _ _ _ _ => False) σ' ρ H r K := by
  cases r with
  | ok a S => exact h
  | err c fs vs S => exact h.elim
  | bad => exact h.elim
theorem own_bin (C : XC T G gn k X W) {o : Bop} {c f m : Nat} (hd : dun o = some m) (hm : T.mth c m = some f) : OpR X (binaryOp o.op) (fun x y H Q => ∃ a b dx dy fs gs, x = .ref a ∧ y = .ref b ∧ H a = some (.ins (G.cl c) dx fs) ∧ H b = some (.ins (G.cl c) dy gs) ∧ spF T G gn k f [x, y] H Q (fun _ _ _ => False)) := by
  intro pins s σ H x y v u Q I rx ry ⟨a, b, dx, dy, fs, gs, hx, hy, ha, hb, q⟩
  subst hx hy
  cases (show v = Value.ref a from rx)
  cases (show u = Value.ref b from ry)
  obtain ⟨mA, J, _⟩ := ins_get I.hok ha
  obtain ⟨mB, J', _⟩ := ins_get I.hok hb
  obtain ⟨od, J, _⟩ := J.look
  obtain ⟨od', J', _⟩ := J'.look
  obtain ⟨m', hF⟩ := I.fr
  obtain ⟨k1, k2⟩ := C.F.mth _ _ _ hm
  obtain ⟨fn, hfn⟩ := C.F.mfn _ _ _ hm
  obtain ⟨n1, n2, n3, n4⟩ := C.F.nms
  have hs : PySem.W.findIn X.K (.ref (G.cl c)) (PySem.dunder o.op.info.2) = some (some (.ref (G.fa f))) ∧ PySem.W.selfFirst X.K (G.cl c) = true := by
    cases o <;> simp only [dun, reduceCtorEq, Option.some.injEq] at hd
    · subst hd; exact ⟨by have := k2.at_; rw [n2] at this; exact this, C.F.sf _ _ _ hm (.inl rfl)⟩
    · subst hd; exact ⟨by have := k2.at_; rw [n3] at this; exact this, C.F.sf _ _ _ hm (.inr (.inl rfl))⟩
    · subst hd; exact ⟨by have := k2.at_; rw [n4] at this; exact this, C.F.sf _ _ _ hm (.inr (.inr rfl))⟩
  refine PySem.W.binop_K hF I.ok.mod.kin J J'.type hs.2 hs.1 k2.fn ?_
  refine wpAny_mono (run_fnRA (us := [.ref a, .ref b]) (vs := [.ref a, .ref b]) (C.fns f fn hfn) (C.room.mono (by omega)) no_pass I (.cons rfl (.cons rfl .nil)) q) (fun w s' z => ?_) fun _ _ x => x
  obtain ⟨z', H', I', rz, qz⟩ := z
  exact SlX.cmpback rz ⟨z', H', I', rz, qz⟩
theorem own_eq (C : XC T G gn k X W) {c f : Nat} (hm : T.mth c nEq = some f) : OpR X (compareOp .Eq) (fun x y H Q => ∃ a b dx dy fs gs, x = .ref a ∧ y = .ref b ∧ H a = some (.ins (G.cl c) dx fs) ∧ H b = some (.ins (G.cl c) dy gs) ∧ spF T G gn k f [x, y] H Q (fun _ _ _ => False)) := by
  intro pins s σ H x y v u Q I rx ry ⟨a, b, dx, dy, fs, gs, hx, hy, ha, hb, q⟩
  subst hx hy
  cases (show v = Value.ref a from rx)
  cases (show u = Value.ref b from ry)
  obtain ⟨mA, J, _⟩ := ins_get I.hok ha
  obtain ⟨mB, J', _⟩ := ins_get I.hok hb
  obtain ⟨od, J, _⟩ := J.look
  obtain ⟨od', J', _⟩ := J'.look
  obtain ⟨m', hF⟩ := I.fr
  obtain ⟨k1, k2⟩ := C.F.mth _ _ _ hm
  obtain ⟨fn, hfn⟩ := C.F.mfn _ _ _ hm
  have hat := k2.at_
  rw [C.F.nms.1] at hat
  refine PySem.W.cmp_K (op := .Eq) (tb := .ref (G.cl c)) C.room.units0 hF I.ok.mod.kin J J'.type (by simp [PySem.W.notFirst]) hat k2.fn ?_
  refine wpAny_mono (run_fnRA (us := [.ref a, .ref b]) (vs := [.ref a, .ref b]) (C.fns f fn hfn) (C.room.mono (by omega)) no_pass I (.cons rfl (.cons rfl .nil)) q) (fun w s' z => ?_) fun _ _ x => x
  obtain ⟨z', H', I', rz, qz⟩ := z
  exact SlX.cmpback rz ⟨z', H', I', rz, qz⟩
theorem own_ne (C : XC T G gn k X W) {c f : Nat} (hm : T.mth c nEq = some f) : OpR X (compareOp .NotEq) (fun x y H Q => ∃ a b dx dy fs gs, x = .ref a ∧ y = .ref b ∧ H a = some (.ins (G.cl c) dx fs) ∧ H b = some (.ins (G.cl c) dy gs) ∧ spF T G gn k f [x, y] H (fun v H' => ∃ z, v = .bl z ∧ Q (.bl (!z)) H') (fun _ _ _ => False)) := by
  intro pins s σ H x y v u Q I rx ry ⟨a, b, dx, dy, fs, gs, hx, hy, ha, hb, q⟩
  subst hx hy
  cases (show v = Value.ref a from rx)
  cases (show u = Value.ref b from ry)
  obtain ⟨mA, J, _⟩ := ins_get I.hok ha
  obtain ⟨mB, J', _⟩ := ins_get I.hok hb
  obtain ⟨od, J, _⟩ := J.look
  obtain ⟨od', J', _⟩ := J'.look
  obtain ⟨k1, k2⟩ := C.F.mth _ _ _ hm
  obtain ⟨fn, hfn⟩ := C.F.mfn _ _ _ hm
  obtain ⟨n1, n2⟩ := C.F.neq _ _ hm
  have hat := k2.at_
  rw [C.F.nms.1] at hat
  have hu : X.A.units + 1 < cLine := by have := C.room.un; omega
  have hr : Room (9 * k) X.A.in1 := (C.room.mono (show 9 * k + 1 ≤ 9 * k + 5 by omega)).in1
  refine HNe.ne_K (A := X.A) hu I.kIn J J'.type (neB_ok n1) n2 hat k2.fn ?_
  have e0 := I.env0
  have e1 : Env0 X.prog X.w X.K X.mg X.base X.A.in1 X.stack s H := ⟨e0.frames, e0.mod, e0.bs, e0.bsz, e0.funs, e0.frf, e0.hok, e0.bare⟩
  refine wpAny_call (codeAny_mono (C.fns f fn hfn X.A.in1 X.stack s H [.ref a, .ref b] [.ref a, .ref b] _ _ hr e1 (.cons rfl (.cons rfl .nil)) q) fun r s' hq => ?_)
  cases r with
  | error e => exact no_pass pins H s e s' I hq
  | ok fl =>
    cases fl with
    | ret w =>
      obtain ⟨z, H', I', rz, zz, rfl, qz⟩ := I.after hq
      cases (show w = Value.bool zz from rz)
      exact ⟨zz, rfl, .bl (!zz), H', I', rfl, qz⟩
    | next => exact False.elim hq
    | brk => exact False.elim hq
    | cont => exact False.elim hq
/-- what an operator's answer is to be -/
def rB (T : Tb) (G : Wd) (gn : Gn) (bs : List Nat) (g : D → D → Sto → R D) : R2 := fun x y H Q => ∃ ρ S env σ W dx dy, Fs G gn bs ρ S H env σ ∧ Rp G ρ H dx x ∧ Rp G ρ H dy y ∧ Sat G bs W σ ρ H (g dx dy S) (KQ G Q)
theorem op_bin (C : XC T G gn k X W) (o : Bop) : OpR X (binaryOp o.op) (rB T G gn bs (bop2 T (lv T k).1 o)) := by
  intro pins s σ H x y v u Q I rx ry ⟨ρ, S, env, σ', W', dx, dy, f, r1, r2, h⟩
  have wx := r1.view f.st
  have wy := r2.view f.st
  unfold bop2 at h
  split at h
  · rename_i c fs vs c' gs ws e1 e2
    rw [e1] at wx
    rw [e2] at wy
    split at h
    · rename_i m hd
      split at h
      · rename_i g hm
        split at h
        · rename_i hc
          subst hc
          cases wx with | obj a1 _ _ => cases wy with | obj a2 _ _ =>
          exact own_bin C hd hm pins s σ H _ _ v u Q I rx ry ⟨_, _, _, _, _, _, rfl, rfl, a1, a2, ⟨G.z, bs, ρ, S, [dx, dy], f.st, f.tb, .cons r1 (.cons r2 .nil), h.nope⟩⟩
        · exact h.elim
      · exact h.elim
    · exact h.elim
  · obtain ⟨r, e, h2⟩ := h.ofO
    exact vop_ok e pins s σ H _ _ v u Q I rx ry ⟨ρ, f.st, wx, wy, h2.tld⟩
theorem op_cmp (C : XC T G gn k X W) (o : Cop) : OpR X (compareOp o.op) (rB T G gn bs (cmp2 T (lv T k).1 o)) := by
  intro pins s σ H x y v u Q I rx ry ⟨ρ, S, env, σ', W', dx, dy, f, r1, r2, h⟩
  have wx := r1.view f.st
  have wy := r2.view f.st
  unfold cmp2 at h
  split at h
  · rename_i c fs vs c' gs ws e1 e2
    rw [e1] at wx
    rw [e2] at wy
    split at h
    · rename_i g hm
      split at h
      · rename_i hc
        subst hc
        cases wx with | obj a1 _ _ => cases wy with | obj a2 _ _ =>
        exact own_eq C hm pins s σ H _ _ v u Q I rx ry ⟨_, _, _, _, _, _, rfl, rfl, a1, a2, ⟨G.z, bs, ρ, S, [dx, dy], f.st, f.tb, .cons r1 (.cons r2 .nil), h.nope⟩⟩
      · exact h.elim
    · rename_i g hm
      split at h
      · rename_i hc
        subst hc
        cases wx with | obj a1 _ _ => cases wy with | obj a2 _ _ =>
        have h2 : Sat G bs W' σ' ρ H (ne ((lv T k).1 g [dx, dy] S)) (KQ G (fun v H' => ∃ z, v = .bl z ∧ Q (.bl (!z)) H')) := (Sat.bnd h).imp fun a S1 ρ1 H1 _ st1 h1 => by
          cases a with
          | bl b => intro v r; cases r; exact ⟨b, rfl, h1.here st1 _ (.bl _)⟩
          | _ => exact h1.elim
        exact own_ne C hm pins s σ H _ _ v u Q I rx ry ⟨_, _, _, _, _, _, rfl, rfl, a1, a2, ⟨G.z, bs, ρ, S, [dx, dy], f.st, f.tb, .cons r1 (.cons r2 .nil), h2.nope⟩⟩
      · exact h.elim
    · exact h.elim
  · obtain ⟨r, e, h2⟩ := h.ofO
    cases e3 : vcmp o (dr S dx) (dr S dy) with
    | none => rw [e3] at e; cases e
    | some b =>
      rw [e3] at e
      cases e
      exact vcmp_ok C.hu e3 pins s σ H _ _ v u Q I rx ry ⟨ρ, f.st, wx, wy, f.done h2 (.bl b)⟩
theorem pe_binE (C : XC T G gn k X W) (o : Bop) {a b : Expr} {ea eb : EF} {pos : Pos} (ha : PE X a (tE G gn bs W ea)) (hb : PE X b (tE G gn bs W eb)) :
    PE X (.BinOp a o.op b pos) (tE G gn bs W (fun env S => bnd (ea env S) fun x S1 => bnd (eb env S1) fun y S2 => bop2 T (lv T k).1 o x y S2)) :=
  pe_2 (op_bin C o) ha hb fun ρ S H env σ dx dy x y Q f r1 r2 h => ⟨ρ, S, env, σ, W, dx, dy, f, r1, r2, h⟩
theorem pe_cmpE (C : XC T G gn k X W) (o : Cop) {a b : Expr} {ea eb : EF} {pos : Pos} (ha : PE X a (tE G gn bs W ea)) (hb : PE X b (tE G gn bs W eb)) (hm : behindInMarks o.op b = false) :
    PE X (.Compare a [o.op] [b] pos) (tE G gn bs W (fun env S => bnd (ea env S) fun x S1 => bnd (eb env S1) fun y S2 => cmp2 T (lv T k).1 o x y S2)) :=
  pe_2c (op_cmp C o) ha hb hm fun ρ S H env σ dx dy x y Q f r1 r2 h => ⟨ρ, S, env, σ, W, dx, dy, f, r1, r2, h⟩
theorem pt_cmpE (C : XC T G gn k X W) (o : Cop) {a b : Expr} {ea eb : EF} {pos : Pos} (ha : PE X a (tE G gn bs W ea)) (hb : PE X b (tE G gn bs W eb)) (hm : behindInMarks o.op b = false) :
    PT X (.Compare a [o.op] [b] pos) (tB G gn bs W (fun env S => bnd (ea env S) fun x S1 => bnd (eb env S1) fun y S2 => cmp2 T (lv T k).1 o x y S2)) :=
  pt_2c (op_cmp C o) ha hb hm fun ρ S H env σ dx dy x y Q f r1 r2 h => ⟨ρ, S, env, σ, W, dx, dy, f, r1, r2, h⟩
theorem pe_negE {a : Expr} {ea : EF} {pos : Pos} (ha : PE X a (tE G gn bs W ea)) :
    PE X (.UnaryOp .USub a pos) (tE G gn bs W (fun env S => bnd (ea env S) fun x S1 => (match x with
      | .int i => .ok (.int (-i)) S1
      | _ => .bad))) :=
  (pe_un un_neg ha).imp fun σ H Q ⟨ρ, S, env, st, ce, tb, h⟩ =>
    (Fs.mk st ce tb).seq h fun dx S1 ρ1 H1 x x1 f1 r1 h1 => by
      split at h1
      · cases r1; exact ⟨_, rfl, f1.done h1 (.int _)⟩
      · exact h1.elim
/-- two comparisons in a chain -/
def rC (o : Cop) : R2 := fun x y H Q => ∃ (G : Wd) (bs : List Nat) (ρ : List Addr) (S : Sto) (a b : D) (r : Bool), vcmp o a b = some r ∧ StOk G bs ρ S H ∧ Vw G ρ H a x ∧ Vw G ρ H b y ∧ Q (.bl r) H
theorem op_rC (hu : X.A.units + 65 < cLine) (o : Cop) : OpR X (compareOp o.op) (rC o) := fun pins s σ H x y v u Q I rx ry ⟨G, bs, ρ, S, a, b, r, e, st, wx, wy, q⟩ => vcmp_ok hu e pins s σ H x y v u Q I rx ry ⟨ρ, st, wx, wy, q⟩
theorem chn_r {ec : EF} {o o' : Cop} {dx dy : D} {x y : V} {Q : VK} (f : Fs G gn bs ρ S H env σ) (r1 : Rp G ρ H dx x) (r2 : Rp G ρ H dy y) (h : Sat G bs W σ ρ H (bnd (ofO (vcmp o (dr S dx) (dr S dy)) S) fun v S3 => (match v with
      | true => bnd (ec env S3) fun z S4 => ofO ((vcmp o' (dr S4 dy) (dr S4 z)).map .bl) S4
      | false => .ok (.bl false) S3)) (KQ G Q)) :
    rC o x y H fun z H3 => ∃ k, z = .bl k ∧ (if k = true then tE G gn bs W ec σ H3 (fun w' H4 => rC o' y w' H4 Q) else Q (.bl false) H3) := by
  cases e : vcmp o (dr S dx) (dr S dy) with
  | none => rw [e] at h; exact h.elim
  | some b =>
    rw [e] at h
    refine ⟨G, bs, ρ, S, _, _, b, e, f.st, r1.view f.st, r2.view f.st, b, rfl, ?_⟩
    cases b with
    | false => exact f.done h (.bl _)
    | true =>
      show tE G gn bs W ec σ H _
      refine f.seq h fun dz S4 ρ4 H4 z x4 f4 r4 h4 => ?_
      obtain ⟨d, e2, h5⟩ := h4.ofO
      cases e3 : vcmp o' (dr S4 dy) (dr S4 dz) with
      | none => rw [e3] at e2; cases e2
      | some c =>
        rw [e3] at e2
        cases e2
        exact ⟨G, bs, ρ4, S4, _, _, c, e3, f4.st, (r2.mono x4 f.st.apt).view f4.st, r4.view f4.st, f4.done h5 (.bl _)⟩
theorem pe_chnE (C : XC T G gn k X W) (o o' : Cop) {a b c : Expr} {ea eb ec : EF} {pos : Pos} (ha : PE X a (tE G gn bs W ea)) (hb : PE X b (tE G gn bs W eb)) (hc : PE X c (tE G gn bs W ec)) (hm : lastMarks [o.op, o'.op] [b, c] = false) :
    PE X (.Compare a [o.op, o'.op] [b, c] pos) (tE G gn bs W (fun env S => bnd (ea env S) fun x S1 => bnd (eb env S1) fun y S2 => bnd (ofO (vcmp o (dr S2 x) (dr S2 y)) S2) fun v S3 => (match v with
      | true => bnd (ec env S3) fun z S4 => ofO ((vcmp o' (dr S4 y) (dr S4 z)).map .bl) S4
      | false => .ok (.bl false) S3))) :=
  (pe_chain (op_rC C.hu o) (op_rC C.hu o') ha hb hc hm).imp fun σ H Q ⟨ρ, S, env, st, ce, tb, h⟩ =>
    (Fs.mk st ce tb).seq h fun dx S1 ρ1 H1 x x1 f1 r1 h1 => f1.seq h1 fun dy S2 ρ2 H2 y x2 f2 r2 h2 => chn_r f2 (r1.mono x2 f1.st.apt) r2 h2
theorem pt_chnE (C : XC T G gn k X W) (o o' : Cop) {a b c : Expr} {ea eb ec : EF} {pos : Pos} (ha : PE X a (tE G gn bs W ea)) (hb : PE X b (tE G gn bs W eb)) (hc : PE X c (tE G gn bs W ec)) (hm : lastMarks [o.op, o'.op] [b, c] = false) :
    PT X (.Compare a [o.op, o'.op] [b, c] pos) (tB G gn bs W (fun env S => bnd (ea env S) fun x S1 => bnd (eb env S1) fun y S2 => bnd (ofO (vcmp o (dr S2 x) (dr S2 y)) S2) fun v S3 => (match v with
      | true => bnd (ec env S3) fun z S4 => ofO ((vcmp o' (dr S4 y) (dr S4 z)).map .bl) S4
      | false => .ok (.bl false) S3))) :=
  (pt_chain (op_rC C.hu o) (op_rC C.hu o') ha hb hc hm).imp fun σ H Q ⟨ρ, S, env, st, ce, tb, h⟩ =>
    (Fs.mk st ce tb).seq h fun dx S1 ρ1 H1 x x1 f1 r1 h1 => f1.seq h1 fun dy S2 ρ2 H2 y x2 f2 r2 h2 => chn_r (Q := fun x H' => ∃ k, x = V.bl k ∧ Q k H') f2 (r1.mono x2 f1.st.apt) r2 (h2.imp fun d S3 ρ3 H3 _ _ ⟨b, e, q⟩ v r => by
      subst e; cases r; exact ⟨b, rfl, q⟩)
end
end Ev


set_option maxHeartbeats 200000
set_option Elab.async false
set_option maxRecDepth 100000
set_option maxHeartbeats 1000000
/-! Built-ins. -/
namespace Ev
open PySem PySem.Spec PyProof.Rows L2

inductive Vws (G : Wd) (ρ : List Addr) (H : Hp) : List D → List V → Prop
  | nil : Vws G ρ H [] []
  | cons {d : D} {ds : List D} {v : V} {vs : List V} (h : Vw G ρ H d v) (t : Vws G ρ H ds vs) : Vws G ρ H (d :: ds) (v :: vs)
def biF : Bi → Value
  | .len => .builtin "len"
  | .abs => .builtin "abs"
  | .int => .type "int"
  | .tuple => .type "tuple"
  | .list => .type "list"
  | .gcd => .builtin "math.gcd"
  | .max2 => .builtin "max"
  | .min2 => .builtin "min"
  | .sum => .builtin "sum"
  | .all => .builtin "all"
  | .any => .builtin "any"
  | .max => .builtin "max"
  | .min => .builtin "min"
  | .sorted => .builtin "sorted"
def biN : Bi → Str
  | .len => "len"
  | .abs => "abs"
  | .int => "int"
  | .tuple => "tuple"
  | .list => "list"
  | .gcd => "gcd"
  | .max2 => "max"
  | .min2 => "min"
  | .sum => "sum"
  | .all => "all"
  | .any => "any"
  | .max => "max"
  | .min => "min"
  | .sorted => "sorted"
theorem foldl_max : ∀ (r : List Int) (x : Int), x ≤ r.foldl (fun a b => if b > a then b else a) x ∧ (∀ y ∈ r, y ≤ r.foldl (fun a b => if b > a then b else a) x) ∧ (r.foldl (fun a b => if b > a then b else a) x = x ∨ r.foldl (fun a b => if b > a then b else a) x ∈ r)
  | [], x => ⟨Int.le_refl _, by simp, .inl rfl⟩
  | y :: r, x => by
    rw [List.foldl_cons]
    obtain ⟨h1, h2, h3⟩ := foldl_max r (if y > x then y else x)
    refine ⟨?_, fun z hz => ?_, ?_⟩
    · refine Int.le_trans ?_ h1
      split <;> omega
    · rcases List.mem_cons.mp hz with rfl | hz
      · refine Int.le_trans ?_ h1
        split <;> omega
      · exact h2 z hz
    · rcases h3 with h3 | h3
      · rw [h3]
        split
        · exact .inr (List.mem_cons_self ..)
        · exact .inl rfl
      · exact .inr (List.mem_cons_of_mem _ h3)
theorem foldl_min : ∀ (r : List Int) (x : Int), r.foldl (fun a b => if b < a then b else a) x ≤ x ∧ (∀ y ∈ r, r.foldl (fun a b => if b < a then b else a) x ≤ y) ∧ (r.foldl (fun a b => if b < a then b else a) x = x ∨ r.foldl (fun a b => if b < a then b else a) x ∈ r)
  | [], x => ⟨Int.le_refl _, by simp, .inl rfl⟩
  | y :: r, x => by
    rw [List.foldl_cons]
    obtain ⟨h1, h2, h3⟩ := foldl_min r (if y < x then y else x)
    refine ⟨?_, fun z hz => ?_, ?_⟩
    · refine Int.le_trans h1 ?_
      split <;> omega
    · rcases List.mem_cons.mp hz with rfl | hz
      · refine Int.le_trans h1 ?_
        split <;> omega
      · exact h2 z hz
    · rcases h3 with h3 | h3
      · rw [h3]
        split
        · exact .inr (List.mem_cons_self ..)
        · exact .inl rfl
      · exact .inr (List.mem_cons_of_mem _ h3)
theorem maxI_is {ns : List Int} {m : Int} (h : m ∈ ns) (h' : ∀ y, y ∈ ns → y ≤ m) : m = maxI ns := by
  cases ns with
  | nil => cases h
  | cons x r =>
    obtain ⟨h1, h2, h3⟩ := foldl_max r x
    apply Int.le_antisymm
    · rcases List.mem_cons.mp h with rfl | h
      · exact h1
      · exact h2 m h
    · rcases h3 with h3 | h3
      · show List.foldl _ x r ≤ m; rw [h3]; exact h' x (List.mem_cons_self ..)
      · exact h' _ (List.mem_cons_of_mem _ h3)
theorem minI_is {ns : List Int} {m : Int} (h : m ∈ ns) (h' : ∀ y, y ∈ ns → m ≤ y) : m = minI ns := by
  cases ns with
  | nil => cases h
  | cons x r =>
    obtain ⟨h1, h2, h3⟩ := foldl_min r x
    apply Int.le_antisymm
    · rcases h3 with h3 | h3
      · show m ≤ List.foldl _ x r; rw [h3]; exact h' x (List.mem_cons_self ..)
      · exact h' _ (List.mem_cons_of_mem _ h3)
    · rcases List.mem_cons.mp h with rfl | h
      · exact h1
      · exact h2 m h
theorem insI_perm (x : Int) : ∀ r : List Int, (insI x r).Perm (x :: r)
  | [] => .refl _
  | y :: r => by
    unfold insI
    split
    · exact .refl _
    · exact ((insI_perm x r).cons y).trans (.swap x y r)
theorem srtI_perm : ∀ ns : List Int, (srtI ns).Perm ns
  | [] => .refl _
  | x :: r => (insI_perm x (srtI r)).trans ((srtI_perm r).cons x)
theorem insI_srt (x : Int) : ∀ {r : List Int}, r.Pairwise (· ≤ ·) → (insI x r).Pairwise (· ≤ ·)
  | [], _ => by simp [insI]
  | y :: r, h => by
    unfold insI
    rw [List.pairwise_cons] at h
    split
    · rename_i q
      exact List.pairwise_cons.mpr ⟨fun z hz => by
        rcases List.mem_cons.mp hz with rfl | hz
        · exact q
        · exact Int.le_trans q (h.1 z hz), List.pairwise_cons.mpr h⟩
    · rename_i q
      refine List.pairwise_cons.mpr ⟨fun z hz => ?_, insI_srt x h.2⟩
      rcases List.mem_cons.mp ((insI_perm x r).mem_iff.mp hz) with rfl | hz
      · omega
      · exact h.1 z hz
theorem srtI_srt : ∀ ns : List Int, (srtI ns).Pairwise (· ≤ ·)
  | [] => .nil
  | x :: r => insI_srt x (srtI_srt r)
theorem srtI_is {ns ms : List Int} (h : ms.Perm ns) (s : ms.Pairwise (· ≤ ·)) : ms = srtI ns :=
  List.Perm.eq_of_pairwise (fun a b _ _ h1 h2 => Int.le_antisymm h1 h2) s (srtI_srt ns) (h.trans (srtI_perm ns).symm)
section
variable {T : Tb} {G : Wd} {gn : Gn} {bs : List Nat} {W : WX} {k : Nat} {X : Cx} {ρ ρ' : List Addr} {S S' : Sto} {H H' : Hp} {env : Env} {σ : L2.St} {α β : Type}
theorem Rps.views (s : StOk G bs ρ S H) : ∀ {ds : List D} {vs : List V}, Rps G ρ H ds vs → Vws G ρ H (ds.map (dr S)) vs
  | _, _, .nil => .nil
  | _, _, .cons h t => .cons (h.view s) (Rps.views s t)
def rBi (K : PySem.W.Frag) (ds : List D) (r : D) : List V → Hp → VK → Prop := fun vs H Q => ∃ (G : Wd) (_ : G.K = K) (bs : List Nat) (ρ : List Addr) (S : Sto), StOk G bs ρ S H ∧ Vws G ρ H ds vs ∧ Tld G bs ρ H S r Q
theorem vagg_ok (hc : X.calm = true) {b : Bi} {xs : List D} {r : D} (h : vagg b xs = some r) (hb : b ≠ .tuple ∧ b ≠ .list) : CallR X (biF b) (rBi X.K [.lst xs] r) := by
  intro pins s σ H vs us Q I rv ⟨G, gK, bs, ρ, S, st, w, t⟩
  cases w with | cons w0 w1 =>
  cases w1; cases w0 with | lst e rr =>
  unfold vagg at h
  split at h
  · split at h
    · rename_i ns e1; cases h
      have := dInts_V e1 rr; subst this
      exact cr_sum hc pins s σ H _ us Q I rv ⟨_, ns, rfl, .of e, t.at_ st (.int _)⟩
    · cases h
  · split at h
    · rename_i ns e1
      split at h
      · rename_i hne; cases h
        have := dInts_V e1 rr; subst this
        exact cr_max hc pins s σ H _ us Q I rv ⟨_, ns, rfl, .of e, List.length_pos_iff.mpr hne, fun m h1 h2 => by rw [maxI_is h1 h2]; exact t.at_ st (.int _)⟩
      · cases h
    · cases h
  · split at h
    · rename_i ns e1
      split at h
      · rename_i hne; cases h
        have := dInts_V e1 rr; subst this
        exact cr_min hc pins s σ H _ us Q I rv ⟨_, ns, rfl, .of e, List.length_pos_iff.mpr hne, fun m h1 h2 => by rw [minI_is h1 h2]; exact t.at_ st (.int _)⟩
      · cases h
    · cases h
  · split at h
    · rename_i ns e1; cases h
      have := dBls_V e1 rr; subst this
      exact cr_all hc pins s σ H _ us Q I rv ⟨_, ns, rfl, .of e, t.at_ st (.bl _)⟩
    · cases h
  · split at h
    · rename_i ns e1; cases h
      have := dBls_V e1 rr; subst this
      exact cr_any hc pins s σ H _ us Q I rv ⟨_, ns, rfl, .of e, t.at_ st (.bl _)⟩
    · cases h
  · exact absurd rfl hb.1
  · exact absurd rfl hb.2
  · cases h
theorem vbi_ok (hc : X.calm = true) {b : Bi} {ds : List D} {r : D} (h : vbi b ds = some r) : CallR X (biF b) (rBi X.K ds r) := by
  unfold vbi at h
  split at h
  · rename_i d
    intro pins s σ H vs us Q I rv ⟨G, gK, bs, ρ, S, st, w, t⟩
    cases w with | cons w0 w1 =>
    cases w1
    cases e : items? d with
    | none => rw [e] at h; cases h
    | some xs =>
      rw [e] at h; cases h
      obtain ⟨p, ys, rfl, q, rr⟩ := w0.items (X := X) gK e
      refine call_len_seq pins s σ H _ us Q I rv ⟨p, ys, rfl, q, ?_⟩
      rw [← rr.length]
      exact t.at_ st (.int _)
  · cases h
    intro pins s σ H vs us Q I rv ⟨G, gK, bs, ρ, S, st, w, t⟩
    cases w with | cons w0 w1 =>
    cases w1; cases w0
    exact call_abs pins s σ H _ us Q I rv ⟨_, rfl, t.at_ st (.int _)⟩
  · cases h
    intro pins s σ H vs us Q I rv ⟨G, gK, bs, ρ, S, st, w, t⟩
    cases w with | cons w0 w1 =>
    cases w1; cases w0
    exact call_int1 pins s σ H _ us Q I rv (.inl ⟨_, rfl, t.at_ st (.int _)⟩)
  · cases h
    intro pins s σ H vs us Q I rv ⟨G, gK, bs, ρ, S, st, w, t⟩
    cases w with | cons w0 w1 =>
    cases w1; cases w0
    exact call_int1 pins s σ H _ us Q I rv (.inr ⟨_, rfl, t.at_ st (.int _)⟩)
  · cases h
    intro pins s σ H vs us Q I rv ⟨G, gK, bs, ρ, S, st, w, t⟩
    cases w with | cons w0 w1 => cases w1 with | cons w1 w2 =>
    cases w2; cases w0; cases w1
    exact cr_gcd pins s σ H _ us Q I rv ⟨_, _, rfl, t.at_ st (.int _)⟩
  · cases h
    intro pins s σ H vs us Q I rv ⟨G, gK, bs, ρ, S, st, w, t⟩
    cases w with | cons w0 w1 => cases w1 with | cons w1 w2 =>
    cases w2; cases w0; cases w1
    exact call_max2 hc pins s σ H _ us Q I rv ⟨_, _, rfl, t.at_ st (.int _)⟩
  · cases h
    intro pins s σ H vs us Q I rv ⟨G, gK, bs, ρ, S, st, w, t⟩
    cases w with | cons w0 w1 => cases w1 with | cons w1 w2 =>
    cases w2; cases w0; cases w1
    exact call_min2 hc pins s σ H _ us Q I rv ⟨_, _, rfl, t.at_ st (.int _)⟩
  · cases h
    intro pins s σ H vs us Q I rv ⟨G, gK, bs, ρ, S, st, w, t⟩
    cases w with | cons w0 w1 =>
    cases w1; cases w0 with | tup e rr =>
    exact call_tuple_of pins s σ H _ us Q I rv ⟨_, _, rfl, .inr ⟨.of e, t.at_ st (.tup e rr)⟩⟩
  · cases h
    intro pins s σ H vs us Q I rv ⟨G, gK, bs, ρ, S, st, w, t⟩
    cases w with | cons w0 w1 =>
    cases w1; cases w0 with | lst e rr =>
    exact call_tuple_of pins s σ H _ us Q I rv ⟨_, _, rfl, .inl ⟨.of e, fun p hp => t.new st hp (st.newTup hp rr)⟩⟩
  · exact vagg_ok hc (b := .sum) h (by simp)
  · exact vagg_ok hc (b := .all) h (by simp)
  · exact vagg_ok hc (b := .any) h (by simp)
  · exact vagg_ok hc (b := .max) h (by simp)
  · exact vagg_ok hc (b := .min) h (by simp)
  · cases h
/-- a built-in's reading -/
def rBi2 (K : PySem.W.Frag) (b : Bi) : List V → Hp → VK → Prop := fun vs H Q => ∃ ds r, vbi b ds = some r ∧ rBi K ds r vs H Q
theorem bi_ok (hc : X.calm = true) (b : Bi) : CallR X (biF b) (rBi2 X.K b) := fun pins s σ H vs us Q I rv ⟨ds, r, e, q⟩ => vbi_ok hc e pins s σ H vs us Q I rv q
theorem pe_cb (F : Facts T G gn X.K X.mg) {b : Bi} {r : List V → Hp → VK → Prop} {p pos : Pos} {e : Expr} {es : List Expr} {t : TA} (hc : CallR X (biF b) r) (hg : Gl X (biN b)) (hgc : b = .gcd → X.mg "gcd" = some (.builtin "math.gcd")) (ha : PA X (e :: es) t) (hp : (e :: es).all plainE = true) :
    PE X (.Call (.Name (biN b) p) (e :: es) [] pos) (tCB r t) := by
  rw [List.all_cons, Bool.and_eq_true] at hp
  have h1 := star_of (env := X.env) (es := es) hp.1
  have h2 := (plain_all (env := X.env) hp.2 pos).1
  cases b with
  | len => exact pe_callB hc hg (F.blt _ (by decide)) rfl ha (by decide) (by decide) h1 h2
  | abs => exact pe_callB hc hg (F.blt _ (by decide)) rfl ha (by decide) (by decide) h1 h2
  | int => exact pe_callTy hc hg (F.blt _ (by decide)) rfl ha (by decide) (by decide) h1 h2
  | tuple => exact pe_callTy hc hg (F.blt _ (by decide)) rfl ha (by decide) (by decide) h1 h2
  | list => exact pe_callTy hc hg (F.blt _ (by decide)) rfl ha (by decide) (by decide) h1 h2
  | gcd => exact pe_callBfun hc hg (hgc rfl) ha (by decide) h1 h2
  | max2 => exact pe_callB hc hg (F.blt _ (by decide)) rfl ha (by decide) (by decide) h1 h2
  | min2 => exact pe_callB hc hg (F.blt _ (by decide)) rfl ha (by decide) (by decide) h1 h2
  | sum => exact pe_callB hc hg (F.blt _ (by decide)) rfl ha (by decide) (by decide) h1 h2
  | all => exact pe_callB hc hg (F.blt _ (by decide)) rfl ha (by decide) (by decide) h1 h2
  | any => exact pe_callB hc hg (F.blt _ (by decide)) rfl ha (by decide) (by decide) h1 h2
  | max => exact pe_callB hc hg (F.blt _ (by decide)) rfl ha (by decide) (by decide) h1 h2
  | min => exact pe_callB hc hg (F.blt _ (by decide)) rfl ha (by decide) (by decide) h1 h2
  | sorted => exact pe_callB hc hg (F.blt _ (by decide)) rfl ha (by decide) (by decide) h1 h2
theorem pe_biE (C : XC T G gn k X W) (b : Bi) {p pos : Pos} {e : Expr} {es : List Expr} {evs : Env → Sto → R (List D)} (hg : Gl X (biN b)) (hgc : b = .gcd → gn.gcd = true) (ha : PA X (e :: es) (tEs G gn bs W evs)) (hp : (e :: es).all plainE = true) :
    PE X (.Call (.Name (biN b) p) (e :: es) [] pos) (tE G gn bs W (fun env S => bnd (evs env S) fun ds S1 => bi2 b ds S1)) :=
  (pe_cb C.F (bi_ok C.calm b) hg (fun z => C.F.gcd (hgc z)) ha hp).imp fun σ H Q ⟨ρ, S, env, st, ce, tb, h⟩ =>
    (Fs.mk st ce tb).seqs h fun ds S1 ρ1 H1 x x1 f1 r1 h1 => by
      obtain ⟨r, e, h2⟩ := h1.ofO
      exact ⟨_, r, e, G, C.F.kK, bs, ρ1, S1, f1.st, r1.views f1.st, h2.tld⟩
/-! ### isinstance -/
def tyN : Ty → String
  | .int => "int"
  | .bool => "bool"
  | .str => "str"
  | .tuple => "tuple"
  | .list => "list"
  | .cls _ => ""
def tyV' (G : Wd) : Ty → V
  | .cls c => .ref (G.cl c)
  | t => .ty (tyN t)
def tyU (G : Wd) : Ty → Value
  | .cls c => .ref (G.cl c)
  | t => .type (tyN t)
def tyIs (gn : Gn) : Ty → Expr → Bool
  | .cls c, .Name x _ => gn.cnm c == some x
  | .int, .Name x _ => x == "int"
  | .bool, .Name x _ => x == "bool"
  | .str, .Name x _ => x == "str"
  | .tuple, .Name x _ => x == "tuple"
  | .list, .Name x _ => x == "list"
  | _, _ => false
theorem tyClsV (G : Wd) (t : Ty) : ClsV (tyV' G t) (tyU G t) := by
  cases t <;> first | exact .ty _ | exact .own _
/-- a value that isinstance is asked of -/
def okT (T : Tb) : D → Prop
  | .ref _ => False
  | .fn _ => False
  | .cls _ => False
  | .obj c _ _ => T.cok c = true
  | _ => True
/-- the type of a value -/
def dTy (G : Wd) : D → Value
  | .non => .type "NoneType"
  | .bl _ => .type "bool"
  | .int _ => .type "int"
  | .str _ => .type "str"
  | .tup _ => .type "tuple"
  | .lst _ => .type "list"
  | .scr _ => .type "list"
  | .obj c _ _ => .ref (G.cl c)
  | _ => .none
theorem kit1 (F : Facts T G gn X.K X.mg) {d : D} (t : Ty) (ht : ∀ c, t = .cls c → ∃ x, gn.cnm c = some x) (h : okT T d) : PySem.W.kitOne X.K (dTy G d) (tyU G t) = some (isTy d t) := by
  cases t with
  | cls c =>
    obtain ⟨x, hx⟩ := ht c rfl
    cases d with
    | obj c' fs vs =>
      obtain ⟨y, hy⟩ := F.cok _ h
      exact F.isi _ _ _ _ hy hx
    | ref _ => exact h.elim
    | fn _ => exact h.elim
    | cls _ => exact h.elim
    | non => exact F.isc _ _ _ hx (by decide)
    | bl _ => exact F.isc _ _ _ hx (by decide)
    | int _ => exact F.isc _ _ _ hx (by decide)
    | str _ => exact F.isc _ _ _ hx (by decide)
    | tup _ => exact F.isc _ _ _ hx (by decide)
    | lst _ => exact F.isc _ _ _ hx (by decide)
    | scr _ => exact F.isc _ _ _ hx (by decide)
  | _ =>
    cases d with
    | obj c' fs vs =>
      obtain ⟨y, hy⟩ := F.cok _ h
      exact F.isb _ _ _ hy (by decide)
    | ref _ => exact h.elim
    | fn _ => exact h.elim
    | cls _ => exact h.elim
    | _ => exact kit_ty rfl
theorem kitA (F : Facts T G gn X.K X.mg) {d : D} (h : okT T d) : ∀ (ts : List Ty), (∀ c, .cls c ∈ ts → ∃ x, gn.cnm c = some x) → PySem.W.kitAny X.K (dTy G d) (ts.map (tyU G)) = some (ts.any (isTy d))
  | [], _ => kitAny_nil
  | t :: ts, ht => by
    rw [List.map_cons, List.any_cons]
    refine kitAny_cons (kit1 F t (fun c e => ht c (by rw [e]; exact List.mem_cons_self ..)) h) (fun q => ?_) (fun q => ?_)
    · rw [q, Bool.false_or]; exact kitA F h ts fun c hc => ht c (List.mem_cons_of_mem _ hc)
    · rw [q, Bool.true_or]
theorem Vw.tyX (F : Facts T G gn X.K X.mg) {d : D} {v : V} (w : Vw G ρ H d v) (h : okT T d) : TyX X.K H v (dTy G d) := by
  cases w with
  | non => exact .base .non
  | bl b => exact .base (.bl b)
  | int i => exact .base (.int i)
  | str x => exact .base (.str x)
  | tup e r => exact .base (.tup e)
  | lst e r => exact .base (.lst e)
  | obj e r l =>
    obtain ⟨y, hy⟩ := F.cok _ h
    have c := F.cls _ _ hy
    exact .base (.ins e c.cls c.ha c.hn c.ht c.hm)
  | ref _ _ => exact h.elim
  | fn _ => exact h.elim
  | cls _ => exact h.elim
  | scr e =>
    rcases e with e | ⟨o, e⟩
    · exact .base (.lst e)
    · exact .base (.frz e)
  | scrK e =>
    rw [F.kK] at e
    obtain ⟨o, its, n, h1, h2, _⟩ := e
    exact .kList h1 h2
theorem isTys_ok {d : D} {ts : List Ty} {b : Bool} (h : isTys T.cok d ts = some b) : okT T d ∧ ts.any (isTy d) = b := by
  cases d with
  | obj c fs vs =>
    simp only [isTys] at h
    split at h
    · rename_i q; cases h; exact ⟨q, rfl⟩
    · cases h
  | ref _ => cases h
  | fn _ => cases h
  | cls _ => cases h
  | _ => cases h; exact ⟨True.intro, rfl⟩
theorem pe_ty (F : Facts T G gn X.K X.mg) {t : Ty} {e : Expr} (h : tyIs gn t e = true) (hg : ∀ x p, e = .Name x p → Gl X x ∧ (x == ("__debug__" : Str)) = false) : PE X e (tC (tyV' G t)) ∧ (∀ c, t = .cls c → ∃ x, gn.cnm c = some x) := by
  cases e <;> try (cases t <;> simp [tyIs] at h; done)
  rename_i x p
  obtain ⟨g1, g2⟩ := hg x p rfl
  cases t with
  | cls c =>
    have q : gn.cnm c = some x := by simpa [tyIs] using h
    refine ⟨pe_glob g1 (F.cn _ _ q) rfl g2, fun c' e => ?_⟩
    cases e
    exact ⟨x, q⟩
  | int => have q : x = "int" := by simpa [tyIs] using h
           subst q; exact ⟨pe_bltn g1 (F.blt _ (by decide)) (u := .type "int") rfl rfl (by decide) g2, fun c e => by cases e⟩
  | bool => have q : x = "bool" := by simpa [tyIs] using h
            subst q; exact ⟨pe_bltn g1 (F.blt _ (by decide)) (u := .type "bool") rfl rfl (by decide) g2, fun c e => by cases e⟩
  | str => have q : x = "str" := by simpa [tyIs] using h
           subst q; exact ⟨pe_bltn g1 (F.blt _ (by decide)) (u := .type "str") rfl rfl (by decide) g2, fun c e => by cases e⟩
  | tuple => have q : x = "tuple" := by simpa [tyIs] using h
             subst q; exact ⟨pe_bltn g1 (F.blt _ (by decide)) (u := .type "tuple") rfl rfl (by decide) g2, fun c e => by cases e⟩
  | list => have q : x = "list" := by simpa [tyIs] using h
            subst q; exact ⟨pe_bltn g1 (F.blt _ (by decide)) (u := .type "list") rfl rfl (by decide) g2, fun c e => by cases e⟩
/-- the list of types -/
def tysIs (gn : Gn) : List Ty → List Expr → Bool
  | [], [] => true
  | t :: ts, e :: es => tyIs gn t e && tysIs gn ts es
  | _, _ => false
theorem pa_tys (F : Facts T G gn X.K X.mg) : ∀ {ts : List Ty} {es : List Expr}, tysIs gn ts es = true → (∀ x p, Expr.Name x p ∈ es → Gl X x ∧ (x == ("__debug__" : Str)) = false) → PA X es (fun _ H Q => Q (ts.map (tyV' G)) H) ∧ (∀ c, .cls c ∈ ts → ∃ x, gn.cnm c = some x) ∧ es.length = ts.length
  | [], [], _, _ => ⟨pa_nil.imp fun σ H Q h => h, by simp, rfl⟩
  | [], _ :: _, h, _ => by simp [tysIs] at h
  | _ :: _, [], h, _ => by simp [tysIs] at h
  | t :: ts, e :: es, h, hg => by
    rw [tysIs, Bool.and_eq_true] at h
    obtain ⟨h1, h2⟩ := pe_ty F h.1 fun x p z => hg x p (by rw [z]; exact List.mem_cons_self ..)
    obtain ⟨h3, h4, h5⟩ := pa_tys F h.2 fun x p z => hg x p (List.mem_cons_of_mem _ z)
    have hpl : plainE e = true := by
      have := h.1
      cases e <;> first | rfl | (cases t <;> simp [tyIs] at this)
    refine ⟨(pa_cons h1 h3 (star_of hpl)).imp fun σ H Q q => q, fun c hc => ?_, by rw [List.length_cons, List.length_cons, h5]⟩
    rcases List.mem_cons.mp hc with q | q
    · exact h2 c q.symm
    · exact h4 c q
theorem paired_tys (G : Wd) : ∀ ts : List Ty, Paired ClsV (ts.map (tyV' G)) (ts.map (tyU G))
  | [] => .nil
  | t :: ts => .cons (tyClsV G t) (paired_tys G ts)
/-- isinstance(a, T), isinstance(a, (T, ..)) -/
theorem pe_istE (C : XC T G gn k X W) {ts : List Ty} {p pos : Pos} {a e : Expr} {ea : EF} (hg : Gl X "isinstance") (ha : PE X a (tE G gn bs W ea)) (hp : plainE a = true)
    (h : (∃ t, ts = [t] ∧ tyIs gn t e = true ∧ ∀ x p, e = .Name x p → Gl X x ∧ (x == ("__debug__" : Str)) = false) ∨ (∃ es j tp, e = .Tuple es j tp ∧ tysIs gn ts es = true ∧ ts.length ≤ 100 ∧ ∀ x p, Expr.Name x p ∈ es → Gl X x ∧ (x == ("__debug__" : Str)) = false)) :
    PE X (.Call (.Name "isinstance" p) [a, e] [] pos) (tE G gn bs W (fun env S => bnd (ea env S) fun x S1 => ofO ((isTys T.cok (dr S1 x) ts).map .bl) S1)) := by
  have F := C.F
  rcases h with ⟨t, rfl, h1, h2⟩ | ⟨es, j, tp, rfl, h1, hl, h2⟩
  · obtain ⟨q1, q2⟩ := pe_ty F h1 h2
    have hpl : plainE e = true := by
      cases e <;> first | rfl | (cases t <;> simp [tyIs] at h1)
    refine (pe_callB (CallR.or call_isi call_isiT) hg (F.blt _ (by decide)) rfl (pa_cons ha (pa_cons q1 pa_nil (star_of hpl)) (star_of hp)) (by decide) (by decide) (star_of hp) (plain_all (es := [e]) (by simp [hpl]) pos).1).imp fun σ H Q ⟨ρ, S, env, st, ce, tb, h⟩ =>
      (Fs.mk st ce tb).seq h fun dx S1 ρ1 H1 x x1 f1 r1 h1 => ?_
    obtain ⟨r, e1, h3⟩ := h1.ofO
    cases e2 : isTys T.cok (dr S1 dx) [t] with
    | none => rw [e2] at e1; cases e1
    | some b =>
      rw [e2] at e1; cases e1
      obtain ⟨g1, g2⟩ := isTys_ok e2
      refine .inl ⟨x, tyV' G t, _, tyU G t, b, rfl, tyClsV G t, (r1.view f1.st).tyX F g1, ?_, f1.done h3 (.bl b)⟩
      rw [kit1 F t q2 g1, ← g2, List.any_cons, List.any_nil, Bool.or_false]
  · obtain ⟨q1, q2, q3⟩ := pa_tys F h1 h2
    refine (pe_callB (CallR.or call_isi call_isiT) hg (F.blt _ (by decide)) rfl (pa_cons ha (pa_cons (pe_tup q1) pa_nil) (star_of hp)) (by decide) (by decide) (star_of hp)).imp fun σ H Q ⟨ρ, S, env, st, ce, tb, h⟩ =>
      (Fs.mk st ce tb).seq h fun dx S1 ρ1 H1 x x1 f1 r1 h1 => ?_
    refine ⟨by rw [List.length_map]; exact Nat.le_trans hl (by rw [sizeLine_eq]; decide), fun p hp => ?_⟩
    obtain ⟨r, e1, h3⟩ := h1.ofO
    cases e2 : isTys T.cok (dr S1 dx) ts with
    | none => rw [e2] at e1; cases e1
    | some b =>
      rw [e2] at e1; cases e1
      obtain ⟨g1, g2⟩ := isTys_ok e2
      have s2 := f1.st.new (o := .tup (ts.map (tyV' G))) hp
      refine .inr ⟨x, p, ts.map (tyV' G), _, ts.map (tyU G), b, rfl, upd_same, paired_tys G ts, ((r1.mono (Nx.new hp) f1.st.apt).view s2).tyX F g1, ?_, h3 ρ1 _ (Nx.new hp) s2 _ (.bl b)⟩
      rw [kitA F g1 ts q2, g2]
end
end Ev


set_option maxHeartbeats 200000
set_option Elab.async false
set_option maxRecDepth 100000
set_option maxHeartbeats 1000000
/-! New lists. -/
namespace Ev
open PySem PySem.Spec PyProof.Rows L2

abbrev KA (G : Wd) (Q : VK) : Nat → Sto → List Addr → Hp → Prop := fun n _ ρ' H' => ∀ v, Rp G ρ' H' (.ref n) v → Q v H'
/-- an allocating form's reading -/
def tA (G : Wd) (gn : Gn) (bs : List Nat) (W : WX) (ev : Env → Sto → R Nat) : TE := fun σ H Q => ∃ ρ S env, StOk G bs ρ S H ∧ CfE G ρ H env σ ∧ TabsOk G gn H ∧ Sat G bs W σ ρ H (ev env S) (KA G Q)
section
variable {T : Tb} {G : Wd} {gn : Gn} {bs : List Nat} {W : WX} {k : Nat} {X : Cx} {ρ ρ' : List Addr} {S S' : Sto} {H H' : Hp} {env : Env} {σ : L2.St} {α β : Type}
mutual
theorem Rp.cut {n : Nat} : ∀ {d : D} {v : V}, Rp G ρ H d v → d.blw n = true → Rp G (ρ.take n) H d v
  | _, _, .non, _ => .non
  | _, _, .bl b, _ => .bl b
  | _, _, .int i, _ => .int i
  | _, _, .str x, _ => .str x
  | _, _, .tup e r, h => .tup e (Rps.cutB r (by simpa only [D.blw] using h))
  | _, _, .lst e q m r, h => .lst e (fun z => q (List.mem_of_mem_take z)) m (Rps.cutB r (by simpa only [D.blw] using h))
  | _, _, .obj e q m r l, h => .obj e (fun z => q (List.mem_of_mem_take z)) m (Rps.cutB r (by simpa only [D.blw] using h)) l
  | _, _, .ref e, h => .ref (by
    rw [D.blw] at h
    rw [List.getElem?_take_of_lt (of_decide_eq_true h)]
    exact e)
  | _, _, .fn f, _ => .fn f
  | _, _, .cls c, _ => .cls c
  | _, _, .scrK e, _ => .scrK e
  | _, _, .scr e q m, _ => .scr e (fun z => q (List.mem_of_mem_take z)) m
theorem Rps.cutB {n : Nat} : ∀ {ds : List D} {vs : List V}, Rps G ρ H ds vs → D.blws n ds = true → Rps G (ρ.take n) H ds vs
  | _, _, .nil, _ => .nil
  | _, _, .cons h t, q => by
    rw [D.blws, Bool.and_eq_true] at q
    exact .cons (Rp.cut h q.1) (Rps.cutB t q.2)
end
theorem CellOk.cut {n : Nat} {a : Addr} {d : D} (c : CellOk G ρ H a d) (h : d.blw n = true) : CellOk G (ρ.take n) H a d := by
  cases c with
  | lst e r => exact .lst e (r.cutB (by simpa only [D.blw] using h))
  | obj e r l => exact .obj e (r.cutB (by simpa only [D.blw] using h)) l
theorem StOk.cut {n : Nat} (s : StOk G bs ρ S H) (h : ∀ (i : Nat) (d : D), i < n → S[i]? = some d → d.blw n = true) (hb : ∀ b ∈ bs, b ≤ n) (hn : n ≤ S.length) : StOk G bs (ρ.take n) (S.take n) H where
  len := by rw [List.length_take, List.length_take, s.len]
  nd := s.nd.sublist (List.take_sublist _ _)
  at_ := fun i a d e1 e2 => by
    have hi : i < n := by
      have := (List.getElem?_eq_some_iff.mp e1).1
      rw [List.length_take] at this
      omega
    rw [List.getElem?_take_of_lt hi] at e1 e2
    exact (s.at_ i a d e1 e2).cut (h i d hi e2)
  low := fun b hbb i d hi e => s.low b hbb i d hi (by
    rw [List.getElem?_take] at e
    split at e
    · exact e
    · cases e)
  base := fun b hbb => by rw [List.length_take]; have := hb b hbb; omega
  out := fun a ha => ⟨(s.out a ha).1, fun q => (s.out a ha).2 (List.mem_of_mem_take q)⟩
/-- the newest cell is closed -/
theorem Fs.close (f : Fs G gn bs ρ S H env σ) {ev : Env → Sto → R Nat} {Q : VK} (h : Sat G bs W σ ρ H (bnd (ev env S) fun n S1 => if n = S.length then closed n S1 else .bad) (KQ G Q)) : Sat G bs W σ ρ H (ev env S) (KA G Q) := by
  cases ee : ev env S with
  | err c fs vs S1 => rw [ee] at h; exact h
  | bad => rw [ee] at h; exact h.elim
  | ok n S1 =>
  rw [ee] at h
  have h1 : Sat G bs W σ ρ H (if n = S.length then closed n S1 else .bad) (KQ G Q) := h
  intro ρ1 H1 x s v rv
  split at h1
  · rename_i hn
    unfold closed at h1
    split at h1
    · rename_i ds hd
      split at h1
      · rename_i hb
        obtain ⟨μ, rfl, hf⟩ := id x.pre
        have hl : S1.length = n + 1 := by
          have := congrArg List.length hd
          rw [List.length_drop, List.length_singleton] at this
          omega
        have hρ : ρ.length = n := by rw [f.st.len, hn]
        have hm := blws_mem.mp hb
        have e1 : S1[n]? = some (.lst ds) := by
          have : (S1.drop n)[0]? = some (.lst ds) := by rw [hd]; rfl
          rw [List.getElem?_drop] at this
          exact this
        cases rv with | ref ea =>
        have hc := s.at_ n _ _ ea e1
        have ht : (ρ ++ μ).take n = ρ := by rw [← hρ, List.take_left]
        have s2 := s.cut (n := n) (fun i d _ e => hm d (List.mem_of_getElem? e)) (fun b hb => by have := f.st.base b hb; omega) (by omega)
        rw [ht] at s2
        cases hc with | lst e r =>
        have bd : D.blws n ds = true := by
          have := hm _ (List.mem_of_getElem? e1)
          rw [D.blw] at this
          exact this
        have r2 := r.cutB bd
        rw [ht] at r2
        refine h1 ρ H1 ⟨⟨[], by simp, fun p hp => by simp at hp⟩, x.keep, x.dom, x.tab⟩ s2 _ (.lst e (fun q => ?_) (fun q => (s.out _ q).2 (List.mem_of_getElem? ea)) r2)
        obtain ⟨i, hi⟩ := List.getElem?_of_mem q
        have hi2 := (List.getElem?_eq_some_iff.mp hi).1
        have : i = n := by
          have e3 := (List.getElem?_append_left (l₂ := μ) hi2).trans hi
          obtain ⟨h1', q1⟩ := List.getElem?_eq_some_iff.mp e3
          obtain ⟨h2', q2⟩ := List.getElem?_eq_some_iff.mp ea
          exact (List.getElem_inj s.nd).mp (q1.trans q2.symm)
        omega
      · exact h1.elim
    · exact h1.elim
  · exact h1.elim
theorem pe_frzE {e : Expr} {ev : Env → Sto → R Nat} (h : PE X e (tA G gn bs W ev)) : PE X e (tE G gn bs W (fun env S => bnd (ev env S) fun n S1 => if n = S.length then closed n S1 else .bad)) :=
  h.imp fun σ H Q ⟨ρ, S, env, st, ce, tb, h⟩ => ⟨ρ, S, env, st, ce, tb, (Fs.mk st ce tb).close h⟩
/-- a new list is a new cell -/
theorem Fs.newCell (f : Fs G gn bs ρ S H env σ) {xs : List D} {vs : List V} {Q : VK} (h : Sat G bs W σ ρ H (.ok S.length (S ++ [.lst xs])) (KA G Q)) (r : Rps G ρ H xs vs) {p : Addr} (hp : H p = none) : Q (.ref p) (upd H p (.lst vs)) := by
  have x : Nx ρ H (ρ ++ [p]) (upd H p (.lst vs)) := Nx.cell hp
  refine h _ _ x (f.st.cell_ hp (.lst upd_same (r.mono x f.st.apt))) _ (.ref ?_)
  rw [← f.st.len, List.getElem?_append_right (Nat.le_refl _), Nat.sub_self]
  rfl
theorem pe_dispE {es : List Expr} {evs : Env → Sto → R (List D)} {pos : Pos} (h : PA X es (tEs G gn bs W evs)) (hl : es.length ≤ 1000) (hn : ∀ env S ds S1, evs env S = .ok ds S1 → ds.length = es.length) :
    PE X (.List es pos) (tA G gn bs W (fun env S => bnd (evs env S) fun ds S1 => .ok S1.length (S1 ++ [.lst ds]))) :=
  (pe_lst h).imp fun σ H Q ⟨ρ, S, env, st, ce, tb, h⟩ => by
    refine (Fs.mk st ce tb).tEs ?_
    have h2 := h.bnd
    cases e : evs env S with
    | ok ds S1 =>
      rw [e] at h2
      intro ρ1 H1 x1 s1 vs r
      have f1 : Fs G gn bs ρ1 S1 H1 env σ := (Fs.mk st ce tb).next x1 s1
      refine ⟨?_, fun p hp => f1.newCell (h2 ρ1 H1 x1 s1) r hp⟩
      rw [← r.length, hn _ _ _ _ e]
      exact Nat.le_trans hl (by rw [sizeLine_eq]; decide)
    | err c fs vs S1 => rw [e] at h2; exact h2
    | bad => rw [e] at h2; exact h2.elim
/-! ### list(x), sorted(x) -/
theorem pe_ofsE (C : XC T G gn k X W) {p pos : Pos} {e : Expr} {ev : EF} (hg : Gl X "list") (he : PE X e (tE G gn bs W ev)) (hp : plainE e = true) :
    PE X (.Call (.Name "list" p) [e] [] pos) (tA G gn bs W (fun env S => bnd (ev env S) fun x S1 => (match items? (dr S1 x) with
      | some xs => .ok S1.length (S1 ++ [.lst xs])
      | none => .bad))) :=
  (pe_cb C.F (b := .list) call_list_of hg (fun z => by cases z) (pa_cons he pa_nil (star_of hp)) (by simp [hp])).imp fun σ H Q ⟨ρ, S, env, st, ce, tb, h⟩ =>
    (Fs.mk st ce tb).seq h fun dx S1 ρ1 H1 x x1 f1 r1 h1 => by
      split at h1
      · rename_i xs e
        obtain ⟨p, ys, rfl, q, rr⟩ := (r1.view f1.st).items (X := X) C.F.kK e
        exact ⟨p, ys, rfl, q, fun l hl => f1.newCell h1 rr hl⟩
      · exact h1.elim
theorem pe_rglE (C : XC T G gn k X W) {p p2 pos pos2 : Pos} {e : Expr} {ev : EF} (hg : Gl X "list") (hg2 : Gl X "range") (he : PE X e (tE G gn bs W ev)) (hp : plainE e = true) :
    PE X (.Call (.Name "list" p) [.Call (.Name "range" p2) [e] [] pos2] [] pos) (tA G gn bs W (fun env S => bnd (ev env S) fun x S1 => (match x with
      | .int i => if small i = true then .ok S1.length (S1 ++ [.lst (rng 0 i.toNat)]) else .bad
      | _ => .bad))) :=
  (pe_listRg C.calm hg (C.F.blt _ (by decide)) (prg_1 hg2 (C.F.blt _ (by decide)) he (star_of hp))).imp fun σ H Q ⟨ρ, S, env, st, ce, tb, h⟩ =>
    (Fs.mk st ce tb).seq h fun dx S1 ρ1 H1 x x1 f1 r1 h1 => by
      split at h1
      · rename_i i
        split at h1
        · rename_i hs
          cases r1
          have hs := of_decide_eq_true hs
          refine ⟨i, rfl, ⟨by omega, by omega, by omega, by omega, by omega⟩, fun q hq => ?_⟩
          have r : Rps G ρ1 H1 (rng 0 i.toNat) (rgV 0 i) := by
            have e1 : rng 0 i.toNat = ((List.range i.toNat).map fun (k : Nat) => (0 : Int) + (k : Int)).map D.int := by unfold rng; rw [List.map_map]; rfl
            have e2 : rgV 0 i = ((List.range i.toNat).map fun (k : Nat) => (0 : Int) + (k : Int)).map V.int := by unfold rgV; rw [List.map_map, Int.sub_zero]; rfl
            rw [e1, e2]
            exact Rps.ints _
          exact f1.newCell h1 r hq
        · exact h1.elim
      · exact h1.elim
theorem pe_srtE (C : XC T G gn k X W) {p pos : Pos} {e : Expr} {ev : EF} (hg : Gl X "sorted") (he : PE X e (tE G gn bs W ev)) (hp : plainE e = true) :
    PE X (.Call (.Name "sorted" p) [e] [] pos) (tA G gn bs W (fun env S => bnd (ev env S) fun x S1 => (match dr S1 x with
      | .lst xs => (match dInts xs with
        | some ns => .ok S1.length (S1 ++ [.lst ((srtI ns).map .int)])
        | none => .bad)
      | _ => .bad))) :=
  (pe_cb C.F (b := .sorted) cr_sortedI hg (fun z => by cases z) (pa_cons he pa_nil (star_of hp)) (by simp [hp])).imp fun σ H Q ⟨ρ, S, env, st, ce, tb, h⟩ =>
    (Fs.mk st ce tb).seq h fun dx S1 ρ1 H1 x x1 f1 r1 h1 => by
      have w := r1.view f1.st
      split at h1
      · rename_i xs e
        rw [e] at w
        split at h1
        · rename_i ns e2
          cases w with | lst e3 rr =>
          have := dInts_V e2 rr
          subst this
          refine ⟨_, ns, rfl, .of e3, fun ms p hperm hs hp => ?_⟩
          rw [srtI_is hperm hs]
          exact f1.newCell h1 (Rps.ints _) hp
        · exact h1.elim
      · exact h1.elim
/-! ### +, *, slices that make new lists -/
theorem pe_2A {op : Operator} {a b : Expr} {ea eb : EF} {g : D → D → Sto → R Nat} {r : R2} {pos : Pos} (ho : OpR X (binaryOp op) r) (ha : PE X a (tE G gn bs W ea)) (hb : PE X b (tE G gn bs W eb))
    (hr : ∀ ρ S H env σ dx dy x y Q, Fs G gn bs ρ S H env σ → Rp G ρ H dx x → Rp G ρ H dy y → Sat G bs W σ ρ H (g dx dy S) (KA G Q) → r x y H Q) :
    PE X (.BinOp a op b pos) (tA G gn bs W (fun env S => bnd (ea env S) fun x S1 => bnd (eb env S1) fun y S2 => g x y S2)) :=
  (pe_op ho ha hb).imp fun σ H Q ⟨ρ, S, env, st, ce, tb, h⟩ =>
    (Fs.mk st ce tb).seq h fun dx S1 ρ1 H1 x x1 f1 r1 h1 => f1.seq h1 fun dy S2 ρ2 H2 y x2 f2 r2 h2 => hr ρ2 S2 H2 env σ dx dy x y Q f2 (r1.mono x2 f1.st.apt) r2 h2
theorem pe_catE {a b : Expr} {ea eb : EF} {pos : Pos} (ha : PE X a (tE G gn bs W ea)) (hb : PE X b (tE G gn bs W eb)) :
    PE X (.BinOp a .Add b pos) (tA G gn bs W (fun env S => bnd (ea env S) fun x S1 => bnd (eb env S1) fun y S2 => (match vop .add (dr S2 x) (dr S2 y) with
      | some (.lst zs) => .ok S2.length (S2 ++ [.lst zs])
      | _ => .bad))) :=
  pe_2A op_cat ha hb fun ρ S H env σ dx dy x y Q f r1 r2 h => by
    have w1 := r1.view f.st
    have w2 := r2.view f.st
    split at h
    · rename_i zs e
      unfold vop at e
      split at e
      · rename_i i j _ _; simp [iop] at e
      · simp only at e; split at e <;> simp at e
      · rename_i xs ys e1 e2
        rw [e1] at w1
        rw [e2] at w2
        simp only at e
        split at e
        · rename_i c
          cases e
          cases w1 with | lst f1 q1 => cases w2 with | lst f2 q2 =>
          exact ⟨_, _, _, _, rfl, rfl, f1, f2, lim_le (by rw [← q1.length, ← q2.length]; exact c), fun p hp => f.newCell h (q1.append q2) hp⟩
        · cases e
      · simp at e
      · simp at e
      · cases e
    · exact h.elim
theorem pe_repE {a b : Expr} {ea eb : EF} {pos : Pos} (ha : PE X a (tE G gn bs W ea)) (hb : PE X b (tE G gn bs W eb)) :
    PE X (.BinOp a .Mult b pos) (tA G gn bs W (fun env S => bnd (ea env S) fun x S1 => bnd (eb env S1) fun y S2 => (match vop .mul (dr S2 x) (dr S2 y) with
      | some (.lst zs) => .ok S2.length (S2 ++ [.lst zs])
      | _ => .bad))) :=
  pe_2A op_rep ha hb fun ρ S H env σ dx dy x y Q f r1 r2 h => by
    have w1 := r1.view f.st
    have w2 := r2.view f.st
    split at h
    · rename_i zs e
      unfold vop at e
      split at e
      · cases q : iop .mul _ _ with
        | none => rw [q] at e; cases e
        | some _ => rw [q] at e; cases e
      · simp at e
      · simp at e
      · simp only at e; split at e <;> simp at e
      · rename_i xs n e1 e2
        rw [e1] at w1
        rw [e2] at w2
        simp only at e
        split at e
        · rename_i c
          cases e
          cases w1 with | lst f1 q1 => cases w2 with | int =>
          refine ⟨_, _, _, rfl, rfl, f1, by omega, by omega, ?_, fun p hp => f.newCell h (q1.flat _) hp⟩
          rw [← q1.length]
          exact lim_le (Nat.le_trans (Nat.mul_le_mul c.2.2 (show n.toNat ≤ 1000 by omega)) (by decide))
        · cases e
      · cases e
    · exact h.elim
theorem pe_slcA {a : Expr} {lo hi : Option Expr} {ea : EF} {el eh : Env → Sto → R (Option Int)} {pos p2 : Pos} (ha : PE X a (tE G gn bs W ea)) (hl : PO X lo (tP G gn bs W el)) (hh : PO X hi (tP G gn bs W eh)) :
    PE X (.Subscript a (.Slice lo hi none p2) pos) (tA G gn bs W (fun env S => bnd (ea env S) fun x S1 => bnd (el env S1) fun l S2 => bnd (eh env S2) fun h S3 => (match dr S3 x with
      | .lst xs => .ok S3.length (S3 ++ [.lst (Ev.cut xs l h)])
      | _ => .bad))) :=
  (pe_slice sl_list ha hl hh).imp fun σ H Q ⟨ρ, S, env, st, ce, tb, h⟩ =>
    (Fs.mk st ce tb).seq h fun dx S1 ρ1 H1 x x1 f1 r1 h1 => f1.seqP h1 fun l S2 ρ2 H2 x2 f2 h2 => f2.seqP h2 fun u S3 ρ3 H3 x3 f3 h3 => by
      have w := ((r1.mono x2 f1.st.apt).mono x3 f2.st.apt).view f3.st
      split at h3
      · rename_i xs e
        rw [e] at w
        cases w with | lst e1 r =>
        exact ⟨_, _, rfl, .of e1, fun p hp => f3.newCell h3 (r.cut l u) hp⟩
      · exact h3.elim
/-! ### append, pop -/
theorem blw_of_pure {d : D} {n : Nat} {b₀ : Nat} (hb : ∀ b ∈ bs, b ≤ b₀) (h : d.pure = true ∨ b₀ ≤ n) : ∀ b ∈ bs, n < b → d.blw b = true := fun b hbb hn => by
  rcases h with h | h
  · exact d.blw_pure b h
  · have := hb b hbb; omega
theorem StOk.lstAt (s : StOk G bs ρ S H) {n : Nat} {xs : List D} {v : V} (r : Rp G ρ H (.ref n) v) (e : S[n]? = some (.lst xs)) : ∃ a vs, v = .ref a ∧ ρ[n]? = some a ∧ H a = some (.lst vs) ∧ Rps G ρ H xs vs := by
  cases r with | ref ea =>
  cases s.at_ n _ _ ea e with | lst e1 r1 => exact ⟨_, _, rfl, ea, e1, r1⟩
theorem Fs.wrote (f : Fs G gn bs ρ S H env σ) {b₀ : Nat} (hb : ∀ b ∈ bs, b ≤ b₀) {n : Nat} {a : Addr} {xs ys : List D} {vs ws : List V} (ea : ρ[n]? = some a) (e : S[n]? = some (.lst xs)) (eh : H a = some (.lst vs)) (r : Rps G ρ H ys ws) (hl : ∀ b ∈ bs, n < b → D.blws b ys = true) :
    Fs G gn bs ρ (S.set n (.lst ys)) (upd H a (.lst ws)) env σ ∧ Nx ρ H ρ (upd H a (.lst ws)) := by
  have hx : Nx ρ H ρ (upd H a (.lst ws)) := .write (List.mem_of_getElem? ea) eh fun ps q => by cases q
  obtain ⟨s2, x2⟩ := f.st.write ea e (d' := .lst ys) (o := .lst ws) (.lst upd_same (r.mono hx f.st.apt)) fun b hbb hn => by rw [D.blw]; exact hl b hbb hn
  exact ⟨⟨s2, f.ce.mono x2 f.st.apt, f.tb.mono x2⟩, x2⟩
theorem pe_appE {b₀ : Nat} (hb : ∀ b ∈ bs, b ≤ b₀) {a e : Expr} {ea ev : EF} {apos pos : Pos} (ha : PE X a (tE G gn bs W ea)) (he : PE X e (tE G gn bs W ev)) (hbase : baseE a = true) (hp : plainE e = true) (hline : (apos.endLine == pos.line) = true) :
    PE X (.Call (.Attribute a "append" apos) [e] [] pos) (tE G gn bs W (fun env S => bnd (ea env S) fun x S1 => (match x with
      | .ref n => (match S1[n]? with
        | some (.lst _) => bnd (ev env S1) fun y S2 => (match S2[n]? with
          | some (.lst xs) => if xs.length < lim ∧ (y.pure = true ∨ b₀ ≤ n) then .ok .non (S2.set n (.lst (xs ++ [y]))) else .bad
          | _ => .bad)
        | _ => .bad)
      | _ => .bad))) :=
  (pe_bm PySem.F.plainAttrs_list PySem.F.slot_list_append PySem.F.type_list_append mt_append ha (pa_cons he pa_nil (star_of hp)) (base_of hbase) (few_of (by simp [hp]) (by simp)) hline (star_of hp)).imp fun σ H Q ⟨ρ, S, env, st, ce, tb, h⟩ =>
    (Fs.mk st ce tb).seq h fun dx S1 ρ1 H1 x x1 f1 r1 h1 => by
      split at h1
      · rename_i n
        split at h1
        · rename_i zs ez
          obtain ⟨p, vz, rfl, ep, eh, _⟩ := f1.st.lstAt r1 ez
          refine ⟨.inl ⟨rfl, _, .of eh⟩, ?_⟩
          refine f1.seq h1 fun dy S2 ρ2 H2 y x2 f2 r2 h2 => ?_
          split at h2
          · rename_i xs e2
            split at h2
            · rename_i c
              obtain ⟨p', vs, e3, ep', eh', rr⟩ := f2.st.lstAt (r1.mono x2 f1.st.apt) e2
              cases e3
              refine ⟨p, vs, y, rfl, rfl, eh', Nat.lt_of_lt_of_le (by rw [← rr.length]; exact c.1) (lim_le (Nat.le_refl _)), ?_⟩
              have lowx : ∀ b ∈ bs, n < b → D.blws b (xs ++ [dy]) = true := fun b hbb hn => blws_app (by have := f2.st.low b hbb n _ hn e2; rw [D.blw] at this; exact this) (by rw [D.blws, blw_of_pure hb c.2 b hbb hn]; rfl)
              obtain ⟨f3, x3⟩ := f2.wrote hb ep' e2 eh' (rr.append (.cons r2 .nil)) lowx
              exact h2 _ _ x3 f3.st _ .non
            · exact h2.elim
          · exact h2.elim
        · exact h1.elim
      · exact h1.elim
theorem blws_sub {n : Nat} {xs ys : List D} (h : D.blws n xs = true) (hs : ∀ y ∈ ys, y ∈ xs) : D.blws n ys = true := blws_mem.mpr fun y hy => blws_mem.mp h y (hs y hy)
theorem pe_popE {b₀ : Nat} (hb : ∀ b ∈ bs, b ≤ b₀) {a : Expr} {ea : EF} {apos pos : Pos} (ha : PE X a (tE G gn bs W ea)) (hbase : baseE a = true) (hline : (apos.endLine == pos.line) = true) :
    PE X (.Call (.Attribute a "pop" apos) [] [] pos) (tE G gn bs W (fun env S => bnd (ea env S) fun x S1 => (match x with
      | .ref n => (match S1[n]? with
        | some (.lst xs) => (match xs[xs.length - 1]? with
          | some y => .ok y (S1.set n (.lst xs.dropLast))
          | none => .bad)
        | _ => .bad)
      | _ => .bad))) :=
  (pe_bm0 PySem.F.plainAttrs_list PySem.F.slot_list_pop PySem.F.type_list_pop mt_pop ha (base_of hbase) hline).imp fun σ H Q ⟨ρ, S, env, st, ce, tb, h⟩ =>
    (Fs.mk st ce tb).seq h fun dx S1 ρ1 H1 x x1 f1 r1 h1 => by
      split at h1
      · rename_i n
        split at h1
        · rename_i xs ez
          split at h1
          · rename_i y ey
            obtain ⟨p, vs, rfl, ep, eh, rr⟩ := f1.st.lstAt r1 ez
            obtain ⟨v, ev, rv⟩ := rr.get ey
            refine ⟨.inl ⟨rfl, _, .of eh⟩, p, vs, v, rfl, rfl, eh, by rw [← rr.length]; exact ev, ?_⟩
            obtain ⟨f3, x3⟩ := f1.wrote hb ep ez eh rr.dropLast fun b hbb hn => by
              have := f1.st.low b hbb n _ hn ez
              rw [D.blw] at this
              exact blws_sub this fun y hy => List.dropLast_subset _ hy
            exact h1 _ _ x3 f3.st _ (rv.mono x3 f1.st.apt)
          · exact h1.elim
        · exact h1.elim
      · exact h1.elim
theorem pe_popiE {b₀ : Nat} (hb : ∀ b ∈ bs, b ≤ b₀) {a e : Expr} {ea ev : EF} {apos pos : Pos} (ha : PE X a (tE G gn bs W ea)) (he : PE X e (tE G gn bs W ev)) (hbase : baseE a = true) (hp : plainE e = true) (hline : (apos.endLine == pos.line) = true) :
    PE X (.Call (.Attribute a "pop" apos) [e] [] pos) (tE G gn bs W (fun env S => bnd (ea env S) fun x S1 => (match x with
      | .ref n => (match S1[n]? with
        | some (.lst _) => bnd (ev env S1) fun k S2 => (match S2[n]?, k with
          | some (.lst xs), .int k => (match ixN xs.length k with
            | some j => (match xs[j]? with
              | some y => if -(2 ^ 63) ≤ k ∧ k < 2 ^ 63 then .ok y (S2.set n (.lst (xs.eraseIdx j))) else .bad
              | none => .bad)
            | none => .bad)
          | _, _ => .bad)
        | _ => .bad)
      | _ => .bad))) :=
  (pe_bm PySem.F.plainAttrs_list PySem.F.slot_list_pop PySem.F.type_list_pop mt_popAt ha (pa_cons he pa_nil (star_of hp)) (base_of hbase) (few_of (by simp [hp]) (by simp)) hline (star_of hp)).imp fun σ H Q ⟨ρ, S, env, st, ce, tb, h⟩ =>
    (Fs.mk st ce tb).seq h fun dx S1 ρ1 H1 x x1 f1 r1 h1 => by
      split at h1
      · rename_i n
        split at h1
        · rename_i zs ez
          obtain ⟨p, vz, rfl, ep, eh, _⟩ := f1.st.lstAt r1 ez
          refine ⟨.inl ⟨rfl, _, .of eh⟩, ?_⟩
          refine f1.seq h1 fun dy S2 ρ2 H2 y x2 f2 r2 h2 => ?_
          split at h2
          · rename_i xs k e2
            split at h2
            · rename_i j ej
              split at h2
              · rename_i w ew
                split at h2
                · rename_i c
                  obtain ⟨p', vs, e3, ep', eh', rr⟩ := f2.st.lstAt (r1.mono x2 f1.st.apt) e2
                  cases e3
                  cases r2
                  obtain ⟨v, ev, rv⟩ := rr.get ew
                  refine ⟨p, vs, k, j, v, rfl, rfl, eh', c.1, c.2, by rw [← rr.length]; exact (ixN_seq ej).1, ev, ?_⟩
                  obtain ⟨f3, x3⟩ := f2.wrote hb ep' e2 eh' (rr.eraseIdx j) fun b hbb hn => by
                    have := f2.st.low b hbb n _ hn e2
                    rw [D.blw] at this
                    exact blws_sub this fun y hy => List.mem_of_mem_eraseIdx hy
                  exact h2 _ _ x3 f3.st _ (rv.mono x3 f2.st.apt)
                · exact h2.elim
              · exact h2.elim
            · exact h2.elim
          · exact h2.elim
        · exact h1.elim
      · exact h1.elim
end
end Ev


set_option maxHeartbeats 200000
set_option Elab.async false
set_option maxRecDepth 100000
set_option maxHeartbeats 1000000
/-! Iteration, comprehensions. -/
namespace Ev
open PySem PySem.Spec PyProof.Rows L2

/-- an iterator over the items q -/
def ItS (G : Wd) (bs : List Nat) (ρ₀ : List Addr) (H₀ : Hp) (q : List D × Option Nat) (J : It) : Prop := ∀ ρ S H, Nx ρ₀ H₀ ρ H → StOk G bs ρ S H → still q.2 q.1 S = true → ∀ i,
  (i < q.1.length → J.go i H) ∧ (q.1.length ≤ i → J.stop i H) ∧ (∀ x H', i < q.1.length → J.yld i H x H' → ∃ d, q.1[i]? = some d ∧ Nx ρ H ρ H' ∧ StOk G bs ρ S H' ∧ Rp G ρ H' d x)
def tI (G : Wd) (gn : Gn) (bs : List Nat) (W : WX) (ev : Env → Sto → R (List D × Option Nat)) : TI := fun σ H Rr => ∃ ρ S env, StOk G bs ρ S H ∧ CfE G ρ H env σ ∧ TabsOk G gn H ∧ Sat G bs W σ ρ H (ev env S) (fun q S' ρ' H' => still q.2 q.1 S' = true → ∀ J, ItS G bs ρ' H' q J → Rr J H')
theorem _root_.L2.PI.imp {X : Cx} {tg e : Expr} {t t' : TI} (h : PI X tg e t) (k : ∀ σ H Q, t' σ H Q → t σ H Q) : PI X tg e t' := ⟨fun pins s σ H Q I q => h.run pins s σ H Q I (k σ H Q q)⟩
section
variable {T : Tb} {G : Wd} {gn : Gn} {bs : List Nat} {W : WX} {k : Nat} {X : Cx} {ρ ρ' : List Addr} {S S' : Sto} {H H' : Hp} {env : Env} {σ : L2.St} {α β : Type}
theorem still_self {ck : Option Nat} {xs : List D} {S : Sto} {d : D} (h : itsOf S d = some (xs, ck)) : still ck xs S = true := by
  unfold itsOf at h
  split at h
  · cases h; rfl
  · cases h; rfl
  · cases h; rfl
  · split at h
    · rename_i ys e
      cases h
      unfold still
      dsimp only
      rw [e]
      exact D.beqs_refl _
    · cases h
  · cases h
theorem still_at {n : Nat} {xs : List D} {S : Sto} (h : still (some n) xs S = true) : S[n]? = some (.lst xs) := by
  unfold still at h
  dsimp only at h
  split at h
  · rename_i ys e
    rw [e, D.beqs_eq _ _ h]
  · cases h
theorem its_list {a : Addr} {xs : List D} {vs : List V} (e : H a = some (.lst vs)) (n : a ∉ ρ) (r : Rps G ρ H xs vs) (st : StOk G bs ρ S H) : ItS G bs ρ H (xs, none) (Itl X.K a) := fun ρ1 S1 H1 x s _ i => by
  have e1 : SqL X.K H1 a vs := .of (x.keep a _ e n fun ps q => by cases q)
  have r1 := r.mono x st.apt
  refine ⟨fun h => ?_, fun h => ⟨vs, e1, by rw [← r.length]; exact h⟩, fun y H' hi ⟨hh, hy⟩ => ?_⟩
  · have h' : i < vs.length := by rw [← r.length]; exact h
    exact ⟨vs, vs[i], e1, List.getElem?_eq_getElem h'⟩
  · subst hh
    obtain ⟨d, e2, rd⟩ := r1.getV (hy vs e1)
    exact ⟨d, e2, .refl, s, rd⟩
theorem its_scr {a : Addr} {ns : List Int} (e : Rd H a (.lst (ns.map V.int))) (n : a ∉ ρ) : ItS G bs ρ H (ns.map D.int, none) (Itl X.K a) := fun ρ1 S1 H1 x s _ i => by
  have e1 : SqL X.K H1 a (ns.map V.int) := .inl (x.rd e n).1
  refine ⟨fun h => ?_, fun h => ⟨_, e1, by simpa using h⟩, fun y H' hi ⟨hh, hy⟩ => ?_⟩
  · have h' : i < (ns.map V.int).length := by simpa using h
    exact ⟨_, (ns.map V.int)[i], e1, List.getElem?_eq_getElem h'⟩
  · subst hh
    obtain ⟨d, e2, rd⟩ := (Rps.ints (G := G) (ρ := ρ1) (H := H') ns).getV (hy _ e1)
    exact ⟨d, e2, .refl, s, rd⟩
theorem its_scrK {a : Addr} {ns : List Int} (e : SqK X.K a (ns.map V.int)) : ItS G bs ρ H (ns.map D.int, none) (Itl X.K a) := fun ρ1 S1 H1 x s _ i => by
  have e1 : SqL X.K H1 a (ns.map V.int) := .inr e
  refine ⟨fun h => ?_, fun h => ⟨_, e1, by simpa using h⟩, fun y H' hi ⟨hh, hy⟩ => ?_⟩
  · have h' : i < (ns.map V.int).length := by simpa using h
    exact ⟨_, (ns.map V.int)[i], e1, List.getElem?_eq_getElem h'⟩
  · subst hh
    obtain ⟨d, e2, rd⟩ := (Rps.ints (G := G) (ρ := ρ1) (H := H') ns).getV (hy _ e1)
    exact ⟨d, e2, .refl, s, rd⟩
theorem its_tup {a : Addr} {xs : List D} {vs : List V} (e : H a = some (.tup vs)) (r : Rps G ρ H xs vs) (st : StOk G bs ρ S H) : ItS G bs ρ H (xs, none) (Itt X.K a) := fun ρ1 S1 H1 x s _ i => by
  have e1 : SqT X.K H1 a vs := .of (x.keep a _ e (st.apt.no _ _ e) fun ps q => by cases q)
  have r1 := r.mono x st.apt
  refine ⟨fun h => ?_, fun h => ⟨vs, e1, by rw [← r.length]; exact h⟩, fun y H' hi ⟨hh, hy⟩ => ?_⟩
  · have h' : i < vs.length := by rw [← r.length]; exact h
    exact ⟨vs, vs[i], e1, List.getElem?_eq_getElem h'⟩
  · subst hh
    obtain ⟨d, e2, rd⟩ := r1.getV (hy vs e1)
    exact ⟨d, e2, .refl, s, rd⟩
theorem its_cell {a : Addr} {n : Nat} {xs : List D} (ea : ρ[n]? = some a) : ItS G bs ρ H (xs, some n) (Itl X.K a) := fun ρ1 S1 H1 x s hs i => by
  have e0 := still_at hs
  cases s.at_ n a _ (x.at_ ea) e0 with | lst e r =>
  rename_i vs
  have e1 : SqL X.K H1 a vs := .of e
  refine ⟨fun h => ?_, fun h => ⟨vs, e1, by rw [← r.length]; exact h⟩, fun y H' hi ⟨hh, hy⟩ => ?_⟩
  · have h' : i < vs.length := by rw [← r.length]; exact h
    exact ⟨vs, vs[i], e1, List.getElem?_eq_getElem h'⟩
  · subst hh
    obtain ⟨d, e2, rd⟩ := r.getV (hy vs e1)
    exact ⟨d, e2, .refl, s, rd⟩
theorem rng_len (lo : Int) (n : Nat) : (rng lo n).length = n := by unfold rng; simp
theorem rng_at {lo : Int} {n i : Nat} (h : i < n) : (rng lo n)[i]? = some (.int (lo + (i : Int))) := by
  unfold rng
  rw [List.getElem?_map, List.getElem?_range h]
  rfl
theorem its_rng {lo : Int} {n : Nat} : ItS G bs ρ H (rng lo n, none) (Itr lo n) := fun ρ1 S1 H1 x s hs i => by
  refine ⟨fun h => by rw [rng_len] at h; exact h, fun h => by rw [rng_len] at h; exact h, fun y H' hi ⟨hh, hy⟩ => ?_⟩
  rw [rng_len] at hi
  subst hh
  exact ⟨_, rng_at hi, .refl, s, by rw [hy]; exact .int _⟩
theorem its_revr {n : Nat} : ItS G bs ρ H ((rng 0 n).reverse, none) (Itc (0 + ((n : Nat) : Int) - 1) (-1) n) := fun ρ1 S1 H1 x s hs i => by
  refine ⟨fun h => by rw [List.length_reverse, rng_len] at h; exact h, fun h => by rw [List.length_reverse, rng_len] at h; exact h, fun y H' hi ⟨hh, hy⟩ => ?_⟩
  rw [List.length_reverse, rng_len] at hi
  subst hh
  refine ⟨.int (((n - 1 - i : Nat)) : Int), ?_, .refl, s, ?_⟩
  · rw [List.getElem?_reverse (by rw [rng_len]; exact hi), rng_len, rng_at (by omega)]
    congr 2
    omega
  · rw [hy, show (0 : Int) + ((n : Nat) : Int) - 1 + (i : Nat) * -1 = (((n - 1 - i : Nat)) : Int) by omega]
    exact .int _
theorem its_rev {a : Addr} {xs : List D} {vs : List V} (e : H a = some (.lst vs)) (n : a ∉ ρ) (r : Rps G ρ H xs vs) (st : StOk G bs ρ S H) : ItS G bs ρ H (xs.reverse, none) (Itv X.K a vs.length) := fun ρ1 S1 H1 x s _ i => by
  have e1 : SqL X.K H1 a vs := .of (x.keep a _ e n fun ps q => by cases q)
  have r1 := r.mono x st.apt
  have hl : xs.reverse.length = vs.length := by rw [List.length_reverse, r.length]
  refine ⟨fun h => ?_, fun h => by rw [hl] at h; exact h, fun y H' hi ⟨hh, hy⟩ => ?_⟩
  · rw [hl] at h
    exact ⟨h, vs, vs[vs.length - 1 - i], e1, List.getElem?_eq_getElem (by omega)⟩
  · subst hh
    rw [hl] at hi
    obtain ⟨d, e2, rd⟩ := r1.getV (hy vs e1)
    refine ⟨d, ?_, .refl, s, rd⟩
    rw [List.getElem?_reverse (by rw [r.length]; exact hi), r.length]
    exact e2
theorem its_revT {a : Addr} {xs : List D} {vs : List V} (e : H a = some (.tup vs)) (r : Rps G ρ H xs vs) (st : StOk G bs ρ S H) : ItS G bs ρ H (xs.reverse, none) (RT.ItvT X.K a vs.length) := fun ρ1 S1 H1 x s _ i => by
  have e1 : SqT X.K H1 a vs := .of (x.keep a _ e (st.apt.no _ _ e) fun ps q => by cases q)
  have r1 := r.mono x st.apt
  have hl : xs.reverse.length = vs.length := by rw [List.length_reverse, r.length]
  refine ⟨fun h => ?_, fun h => by rw [hl] at h; exact h, fun y H' hi ⟨hh, hy⟩ => ?_⟩
  · rw [hl] at h
    exact ⟨h, vs, vs[vs.length - 1 - i], e1, List.getElem?_eq_getElem (by omega)⟩
  · subst hh
    rw [hl] at hi
    obtain ⟨d, e2, rd⟩ := r1.getV (hy vs e1)
    refine ⟨d, ?_, .refl, s, rd⟩
    rw [List.getElem?_reverse (by rw [r.length]; exact hi), r.length]
    exact e2
theorem enuL_len : ∀ (k : Nat) (xs : List D), (enuL k xs).length = xs.length
  | _, [] => rfl
  | k, x :: r => by rw [enuL, List.length_cons, List.length_cons, enuL_len]
theorem enuL_at : ∀ {k : Nat} {xs : List D} {i : Nat} {d : D}, xs[i]? = some d → (enuL k xs)[i]? = some (.tup [.int ((k + i : Nat) : Int), d])
  | _, [], _, _, h => by simp at h
  | k, x :: r, 0, d, h => by
    simp at h
    subst h
    rfl
  | k, x :: r, i + 1, d, h => by
    rw [enuL, List.getElem?_cons_succ, enuL_at (by simpa using h)]
    congr 5
    omega
theorem its_enu {a : Addr} {xs : List D} {vs : List V} (e : H a = some (.lst vs)) (n : a ∉ ρ) (r : Rps G ρ H xs vs) (st : StOk G bs ρ S H) : ItS G bs ρ H (enuL 0 xs, none) (Ite X.K a) := fun ρ1 S1 H1 x s _ i => by
  have e1 : SqL X.K H1 a vs := .of (x.keep a _ e n fun ps q => by cases q)
  have r1 := r.mono x st.apt
  refine ⟨fun h => ?_, fun h => ⟨vs, e1, by rw [enuL_len] at h; rw [← r.length]; exact h⟩, fun y H' hi ⟨t, w, hy, ht, hh, hw⟩ => ?_⟩
  · have h' : i < vs.length := by rw [enuL_len] at h; rw [← r.length]; exact h
    exact ⟨vs, vs[i], e1, List.getElem?_eq_getElem h'⟩
  · subst hh hy
    obtain ⟨d, e2, rd⟩ := r1.getV (hw vs e1)
    refine ⟨_, enuL_at e2, .new ht, s.new ht, ?_⟩
    rw [Nat.zero_add]
    exact s.newTup ht (.cons (.int _) (.cons rd .nil))
theorem zipL_len : ∀ (xs ys : List D), (zipL xs ys).length = min xs.length ys.length
  | [], ys => by simp [zipL]
  | x :: r, [] => by simp [zipL]
  | x :: r, y :: t => by rw [zipL, List.length_cons, List.length_cons, List.length_cons, zipL_len]; omega
theorem zipL_at : ∀ {xs ys : List D} {i : Nat} {d e : D}, xs[i]? = some d → ys[i]? = some e → (zipL xs ys)[i]? = some (.tup [d, e])
  | [], _, _, _, _, h, _ => by simp at h
  | x :: r, [], _, _, _, _, h => by simp at h
  | x :: r, y :: t, 0, d, e, h, h' => by
    simp at h h'
    subst h h'
    rfl
  | x :: r, y :: t, i + 1, d, e, h, h' => by
    rw [zipL, List.getElem?_cons_succ]
    exact zipL_at (by simpa using h) (by simpa using h')
theorem its_zip {a b : Addr} {xs ys : List D} {vs ws : List V} (e : H a = some (.lst vs)) (n : a ∉ ρ) (r : Rps G ρ H xs vs) (e' : H b = some (.lst ws)) (n' : b ∉ ρ) (r' : Rps G ρ H ys ws) (st : StOk G bs ρ S H) : ItS G bs ρ H (zipL xs ys, none) (Itz X.K a b) := fun ρ1 S1 H1 x s _ i => by
  have e1 : SqL X.K H1 a vs := .of (x.keep a _ e n fun ps q => by cases q)
  have e1' : SqL X.K H1 b ws := .of (x.keep b _ e' n' fun ps q => by cases q)
  have r1 := r.mono x st.apt
  have r1' := r'.mono x st.apt
  have hl : (zipL xs ys).length = min vs.length ws.length := by rw [zipL_len, r.length, r'.length]
  refine ⟨fun h => ?_, fun h => ⟨vs, ws, e1, e1', by rw [hl] at h; omega⟩, fun y H' hi ⟨t, w, w', hy, ht, hh, hw, hw'⟩ => ?_⟩
  · rw [hl] at h
    exact ⟨vs, ws, vs[i], ws[i], e1, e1', List.getElem?_eq_getElem (by omega), List.getElem?_eq_getElem (by omega)⟩
  · subst hh hy
    obtain ⟨d, e2, rd⟩ := r1.getV (hw vs e1)
    obtain ⟨d', e2', rd'⟩ := r1'.getV (hw' ws e1')
    exact ⟨_, zipL_at e2 e2', .new ht, s.new ht, s.newTup ht (.cons rd (.cons rd' .nil))⟩
theorem its_zipT {a b : Addr} {xs ys : List D} {vs ws : List V} (e : H a = some (.tup vs)) (r : Rps G ρ H xs vs) (e' : H b = some (.tup ws)) (r' : Rps G ρ H ys ws) (st : StOk G bs ρ S H) : ItS G bs ρ H (zipL xs ys, none) (RZ.ItzT X.K a b) := fun ρ1 S1 H1 x s _ i => by
  have e1 : SqT X.K H1 a vs := .of (x.keep a _ e (st.apt.no _ _ e) fun ps q => by cases q)
  have e1' : SqT X.K H1 b ws := .of (x.keep b _ e' (st.apt.no _ _ e') fun ps q => by cases q)
  have r1 := r.mono x st.apt
  have r1' := r'.mono x st.apt
  have hl : (zipL xs ys).length = min vs.length ws.length := by rw [zipL_len, r.length, r'.length]
  refine ⟨fun h => ?_, fun h => ⟨vs, ws, e1, e1', by rw [hl] at h; omega⟩, fun y H' hi ⟨t, w, w', hy, ht, hh, hw, hw'⟩ => ?_⟩
  · rw [hl] at h
    exact ⟨vs, ws, vs[i], ws[i], e1, e1', List.getElem?_eq_getElem (by omega), List.getElem?_eq_getElem (by omega)⟩
  · subst hh hy
    obtain ⟨d, e2, rd⟩ := r1.getV (hw vs e1)
    obtain ⟨d', e2', rd'⟩ := r1'.getV (hw' ws e1')
    exact ⟨_, zipL_at e2 e2', .new ht, s.new ht, s.newTup ht (.cons rd (.cons rd' .nil))⟩
/-! ### the walked things -/
theorem Fs.it (f : Fs G gn bs ρ S H env σ) {q : List D × Option Nat} {J : It} {Rr : It → Hp → Prop} (h : Sat G bs W σ ρ H (.ok q S) (fun q S' ρ' H' => still q.2 q.1 S' = true → ∀ J, ItS G bs ρ' H' q J → Rr J H')) (hs : still q.2 q.1 S = true) (hj : ItS G bs ρ H q J) : Rr J H := h.here f.st hs J hj
theorem pi_both {tg l : Expr} {tl : TE} (hl : PE X l tl) : PI X tg l (fun σ H Rr => tl σ H fun x H1 => ∃ a, x = .ref a ∧ (((∃ xs, SqL X.K H1 a xs) ∧ Rr (Itl X.K a) H1) ∨ ((∃ xs, SqT X.K H1 a xs) ∧ Rr (Itt X.K a) H1))) := by
  refine ⟨fun pins s σ H Rr I h => ?_⟩
  refine thn (hl.run pins s σ H _ I h) fun v s1 ⟨x, H1, I1, rv, a, ex, q⟩ => ?_
  subst ex
  cases rv
  rcases q with ⟨⟨xs, hq⟩, q⟩ | ⟨⟨xs, hq⟩, q⟩
  · obtain ⟨its, rv, p, hz⟩ := I1.list hq
    refine wpAny_pyIter_list p.isList ?_
    refine ⟨s1.heap.objs.size, [s1.heap.objs.size], _, _, H1, rfl, I1.kept (t' := s1.toks) fun b o e => Heap.get?_push_of_some _ e, turn_list a _, ⟨_, Heap.get?_push_size _ rfl, rfl, rfl⟩, fun b hb => ?_, q⟩
    have e : b = s1.heap.objs.size := by simpa using hb
    subst e
    exact I1.fpOk (Nat.le_refl _) (I1.hok.fresh (Nat.le_refl _))
  · obtain ⟨its, rv, p, hz⟩ := I1.tuple hq
    refine wpAny_pyIter_tuple (show s1.heap.IsTuple a its.toArray from p) ?_
    refine ⟨s1.heap.objs.size, [s1.heap.objs.size], _, _, H1, rfl, I1.kept (t' := s1.toks) fun b o e => Heap.get?_push_of_some _ e, turn_tuple a _, ⟨_, Heap.get?_push_size _ rfl, rfl, rfl⟩, fun b hb => ?_, q⟩
    have e : b = s1.heap.objs.size := by simpa using hb
    subst e
    exact I1.fpOk (Nat.le_refl _) (I1.hok.fresh (Nat.le_refl _))
theorem pi_valE (hK : G.K = X.K) {tg l : Expr} {ev : EF} (hl : PE X l (tE G gn bs W ev)) : PI X tg l (tI G gn bs W (fun env S => bnd (ev env S) fun x S1 => ofO (itsOf S1 x) S1)) :=
  (pi_both hl).imp fun σ H Rr ⟨ρ, S, env, st, ce, tb, h⟩ =>
    (Fs.mk st ce tb).seq h fun dx S1 ρ1 H1 x x1 f1 r1 h1 => by
      obtain ⟨q, e, h2⟩ := h1.ofO
      obtain ⟨xs, ck⟩ := q
      have hs := still_self e
      unfold itsOf at e
      split at e
      · cases e
        cases r1 with | tup e1 rr => exact ⟨_, rfl, .inr ⟨⟨_, .of e1⟩, f1.it h2 hs (its_tup e1 rr f1.st)⟩⟩
      · cases e
        cases r1 with | lst e1 n m rr => exact ⟨_, rfl, .inl ⟨⟨_, .of e1⟩, f1.it h2 hs (its_list e1 n rr f1.st)⟩⟩
      · cases e
        cases r1 with
        | scr e1 n m => exact ⟨_, rfl, .inl ⟨⟨_, .inl e1⟩, f1.it h2 hs (its_scr e1 n)⟩⟩
        | scrK e1 =>
          rw [hK] at e1
          exact ⟨_, rfl, .inl ⟨⟨_, .inr e1⟩, f1.it h2 hs (its_scrK e1)⟩⟩
      · split at e
        · rename_i ys e2
          cases e
          obtain ⟨a, vs, rfl, ea, eh, rr⟩ := f1.st.lstAt r1 e2
          exact ⟨_, rfl, .inl ⟨⟨_, .of eh⟩, f1.it h2 hs (its_cell ea)⟩⟩
        · cases e
      · cases e
theorem small_lt {i : Int} (h : small i = true) : -(2 ^ 62) ≤ i ∧ i < 2 ^ 62 := by
  unfold small at h
  have := of_decide_eq_true h
  omega
theorem pi_rng1E (C : XC T G gn k X W) {tg a : Expr} {ea : EF} {p pos : Pos} (hg : Gl X "range") (ha : PE X a (tE G gn bs W ea)) (hp : plainE a = true) :
    PI X tg (.Call (.Name "range" p) [a] [] pos) (tI G gn bs W (fun env S => bnd (ea env S) fun x S1 => (match x with
      | .int i => if small i = true then .ok (rng 0 i.toNat, none) S1 else .bad
      | _ => .bad))) :=
  (pi_range1 hg (C.F.blt _ (by decide)) (pa_cons ha pa_nil (star_of hp)) (star_of hp)).imp fun σ H Rr ⟨ρ, S, env, st, ce, tb, h⟩ =>
    (Fs.mk st ce tb).seq h fun dx S1 ρ1 H1 x x1 f1 r1 h1 => by
      split at h1
      · split at h1
        · rename_i i hs
          cases r1
          exact ⟨i, rfl, (small_lt hs).1, (small_lt hs).2, f1.it h1 rfl its_rng⟩
        · exact h1.elim
      · exact h1.elim
theorem pi_rng2E (C : XC T G gn k X W) {tg a b : Expr} {ea eb : EF} {p pos : Pos} (hg : Gl X "range") (ha : PE X a (tE G gn bs W ea)) (hb : PE X b (tE G gn bs W eb)) (hp : plainE a = true) (hq : plainE b = true) :
    PI X tg (.Call (.Name "range" p) [a, b] [] pos) (tI G gn bs W (fun env S => bnd (ea env S) fun x S1 => bnd (eb env S1) fun y S2 => (match x, y with
      | .int i, .int j => if small i = true ∧ small j = true then .ok (rng i (j - i).toNat, none) S2 else .bad
      | _, _ => .bad))) :=
  (pi_range2 hg (C.F.blt _ (by decide)) (pa_cons ha (pa_cons hb pa_nil (star_of hq)) (star_of hp)) (by rw [star_of hp, star_of hq]; rfl) (by rw [star_of hq]; rfl)).imp fun σ H Rr ⟨ρ, S, env, st, ce, tb, h⟩ =>
    (Fs.mk st ce tb).seq h fun dx S1 ρ1 H1 x x1 f1 r1 h1 => f1.seq h1 fun dy S2 ρ2 H2 y x2 f2 r2 h2 => by
      split at h2
      · split at h2
        · rename_i i j hs
          cases r1
          cases r2
          exact ⟨i, j, rfl, ⟨(small_lt hs.1).1, (small_lt hs.1).2, (small_lt hs.2).1, (small_lt hs.2).2⟩, f2.it h2 rfl its_rng⟩
        · exact h2.elim
      · exact h2.elim
theorem pi_zipE (C : XC T G gn k X W) {a b : Expr} {ea eb : EF} {p pos tpos : Pos} {elts : List Expr} {kk : Nat} (hg : Gl X "zip") (ha : PE X a (tE G gn bs W ea)) (hb : PE X b (tE G gn bs W eb)) (hp : plainE a = true) (hq : plainE b = true) :
    PI X (.Tuple elts kk tpos) (.Call (.Name "zip" p) [a, b] [] pos) (tI G gn bs W (fun env S => bnd (ea env S) fun x S1 => bnd (eb env S1) fun y S2 => (match x, y with
      | .tup xs, .tup ys => .ok (zipL xs ys, none) S2
      | .lst xs, .lst ys => .ok (zipL xs ys, none) S2
      | _, _ => .bad))) :=
  (RZ.pi_zipA hg (C.F.blt _ (by decide)) (pa_cons ha (pa_cons hb pa_nil (star_of hq)) (star_of hp)) (star_of hp) (plain_all (es := [b]) (by simp [hq]) pos).1).imp fun σ H Rr ⟨ρ, S, env, st, ce, tb, h⟩ =>
    (Fs.mk st ce tb).seq h fun dx S1 ρ1 H1 x x1 f1 r1 h1 => f1.seq h1 fun dy S2 ρ2 H2 y x2 f2 r2 h2 => by
      have r1' := r1.mono x2 f1.st.apt
      split at h2
      · cases r1' with | tup e1 q1 => cases r2 with | tup e2 q2 =>
        exact ⟨_, _, _, _, rfl, .inr ⟨.of e1, .of e2, f2.it h2 rfl (its_zipT e1 q1 e2 q2 f2.st)⟩⟩
      · cases r1' with | lst e1 n1 m1 q1 => cases r2 with | lst e2 n2 m2 q2 =>
        exact ⟨_, _, _, _, rfl, .inl ⟨.of e1, .of e2, f2.it h2 rfl (its_zip e1 n1 q1 e2 n2 q2 f2.st)⟩⟩
      · exact h2.elim
theorem pi_enuE (C : XC T G gn k X W) {a : Expr} {ea : EF} {p pos tpos : Pos} {elts : List Expr} {kk : Nat} (hg : Gl X "enumerate") (ha : PE X a (tE G gn bs W ea)) (hp : plainE a = true) :
    PI X (.Tuple elts kk tpos) (.Call (.Name "enumerate" p) [a] [] pos) (tI G gn bs W (fun env S => bnd (ea env S) fun x S1 => (match x with
      | .lst xs => .ok (enuL 0 xs, none) S1
      | _ => .bad))) :=
  (pi_enum hg (C.F.blt _ (by decide)) (pa_cons ha pa_nil (star_of hp)) (star_of hp)).imp fun σ H Rr ⟨ρ, S, env, st, ce, tb, h⟩ =>
    (Fs.mk st ce tb).seq h fun dx S1 ρ1 H1 x x1 f1 r1 h1 => by
      split at h1
      · cases r1 with | lst e1 n1 m1 q1 =>
        exact ⟨_, _, rfl, .of e1, f1.it h1 rfl (its_enu e1 n1 q1 f1.st)⟩
      · exact h1.elim
theorem pi_revE (C : XC T G gn k X W) {tg a : Expr} {ea : EF} {p pos : Pos} (hg : Gl X "reversed") (ha : PE X a (tE G gn bs W ea)) (hp : plainE a = true) :
    PI X tg (.Call (.Name "reversed" p) [a] [] pos) (tI G gn bs W (fun env S => bnd (ea env S) fun x S1 => (match x with
      | .lst xs => .ok (xs.reverse, none) S1
      | .tup xs => .ok (xs.reverse, none) S1
      | _ => .bad))) :=
  (RT.pi_revA hg (C.F.blt _ (by decide)) ha (star_of hp)).imp fun σ H Rr ⟨ρ, S, env, st, ce, tb, h⟩ =>
    (Fs.mk st ce tb).seq h fun dx S1 ρ1 H1 x x1 f1 r1 h1 => by
      split at h1
      · cases r1 with | lst e1 n1 m1 q1 =>
        exact ⟨_, _, rfl, .inl ⟨.of e1, f1.it h1 rfl (its_rev e1 n1 q1 f1.st)⟩⟩
      · cases r1 with | tup e1 q1 =>
        exact ⟨_, _, rfl, .inr ⟨.of e1, f1.it h1 rfl (its_revT e1 q1 f1.st)⟩⟩
      · exact h1.elim
theorem pi_revrE (C : XC T G gn k X W) {tg a : Expr} {ea : EF} {p pos p2 pos2 : Pos} (hg : Gl X "reversed") (hg2 : Gl X "range") (ha : PE X a (tE G gn bs W ea)) (hp : plainE a = true) :
    PI X tg (.Call (.Name "reversed" p) [.Call (.Name "range" p2) [a] [] pos2] [] pos) (tI G gn bs W (fun env S => bnd (ea env S) fun x S1 => (match x with
      | .int i => if small i = true then .ok ((rng 0 i.toNat).reverse, none) S1 else .bad
      | _ => .bad))) :=
  (pi_revR hg (C.F.blt _ (by decide)) (prg_1 hg2 (C.F.blt _ (by decide)) ha (star_of hp)) (by rfl)).imp fun σ H Rr ⟨ρ, S, env, st, ce, tb, h⟩ =>
    (Fs.mk st ce tb).seq h fun dx S1 ρ1 H1 x x1 f1 r1 h1 => by
      split at h1
      · split at h1
        · rename_i i hs
          cases r1
          have q := its_revr (G := G) (bs := bs) (ρ := ρ1) (H := H1) (n := i.toNat)
          refine ⟨i, rfl, by omega, by omega, (small_lt hs).1, (small_lt hs).2, f1.it h1 rfl ?_⟩
          rw [Int.sub_zero]
          exact q
        · exact h1.elim
      · exact h1.elim
/-! ### targets -/
def setAllV : List Nat → List V → L2.St → L2.St
  | i :: is, v :: vs, σ => setAllV is vs (σ.set i (some v))
  | _, _, σ => σ
def gNames : List Nat → TGs
  | [] => gNil
  | i :: is => gCons (gName i) (gNames is)
def gT (K : PySem.W.Frag) : Tg → TG
  | .nm i => gName i
  | .tp is => gTup K is.length (gNames is)
theorem gNames_of : ∀ {is : List Nat} {vs : List V} {σ : L2.St} {H : Hp} {Q : L2.St → Hp → Prop}, vs.length = is.length → Q (setAllV is vs σ) H → gNames is vs σ H Q
  | [], [], _, _, _, _, q => ⟨rfl, q⟩
  | i :: is, v :: vs, _, _, _, h, q => ⟨v, vs, rfl, gNames_of (is := is) (vs := vs) (by simpa using h) q⟩
  | [], _ :: _, _, _, _, h, _ => by simp at h
  | _ :: _, [], _, _, _, h, _ => by simp at h
/-- the slots that a target sets -/
def Tg.sl : Tg → List Nat
  | .nm i => [i]
  | .tp is => is
theorem wipe_setOne {v : V} {i : Nat} {σ : L2.St} : ∀ {vs : List Nat}, i ∈ vs → wipe (σ.set i (some v)) vs = wipe σ vs
  | [], h => by simp at h
  | j :: vs, h => by
    unfold wipe
    by_cases e : j = i
    · subst e
      by_cases m : j ∈ vs
      · rw [wipe_setOne m]
      · refine List.ext_getElem? fun n => ?_
        by_cases q : n = j
        · subst q
          by_cases l : n < σ.length
          · rw [List.getElem?_set_self (by rw [wipe_length, List.length_set]; exact l), List.getElem?_set_self (by rw [wipe_length]; exact l)]
          · rw [List.getElem?_eq_none (by rw [List.length_set, wipe_length, List.length_set]; omega), List.getElem?_eq_none (by rw [List.length_set, wipe_length]; omega)]
        · rw [List.getElem?_set_ne (Ne.symm q), List.getElem?_set_ne (Ne.symm q)]
          have : ∀ (ws : List Nat), (wipe (σ.set j (some v)) ws)[n]? = (wipe σ ws)[n]? := fun ws => by
            induction ws with
            | nil => show (σ.set j (some v))[n]? = σ[n]?; rw [List.getElem?_set_ne (Ne.symm q)]
            | cons w ws ih =>
              unfold wipe
              by_cases z : w = n
              · subst z
                by_cases l : w < σ.length
                · rw [List.getElem?_set_self (by rw [wipe_length, List.length_set]; exact l), List.getElem?_set_self (by rw [wipe_length]; exact l)]
                · rw [List.getElem?_eq_none (by rw [List.length_set, wipe_length, List.length_set]; omega), List.getElem?_eq_none (by rw [List.length_set, wipe_length]; omega)]
              · rw [List.getElem?_set_ne z, List.getElem?_set_ne z, ih]
          exact this vs
    · have m : i ∈ vs := by
        rcases List.mem_cons.mp h with q | q
        · exact absurd q.symm e
        · exact q
      rw [wipe_setOne m]
theorem wipe_setAll : ∀ {is : List Nat} {vs : List V} {σ : L2.St} {ws : List Nat}, (∀ i ∈ is, i ∈ ws) → wipe (setAllV is vs σ) ws = wipe σ ws
  | [], _, _, _, _ => rfl
  | _ :: _, [], _, _, _ => rfl
  | i :: is, v :: vs, σ, ws, h => by
    rw [setAllV, wipe_setAll fun j hj => h j (List.mem_cons_of_mem _ hj), wipe_setOne (h i (List.mem_cons_self ..))]
/-- the values but for some slots -/
structure CfX (G : Wd) (ρ : List Addr) (H : Hp) (out : List Nat) (env : Env) (σ : L2.St) : Prop where
  len : σ.length = env.length
  at_ : ∀ (i : Nat) (d : D), i ∉ out → env[i]? = some (some d) → ∃ v, σ[i]? = some (some v) ∧ Rp G ρ H d v
theorem CfX.set {d : D} {v : V} {i : Nat} {out : List Nat} (c : CfX G ρ H (i :: out) env σ) (r : Rp G ρ H d v) : CfX G ρ H out (env.set i (some d)) (σ.set i (some v)) := by
  refine ⟨by rw [List.length_set, List.length_set, c.len], fun j d' hj e => ?_⟩
  by_cases h : i = j
  · subst h
    by_cases hl : i < env.length
    · rw [List.getElem?_set_self hl] at e
      cases e
      exact ⟨v, List.getElem?_set_self (by rw [c.len]; exact hl), r⟩
    · rw [List.getElem?_eq_none (by rw [List.length_set]; omega)] at e
      cases e
  · rw [List.getElem?_set_ne h] at e
    rw [List.getElem?_set_ne h]
    exact c.at_ j d' (fun q => by rcases List.mem_cons.mp q with q | q; exact h q.symm; exact hj q) e
theorem CfX.sets {out : List Nat} : ∀ {is : List Nat} {ds : List D} {vs : List V} {env : Env} {σ : L2.St}, CfX G ρ H (is ++ out) env σ → Rps G ρ H ds vs → ds.length = is.length → CfX G ρ H out (setAll is ds env) (setAllV is vs σ)
  | [], [], _, _, _, c, .nil, _ => c
  | i :: is, d :: ds, _, _, _, c, .cons h t, l => CfX.sets (is := is) (c.set h) t (by simpa using l)
theorem CfX.full (c : CfX G ρ H [] env σ) : CfE G ρ H env σ := ⟨c.len, fun i d e => c.at_ i d (by simp) e⟩
theorem CfE.wiped (c : CfE G ρ H env σ) (ws : List Nat) : CfX G ρ H ws env (wipe σ ws) :=
  ⟨by rw [wipe_length, c.len], fun i d hi e => let ⟨v, h1, h2⟩ := c.at_ i d e; ⟨v, by rw [wipe_out hi]; exact h1, h2⟩⟩
theorem CfX.sub {out out' : List Nat} (c : CfX G ρ H out env σ) (h : ∀ i ∈ out, i ∈ out') : CfX G ρ H out' env σ := ⟨c.len, fun i d hi e => c.at_ i d (fun q => hi (h i q)) e⟩
/-- a target is set -/
theorem gT_ok {t : Tg} {d : D} {v : V} {env' : Env} {ws : List Nat} (e : setT t d env = some env') (c : CfX G ρ H ws env σ) (hw : ∀ i ∈ ws, i ∈ t.sl) (r : Rp G ρ H d v) {Q : L2.St → Hp → Prop} (q : ∀ σ', CfE G ρ H env' σ' → (∀ zs, (∀ i ∈ t.sl, i ∈ zs) → wipe σ' zs = wipe σ zs) → Q σ' H) : gT X.K t v σ H Q := by
  cases t with
  | nm i =>
    cases e
    exact q _ (CfX.full (CfX.set (c.sub (out' := [i]) hw) r)) fun zs h => wipe_setOne (h i (List.mem_cons_self ..))
  | tp is =>
    unfold setT at e
    dsimp only at e
    split at e
    · split at e
      · rename_i ds hl
        cases e
        cases r with | tup e1 rr =>
        refine ⟨_, _, rfl, .of e1, by rw [← rr.length]; exact hl, gNames_of (by rw [← rr.length]; exact hl) ?_⟩
        exact q _ (CfX.full (CfX.sets (c.sub (out' := is ++ []) (by simpa [Tg.sl] using hw)) rr hl)) fun zs h => wipe_setAll h
      · cases e
    · cases e
end
end Ev


set_option maxHeartbeats 200000
set_option Elab.async false
set_option maxRecDepth 100000
set_option maxHeartbeats 1000000
/-! Comprehensions. -/
namespace Ev
open PySem PySem.Spec PyProof.Rows L2

/-- a filter's reading -/
def tC (G : Wd) (gn : Gn) (bs : List Nat) (W : WX) (ev : Env → Sto → R Bool) : TT := fun σ H Q => ∃ ρ S env, StOk G bs ρ S H ∧ CfE G ρ H env σ ∧ TabsOk G gn H ∧ Sat G bs W σ ρ H (ev env S) (fun b _ _ H' => Q b H')
section
variable {T : Tb} {G : Wd} {gn : Gn} {bs : List Nat} {W W' : WX} {k : Nat} {X : Cx} {ρ ρ' : List Addr} {S S' : Sto} {H H' : Hp} {env : Env} {σ : L2.St} {α β : Type}
theorem _root_.L2.PTs.imp {X : Cx} {es : List Expr} {t t' : TT} (h : PTs X es t) (k : ∀ σ H Q, t' σ H Q → t σ H Q) : PTs X es t' := ⟨fun pins s σ H Q I q => h.run pins s σ H Q I (k σ H Q q)⟩
theorem pts_noneE : PTs X [] (tC G gn bs W (fun _ S => .ok true S)) := pts_nil.imp fun σ H Q ⟨ρ, S, env, st, ce, tb, h⟩ => h.here st
theorem pts_someE {e : Expr} {ev : EF} (h : PT X e (tB G gn bs W ev)) : PTs X [e] (tC G gn bs W (fun env S => bnd (ev env S) fun x S1 => (match x with
    | .bl b => .ok b S1
    | _ => .bad))) :=
  (pts_one h).imp fun σ H Q ⟨ρ, S, env, st, ce, tb, h⟩ => (Fs.mk st ce tb).seqB h fun d S1 ρ1 H1 x1 f1 h1 => by
    split at h1
    · exact ⟨_, rfl, h1.here f1.st⟩
    · exact h1.elim
theorem takesF {X : Cx} : Takes X (fun _ _ _ _ => False) := fun _ _ x => by
  obtain ⟨_, _, _, _, _, _, _, _, _, _, _, _, _, _, _, _, z⟩ := x
  exact z.elim
/-- the state of a block -/
theorem XC.blk (C : XC T G gn k X W) (s : Shared) (H : Hp) (scope : Scope) (cenv : PySem.Env) (fp : List Addr) : XC T G gn k (X.blk s H scope cenv fp) (fun _ _ _ _ => False) :=
  ⟨C.F, C.XF, takesF, C.calm, C.nd, C.room, C.fns⟩
theorem Sat.neBnd {r : R α} {g : α → Sto → R β} {K : β → Sto → List Addr → Hp → Prop} {σ' : L2.St} {Kk : α → Sto → List Addr → Hp → Prop} (h : Sat G bs W σ ρ H (Ev.bnd (ne r) g) K) (kk : ∀ a S1 ρ1 H1, Nx ρ H ρ1 H1 → StOk G bs ρ1 S1 H1 → Sat G bs W σ ρ1 H1 (g a S1) K → Kk a S1 ρ1 H1) : Sat G bs W' σ' ρ H r Kk := by
  cases r with
  | ok a S => exact fun ρ2 H2 y s => kk a S ρ2 H2 y s (Sat.mono (r := g a S) h y)
  | err c fs vs S => exact h.elim
  | bad => exact h.elim
theorem bnd_assoc {γ : Type} (r : R α) (f : α → Sto → R β) (g : β → Sto → R γ) : Ev.bnd (Ev.bnd r f) g = Ev.bnd r fun a S => Ev.bnd (f a S) g := by
  cases r <;> rfl
/-- a comprehension's reading -/
theorem compE_rd (C : XC T G gn k X W) {own : List (Str × Nat)} {ei : Env → Sto → R (List D × Option Nat)} {ec : CF} {ef : EF} {t : Tg}
    (h1 : ∀ i ∈ own.map (·.2), i ∈ t.sl) (h2 : ∀ i ∈ t.sl, i ∈ own.map (·.2)) {b₀ : Nat} (hb : ∀ b ∈ bs, b ≤ b₀) {σ : L2.St} {H : Hp} {Q : VK}
    (h : tA G gn bs W (fun env S => bnd (ei env S) fun q S1 => bnd (compL q.2 q.1 ef ec t S1.length env q.1 (S1 ++ [.lst []])) fun _ S2 => .ok S1.length S2) σ H Q) :
    tLc (tI G gn bs W ei) (gT X.K t) (tC G gn bs (fun _ _ _ _ => False) ec) (tE G gn bs (fun _ _ _ _ => False) ef) (own.map (·.2)) σ H Q := by
    obtain ⟨ρ, S, env, st, ce, tb, h⟩ := h
    refine ⟨ρ, S, env, st, ce, tb, h.bnd.imp fun q S1 ρ1 H1 x1 s1 h1' hst J hJ dl hD => ?_⟩
    have f1 : Fs G gn bs ρ1 S1 H1 env σ := (Fs.mk st ce tb).next x1 s1
    have x2 : Nx ρ1 H1 (ρ1 ++ [dl]) (upd H1 dl (.lst [])) := Nx.cell hD
    have s2 : StOk G bs (ρ1 ++ [dl]) (S1 ++ [.lst []]) (upd H1 dl (.lst [])) := f1.st.cell_ hD (.lst upd_same .nil)
    have hn : (ρ1 ++ [dl])[S1.length]? = some dl := by rw [← f1.st.len, List.getElem?_append_right (Nat.le_refl _), Nat.sub_self]; rfl
    have hst2 : still q.2 q.1 (S1 ++ [.lst []]) = true := by
      cases e : q.2 with
      | none => rfl
      | some n =>
        rw [e] at hst
        have := still_at hst
        unfold still
        dsimp only
        rw [List.getElem?_append_left (List.getElem?_eq_some_iff.mp this).1, this]
        exact D.beqs_refl _
    refine ⟨fun i m H => m = q.1.length - i ∧ i ≤ q.1.length ∧ ∃ ρ S, Nx (ρ1 ++ [dl]) (upd H1 dl (.lst [])) ρ H ∧ StOk G bs ρ S H ∧ still q.2 q.1 S = true ∧ Sat G bs W σ ρ H (bnd (compL q.2 q.1 ef ec t S1.length env (q.1.drop i) S) fun _ S2 => .ok S1.length S2) (KA G Q),
      ⟨_, rfl, Nat.zero_le _, ρ1 ++ [dl], S1 ++ [.lst []], .refl, s2, hst2, Sat.mono h1' x2⟩, ?_⟩
    intro i m H ⟨hm, hi, ρ, S, x, s, hs, h⟩
    have jt := hJ ρ S H (x2.trans x) s hs i
    by_cases hlt : i < q.1.length
    · right
      refine ⟨jt.1 hlt, fun H' => ∃ m', m' < m ∧ (m' = q.1.length - (i + 1) ∧ i + 1 ≤ q.1.length ∧ ∃ ρ S, Nx (ρ1 ++ [dl]) (upd H1 dl (.lst [])) ρ H' ∧ StOk G bs ρ S H' ∧ still q.2 q.1 S = true ∧ Sat G bs W σ ρ H' (bnd (compL q.2 q.1 ef ec t S1.length env (q.1.drop (i + 1)) S) fun _ S2 => .ok S1.length S2) (KA G Q)), fun H' z => z, fun y H' hy => ?_⟩
      obtain ⟨d, ed, x3, s3, rd⟩ := jt.2.2 y H' hlt hy
      have nx : ∀ {H'' : Hp} {ρ'' : List Addr} {S'' : Sto}, Nx ρ H' ρ'' H'' → StOk G bs ρ'' S'' H'' → still q.2 q.1 S'' = true → Sat G bs W σ ρ'' H'' (bnd (compL q.2 q.1 ef ec t S1.length env (q.1.drop (i + 1)) S'') fun _ S2 => .ok S1.length S2) (KA G Q) → ∃ m', m' < m ∧ (m' = q.1.length - (i + 1) ∧ i + 1 ≤ q.1.length ∧ ∃ ρ S, Nx (ρ1 ++ [dl]) (upd H1 dl (.lst [])) ρ H'' ∧ StOk G bs ρ S H'' ∧ still q.2 q.1 S = true ∧ Sat G bs W σ ρ H'' (bnd (compL q.2 q.1 ef ec t S1.length env (q.1.drop (i + 1)) S) fun _ S2 => .ok S1.length S2) (KA G Q)) :=
        fun {H'' ρ'' S''} y1 y2 y3 y4 => ⟨_, by omega, rfl, hlt, ρ'', S'', (x.trans x3).trans y1, y2, y3, y4⟩
      have hd : q.1.drop i = d :: q.1.drop (i + 1) := by
        rw [← List.getElem_cons_drop hlt]
        congr 1
        rw [List.getElem?_eq_getElem hlt] at ed
        exact Option.some.inj ed
      rw [hd] at h
      have h' := Sat.mono h x3
      simp only [compL] at h'
      cases et : setT t d env with
      | none => rw [et] at h'; exact h'.elim
      | some env' =>
        rw [et] at h'
        dsimp only at h'
        have ce1 : CfE G ρ H' env σ := f1.ce.mono ((x2.trans x).trans x3) f1.st.apt
        have tb1 : TabsOk G gn H' := f1.tb.mono ((x2.trans x).trans x3)
        refine gT_ok et (ce1.wiped (own.map (·.2))) h1 rd ?_
        intro σ' ce' hw
        refine ⟨?_, ?_⟩
        · rw [hw _ h2]
          have : ∀ (ws : List Nat) (σ : L2.St), wipe (wipe σ ws) ws = wipe σ ws := fun ws σ => by
            refine List.ext_getElem? fun n => ?_
            by_cases hn : n ∈ ws
            · have key : ∀ (σ : L2.St), (wipe σ ws)[n]? = if n < σ.length then some none else none := fun σ => by
                cases e : (wipe σ ws)[n]? with
                | none => rw [List.getElem?_eq_none_iff, wipe_length] at e; rw [if_neg (by omega)]
                | some o =>
                  have := (List.getElem?_eq_some_iff.mp e).1
                  rw [wipe_length] at this
                  rw [if_pos this]
                  cases o with
                  | none => rfl
                  | some v => exact absurd hn (wipe_some e).2
              rw [key, key, wipe_length]
            · rw [wipe_out hn]
          exact this _ _
        · rw [bnd_assoc] at h'
          refine ⟨ρ, S, env', s3, ce', tb1, h'.neBnd fun b Sb ρb Hb xb sb hb' => ?_⟩
          cases b with
          | false =>
            dsimp only at hb'
            split at hb'
            · rename_i hsb
              exact nx xb sb hsb hb'
            · exact hb'.elim
          | true =>
            show tE G gn bs (fun _ _ _ _ => False) ef σ' Hb _
            dsimp only at hb'
            rw [bnd_assoc] at hb'
            refine ⟨ρb, Sb, env', sb, ce'.mono xb s3.apt, tb1.mono xb, hb'.neBnd fun y2 Se ρe He xe se he' v rv => ?_⟩
            split at he'
            · rename_i acc ea
              split at he'
              · rename_i c
                have hna : ρe[S1.length]? = some dl := ((((x.trans x3).trans xb).trans xe).at_ hn)
                obtain ⟨p, vs, ep, ep', eh, rr⟩ := se.lstAt (.ref hna) ea
                cases ep
                refine ⟨vs, eh, Nat.lt_of_lt_of_le (by rw [← rr.length]; exact c.1) (lim_le (Nat.le_refl _)), ?_⟩
                have fe : Fs G gn bs ρe Se He env σ := ⟨se, f1.ce.mono (((((x2.trans x).trans x3).trans xb)).trans xe) f1.st.apt, tb1.mono (xb.trans xe)⟩
                obtain ⟨f6, x6⟩ := fe.wrote hb hna ea eh (rr.append (.cons rv .nil)) fun b hbb hlt2 => by
                  have q1 := f1.st.base b hbb
                  omega
                exact nx ((xb.trans xe).trans x6) f6.st c.2 (Sat.mono he' x6)
              · exact he'.elim
            · exact he'.elim
    · left
      have hil : i = q.1.length := by omega
      refine ⟨jt.2.1 (by omega), ?_⟩
      rw [hil, List.drop_length] at h
      simp only [compL] at h
      exact h ρ H .refl s _ (.ref (x.at_ hn))
theorem pe_compE (C : XC T G gn k X W) {elt tg iter : Expr} {ifs : List Expr} {scope : Scope} {own : List (Str × Nat)} {pos : Pos} {ei : Env → Sto → R (List D × Option Nat)} {ec : CF} {ef : EF} {t : Tg}
    (hi : PI X tg iter (tI G gn bs W ei)) (ok : BlkOk X.N X.env.scope scope own)
    (hg : ∀ (s : Shared) (H : Hp) (C : Addr) (cl : List (Str × Addr)) (fp : List Addr), PG (X.blk s H scope (compEnvC scope cl C X.env) fp) tg (gT X.K t))
    (ht : ∀ (s : Shared) (H : Hp) (C : Addr) (cl : List (Str × Addr)) (fp : List Addr), PTs (X.blk s H scope (compEnvC scope cl C X.env) fp) ifs (tC G gn bs (fun _ _ _ _ => False) ec))
    (he : ∀ (s : Shared) (H : Hp) (C : Addr) (cl : List (Str × Addr)) (fp : List Addr), PE (X.blk s H scope (compEnvC scope cl C X.env) fp) elt (tE G gn bs (fun _ _ _ _ => False) ef))
    (hp : plainE iter = true) (h1 : ∀ i ∈ own.map (·.2), i ∈ t.sl) (h2 : ∀ i ∈ t.sl, i ∈ own.map (·.2)) {b₀ : Nat} (hb : ∀ b ∈ bs, b ≤ b₀) :
    PE X (.ListComp elt [⟨tg, iter, ifs, 0⟩] scope pos) (tA G gn bs W (fun env S => bnd (ei env S) fun q S1 => bnd (compL q.2 q.1 ef ec t S1.length env q.1 (S1 ++ [.lst []])) fun _ S2 => .ok S1.length S2)) :=
  (pe_lc C.calm C.nd hi ok hg ht he (fun _ => fold_of hp)).imp fun σ H Q h => compE_rd C h1 h2 hb h
end
end Ev


set_option maxHeartbeats 200000
set_option Elab.async false
set_option maxRecDepth 100000
set_option maxHeartbeats 2000000
/-! list(reversed(l)), max(l, default=d). -/
namespace Ev
open PySem PySem.Spec PyProof.Rows L2 RT

section
variable {prog : Program} {w : World} {A : Around} {E : Value → Shared → Prop} {s : Shared} {R : Result → Shared → Prop}
theorem list_init_rev {it l : Addr} {items : Array Value} (hh : A.handled = none) (S : Addr) (hit : s.heap.IsRevIter it l ((items.size : Int) - 1)) (hl : s.heap.IsList l items) (hne : l ≠ it) (hn : items.size ≤ sizeLine) (hSi : S ≠ it) (hSl : S ≠ l)
    (hS : s.heap.get? S = some { cls := .type "list", data := .seq #[] })
    (hR : ∀ (h' : Heap) (tk : Nat) (acc : Array Value) (c' : Nat), (∀ b o, b ≠ it → b ≠ S → s.heap.get? b = some o → h'.get? b = some o) → h'.get? S = some { cls := .type "list", dict := none, data := .seq acc c', slots := #[] } → ItemsOf (fun i v => items[items.size - 1 - i]? = some v) acc items.size → R (.ok (.ret .none)) { s with heap := h', toks := tk }) :
    wpAny (model prog w) A.in1 (Builtin.«list.__init__» ⟨[.ref S, .ref it], []⟩)
      (fun fin s' => match fin with | .done f => R (.ok f) s' | .again c' => c'.quiet = true ∧ codeAny (model prog w) A c' R s') (fun e s' => R (.error e) s') s := by
  have W := (Walks.listRev (prog := prog) (w := w) (A := A.in1) hh it l hne items).toS
  have hSf : S ∉ [it, l] := by simp only [List.mem_cons, List.not_mem_nil, or_false, not_or]; exact ⟨hSi, hSl⟩
  show wpAny _ A.in1 (do let old ← Builtin.List.listItems (.ref S); Builtin.List.listUpdate (.ref S) (fun _ => #[]); letGo old.toList.reverse; Builtin.List.listExtendWith (.ref S) (.ref it) .none) _ _ s
  refine wpAny_bind ?_
  unfold Builtin.List.listItems
  refine wpAny_bind (wpAny_seqItems hS rfl (wpAny_pure ?_))
  show wpAny _ A.in1 (updateSeq S (fun _ => #[]) >>= fun _ => letGo (#[] : Array Value).toList.reverse >>= fun _ => Builtin.List.listExtendWith (.ref S) (.ref it) .none) _ _ s
  refine wpAny_bind (wpAny_updateSeq hS rfl ?_)
  have hS₂ := Heap.get?_update_self (Obj.mapSeq (fun _ => (#[] : Array Value))) hS rfl
  have oth : ∀ b o, b ≠ S → s.heap.get? b = some o → (s.heap.update S (Obj.mapSeq (fun _ => (#[] : Array Value)))).get? b = some o :=
    fun b o hb e => (Heap.get?_update_other _ _ (Ne.symm hb)).trans e
  refine wpAny_bind (wpAny_letGo ?_)
  have hit1 : (s.heap.update S (Obj.mapSeq (fun _ => (#[] : Array Value)))).IsRevIter it l ((items.size : Int) - 1) := hit.at fun o e => oth _ _ (Ne.symm hSi) e
  have hl1 : (s.heap.update S (Obj.mapSeq (fun _ => (#[] : Array Value)))).IsList l items := by
    obtain ⟨o, ho, r⟩ := hl
    exact ⟨o, oth _ _ (Ne.symm hSl) ho, r⟩
  have hT : ({ s with heap := s.heap.update S (Obj.mapSeq (fun _ => (#[] : Array Value))) } : Shared).TypeIs (.ref it) "list_reverseiterator" := Heap.IsRevIter.typeIs (s := { s with heap := s.heap.update S (Obj.mapSeq (fun _ => (#[] : Array Value))) }) hit1
  have h1 : Builtin.List.listSameRef (.ref S) (.ref it) = false := by simp [Builtin.List.listSameRef, hSi]
  unfold Builtin.List.listExtendWith
  refine wpAny_bind (wpAny_typeOf hT ?_)
  rw [if_neg (by rw [h1]; decide)]
  refine wpAny_bind (wpAny_pyIter_revIter (s := { s with heap := s.heap.update S (Obj.mapSeq (fun _ => (#[] : Array Value))) }) hit1 ?_)
  refine wpAny_bind (wpAny_holding ?_)
  unfold Builtin.List.listLengthHint
  refine wpAny_bind (wpAny_specialOf hT nolen_lri ?_)
  show wpAny _ A.in1 (specialOf (Value.ref it) (Str.ofString "__length_hint__") >>= _) _ _ _
  refine wpAny_bind (wpAny_specialOf hT hint_lri ?_)
  generalize hid : ("list_reverseiterator.__length_hint__" : String) = id0
  wp_delta
  rw [show splitId id0 = some ("list_reverseiterator", "__length_hint__") from by subst hid; decide +kernel]
  subst hid
  refine wpAny_bind (wpAny_isInstance (b := true) hT (by rw [isSubtype_type]; kernel_rfl) ?_)
  refine wpAny_pure ?_
  rw [if_neg (by decide)]
  have e0 : ((items.size : Nat) : Int) - 1 - ((0 : Nat) : Int) = (items.size : Int) - 1 := by omega
  refine wpAny_pure ⟨plainId_quiet F.plain_extend_loop _, codeAny_extend_loopS W hn _ hSf _ items.size 0 _ _ _ rfl (Nat.zero_le _) ⟨Nat.zero_le _, by rw [e0]; exact hit1, hl1⟩ hS₂ (ItemsOf.nil _) fun s' acc' c' hm hS' hacc => ?_⟩
  obtain ⟨h', tk, rfl, hk⟩ : ∃ h' tk, s' = { s with heap := h', toks := tk } ∧ ∀ b o, b ≠ it → b ≠ S → s.heap.get? b = some o → h'.get? b = some o := by
    have hm2 := Moved.eq_with hm
    refine ⟨s'.heap, s'.toks, hm2, fun b o h1 h2 e => hm.heap b o (fun q => ?_) (oth b o h2 e)⟩
    rcases List.mem_cons.mp q with q | q
    · exact h2 q
    · exact h1 (List.mem_singleton.mp q)
  exact hR h' tk acc' c' hk hS' hacc
theorem call_list_rev {it l : Addr} {items : Array Value} {Q : Value → Shared → Prop} (hh : A.handled = none) (hit : s.heap.IsRevIter it l ((items.size : Int) - 1)) (hl : s.heap.IsList l items) (hne : l ≠ it) (hn : items.size ≤ sizeLine)
    (hQ : ∀ (h' : Heap) (tk : Nat) (acc : Array Value) (c' : Nat), (∀ b o, b ≠ it → s.heap.get? b = some o → h'.get? b = some o) → h'.get? s.heap.objs.size = some { cls := .type "list", dict := none, data := .seq acc c', slots := #[] } → ItemsOf (fun i v => items[items.size - 1 - i]? = some v) acc items.size → Q (.ref s.heap.objs.size) { s with heap := h', toks := tk }) :
    wpAny (model prog w) A (call (.type "list") [.ref it]) Q E s := by
  obtain ⟨oi, hoi, _⟩ := id hit
  obtain ⟨ol, hol, _⟩ := id hl
  have hSi : s.heap.objs.size ≠ it := Nat.ne_of_gt (Heap.lt_size hoi)
  have hSl : s.heap.objs.size ≠ l := Nat.ne_of_gt (Heap.lt_size hol)
  refine callType_codes (Q₁ := fun obj s₁ => obj = .ref s.heap.objs.size ∧ s₁ = { s with heap := s.heap.push { cls := .type "list", data := .seq #[] } }) F.called_list (F.typeCall_list_1 _) F.entry_list_init
    (code_list_new _ ⟨rfl, rfl⟩) fun obj s₁ h₁ => ?_
  obtain ⟨rfl, rfl⟩ := h₁
  have hS : (s.heap.push { cls := .type "list", data := .seq #[] }).get? s.heap.objs.size = some { cls := .type "list", data := .seq #[] } := Heap.get?_push_size _ rfl
  refine ⟨⟨_, hS, rfl⟩, F.args_list_init_2 _ _, list_init_rev (s := { s with heap := s.heap.push { cls := .type "list", data := .seq #[] } }) (A := A.in1) hh _ (hit.at fun o e => Heap.get?_push_of_some _ e) (hl.push _) hne hn hSi hSl hS fun h' tk acc c' hk hS' hacc => ?_⟩
  exact ⟨rfl, hQ h' tk acc c' (fun b o hb e => hk b o hb (Nat.ne_of_lt (Heap.lt_size e)) (Heap.get?_push_of_some _ e)) hS' hacc⟩
end
section
variable {T : Tb} {G : Wd} {gn : Gn} {bs : List Nat} {W : WX} {k : Nat} {X : Cx} {ρ ρ' : List Addr} {S S' : Sto} {H H' : Hp} {env : Env} {σ : L2.St} {α β : Type}
def tLstRev (K : PySem.W.Frag) (te : TE) : TE := fun σ H Q => te σ H fun v H1 => ∃ (a : Addr) (xs : List V), v = .ref a ∧ SqL K H1 a xs ∧ ∀ q, H1 q = none → Q (.ref q) (upd H1 q (.lst xs.reverse))
theorem pe_lstRev {e : Expr} {te : TE} {p p2 pos pos2 : Pos} (hc : X.calm = true) (hg : Gl X "list") (hm : X.mg "list" = none) (hg2 : Gl X "reversed") (hm2 : X.mg "reversed" = none) (he : PE X e te) (hp : plainE e = true) :
    PE X (.Call (.Name "list" p) [.Call (.Name "reversed" p2) [e] [] pos2] [] pos) (tLstRev X.K te) := by
  refine ⟨fun pins s σ H Q I h => ?_⟩
  have hs := star_of (env := X.env) (es := []) hp
  refine wpAny_Call_Name_kw (ld_blt I hg hm (u := .type "list") rfl ?_ (by decide) (by decide))
  refine PyProof.Rows.callWith_type1 ?_ (star_of rfl) rfl
  refine Calls.spliced_cons ?_
  refine wpAny_Call_Name_kw (ld_blt I hg2 hm2 (u := .type "reversed") rfl ?_ (by decide) (by decide))
  refine PyProof.Rows.callWith_type1 ?_ hs rfl
  rw [hs]
  refine Calls.spliced_cons (thn (he.run pins s σ H _ I h) fun u s1 ⟨v, H1, I1, r1, q1⟩ => wpAny_pure ?_)
  obtain ⟨a, xs, ev, hq, q⟩ := q1
  subst ev
  obtain rfl : u = Value.ref a := r1
  obtain ⟨its, rv, p', hz⟩ := I1.list hq
  refine call_reversed_list p'.isList (wpAny_pure ?_)
  have k0 : ∀ b o, s1.heap.get? b = some o → (s1.heap.push (revObj a ((its.toArray.size : Int) - 1))).get? b = some o := fun b o e => Heap.get?_push_of_some _ e
  have I2 : Inv X pins σ H1 { s1 with heap := s1.heap.push (revObj a ((its.toArray.size : Int) - 1)) } := I1.kept (t' := s1.toks) k0
  obtain ⟨f0, f1, f2, f3, f4, f5⟩ := I1.fpOk (H' := H1) (b := s1.heap.objs.size) (Nat.le_refl _) (I1.hok.fresh (Nat.le_refl _))
  have hl := p'.isList
  obtain ⟨ol, hol, _⟩ := id hl
  have hne : a ≠ s1.heap.objs.size := Nat.ne_of_lt (Heap.lt_size hol)
  have hn : its.toArray.size ≤ sizeLine := by rw [List.size_toArray, ← rv.length]; exact hz
  refine call_list_rev (s := { s1 with heap := s1.heap.push (revObj a ((its.toArray.size : Int) - 1)) }) (I1.ok.hd hc) ⟨_, Heap.get?_push_size _ rfl, rfl, rfl⟩ (hl.push _) hne hn fun h' tk acc c' hk hS' hi => ?_
  have I3 := I2.turnedNew (t' := tk) (h' := h') (ch := [s1.heap.objs.size]) (T := (s1.heap.push (revObj a ((its.toArray.size : Int) - 1))).objs.size) (ob := .lst xs.reverse) (fun b o hb e => hk b o (fun z => hb (by rw [z]; exact List.mem_cons_self ..)) e)
    (fun b hb => by rw [List.mem_singleton.mp hb]; exact ⟨f0, f1, f2, f3, f4, f5⟩) (Nat.le_refl _) (show ObjOk X.prog X.w _ _ _ (.lst xs.reverse) from ⟨by rw [List.length_reverse]; exact hz, acc.toList, c', vals_rev rv hi, by rw [Array.toArray_toList]; exact hS'⟩)
  exact ⟨.ref (s1.heap.push (revObj a ((its.toArray.size : Int) - 1))).objs.size, _, I3, rfl, q _ (I2.hok.fresh (Nat.le_refl _))⟩
theorem pe_ofrRev (C : XC T G gn k X W) {p p2 pos pos2 : Pos} {e : Expr} {ev : EF} (hg : Gl X "list") (hg2 : Gl X "reversed") (he : PE X e (tE G gn bs W ev)) (hp : plainE e = true) :
    PE X (.Call (.Name "list" p) [.Call (.Name "reversed" p2) [e] [] pos2] [] pos) (tA G gn bs W (fun env S => bnd (ev env S) fun x S1 => (match dr S1 x with
      | .lst xs => .ok S1.length (S1 ++ [.lst xs.reverse])
      | _ => .bad))) :=
  (pe_lstRev C.calm hg (C.F.blt _ (by decide)) hg2 (C.F.blt _ (by decide)) he hp).imp fun σ H Q ⟨ρ, S, env, st, ce, tb, h⟩ =>
    (Fs.mk st ce tb).seq h fun dx S1 ρ1 H1 x x1 f1 r1 h1 => by
      have w := r1.view f1.st
      split at h1
      · rename_i xs e
        rw [e] at w
        cases w with | lst e1 r =>
        exact ⟨_, _, rfl, .of e1, fun q hq => f1.newCell h1 r.reverse hq⟩
      · exact h1.elim
end
end Ev


set_option maxHeartbeats 200000
set_option Elab.async false
set_option maxRecDepth 100000
set_option maxHeartbeats 2000000
/-! max(l, default=d). -/
namespace Ev
open PySem PySem.Spec PyProof.Rows L2

section
variable {prog : Program} {w : World} {A : Around} {R : Result → Shared → Prop} {I : Addr} {fp wr : List Addr} {n : Nat} {P : Nat → Value → Prop} {St : Nat → Heap → Prop} {kw : List (Str × Value)}
/-- one turn of the loop where a best one stands (rows as in the library's loop without keywords) -/
theorem maxD_loop (W : Walks prog w A.in1 I fp wr n P St) (bt : Nat → Nat → Bool) (hcmp : CmpOf prog w A.in1 .Gt P bt) (S : Addr) (hSf : S ∉ fp) : ∀ (k j : Nat) (s : Shared) (vb : Value) (c : Nat), n - (j + 1) = k → j + 1 ≤ n → St (j + 1) s.heap → P (argBest bt j) vb →
    s.heap.get? S = some { cls := .type "list", dict := none, data := .seq #[vb, vb] c, slots := #[] } →
    (∀ v h' tk, P (argBest bt (n - 1)) v → (∀ b o, b ∉ wr → b ≠ S → s.heap.get? b = some o → h'.get? b = some o) → R (.ok (.ret v)) { s with heap := h', toks := tk }) →
    codeAny (model prog w) A (.builtin "max.loop" ⟨[.ref I, .none, .ref S], kw⟩) R s := by
  have hSw : S ∉ wr := fun h => hSf (W.sub _ h)
  have hname : (toString "max" ++ toString ".loop" : String) = "max.loop" := by decide
  intro k
  induction k with
  | zero =>
    intro j s vb c hk hj hst hPb hS hR
    have hin : j + 1 = n := by omega
    refine codeAny_builtin F.entry_max_loop ?_
    rw [Around.under_plainId F.plain_max_loop _]
    show wpAny _ A.in1 (seqItems? (.ref S) >>= _) _ _ s
    refine wpAny_bind (wpAny_seqItems hS rfl ?_)
    show wpAny _ A.in1 (tryCatch (pyNext (.ref I)) _ >>= _) _ _ s
    refine wpAny_bind (wpAny_tryCatch (W.done s _ _ (hin ▸ hst) fun h' tk hk' => ?_))
    have hS' := hk' S _ hSw hS
    show wpAny _ A.in1 (updateSeq S (fun _ => #[]) >>= _) _ _ _
    refine wpAny_bind ?_
    refine wpAny_updateSeq hS' rfl (wpAny_bind (wpAny_letGo (wpAny_pure ?_)))
    exact hR vb _ tk (by rw [← hin]; exact hPb) fun b o hbw hbS e => (Heap.get?_update_other _ _ (Ne.symm hbS)).trans (hk' b o hbw e)
  | succ k ih =>
    intro j s vb c hk hj hst hPb hS hR
    have hlt : j + 1 < n := by omega
    refine codeAny_builtin F.entry_max_loop ?_
    rw [Around.under_plainId F.plain_max_loop _]
    show wpAny _ A.in1 (seqItems? (.ref S) >>= _) _ _ s
    refine wpAny_bind (wpAny_seqItems hS rfl ?_)
    show wpAny _ A.in1 (tryCatch (pyNext (.ref I)) _ >>= _) _ _ s
    refine wpAny_bind (wpAny_tryCatch (W.item (j + 1) s _ _ hlt hst fun v h' tk hP hst' hk' => ?_))
    have hS' := hk' S _ hSw hS
    show wpAny _ A.in1 (tryCatch (holding [v, v] (richCompare .Gt v vb >>= _)) _ >>= _) _ _ _
    refine wpAny_bind (wpAny_tryCatch (wpAny_holding (wpAny_bind (hcmp (j + 1) (argBest bt j) v vb _ _ _ hP hPb ?_))))
    refine wpAny_bind (wpAny_holding (wpAny_truthy_bool ?_))
    refine wpAny_bind (wpAny_letGo (wpAny_pure ?_))
    cases hb : bt (j + 1) (argBest bt j) with
    | true =>
      simp only [if_true]
      refine wpAny_bind ?_
      refine wpAny_updateSeq hS' rfl (wpAny_bind (wpAny_letGo ?_))
      rw [hname]
      refine wpAny_pure ⟨plainId_quiet F.plain_max_loop _, ih (j + 1) _ v _ (by omega) hlt (W.frame _ _ _ hst' fun b hbf o e => ?_) (by simp only [argBest, hb, if_true]; exact hP) (Heap.get?_update_self _ hS' rfl) fun v' h'' tk'' hP' hk'' => ?_⟩
      · exact (Heap.get?_update_other _ _ (fun h : S = b => hSf (by rw [h]; exact hbf))).trans e
      · exact hR v' h'' tk'' hP' fun b o hbw hbS e => hk'' b o hbw hbS ((Heap.get?_update_other _ _ (Ne.symm hbS)).trans (hk' b o hbw e))
    | false =>
      simp only [Bool.false_eq_true, if_false]
      refine wpAny_bind (wpAny_letGo ?_)
      rw [hname]
      refine wpAny_pure ⟨plainId_quiet F.plain_max_loop _, ih (j + 1) _ vb c (by omega) hlt hst' (by simp only [argBest, hb, Bool.false_eq_true, if_false]; exact hPb) hS' fun v' h'' tk'' hP' hk'' => ?_⟩
      exact hR v' h'' tk'' hP' fun b o hbw hbS e => hk'' b o hbw hbS (hk' b o hbw e)
theorem maxD_first (W : Walks prog w A.in1 I fp wr n P St) (bt : Nat → Nat → Bool) (hcmp : CmpOf prog w A.in1 .Gt P bt) (S : Addr) (hSf : S ∉ fp) {s : Shared} {c : Nat} {x : Str} {d : Value} (hst : St 0 s.heap)
    (hS : s.heap.get? S = some { cls := .type "list", dict := none, data := .seq #[] c, slots := #[] })
    (hR : ∀ v h' tk, (if n = 0 then v = d else P (argBest bt (n - 1)) v) → (∀ b o, b ∉ wr → b ≠ S → s.heap.get? b = some o → h'.get? b = some o) → R (.ok (.ret v)) { s with heap := h', toks := tk }) :
    codeAny (model prog w) A (.builtin "max.loop" ⟨[.ref I, .none, .ref S], [(x, d)]⟩) R s := by
  have hSw : S ∉ wr := fun h => hSf (W.sub _ h)
  have hname : (toString "max" ++ toString ".loop" : String) = "max.loop" := by decide
  refine codeAny_builtin F.entry_max_loop ?_
  rw [Around.under_plainId F.plain_max_loop _]
  show wpAny _ A.in1 (seqItems? (.ref S) >>= _) _ _ s
  refine wpAny_bind (wpAny_seqItems hS rfl ?_)
  show wpAny _ A.in1 (tryCatch (pyNext (.ref I)) _ >>= _) _ _ s
  by_cases hn : n = 0
  · refine wpAny_bind (wpAny_tryCatch (W.done s _ _ (by rw [hn]; exact hst) fun h' tk hk' => ?_))
    refine wpAny_bind (wpAny_rule (wpAny_pure ?_))
    exact hR d h' tk (by rw [if_pos hn]) fun b o hbw hbS e => hk' b o hbw e
  · refine wpAny_bind (wpAny_tryCatch (W.item 0 s _ _ (Nat.pos_of_ne_zero hn) hst fun v h' tk hP hst' hk' => ?_))
    have hS' := hk' S _ hSw hS
    show wpAny _ A.in1 (updateSeq S (fun _ => #[v, v]) >>= _) _ _ _
    refine wpAny_bind ?_
    refine wpAny_updateSeq hS' rfl ?_
    rw [hname]
    refine wpAny_pure ⟨plainId_quiet F.plain_max_loop _, maxD_loop W bt hcmp S hSf _ 0 _ v _ rfl (Nat.pos_of_ne_zero hn) (W.frame _ _ _ hst' fun b hbf o e => ?_) hP (Heap.get?_update_self _ hS' rfl) fun v' h'' tk'' hP' hk'' => ?_⟩
    · exact (Heap.get?_update_other _ _ (fun h : S = b => hSf (by rw [h]; exact hbf))).trans e
    · exact hR v' h'' tk'' (by rw [if_neg hn]; exact hP') fun b o hbw hbS e => hk'' b o hbw hbS ((Heap.get?_update_other _ _ (Ne.symm hbS)).trans (hk' b o hbw e))
end
section
variable {prog : Program} {w : World} {A : Around} {E : Value → Shared → Prop} {s : Shared} {l : Addr}
theorem argsM (a d : Value) : argsOk "max" ⟨[a], [(("default" : Str), d)]⟩ := by unfold argsOk; kernel_rfl
theorem call_tree_kw {id : String} {b : Builtin} {args : List Value} {kw : List (Str × Value)} {Q : Value → Shared → Prop} (hk : builtinKind id = none) (hp : plainId id = true) (hb : entryFor table id = some b) (ha : argsOk id ⟨args, kw⟩)
    (hc : wpAny (model prog w) A.in1 (b ⟨args, kw⟩) (fun fin s' => match fin with
      | .done f => (match (Except.ok f : Result) with | .ok (.ret v) => Q v s' | .ok _ => False | .error e => E e s')
      | .again c' => c'.quiet = true ∧ codeAny (model prog w) A c' (fun r s' => match r with | .ok (.ret v) => Q v s' | .ok _ => False | .error e => E e s') s') E s) :
    wpAny (model prog w) A (call (.builtin id) args kw) Q E s := by
  refine wpAny_call (codeAny_call_builtin hp hb ?_)
  simp only [checkBuiltinCall, hk]
  cases hsig : Manifest.signature? id with
  | none => exact wpAny_pure hc
  | some sig =>
    simp only [argsOk, hsig] at ha
    have h2 : Bind.checkArgs id sig ⟨args, kw⟩ = pure () := ha
    show wpAny _ A.in1 (Bind.checkArgs id sig ⟨args, kw⟩) _ _ s
    rw [h2]; exact wpAny_pure hc
theorem maxD_ints {xs : Array (Int × Tok)} {d : Value} {Q : Value → Shared → Prop} (hh : A.handled = none) (hl : s.heap.IsList l (intItems xs))
    (h : ∀ v h' tk, (if xs.size = 0 then v = d else (intItems xs)[argBest (fun i j => decide (numAt xs i > numAt xs j)) (xs.size - 1)]? = some v) → (∀ b o, s.heap.get? b = some o → h'.get? b = some o) → Q v { s with heap := h', toks := tk }) :
    wpAny (model prog w) A (call (.builtin "max") [.ref l] [(("default" : Str), d)]) Q E s := by
  have hname : (toString "max" ++ toString ".loop" : String) = "max.loop" := by decide
  refine call_tree_kw F.kind_max F.plain_max F.entry_max (argsM _ _) ?_
  show wpAny _ A.in1 (Builtin.Builtins.bindParams "max" ["key", "default"] 0 ⟨[], [(("default" : Str), d)]⟩ >>= _) _ _ s
  refine wpAny_bind (wpAny_of_eq (show Builtin.Builtins.bindParams "max" ["key", "default"] 0 ⟨[], [(("default" : Str), d)]⟩ = pure [none, some d] from by kernel_rfl) ?_)
  refine wpAny_bind (wpAny_pure ?_)
  refine wpAny_bind (iter_intList hl fun s₂ e st hfp hlI => ?_)
  subst e
  refine wpAny_bind (wpAny_newObj_type ?_)
  rw [hname]
  have W := Walks.list (prog := prog) (w := w) (A := A.in1) hh s.heap.objs.size l hlI (intItems xs)
  have sz : (intItems xs).size = xs.size := by simp [intItems]
  refine wpAny_pure ⟨plainId_quiet F.plain_max_loop _, maxD_first W _ (CmpOf.ints_gt (numAt xs) (fun _ _ => intItems_at)) _ (fun hm => Nat.lt_irrefl _ (hfp _ hm)) (W.frame _ _ _ st fun b _ o e => Heap.get?_push_of_some _ e) (Heap.get?_push_size _ rfl) fun v h' tk hP hk => ?_⟩
  refine h v h' tk (by rw [sz] at hP; exact hP) (old_kept fun b o hb e => hk b o hb (Nat.ne_of_lt (Heap.lt_size e)) (Heap.get?_push_of_some _ e))
theorem maxD_raw {its : List Value} {ns : List Int} {d : Value} {Q : Value → Shared → Prop} (hh : A.handled = none) (hl : s.heap.IsList l its.toArray) (hi : IntsAre its ns)
    (h0 : ns = [] → ∀ h' tk, (∀ b o, s.heap.get? b = some o → h'.get? b = some o) → Q d { s with heap := h', toks := tk })
    (h : ∀ h' tk M t', (∀ b o, s.heap.get? b = some o → h'.get? b = some o) → M ∈ ns → (∀ a, a ∈ ns → a ≤ M) → Q (.int M t') { s with heap := h', toks := tk }) : wpAny (model prog w) A (call (.builtin "max") [.ref l] [(("default" : Str), d)]) Q E s := by
  obtain ⟨xs, e⟩ := hi.allInts.items
  have hn : numsOf (intItems xs).toList = ns := by rw [← e]; exact hi.numsOf
  rw [nums_intItems] at hn
  subst hn
  rw [e] at hl
  refine maxD_ints hh hl fun v h' tk hv hk => ?_
  split at hv
  · rename_i q
    subst hv
    exact h0 (by rw [List.map_eq_nil_iff, Array.toList_eq_nil_iff]; exact Array.eq_empty_of_size_eq_zero q) h' tk hk
  · rename_i q
    have hsz : 0 < xs.size := Nat.pos_of_ne_zero q
    obtain ⟨t, rfl⟩ := intItems_at hv
    obtain ⟨h1, h2⟩ := argBest_gt (numAt xs) (xs.size - 1)
    refine h h' tk _ t hk ?_ fun a ha => ?_
    · rw [numAt_eq]; exact PySem.getD_mem (by rw [List.length_map, Array.length_toList]; omega)
    · obtain ⟨j, hj, rfl⟩ := mem_getD ha
      rw [List.length_map, Array.length_toList] at hj
      rw [← numAt_eq]; exact h2 j (by omega)
end
section
variable {T : Tb} {G : Wd} {gn : Gn} {bs : List Nat} {W : WX} {k : Nat} {X : Cx} {ρ ρ' : List Addr} {S S' : Sto} {H H' : Hp} {env : Env} {σ : L2.St} {α β : Type}
theorem pe_maxdE (C : XC T G gn k X W) {p pos kpos cpos : Pos} {j} {e : Expr} {d : Int} {ev : EF} (hg : Gl X "max") (he : PE X e (tE G gn bs W ev)) (hp : plainE e = true) :
    PE X (.Call (.Name "max" p) [e] [⟨some "default", .Constant (.int d) j cpos, kpos⟩] pos) (tE G gn bs W (fun env S => bnd (ev env S) fun x S1 => (match dr S1 x with
      | .lst [] => .ok (.int d) S1
      | .lst xs => ofO (vagg .max xs) S1
      | _ => .bad))) := by
  refine ⟨fun pins s σ H Q I h => ?_⟩
  refine wpAny_Call_Name_kw (ld_blt I hg (C.F.blt _ (by decide)) (u := .builtin "max") rfl ?_ (by decide) (by decide))
  have hs := star_of (env := X.env) (es := []) hp
  refine callWith_kw ?_ (by rw [hs]; rfl) (by rw [hs]; rfl) (by rfl) (by rfl)
  rw [hs]
  obtain ⟨ρ, S, env, st, ce, tb, h⟩ := h
  refine Calls.spliced_cons (thn (he.run pins s σ H (fun x H1 => ∃ ρ1 S1 dx, Fs G gn bs ρ1 S1 H1 env σ ∧ Rp G ρ1 H1 dx x ∧ Sat G bs W σ ρ1 H1 (match dr S1 dx with
      | .lst [] => .ok (.int d) S1
      | .lst xs => ofO (vagg .max xs) S1
      | _ => .bad) (KQ G Q)) I ((Fs.mk st ce tb).seq h fun dx S1 ρ1 H1 x x1 f1 r1 h1 => ⟨ρ1, S1, dx, f1, r1, h1⟩)) fun u s1 ⟨x, H1, I1, rv, ρ1, S1, dx, f1, r1, h1⟩ => wpAny_pure ?_)
  refine thn ((pk_cons (nm := some "default") (kpos := kpos) (pe_int (X := X) (i := d) (j := j) (pos := cpos)) pk_nil).run pos pins s1 σ H1 (fun vs H2 => vs = [V.int d] ∧ H2 = H1) I1 ⟨rfl, rfl⟩) fun us s2 ⟨vs, H2, I2, rvs, ev, eh⟩ => ?_
  subst ev eh
  cases rvs with | cons ri rn =>
  cases rn
  obtain ⟨t, rfl⟩ := ri
  show wpAny (model X.prog X.w) X.A (call (.builtin "max") [u] [(("default" : Str), Value.int d t)]) (EP X pins σ Q) X.xe s2
  have w := r1.view f1.st
  have key : ∃ xs, dr S1 dx = .lst xs ∧ Sat G bs W σ ρ1 H2 (match xs with
      | [] => .ok (.int d) S1
      | xs => ofO (vagg .max xs) S1) (KQ G Q) := by
    split at h1
    · rename_i e; exact ⟨[], e, h1⟩
    · rename_i xs hne e
      refine ⟨xs, e, ?_⟩
      cases xs with
      | nil => exact absurd rfl hne
      | cons y ys => exact h1
    · exact h1.elim
  obtain ⟨xs, e, h2⟩ := key
  rw [e] at w
  cases w with | lst ea rr =>
  obtain rfl : u = Value.ref _ := rv
  obtain ⟨its, rvv, p', hz⟩ := I2.list (.of ea)
  cases xs with
  | nil =>
    cases rr
    cases rvv
    refine maxD_raw (ns := []) (I2.ok.hd C.calm) p'.isList .nil (fun _ h' tk hk => ⟨.int d, H2, I2.kept (t' := tk) hk, ⟨t, rfl⟩, f1.done h2 (.int d)⟩) fun h' tk M t' hk hm => by simp at hm
  | cons y ys =>
    obtain ⟨r, er, h3⟩ := h2.ofO
    unfold vagg at er
    dsimp only at er
    cases ed : dInts (y :: ys) with
    | none => rw [ed] at er; cases er
    | some ns =>
      rw [ed] at er
      dsimp only at er
      have hv := dInts_V ed rr
      subst hv
      by_cases hne : ns ≠ []
      · rw [if_pos hne] at er
        cases er
        refine maxD_raw (ns := ns) (I2.ok.hd C.calm) p'.isList (Vals.ints rvv) (fun z => absurd z hne) fun h' tk M t' hk hm hM => ?_
        rw [maxI_is hm hM]
        exact ⟨.int (maxI ns), H2, I2.kept (t' := tk) hk, ⟨t', rfl⟩, f1.done h3 (.int _)⟩
      · rw [if_neg hne] at er; cases er
end
end Ev


set_option maxHeartbeats 200000
set_option Elab.async false
set_option maxRecDepth 100000
set_option maxHeartbeats 2000000
/-! The check that a text is the program's: expressions. -/
namespace Ev
open PySem PySem.Spec PyProof.Rows L2

structure Ck where
  N : List Str
  sc : Scope
  top : Bool
  gen : Bool
structure Cok (G : Wd) (k : Nat) (c : Ck) (X : Cx) : Prop where
  N : X.N = c.N
  sc : X.env.scope = c.sc
  top : c.top = true → ∀ x, X.fn x = true
  gen : c.gen = true → Room (9 * k + 6) X.A ∧ ∃ cA P, X.env.code = .ref cA ∧ GxR.TabB X.base X.mg cA P ∧ P ∈ G.ts
def okN (x : Str) : Bool := !(x == "__debug__") && !(x == "__classdict__")
def glB (c : Ck) (x : Str) : Bool := (match c.sc.names.lookup x with
  | some .globalImplicit => true
  | _ => false) && okN x
def locB (c : Ck) (i : Nat) (x : Str) : Bool := decide (c.N[i]? = some x) && (match c.sc.names.lookup x with
  | some .local => true
  | some .cell => true
  | some .free => true
  | _ => false) && okN x
def stoB (c : Ck) (i : Nat) (x : Str) : Bool := decide (c.N[i]? = some x) && (match c.sc.names.lookup x with
  | some .local => true
  | some .cell => c.top
  | _ => false)
def isNm : Expr → Bool
  | .Name _ _ => true
  | _ => false
def glE (c : Ck) : Expr → Bool
  | .Name x _ => glB c x
  | _ => false
section
variable {G : Wd} {n : Nat} {c : Ck} {X : Cx}
theorem okN_1 {x : Str} (h : okN x = true) : (x == ("__debug__" : Str)) = false ∧ (x == ("__classdict__" : Str)) = false := by
  unfold okN at h
  rw [Bool.and_eq_true, Bool.not_eq_true', Bool.not_eq_true'] at h
  exact h
theorem glB_ok (k : Cok G n c X) {x : Str} (h : glB c x = true) : Gl X x ∧ (x == ("__debug__" : Str)) = false := by
  unfold glB at h
  rw [Bool.and_eq_true] at h
  refine ⟨?_, (okN_1 h.2).1⟩
  unfold Gl PySem.Env.kindOf
  rw [k.sc]
  have := h.1
  split at this
  · assumption
  · cases this
theorem locB_ok (k : Cok G n c X) {x : Str} {i : Nat} (h : locB c i x = true) : X.N[i]? = some x ∧ Vis X.env.scope x ∧ (x == ("__debug__" : Str)) = false ∧ (x == ("__classdict__" : Str)) = false := by
  unfold locB at h
  rw [Bool.and_eq_true, Bool.and_eq_true] at h
  refine ⟨by rw [k.N]; exact of_decide_eq_true h.1.1, ?_, okN_1 h.2⟩
  unfold Vis
  rw [k.sc]
  have := h.1.2
  split at this
  · exact .inl (by assumption)
  · exact .inr (.inl (by assumption))
  · exact .inr (.inr (by assumption))
  · cases this
theorem stoB_ok (k : Cok G n c X) {x : Str} {i : Nat} (h : stoB c i x = true) : X.N[i]? = some x ∧ L2.Loc X.env.scope x ∧ (X.fn x = true ∨ X.env.scope.names.lookup x = some .local) := by
  unfold stoB at h
  rw [Bool.and_eq_true] at h
  refine ⟨by rw [k.N]; exact of_decide_eq_true h.1, ?_⟩
  unfold L2.Loc
  rw [k.sc]
  have := h.2
  split at this
  · exact ⟨.inl (by assumption), .inr (by assumption)⟩
  · exact ⟨.inr (by assumption), .inl (k.top this x)⟩
  · cases this
end
/-! ### targets -/
def chkNs (c : Ck) : List Nat → List Expr → Bool
  | [], [] => true
  | i :: is, e :: es => (match e with
    | .Name x _ => stoB c i x
    | _ => false) && chkNs c is es
  | _, _ => false
def chkT (c : Ck) (t : Tg) (e : Expr) : Bool := match t with
  | .nm i => (match e with
    | .Name x _ => stoB c i x
    | _ => false)
  | .tp is => (match e with
    | .Tuple es _ _ => chkNs c is es
    | _ => false)
theorem chkNs_ok {G : Wd} {n : Nat} {c : Ck} {X : Cx} (k : Cok G n c X) (nd : X.N.Nodup) : ∀ {is : List Nat} {es : List Expr}, chkNs c is es = true → PGs X es (gNames is) ∧ (assignEach es X.env).length = is.length ∧ (assignEach es X.env).findIdx? (·.1) = none
  | [], [], _ => ⟨pgs_nil, rfl, rfl⟩
  | [], _ :: _, h => by simp [chkNs] at h
  | _ :: _, [], h => by simp [chkNs] at h
  | i :: is, e :: es, h => by
    cases e <;> try (simp [chkNs] at h; done)
    rename_i x p
    simp only [chkNs, Bool.and_eq_true] at h
    obtain ⟨h1, h2, h3⟩ := chkNs_ok k nd h.2
    obtain ⟨q1, q2, q3⟩ := stoB_ok k h.1
    refine ⟨pgs_cons (pg_name nd q1 q2 q3) h1 rfl, ?_, ?_⟩
    · show (assignEach es X.env).length + 1 = is.length + 1
      rw [h2]
    · show List.findIdx? (·.1) ((false, assign (.Name x p) X.env) :: assignEach es X.env) = none
      rw [List.findIdx?_cons, h3]
      rfl
theorem chkT_ok {G : Wd} {n : Nat} {c : Ck} {X : Cx} (k : Cok G n c X) (nd : X.N.Nodup) (hc : X.calm = true) {t : Tg} {e : Expr} (h : chkT c t e = true) : PG X e (gT X.K t) := by
  unfold chkT at h
  split at h
  · split at h
    · obtain ⟨q1, q2, q3⟩ := stoB_ok k h
      exact pg_name nd q1 q2 q3
    · cases h
  · split at h
    · obtain ⟨h1, h2, h3⟩ := chkNs_ok k nd h
      exact pg_tup hc h1 h2 h3
    · cases h
/-! ### the check -/
def tst : E → Bool
  | .ife _ _ _ => false
  | .and a b => tst a && tst b
  | .or a b => tst a && tst b
  | .not a => tst a
  | _ => true
def tstO : O → Bool
  | .none => true
  | .some e => tst e

def opB (o : Bop) (p : Operator) : Bool := match o, p with
  | .add, .Add => true
  | .sub, .Sub => true
  | .mul, .Mult => true
  | .fdiv, .FloorDiv => true
  | .mod, .Mod => true
  | .shl, .LShift => true
  | .shr, .RShift => true
  | .band, .BitAnd => true
  | .bxor, .BitXor => true
  | .bor, .BitOr => true
  | .pow, .Pow => true
  | _, _ => false
theorem opB_ok {o : Bop} {p : Operator} (h : opB o p = true) : p = o.op := by
  cases o <;> cases p <;> first | rfl | cases h
def copB (o : Cop) (p : CmpOp) : Bool := match o, p with
  | .eq, .Eq => true
  | .ne, .NotEq => true
  | .lt, .Lt => true
  | .le, .LtE => true
  | .gt, .Gt => true
  | .ge, .GtE => true
  | .inn, .In => true
  | .nin, .NotIn => true
  | _, _ => false
theorem copB_ok {o : Cop} {p : CmpOp} (h : copB o p = true) : p = o.op := by
  cases o <;> cases p <;> first | rfl | cases h
/-- the block's own slots -/
def ownOf (c : Ck) (t : Tg) : List (Str × Nat) := t.sl.map fun i => ((c.N[i]?).getD "", i)
theorem ownOf_sl (c : Ck) (t : Tg) : (ownOf c t).map (·.2) = t.sl := by
  unfold ownOf
  rw [List.map_map]
  exact List.map_id _
def Ck.blk (c : Ck) (scope : Scope) : Ck := ⟨c.N, relS scope c.sc, false, c.gen⟩
def Ck.gblk (c : Ck) (scope : Scope) : Ck := ⟨c.N, scope, false, false⟩
def isConsumer : Bi → Bool
  | .all => true
  | .any => true
  | .sum => true
  | .tuple => true
  | .max => true
  | _ => false
def notLst : Expr → Bool
  | .List _ _ => false
  | _ => true
def gscB (scope : Scope) : Bool := !scope.isCoroutine && scope.names.all (fun y => match y.2 with | .cell => false | _ => true) && (match scope.names.lookup (".0" : Str) with | some .local => true | _ => false)
def isTup : Expr → Bool
  | .Tuple _ _ _ => true
  | _ => false
def tupTy (gn : Gn) (c : Ck) (ts : List Ty) : Expr → Bool
  | .Tuple es _ _ => tysIs gn ts es && es.all (glE c) && decide (ts.length ≤ 100)
  | _ => false
section
variable (T : Tb) (gn : Gn)
mutual
def chkE : E → Ck → Expr → Bool
  | .loc i => fun c e => (match e with
    | .Name x _ => locB c i x
    | _ => false)
  | .int i => fun _ e => (match e with
    | .Constant (.int j) _ _ => i == j
    | _ => false)
  | .bl b => fun _ e => (match e with
    | .Constant (.bool j) _ _ => b == j
    | _ => false)
  | .non => fun _ e => (match e with
    | .Constant .none _ _ => true
    | _ => false)
  | .str x => fun _ e => (match e with
    | .Constant (.str y) _ _ => x == y
    | _ => false)
  | .kint x i => fun c e => (match e with
    | .Name y _ => x == y && glB c y && decide (gn.knm y = some i)
    | _ => false)
  | .fnv _ => fun _ _ => false
  | .bin o a b => fun c e => (match e with
    | .BinOp f op g _ => opB o op && chkE a c f && chkE b c g
    | _ => false)
  | .neg a => fun c e => (match e with
    | .UnaryOp .USub f _ => chkE a c f
    | _ => false)
  | .cmp o a b => fun c e => (match e with
    | .Compare f [op] [g] _ => copB o op && chkE a c f && chkE b c g && !(behindInMarks o.op g)
    | _ => false)
  | .chn o o' a b d => fun c e => (match e with
    | .Compare f [op, op'] [g, h] _ => copB o op && copB o' op' && chkE a c f && chkE b c g && chkE d c h && !(lastMarks [o.op, o'.op] [g, h])
    | _ => false)
  | .isn a => fun c e => (match e with
    | .Compare f [.Is] [.Constant .none _ _] _ => chkE a c f
    | _ => false)
  | .nisn a => fun c e => (match e with
    | .Compare f [.IsNot] [.Constant .none _ _] _ => chkE a c f
    | _ => false)
  | .isb a b => fun c e => (match e with
    | .Compare f [.Is] [.Constant (.bool j) _ _] _ => b == j && chkE a c f
    | _ => false)
  | .and a b => fun c e => (match e with
    | .BoolOp .And (f :: g :: r) p => chkE a c f && chkE b c (match r with | [] => g | _ => .BoolOp .And (g :: r) p)
    | _ => false)
  | .or a b => fun c e => (match e with
    | .BoolOp .Or (f :: g :: r) p => chkE a c f && chkE b c (match r with | [] => g | _ => .BoolOp .Or (g :: r) p)
    | _ => false)
  | .not a => fun c e => (match e with
    | .UnaryOp .Not f _ => chkE a c f
    | _ => false)
  | .ife t a b => fun c e => (match e with
    | .IfExp f g h _ => tst t && chkE t c f && chkE a c g && chkE b c h
    | _ => false)
  | .tup es => fun c e => (match e with
    | .Tuple fs _ _ => chkEs es c fs && decide (fs.length ≤ 1000)
    | _ => false)
  | .frz a => fun c e => chkA a c e
  | .sub a i => fun c e => (match e with
    | .Subscript f g _ => chkE a c f && chkE i c g
    | _ => false)
  | .slc a lo hi => fun c e => (match e with
    | .Subscript f (.Slice l h none _) _ => chkE a c f && chkO lo c l && chkO hi c h
    | _ => false)
  | .fld a f => fun c e => (match e with
    | .Attribute g x _ => chkE a c g && baseE g && (gn.nm f == x)
    | _ => false)
  | .call f es => fun c e => (match e with
    | .Call (.Name x _) fs [] _ => decide (gn.fnm f = some x) && glB c x && (T.fns f).isSome && chkEs es c fs && !fs.isEmpty
    | _ => false)
  | .mk k es => fun c e => (match e with
    | .Call (.Name x _) fs [] _ => decide (gn.cnm k = some x) && glB c x && (T.ini k).isSome && chkEs es c fs && !fs.isEmpty
    | _ => false)
  | .mkl i k es => fun c e => (match e with
    | .Call (.Name x _) fs [] _ => locB c i x && (T.ini k).isSome && chkEs es c fs && !fs.isEmpty
    | _ => false)
  | .mth m o es => fun c e => (match e with
    | .Call (.Attribute g x ap) fs [] p => chkE o c g && baseE g && (gn.nm m == x) && chkEs es c fs && decide (fs.length < 30) && (ap.endLine == p.line)
    | _ => false)
  | .cmt k m es => fun c e => (match e with
    | .Call (.Attribute (.Name y _) x ap) fs [] p => decide (gn.cnm k = some y) && glB c y && (gn.nm m == x) && (T.cms k m).isSome && chkEs es c fs && decide (fs.length < 30) && (ap.endLine == p.line) && !fs.isEmpty
    | _ => false)
  | .bi b es => fun c e => (match e with
    | .Call (.Name x _) fs [] _ => (x == biN b) && glB c x && (match b with | .gcd => gn.gcd | _ => true) && chkEs es c fs && !fs.isEmpty
    | _ => false)
  | .maxd a d => fun c e => (match e with
    | .Call (.Name x _) [f] [⟨some y, .Constant (.int i) _ _, _⟩] _ => (x == "max") && glB c x && (y == "default") && (i == d) && chkE a c f
    | _ => false)
  | .ist a ts => fun c e => (match e with
    | .Call (.Name x _) [f, g] [] _ => (x == "isinstance") && glB c x && chkE a c f && (match ts with
      | [t] => (tyIs gn t g && glE c g) || tupTy gn c ts g
      | ts => tupTy gn c ts g)
    | _ => false)
  | .gen b t it o x => fun c e => (match e with
    | .Call (.Name y _) [.GeneratorExp elt [⟨tg, iter, ifs, 0⟩] scope _] [] _ => (y == biN b) && glB c y && isConsumer b && c.gen && gscB scope && notLst iter && blkC c.N c.sc scope (ownOf c t) && chkT (c.gblk scope) t tg && chkI it c tg iter && chkE x (c.gblk scope) elt && chkO o (c.gblk scope) (match ifs with
        | [] => none
        | f :: _ => some f) && decide (ifs.length ≤ 1) && tstO o
    | _ => false)
  | .app a b => fun c e => (match e with
    | .Call (.Attribute g x ap) [f] [] p => (x == "append") && chkE a c g && chkE b c f && baseE g && (ap.endLine == p.line)
    | _ => false)
  | .pop a => fun c e => (match e with
    | .Call (.Attribute g x ap) [] [] p => (x == "pop") && chkE a c g && baseE g && (ap.endLine == p.line)
    | _ => false)
  | .popi a b => fun c e => (match e with
    | .Call (.Attribute g x ap) [f] [] p => (x == "pop") && chkE a c g && chkE b c f && baseE g && (ap.endLine == p.line)
    | _ => false)
def chkEs : Es → Ck → List Expr → Bool
  | .nil => fun _ es => es.isEmpty
  | .cons e r => fun c es => (match es with
    | f :: fs => chkE e c f && chkEs r c fs
    | [] => false)
def chkO : O → Ck → Option Expr → Bool
  | .none => fun _ e => e.isNone
  | .some e => fun c f => (match f with
    | some g => chkE e c g
    | none => false)
def chkA : A → Ck → Expr → Bool
  | .disp es => fun c e => (match e with
    | .List fs _ => chkEs es c fs && decide (fs.length ≤ 1000)
    | _ => false)
  | .comp t it o x => fun c e => (match e with
    | .ListComp elt [⟨tg, iter, ifs, 0⟩] scope _ => blkC c.N c.sc scope (ownOf c t) && chkT (c.blk scope) t tg && chkI it c tg iter && chkE x (c.blk scope) elt && chkO o (c.blk scope) (match ifs with
        | [] => none
        | f :: _ => some f) && decide (ifs.length ≤ 1) && tstO o
    | _ => false)
  | .ofs x => fun c e => (match e with
    | .Call (.Name y _) [f] [] _ => (y == "list") && glB c y && chkE x c f
    | _ => false)
  | .rgl x => fun c e => (match e with
    | .Call (.Name y _) [.Call (.Name z _) [f] [] _] [] _ => (y == "list") && glB c y && (z == "range") && glB c z && chkE x c f
    | _ => false)
  | .lrv x => fun c e => (match e with
    | .Call (.Name y _) [.Call (.Name z _) [f] [] _] [] _ => (y == "list") && glB c y && (z == "reversed") && glB c z && chkE x c f
    | _ => false)
  | .srt x => fun c e => (match e with
    | .Call (.Name y _) [f] [] _ => (y == "sorted") && glB c y && chkE x c f
    | _ => false)
  | .cat a b => fun c e => (match e with
    | .BinOp f op g _ => opB .add op && chkE a c f && chkE b c g
    | _ => false)
  | .rep a b => fun c e => (match e with
    | .BinOp f op g _ => opB .mul op && chkE a c f && chkE b c g
    | _ => false)
  | .slc a lo hi => fun c e => (match e with
    | .Subscript f (.Slice l h none _) _ => chkE a c f && chkO lo c l && chkO hi c h
    | _ => false)
def chkI : I → Ck → Expr → Expr → Bool
  | .val x => fun c _ e => chkE x c e
  | .rng1 a => fun c _ e => (match e with
    | .Call (.Name y _) [f] [] _ => (y == "range") && glB c y && chkE a c f
    | _ => false)
  | .rng2 a b => fun c _ e => (match e with
    | .Call (.Name y _) [f, g] [] _ => (y == "range") && glB c y && chkE a c f && chkE b c g
    | _ => false)
  | .zip a b => fun c tg e => (match e with
    | .Call (.Name y _) [f, g] [] _ => (y == "zip") && glB c y && chkE a c f && chkE b c g && isTup tg
    | _ => false)
  | .enu a => fun c tg e => (match e with
    | .Call (.Name y _) [f] [] _ => (y == "enumerate") && glB c y && chkE a c f && isTup tg
    | _ => false)
  | .rev a => fun c _ e => (match e with
    | .Call (.Name y _) [f] [] _ => (y == "reversed") && glB c y && chkE a c f
    | _ => false)
  | .revr a => fun c _ e => (match e with
    | .Call (.Name y _) [.Call (.Name z _) [f] [] _] [] _ => (y == "reversed") && glB c y && (z == "range") && glB c z && chkE a c f
    | _ => false)
end
end
end Ev


set_option maxHeartbeats 200000
set_option Elab.async false
set_option maxRecDepth 100000
set_option maxHeartbeats 2000000
/-! Generator expressions: the frame, the turns. -/
namespace GnX
open PySem PySem.Spec PyProof.Rows L2

/-- the context of a generator expression's frame -/
abbrev gbk (X : Cx) (s : Shared) (H : Hp) (scope : Scope) (genv : Env) (A : Around) (ex : List Addr) : Cx :=
  { X with A := A, s_0 := s, H_0 := H, env := genv, outer := X.stack, stack := genv :: X.stack, ex := ex, fn := fun x => scope.names.lookup x == some .cell, pn := [], xe := fun _ _ => False }
section
variable {X : Cx} {pins : List (Addr × Obj)} {σ : L2.St} {H : Hp} {s : Shared}
theorem gen_start {scope : Scope} {own : List (Str × Nat)} {fp : List Addr} {A : Around} {code it : Value} {h' : Heap} {g' : Array GenState} {tk : Nat} {genv : Env} (I : Inv X pins σ H s) (ok : BlkOk X.N X.env.scope scope own) (hcell : ∀ y ∈ scope.names, y.2 ≠ .cell) (hN : X.N.Nodup) (hcalm : X.calm = true)
    (hfp : ∀ b ∈ fp, FpOk X pins H b ∧ b < s.heap.objs.size) (hgv : genv = genEnv scope (cloFrom X.env.cells scope.names []) s.heap.objs.size code builtinsNs X.env) (hA : A.handled = none) (hAf : A.frames = some (genv :: X.stack))
    (kp : ∀ b o, s.heap.get? b = some o → h'.get? b = some o) (hns : ∃ m, h'.Ns s.heap.objs.size m) (hg : AllBare g') :
    Inv (gbk X s H scope genv A fp) [] (wipe σ (own.map (·.2))) H { s with heap := h', gens := g', toks := tk } := by
  have hfree : ∀ y ∈ scope.names, y.2 = .free → ∃ c, X.env.cells.lookup y.1 = some c := fun y hy e => by
    rcases ok.free y hy e with k | k
    · exact I.ok.has _ (.inl k)
    · exact I.ok.has _ (.inr k)
  have hL : genv.locals = s.heap.objs.size := by rw [hgv]; rfl
  have hcl : genv.cells = cloFrom X.env.cells scope.names [] := by rw [hgv]; rfl
  have hsc : genv.scope = scope := by rw [hgv]; rfl
  have cm : ∀ {y c}, (y, c) ∈ cloFrom X.env.cells scope.names [] → X.env.cells.lookup y = some c ∧ c < s.heap.objs.size := fun {y c} hm => by
    rcases cloFrom_mem hm with hm | ⟨h1, rfl⟩
    · cases hm
    · obtain ⟨c, hc⟩ := hfree _ h1 rfl
      rw [hc]
      obtain ⟨w, z⟩ := I.cell _ _ hc
      exact ⟨rfl, z.lt⟩
  have mem : ∀ {y c}, genv.cells.lookup y = some c → X.env.cells.lookup y = some c ∧ c < s.heap.objs.size := fun {y c} e => by
    rw [hcl] at e
    exact cm (PySem.mem_of_lookup e)
  have look : ∀ {y}, scope.names.lookup y = some .free → ∃ c, genv.cells.lookup y = some c ∧ X.env.cells.lookup y = some c := fun {y} hl => by
    have hy : (y, NameKind.free) ∈ scope.names := PySem.mem_of_lookup hl
    obtain ⟨c', e'⟩ := mem_lookup (cloFrom_has (cells := X.env.cells) (acc := []) hy)
    rw [← hcl] at e'
    exact ⟨c', e', (mem e').1⟩
  have okB : (gbk X s H scope genv A fp).Ok := by
    refine ⟨I.ok.mod, by show genv.scope.kind = _; rw [hsc]; exact ok.kind, by show genv.globals = _; rw [hgv]; exact I.ok.glob, by show genv.builtins = _; rw [hgv]; rfl, by show s.heap.objs.size ≤ genv.locals; rw [hL]; exact Nat.le_refl _,
      fun y z c e1 e2 => ?_, fun y hy => ?_, fun y c z e => ?_, fun _ => hA, hAf, .inr ⟨rfl, by show genv.frame = some genv.locals; rw [hgv]; rfl⟩, fun b hb => ⟨?_, fun y c e z => ?_⟩, I.bs, Nat.le_trans I.ok.bsz I.sz, fun b o e hb => ?_, fun b hb z => ?_, I.stack, I.stkFree⟩
    · exact I.ok.inj y z c (mem e1).1 (mem e2).1
    · show ∃ c, genv.cells.lookup y = some c
      rcases hy with hy | hy
      · have hy : genv.scope.names.lookup y = some .cell := hy
        rw [hsc] at hy
        exact absurd rfl (hcell _ (PySem.mem_of_lookup hy))
      · have hy : genv.scope.names.lookup y = some .free := hy
        rw [hsc] at hy
        obtain ⟨c, h1, _⟩ := look hy
        exact ⟨c, h1⟩
    · have z : (scope.names.lookup y == some NameKind.cell) = true := z
      have z : scope.names.lookup y = some .cell := by simpa using z
      exact absurd rfl (hcell _ (PySem.mem_of_lookup z))
    · show b ≠ genv.locals
      rw [hL]; exact Nat.ne_of_lt (hfp b hb).2
    · exact (hfp b hb).1.2.2.2.2.1 y c (mem e).1 z
    · rcases (hfp b hb).1.2.2.2.1 with z | z
      · exact I.ok.noex b o e z
      · exact absurd (Nat.lt_of_lt_of_le (Heap.lt_size e) (Nat.le_trans I.ok.bsz z)) (Nat.lt_irrefl _)
    · rcases List.mem_cons.mp (I.stkSub b z) with z | z
      · exact (hfp b hb).1.2.1 z
      · exact (hfp b hb).1.2.2.1 z
  refine ⟨okB, rfl, hg, Un.kept kp, ?_, fun y c e => ?_, ?_, fun y c e => ?_, fun p hp => ?_, I.hok.kept kp, by rw [wipe_length]; exact I.len⟩
  · obtain ⟨m, hm⟩ := hns
    refine ⟨m, by show Heap.Ns _ genv.locals _; rw [hL]; exact hm, fun i y av e1 e2 e3 => ?_⟩
    obtain ⟨e2, hne⟩ := wipe_some e2
    have hfr : scope.names.lookup y = some .free := by
      have e3 : Vis genv.scope y := e3
      rw [hsc] at e3
      have no : ∀ k, scope.names.lookup y = some k → k = .local ∨ k = .cell → False := fun k e hh => by
        rcases ok.own _ (PySem.mem_of_lookup e) hh with e' | e'
        · obtain ⟨p, hp, hpy⟩ := List.mem_map.mp e'
          have e3 := ok.ix p hp
          have : p.1 = y := hpy
          rw [this] at e3
          exact hne (List.mem_map.mpr ⟨p, hp, nodup_ix hN e3 e1⟩)
        · exact e' (List.mem_of_getElem? e1)
      rcases e3 with e3 | e3 | e3
      · exact (no _ e3 (.inl rfl)).elim
      · exact (no _ e3 (.inr rfl)).elim
      · exact e3
    obtain ⟨m0, hn, hl⟩ := I.loc
    have hvis : Vis X.env.scope y := (ok.free _ (PySem.mem_of_lookup hfr) rfl).elim (fun k => .inr (.inl k)) (fun k => .inr (.inr k))
    obtain ⟨w, r, q⟩ := hl i y av e1 e2 hvis
    obtain ⟨c, h1, h2⟩ := look hfr
    refine ⟨w, r, .inr ⟨.inr (by show genv.scope.names.lookup y = _; rw [hsc]; exact hfr), c, h1, ?_⟩⟩
    rcases q with ⟨k, _⟩ | ⟨_, c', e', z⟩
    · have k : X.env.scope.names.lookup y = some .local := k
      rcases ok.free _ (PySem.mem_of_lookup hfr) rfl with k' | k' <;> rw [show X.env.scope.names.lookup y = _ from k'] at k <;> cases k
    · rw [h2] at e'; cases e'
      exact z.keeps kp
  · obtain ⟨w, z⟩ := I.cell y c (mem e).1
    exact ⟨w, z.keeps kp⟩
  · show H genv.locals = none
    rw [hL]; exact I.hok.fresh (Nat.le_refl _)
  · exact I.freeC y c (mem e).1
  · exact absurd (show p ∈ ([] : List (Addr × Obj)) ++ [] from hp) (by simp)

/-- while the generator sleeps its consumer changes its own things (at S) alone -/
structure Slept (S : List Addr) (s s' : Shared) : Prop where
  os : s'.os = s.os
  bare : AllBare s'.gens
  keep : ∀ b o, b ∉ S → s.heap.get? b = some o → s'.heap.get? b = some o
  there : ∀ b ∈ S, ∃ o, s'.heap.get? b = some o ∧ ∀ v, o.data ≠ .cell v
/-- things that a generator's frame does not know -/
structure Strange (X : Cx) (Z : List Addr) : Prop where
  above : ∀ b ∈ Z, X.s_0.heap.objs.size ≤ b
  loc : ∀ b ∈ Z, b ≠ X.env.locals
  cel : ∀ b ∈ Z, ∀ x c, X.env.cells.lookup x = some c → c ≠ b
theorem inv_slept {Z S : List Addr} {s' : Shared} (I : Inv X (pinsAt Z s.heap) σ H s) (hx : X.pn = []) (z : Slept S s s') (hS : ∀ b ∈ S, b ∈ Z) (hZ : Strange X Z) (hZs : ∀ b ∈ Z, ∃ o, s.heap.get? b = some o ∧ ∀ v, o.data ≠ .cell v) : Inv X (pinsAt Z s'.heap) σ H s' := by
  have hpin : ∀ b ∈ Z, H b = none ∧ b ≠ X.env.locals ∧ b ∉ X.fs := fun b hb => by
    obtain ⟨o, e, _⟩ := hZs b hb
    obtain ⟨_, h2, h3, h4, _⟩ := I.pin (b, o) (List.mem_append_right _ (mem_pinsAt hb e))
    exact ⟨h2, h3, h4⟩
  have nS : ∀ b u, H b = some u → b ∉ S := fun b u q hb => by rw [(hpin b (hS b hb)).1] at q; cases q
  have I0 : Inv X [] σ H s := I.pins_of fun p hp => absurd hp (by simp)
  obtain ⟨hh, g, d, t, o⟩ := s'
  obtain ⟨z1, z2, z3, z4⟩ := z
  have ho : o = s.os := z1
  subst ho
  have J : Inv X [] σ H { s with heap := hh, gens := g, drawn := d, toks := t } := by
    refine I0.step (g' := g) (t' := t) (d' := d) (ch := S) (fun b hb => ⟨.inr (hZ.above b (hS b hb)), hZ.loc b (hS b hb), hZ.cel b (hS b hb), fun p hp => by rw [hx] at hp; exact absurd hp (by simp)⟩)
      (fun b ob _ _ hc q _ => z3 b ob hc q) (fun b ob _ _ hc q _ => ⟨ob.slots, z3 b ob hc q⟩) (fun _ _ _ _ n => n) (fun b ob hc q => ⟨ob, z3 b ob hc q⟩)
      (fun _ _ q => q) (fun _ _ _ q => q) (fun b ps q => ⟨#[], by rw [q]; simp⟩) (fun m hm => ?_) (fun b u q => ?_) z2
    · obtain ⟨ob, es, ep, hob, r⟩ := hm
      exact ⟨ob, es, ep, z3 _ ob (fun hb => hZ.loc _ (hS _ hb) rfl) hob, r⟩
    · refine (I0.hok b u q).stay (fun c v hc y => z3 c v ?_ y) (fun _ y => y) fun _ _ y => y
      rcases hc with y | y
      · rw [y]; exact nS b u q
      · exact nS c _ y
  refine J.pins_of fun p hp => ?_
  obtain ⟨hb, e⟩ := of_pinsAt hp
  obtain ⟨h1, h2, h3⟩ := hpin p.1 hb
  refine ⟨e, h1, h2, h3, ?_⟩
  by_cases hbS : p.1 ∈ S
  · obtain ⟨o, e1, e2⟩ := z4 p.1 hbS
    rw [show ({ s with heap := hh, gens := g, drawn := d, toks := t } : Shared).heap.get? p.1 = hh.get? p.1 from rfl] at e
    rw [show ({ heap := hh, gens := g, drawn := d, toks := t, os := s.os } : Shared).heap.get? p.1 = hh.get? p.1 from rfl] at e1
    rw [e] at e1; cases e1
    exact e2
  · obtain ⟨o, e1, e2⟩ := hZs p.1 hb
    have e3 := z3 p.1 o hbS e1
    have e' : hh.get? p.1 = some p.2 := e
    rw [show ({ heap := hh, gens := g, drawn := d, toks := t, os := s.os } : Shared).heap.get? p.1 = hh.get? p.1 from rfl] at e3
    rw [e'] at e3; cases e3
    exact e2
end
end GnX


set_option maxHeartbeats 200000
set_option Elab.async false
set_option maxRecDepth 100000
set_option maxHeartbeats 2000000
/-! One wake of a generator. -/
namespace GnX
open PySem PySem.Spec PyProof.Rows L2

def SgEnd (Rt : Result → Shared → Prop) (Yt : Value → (Resume → Sem PySem.Fin) → Code → List Frame → Shared → Prop) (e : End) (s' : Shared) : Prop := match e with
  | .ret r => Rt r s'
  | .susp v g l k c' p' fs' => (End.susp v g l k c' p' fs').quiet = true ∧ Yt v k c' fs' s'
/-- code that runs to its end, or to the next item -/
def Sg (M : Model) (A : Around) (Rt : Result → Shared → Prop) (Yt : Value → (Resume → Sem PySem.Fin) → Code → List Frame → Shared → Prop) (c : Code) (t : Sem PySem.Fin) (fs : List Frame) (s : Shared) : Prop :=
  ∀ Γ p, Γ.code = c → Γ.Woken A → ∃ e s', Runs M Γ p t fs s e s' ∧ SgEnd Rt Yt e s'
section
variable {M : Model} {A : Around} {Rt : Result → Shared → Prop} {Yt : Value → (Resume → Sem PySem.Fin) → Code → List Frame → Shared → Prop} {c : Code} {fs : List Frame} {s : Shared}
theorem sg_wrap {α : Type} {m : Sem α} {K : α → Sem PySem.Fin} {J : Value → Sem PySem.Fin} {gd lv}
    (h : wpAny M (A.over c fs) m (fun a s' => Sg M A Rt Yt c (K a) fs s') (fun x s' => Sg M A Rt Yt c (J x) fs s') s) : Sg M A Rt Yt c (m.wrap K J gd lv) fs s := by
  rintro Γ p rfl hΓ
  exact runs_wrap_of_wp K J gd lv m (h (Γ.over fs) p (hΓ.over fs)) (fun a p' s' h' => h' Γ p' rfl hΓ) (fun x p' s' h' => h' Γ p' rfl hΓ)
theorem sg_at {p' : Pos} {k : Unit → Sem PySem.Fin} (h : Sg M A Rt Yt c (k ()) fs s) : Sg M A Rt Yt c (.at p' k) fs s :=
  sg_wrap (m := standAt p') (K := k) (J := .raise) (gd := id) (lv := id) (wpAny_standAt h)
theorem sg_again {c' : Code} (hq : c'.quiet = true) (hc : Sg M A Rt Yt c' (M.den c') fs s) : Sg M A Rt Yt c (.pure (.again c')) fs s := by
  rintro Γ p rfl hΓ
  obtain ⟨e, s', hr, he⟩ := hc (Γ.goto c') p rfl (hΓ.goto c')
  exact ⟨e, s', Runs.head (c₁ := c') (fun _ _ x => .again hq x) hr, he⟩
theorem sg_end (r : Result) (h : Rt r s) : Sg M A Rt Yt c (leafOf r) [] s := by
  rintro Γ p rfl _
  exact ⟨.ret r, s, Runs.leaf r, h⟩
theorem sg_yield {v g l} {k : Resume → Sem PySem.Fin} (hfs : splitAtGen fs = none) (hg : g = false) (hfg : fs.any Frame.guarded = false) (h : Yt v k c fs s) : Sg M A Rt Yt c (.yield v g l k) fs s := by
  rintro Γ p rfl _
  exact ⟨_, s, Runs.yield' fs hfs, And.intro (by simp [End.quiet, hg, hfg]) h⟩
theorem sg_bind {α β : Type} {m : Sem α} {K : α → Sem β} {K' : β → Sem PySem.Fin} {H' : Value → Sem PySem.Fin} {gd lv}
    (h : wpAny M (A.over c fs) m (fun a s' => Sg M A Rt Yt c ((K a).wrap K' H' gd lv) fs s') (fun x s' => Sg M A Rt Yt c (H' x) fs s') s) : Sg M A Rt Yt c ((m >>= K).wrap K' H' gd lv) fs s := by
  rw [Sem.bind_eq_wrap', Sem.wrap_wrap]; exact sg_wrap h
theorem Sg.imp {Rt' : Result → Shared → Prop} {Yt' : Value → (Resume → Sem PySem.Fin) → Code → List Frame → Shared → Prop} {t : Sem PySem.Fin} (h : Sg M A Rt Yt c t fs s) (h1 : ∀ r s, Rt r s → Rt' r s) (h2 : ∀ v k c fs s, Yt v k c fs s → Yt' v k c fs s) : Sg M A Rt' Yt' c t fs s := by
  intro Γ p e hΓ
  obtain ⟨x, s', hr, he⟩ := h Γ p e hΓ
  refine ⟨x, s', hr, ?_⟩
  cases x with
  | ret r => exact h1 _ _ he
  | susp v g l k c' p' fs' => exact ⟨he.1, h2 _ _ _ _ _ he.2⟩
/-- ready to be woken -/
def Goes1 (M : Model) (A : Around) (Rt : Result → Shared → Prop) (Yt : Value → (Resume → Sem PySem.Fin) → Code → List Frame → Shared → Prop) (gs : GenState) (r : Resume) (s : Shared) : Prop :=
  match gs with
  | .fresh c => r = .send .none ∧ Sg M A Rt Yt c (M.den c) [] s
  | .suspended k _ c _ fs _ => Sg M A Rt Yt c (k r) fs s
  | _ => False
/-- the state of a generator that has handed out -/
def Stands (k : Resume → Sem PySem.Fin) (c : Code) (fs : List Frame) (gs : GenState) : Prop := ∃ l p cl, gs = .suspended k l c p fs cl
theorem wpAny_resume1 {E : Value → Shared → Prop} {g : Nat} {gs : GenState} {r : Resume} {l : List Value} {α : Type} {k : GenResult → Sem α} {Q : α → Shared → Prop} (hg : s.gens[g]? = some gs)
    (hgo : Goes1 M A Rt Yt gs r (s.setGen g .running))
    (hR : ∀ x s₁, Rt x s₁ → wpAny M A (k (End.ret x).result) Q E (s₁.setGen g .finished))
    (hY : ∀ v s₁ gs' kk c fs, s.gens.size ≤ s₁.gens.size → gs'.bare = true → Stands kk c fs gs' → Yt v kk c fs s₁ → wpAny M A (k (.yielded v)) Q E (s₁.setGen g gs')) :
    wpAny M A (.resume g r l k) Q E s := by
  intro Γ p hΓ
  rw [Sem.wp_resume]
  have hB : ∀ c, (Γ.wake c p).Woken A := fun c => hΓ.wake c p
  have fin : ∀ (e₁ : End) (s₁ : Shared), s.gens.size ≤ s₁.gens.size → SgEnd Rt Yt e₁ s₁ →
      Sem.wp M Γ (k e₁.result) (fun a _ s' => Q a s') (fun e _ s' => E e s') p (s₁.setGen g e₁.genState) := by
    intro e₁ s₁ hz he
    cases e₁ with
    | ret x => exact hR x s₁ he Γ p hΓ
    | susp v g₀ l₀ k₀ c₀ p₀ fs₀ => exact hY v s₁ _ k₀ c₀ fs₀ hz (End.bare_of_quiet he.1) ⟨_, _, _, rfl⟩ he.2 Γ p hΓ
  have hqt : ∀ (e₁ : End) (s₁ : Shared), SgEnd Rt Yt e₁ s₁ → e₁.quiet = true := by
    intro e₁ s₁ he
    cases e₁ with
    | ret x => rfl
    | susp v g₀ l₀ k₀ c₀ p₀ fs₀ => exact he.1
  cases gs with
  | fresh c =>
    obtain ⟨rfl, hs⟩ := hgo
    obtain ⟨e₁, s₁, hr, he⟩ := hs (Γ.wake c p) p rfl (hB c)
    exact ⟨_, _, by unfold Wakes; rw [hg]; exact ⟨e₁, s₁, hr, hqt e₁ s₁ he, rfl, rfl⟩, fin e₁ s₁ (by have := GenW.runs_gsz hr; rw [GenW.setGen_size] at this; exact this) he⟩
  | suspended k₀ l₀ c₀ p₀ fs₀ cl =>
    obtain ⟨e₁, s₁, hr, he⟩ := hgo (Γ.wake c₀ p) p₀ rfl (hB c₀)
    exact ⟨_, _, by unfold Wakes; rw [hg]; exact ⟨e₁, s₁, hr, hqt e₁ s₁ he, rfl, rfl⟩, fin e₁ s₁ (by have := GenW.runs_gsz hr; rw [GenW.setGen_size] at this; exact this) he⟩
  | running => exact hgo.elim
  | finished => exact hgo.elim
end
section
variable {prog : Program} {w : World} {A : Around} {E : Value → Shared → Prop} {s : Shared}
theorem wpAny_pyNext1 {a : Addr} {g : Nat} {gs : GenState} {F : Shared → Prop} {Yt : Value → (Resume → Sem PySem.Fin) → Code → List Frame → Shared → Prop} {Q : Option Value → Shared → Prop} (hh : A.handled = none)
    (hl : s.heap.NoLimit) (hroom : A.depth < recursionLimit) (hg : s.heap.IsGen a g) (hgs : s.gens[g]? = some gs)
    (hgo : Goes1 (model prog w) A.in1 (fun r s₁ => r = .ok .next ∧ F s₁) Yt gs (.send .none) (s.setGen g .running))
    (hY : ∀ v s₁ gs' kk c fs, s.gens.size ≤ s₁.gens.size → gs'.bare = true → Stands kk c fs gs' → Yt v kk c fs s₁ → Q (some v) (s₁.setGen g gs'))
    (hP : ∀ s₁, F s₁ → ∀ h', (∀ b o, s₁.heap.get? b = some o → h'.get? b = some o) → Q none { s₁.setGen g .finished with heap := h' }) :
    wpAny (model prog w) A (pyNext (.ref a)) Q E s := by
  unfold pyNext
  refine wpAny_bind (wpAny_attempt (wpAny_callSpecial?_slot (name := Str.ofString "__next__") hg.typeIs slot_gen_next
    (wpAny_call_entry slot_gen_next hg.typeIs entry_gen_next ?_ (args_gen_next _))))
  show wpAny _ A.in1 (Builtin.Generator.genWake (.ref a) (.send .none)) _ _ s
  unfold Builtin.Generator.genWake
  refine wpAny_bind (wpAny_holding (wpAny_genNumber hg (wpAny_bind (wpAny_genState hgs ?_))))
  cases gs with
  | running => exact hgo.elim
  | finished => exact hgo.elim
  | _ =>
    refine wpAny_bind (wpAny_roomToWake hl hroom ?_)
    show wpAny _ A.in1 (.resume g (.send .none) [] _) _ _ s
    refine wpAny_resume1 hgs hgo (fun x s₁ hx => ?_) (fun v s₁ gs' kk c fs hz hb hst hv => ?_)
    · obtain ⟨rfl, hp⟩ := hx
      show wpAny _ A.in1 (newExc (.type "StopIteration") [] >>= _) _ _ _
      refine wpAny_bind ?_
      simp only [newExc, newTuple]
      refine wpAny_bind (wpAny_newObj_type ?_ (by size_fits))
      refine wpAny_bind (m := firstArgMember _ _) (wpAny_of_eq (a := Value.none) (by first | rfl | (simp only [firstArgMember]; rfl)) ?_)
      refine wpAny_newObj_type ?_ (by size_fits)
      simp only [raiseNew]
      refine wpAny_bind (wpAny_bind (wpAny_handled ?_))
      first | rw [show A.in1.handled = none from hh] | rw [hh]
      refine wpAny_throw ?_
      refine wpAny_bind (wpAny_isInstance (T := "StopIteration") (b := true) ⟨_, Heap.get?_push_size _ rfl, rfl⟩ isSubtype_stop ?_)
      exact wpAny_pure (hP s₁ hp _ fun b o hb => Heap.get?_push_of_some _ (Heap.get?_push_of_some _ hb))
    · exact wpAny_pure ⟨v, rfl, wpAny_pure (hY v s₁ gs' kk c fs hz hb hst hv)⟩
end
end GnX


set_option maxHeartbeats 200000
set_option Elab.async false
set_option maxRecDepth 100000
set_option maxHeartbeats 2000000
/-! One item of a generator expression. -/
namespace GnX
open PySem PySem.Spec PyProof.Rows L2

structure GE where
  s0 : Shared
  H0 : Hp
  scope : Scope
  genv : Env
  fp : List Addr
  it : Addr
  tg : Expr
  iter : Expr
  elt : Expr
  ifs : List Expr
  pos : Pos
  J : It
  tn : Nat → Heap → Prop
  vs : List Nat
  a : Addr
  gi : Nat
abbrev GE.lp (C : GE) : Code := .compLoop (.GeneratorExp C.elt [⟨C.tg, C.iter, C.ifs, 0⟩] C.scope C.pos) 0 (.ref C.it) .none C.genv
abbrev GE.st (C : GE) : Code := .compStart (.GeneratorExp C.elt [⟨C.tg, C.iter, C.ifs, 0⟩] C.scope C.pos) 0 (.ref C.it) .none C.genv
abbrev GE.cx (C : GE) (X : Cx) (A : Around) : Cx := gbk X C.s0 C.H0 C.scope C.genv A C.fp
structure GOk (X : Cx) (opins : List (Addr × Obj)) (σ : L2.St) (C : GE) : Prop where
  I0 : Inv X opins σ C.H0 C.s0
  fp : ∀ b ∈ C.fp, FpOk X opins C.H0 b
  T : Turn X.prog X.w X.K C.tg C.J C.fp C.it C.tn
  calm : X.calm = true
  co : C.genv.scope.isCoroutine = false
/-- ready to be woken -/
def Rdy (X : Cx) (C : GE) (gs : GenState) : Prop := gs = .fresh C.st ∨ ∃ k c fs, Stands k c fs gs ∧ ∀ A Rt Yt s, Sg (model X.prog X.w) A Rt Yt C.lp ((model X.prog X.w).den C.lp) [] s → Sg (model X.prog X.w) A Rt Yt c (k (.send .none)) fs s
/-- a generator sleeps ahead of turn i -/
structure GSt (X : Cx) (σ : L2.St) (C : GE) (Z : List Addr) (i : Nat) (H : Hp) (s : Shared) : Prop where
  inn : ∃ A, Inv (C.cx X A) (pinsAt Z s.heap) (wipe σ C.vs) H s
  tn : C.tn i s.heap
  fp : ∀ b ∈ C.fp, H b = none
  gen : s.heap.IsGen C.a C.gi
  gs : ∃ gs, s.gens[C.gi]? = some gs ∧ Rdy X C gs
  mem : C.a ∈ Z
  out : ∀ b ∈ Z, b ∉ C.fp
  str : ∀ A, Strange (C.cx X A) Z
  val : ∀ b ∈ Z, ∃ o, s.heap.get? b = some o ∧ ∀ v, o.data ≠ .cell v
section
variable {X : Cx} {opins : List (Addr × Obj)} {σ : L2.St} {C : GE} {Z : List Addr}
theorem inv_around {A A' : Around} {pins : List (Addr × Obj)} {σ : L2.St} {H : Hp} {s : Shared} (I : Inv (C.cx X A) pins σ H s) (h1 : A'.handled = none) (h2 : A'.frames = some (C.genv :: X.stack)) : Inv (C.cx X A') pins σ H s :=
  ⟨⟨I.ok.mod, I.ok.kind, I.ok.glob, I.ok.blt, I.ok.above, I.ok.inj, I.ok.has, I.ok.cab, fun _ => h1, h2, I.ok.stk, I.ok.exf, I.ok.bs, I.ok.bsz, I.ok.noex, I.ok.exfs, I.ok.funs, I.ok.frf⟩, I.os, I.bare, I.base, I.loc, I.cell, I.free, I.freeC, I.pin, I.hok, I.len⟩
theorem over_frames {A : Around} {st : List Env} (h : A.frames = some st) : (A.over C.lp []).frames = some (C.genv :: st) := by
  show pushEnvs (Code.envs C.lp) (pushEnvs (envsOf []) A.frames) = _
  rw [h]
  rfl
theorem over_room {k : Nat} {A : Around} (h : Room (k + 1) A) : Room k (A.in1.over C.lp []) :=
  ⟨h.hd, by have := h.dp; show A.depth + frameCount [] + 1 + 3 * k + 5 < _; simp only [frameCount, List.map_nil, List.sum_nil]; omega, by have := h.un; show A.units + 1 + unitsOf [] + 3 + 16 * k + 200 < _; simp only [unitsOf, List.map_nil, List.sum_nil]; omega⟩
theorem back (ok : GOk X opins σ C) {A : Around} {pins : List (Addr × Obj)} {σ' : L2.St} {H : Hp} {s : Shared} (I : Inv (C.cx X A) pins σ' H s) : Inv X opins σ H s :=
  ok.I0.call' (ch := C.fp) I.os I.base I.hok I.bare fun b hb => ⟨(ok.fp b hb).2.2.2.1, (ok.fp b hb).2.1, (ok.fp b hb).2.2.2.2.1, (ok.fp b hb).2.2.2.2.2⟩
/-- the plan of the turns: until an item is out, or the end -/
def PlanOk (J : It) (g : TG) (tt : TT) (te : TE) (vs : List Nat) (σ : L2.St) (Fn : Hp → Prop) (Yd : V → Nat → Hp → Prop) (W : Nat → Nat → Hp → Prop) : Prop :=
  ∀ i m H, W i m H → (J.stop i H ∧ Fn H) ∨ (J.go i H ∧ ∃ (Y : V → Hp → Prop) (N : Hp → Prop), (∀ y H, Y y H → Yd y (i + 1) H) ∧ (∀ H, N H → ∃ m', m' < m ∧ W (i + 1) m' H) ∧ ∀ x H', J.yld i H x H' → g x (wipe σ vs) H' fun σ2 H2 => wipe σ2 vs = wipe σ vs ∧ tt σ2 H2 fun b H3 =>
    if b = true then te σ2 H3 Y else N H3)
theorem sg_loop (ok : GOk X opins σ C) {A : Around} {k : Nat} (hA : (A.over C.lp []).handled = none) {g : TG} {tt : TT} {te : TE} (pg : PG (C.cx X (A.over C.lp [])) C.tg g) (pt : PTs (C.cx X (A.over C.lp [])) C.ifs tt) (pe : PE (C.cx X (A.over C.lp [])) C.elt te)
    {Fn : Hp → Prop} {Yd : V → Nat → Hp → Prop} {W : Nat → Nat → Hp → Prop} (plan : PlanOk C.J g tt te C.vs σ Fn Yd W) {Zp : List (Addr × Obj)} (hZ : ∀ p ∈ Zp, p.1 ∉ C.fp) :
    ∀ (m i : Nat) (H : Hp) (s : Shared), Inv (C.cx X (A.over C.lp [])) Zp (wipe σ C.vs) H s → C.tn i s.heap → (∀ b ∈ C.fp, H b = none) → W i m H →
      Sg (model X.prog X.w) A (fun r s1 => r = .ok .next ∧ ∃ H1, Fn H1 ∧ Inv (C.cx X (A.over C.lp [])) Zp (wipe σ C.vs) H1 s1)
        (fun v k c fs s1 => (∀ A Rt Yt s, Sg (model X.prog X.w) A Rt Yt C.lp ((model X.prog X.w).den C.lp) [] s → Sg (model X.prog X.w) A Rt Yt c (k (.send .none)) fs s) ∧
          ∃ y i1 H1, RelV y v ∧ Yd y i1 H1 ∧ Inv (C.cx X (A.over C.lp [])) Zp (wipe σ C.vs) H1 s1 ∧ C.tn i1 s1.heap ∧ ∀ b ∈ C.fp, H1 b = none)
        C.lp ((model X.prog X.w).den C.lp) [] s := by
  intro m
  induction m using Nat.strongRecOn with
  | ind m ih =>
    intro i H s I st n w
    have T := ok.T
    have stat : ∀ {σ' : L2.St} {H' : Hp} {s' : Shared}, Inv (C.cx X (A.over C.lp [])) Zp σ' H' s' → (∀ b ∈ C.fp, H' b = none) → ∀ b ∈ C.fp, FpOk (C.cx X (A.over C.lp [])) Zp H' b := fun {σ' H' s'} I' hn b hb =>
      ⟨hn b hb, (I'.ok.exf b hb).1, I'.ok.exfs b hb, .inl hb, fun x c e => (I'.ok.exf b hb).2 x c e, fun p hp e => hZ p (by rcases List.mem_append.mp hp with z | z; cases z; exact z) (by rw [e]; exact hb)⟩
    show Sg _ A _ _ C.lp ((compTurn (.GeneratorExp C.elt [⟨C.tg, C.iter, C.ifs, 0⟩] C.scope C.pos) 0 (.ref C.it) .none C.genv).onRaise (leaving C.genv)) [] s
    rw [compTurn_gen, Sem.onRaise_eq_wrap]
    refine sg_bind (wpAny_standAt ?_)
    rcases plan i m H w with ⟨stop, qq⟩ | ⟨go, Y, N, hYd, hN, step⟩
    · refine sg_bind (thnF (T.done (C.cx X (A.over C.lp [])) rfl rfl rfl ok.calm i Zp s _ H (fun _ _ => False) I (stat I n) st stop) fun r s6 ⟨hr, I6⟩ => ?_)
      subst hr
      exact sg_end (.ok .next) ⟨rfl, H, qq, I6⟩
    · refine sg_bind (thnF (T.item (C.cx X (A.over C.lp [])) rfl rfl rfl ok.calm i Zp s _ H (fun _ _ => False) I (stat I n) st go) fun r s6 ⟨u, hr, h6⟩ => ?_)
      subst hr
      refine sg_bind (thnF h6 fun _ s7 ⟨x, H7, I7, r7, y7, st7, n7⟩ => ?_)
      have I7' := I7.pinned (stat I7 n7) (T.obj _ _ st7)
      refine sg_bind (wpAny_mono (pg.run _ s7 _ H7 x u _ I7' r7 (step x H7 y7)) (fun _ s8 ⟨σ8, H8, I8, hw8, q8⟩ => ?_) fun _ _ z => False.elim z)
      refine sg_bind (wpAny_mono (pt.run _ s8 σ8 H8 _ I8 q8) (fun b s9 ⟨H9, I9, q9⟩ => ?_) fun _ _ z => False.elim z)
      have fin : ∀ {s' : Shared} {H' : Hp}, Inv (C.cx X (A.over C.lp [])) (Zp ++ pinsAt C.fp s7.heap) σ8 H' s' → Inv (C.cx X (A.over C.lp [])) Zp (wipe σ C.vs) H' s' ∧ C.tn (i + 1) s'.heap ∧ ∀ b ∈ C.fp, H' b = none := fun {s' H'} I' => by
        have pin' : ∀ b ∈ C.fp, ∀ o, s7.heap.get? b = some o → s'.heap.get? b = some o ∧ H' b = none := fun b hb o e =>
          let z := I'.pin (b, o) (List.mem_append_right _ (List.mem_append_right _ (mem_pinsAt hb e)))
          ⟨z.1, z.2.1⟩
        have hl : (wipe σ C.vs).length = σ8.length := by rw [← hw8, wipe_length]
        refine ⟨(I'.unpinned (pins := Zp)).weak hl (fun j v e => ?_), T.keep _ _ _ st7 fun b hb o e => (pin' b hb o e).1, fun b hb => ?_⟩
        · rw [← hw8] at e
          exact (wipe_some e).1
        · obtain ⟨o, e, _⟩ := T.obj _ _ st7 b hb
          exact (pin' b hb o e).2
      cases b with
      | false =>
        simp only [Bool.false_eq_true, if_false] at q9 ⊢
        obtain ⟨m', hm, w'⟩ := hN _ q9
        obtain ⟨f1, f2, f3⟩ := fin I9
        exact sg_again rfl (ih m' hm (i + 1) H9 s9 f1 f2 f3 w')
      | true =>
        simp only [if_true] at q9 ⊢
        have hy : ∀ v, yieldOut C.genv v = yieldValue v := fun v => by simp only [yieldOut, ok.co, Bool.false_eq_true, if_false]
        simp only [hy]
        rw [Sem.bind_eq_wrap', Sem.bind_eq_wrap', Sem.wrap_wrap, Sem.wrap_wrap]
        refine sg_wrap (wpAny_mono (pe.run _ s9 σ8 H9 _ I9 q9) (fun z s10 ⟨yv, H10, I10, r10, nx⟩ => ?_) fun _ _ z => False.elim z)
        obtain ⟨f1, f2, f3⟩ := fin I10
        exact sg_at (sg_yield rfl rfl rfl ⟨fun A Rt Yt s h => sg_again rfl h, yv, i + 1, H10, r10, hYd _ _ nx, f1, f2, f3⟩)
theorem sg_start (ok : GOk X opins σ C) {A : Around} {i : Nat} {Rt : Result → Shared → Prop} {Yt : Value → (Resume → Sem PySem.Fin) → Code → List Frame → Shared → Prop} {s : Shared} (st : C.tn i s.heap)
    (loop : Sg (model X.prog X.w) A Rt Yt C.lp ((model X.prog X.w).den C.lp) [] s) : Sg (model X.prog X.w) A Rt Yt C.st ((model X.prog X.w).den C.st) [] s := by
  show Sg _ A _ _ _ ((compStart (.GeneratorExp C.elt [⟨C.tg, C.iter, C.ifs, 0⟩] C.scope C.pos) 0 (.ref C.it) .none C.genv).onRaise (leaving C.genv)) [] s
  unfold compStart
  rw [Sem.onRaise_eq_wrap]
  show Sg _ A _ _ _ ((ask >>= _).wrap _ _ _ _) [] s
  refine sg_bind (wpAny_askSetting ?_)
  split
  · exact sg_again rfl loop
  · first
      | exact sg_bind (wpAny_rule (sg_bind (wpAny_standAt (sg_bind (ok.T.self _ i s _ _ st (sg_again rfl loop))))))
      | (refine sg_bind (wpAny_rule ?_); show Sg _ A _ _ _ ((standAt C.iter.pos >>= _).wrap _ _ _ _) [] s; exact sg_bind (wpAny_standAt (sg_bind (ok.T.self _ i s _ _ st (sg_again rfl loop)))))
end
end GnX


set_option maxHeartbeats 200000
set_option Elab.async false
set_option maxRecDepth 100000
set_option maxHeartbeats 2000000
/-! A generator expression's item, for its consumer. -/
namespace GnX
open PySem PySem.Spec PyProof.Rows L2
section
variable {X : Cx} {opins : List (Addr × Obj)} {σ : L2.St} {C : GE} {Z : List Addr}
theorem GSt.back (ok : GOk X opins σ C) {i : Nat} {H : Hp} {s : Shared} (st : GSt X σ C Z i H s) : Inv X opins σ H s := by
  obtain ⟨A, I⟩ := st.inn
  exact GnX.back ok I
theorem inv_gens {X : Cx} {pins : List (Addr × Obj)} {σ : L2.St} {H : Hp} {s : Shared} (I : Inv X pins σ H s) {g : Nat} {x : GenState} (hx : x.bare = true) : Inv X pins σ H (s.setGen g x) :=
  ⟨I.ok, I.os, allBare_setGen I.bare hx, I.base, I.loc, I.cell, I.free, I.freeC, I.pin, I.hok, I.len⟩
theorem gnext (ok : GOk X opins σ C) {A : Around} {k : Nat} (h1 : A.handled = none) (h2 : A.depth < recursionLimit) (hrm : Room k (A.in1.over C.lp [])) (hf : A.frames = some X.stack) {g : TG} {tt : TT} {te : TE}
    (hp : ∀ A', Room k A' → PG (C.cx X A') C.tg g ∧ PTs (C.cx X A') C.ifs tt ∧ PE (C.cx X A') C.elt te)
    {Fn : Hp → Prop} {Yd : V → Nat → Hp → Prop} {W : Nat → Nat → Hp → Prop} (plan : PlanOk C.J g tt te C.vs σ Fn Yd W) {i m : Nat} {H : Hp} {s : Shared} (st : GSt X σ C Z i H s) (w : W i m H)
    {Q : Option Value → Shared → Prop} {E : Value → Shared → Prop}
    (hF : ∀ s1 H1, Fn H1 → Inv X opins σ H1 s1 → (∀ s', Slept Z s1 s' → Inv X opins σ H1 s') → (∀ b ∈ Z, ∀ o, s.heap.get? b = some o → s1.heap.get? b = some o) → Q none s1)
    (hY : ∀ y v s1 i1 H1, Yd y i1 H1 → RelV y v → GSt X σ C Z i1 H1 s1 → (∀ b ∈ Z, ∀ o, s.heap.get? b = some o → s1.heap.get? b = some o) → Q (some v) s1) :
    wpAny (model X.prog X.w) A (pyNext (.ref C.a)) Q E s := by
  obtain ⟨A0, I0⟩ := st.inn
  obtain ⟨gs, hgs, hrd⟩ := st.gs
  have hfr : (A.in1.over C.lp []).frames = some (C.genv :: X.stack) := over_frames (A := A.in1) hf
  obtain ⟨pg, pt, pe⟩ := hp _ hrm
  have I1 : Inv (C.cx X (A.in1.over C.lp [])) (pinsAt Z s.heap) (wipe σ C.vs) H (s.setGen C.gi .running) := inv_gens (inv_around I0 hrm.hd hfr) rfl
  have hZp : ∀ p ∈ pinsAt Z s.heap, p.1 ∉ C.fp := fun p hp => st.out p.1 (of_pinsAt hp).1
  have main := sg_loop ok (A := A.in1) (k := k) hrm.hd pg pt pe plan hZp m i H (s.setGen C.gi .running) I1 st.tn st.fp w
  have kept : ∀ {A' : Around} {σ' : L2.St} {H' : Hp} {s1 : Shared}, Inv (C.cx X A') (pinsAt Z s.heap) σ' H' s1 → ∀ b ∈ Z, ∀ o, s.heap.get? b = some o → s1.heap.get? b = some o := fun I b hb o e =>
    (I.pin (b, o) (List.mem_append_right _ (mem_pinsAt hb e))).1
  refine wpAny_pyNext1 (F := fun s1 => ∃ H1, Fn H1 ∧ Inv (C.cx X (A.in1.over C.lp [])) (pinsAt Z s.heap) (wipe σ C.vs) H1 s1) h1 I0.nolimit h2 st.gen hgs ?_ (fun v s₁ gs' kk c fs hz hb hst hv => ?_) (fun s₁ hq h' hk => ?_)
    (Yt := fun v k c fs s1 => (∀ A Rt Yt s, Sg (model X.prog X.w) A Rt Yt C.lp ((model X.prog X.w).den C.lp) [] s → Sg (model X.prog X.w) A Rt Yt c (k (.send .none)) fs s) ∧
          ∃ y i1 H1, RelV y v ∧ Yd y i1 H1 ∧ Inv (C.cx X (A.in1.over C.lp [])) (pinsAt Z s.heap) (wipe σ C.vs) H1 s1 ∧ C.tn i1 s1.heap ∧ ∀ b ∈ C.fp, H1 b = none)
  · rcases hrd with rfl | ⟨k', c, fs, ⟨l, p, cl, rfl⟩, hk⟩
    · exact ⟨rfl, sg_start ok (i := i) st.tn main⟩
    · exact hk _ _ _ _ main
  · obtain ⟨hk, y, i1, H1, rv, yd, I2, tn2, fp2⟩ := hv
    have kp := kept I2
    have hlt : C.gi < s₁.gens.size := Nat.lt_of_lt_of_le (by
      rcases Nat.lt_or_ge C.gi s.gens.size with h' | h'
      · exact h'
      · rw [Array.getElem?_eq_none h'] at hgs; cases hgs) hz
    refine hY y v _ i1 H1 yd rv ⟨⟨A.in1.over C.lp [], inv_gens (X := C.cx X (A.in1.over C.lp [])) (pins := pinsAt Z s₁.heap) ?_ hb⟩, tn2, fp2, ?_, ⟨gs', ?_, .inr ⟨kk, c, fs, hst, hk⟩⟩, st.mem, st.out, st.str, fun b hb' => ?_⟩ kp
    · refine I2.pins_of fun p hp => I2.pin p (List.mem_append_right _ ?_)
      obtain ⟨hb', e⟩ := of_pinsAt hp
      obtain ⟨o, e', _⟩ := st.val p.1 hb'
      have e2 : s₁.heap.get? p.1 = some p.2 := e
      rw [kp p.1 hb' o e'] at e2
      cases e2
      exact mem_pinsAt hb' e'
    · obtain ⟨o, nm, qn, ho, r⟩ := st.gen
      exact ⟨o, nm, qn, kp C.a st.mem o ho, r⟩
    · simp [Shared.setGen, hlt]
    · obtain ⟨o, e', q⟩ := st.val b hb'
      exact ⟨o, kp b hb' o e', q⟩
  · obtain ⟨H1, q, I2⟩ := hq
    have I3 := GnX.back ok I2
    refine hF _ H1 q ?_ (fun s' z => ?_) fun b hb o e => hk b o (kept I2 b hb o e)
    rotate_left
    · have J1 : Inv (C.cx X (A.in1.over C.lp [])) (pinsAt Z s.heap) (wipe σ C.vs) H1 { s₁ with heap := h' } := I2.kept (t' := s₁.toks) hk
      have J2 : Inv (C.cx X (A.in1.over C.lp [])) (pinsAt Z s.heap) (wipe σ C.vs) H1 (({ s₁ with heap := h' } : Shared).setGen C.gi .finished) := inv_gens J1 rfl
      have hv : ∀ b ∈ Z, ∃ o, h'.get? b = some o ∧ ∀ v, o.data ≠ .cell v := fun b hb => by
        obtain ⟨o, e', q⟩ := st.val b hb
        exact ⟨o, hk b o (kept I2 b hb o e'), q⟩
      have J3 : Inv (C.cx X (A.in1.over C.lp [])) (pinsAt Z h') (wipe σ C.vs) H1 (({ s₁ with heap := h' } : Shared).setGen C.gi .finished) := J2.pins_of fun p hp => J2.pin p (List.mem_append_right _ (by
        obtain ⟨hb', e⟩ := of_pinsAt hp
        obtain ⟨o, e', _⟩ := st.val p.1 hb'
        rw [hk p.1 o (kept I2 p.1 hb' o e')] at e
        cases e
        exact mem_pinsAt hb' e'))
      exact GnX.back ok (inv_slept (S := Z) J3 rfl z (fun b hb => hb) (st.str _) hv)
    exact I3.call' (ch := []) rfl (Un.kept hk) (I3.hok.kept hk) (allBare_setGen I3.bare rfl) fun b z => absurd z (by simp)
/-- its consumer has changed its own things -/
theorem GSt.slept {S : List Addr} {i : Nat} {H : Hp} {s s' : Shared} (st : GSt X σ C Z i H s) (z : Slept S s s') (hg : s'.gens = s.gens) (hS : ∀ b ∈ S, b ∈ Z ∧ b ≠ C.a) (T : ∀ i h h', C.tn i h → (∀ b ∈ C.fp, ∀ o, h.get? b = some o → h'.get? b = some o) → C.tn i h') : GSt X σ C Z i H s' := by
  obtain ⟨A, I⟩ := st.inn
  refine ⟨⟨A, inv_slept I rfl z (fun b hb => (hS b hb).1) (st.str A) st.val⟩, T _ _ _ st.tn fun b hb o e => z.keep b o (fun h => st.out b (hS b h).1 hb) e, st.fp, ?_, ?_, st.mem, st.out, st.str, fun b hb => ?_⟩
  · obtain ⟨o, nm, qn, ho, r⟩ := st.gen
    exact ⟨o, nm, qn, z.keep C.a o (fun h => (hS C.a h).2 rfl) ho, r⟩
  · rw [hg]; exact st.gs
  · by_cases hb' : b ∈ S
    · exact z.there b hb'
    · obtain ⟨o, e, q⟩ := st.val b hb
      exact ⟨o, z.keep b o hb' e, q⟩
end
end GnX


set_option maxHeartbeats 200000
set_option Elab.async false
set_option maxRecDepth 100000
set_option maxHeartbeats 2000000
/-! Consumers of a generator expression. -/
namespace GnX
open PySem PySem.Spec PyProof.Rows L2
/-- the plan of a consumer -/
def GPlan {α : Type} (J : It) (g : TG) (tt : TT) (te : TE) (vs : List Nat) (σ : L2.St) (Fn : α → Hp → Prop) (Yd : α → (α → Hp → Prop) → V → Hp → Prop) (W : α → Nat → Nat → Hp → Prop) : Prop :=
  ∀ a i m H, W a i m H → (J.stop i H ∧ Fn a H) ∨ (J.go i H ∧ ∃ N : α → Hp → Prop, (∀ a' H', N a' H' → ∃ m', m' < m ∧ W a' (i + 1) m' H') ∧ ∀ x H', J.yld i H x H' → g x (wipe σ vs) H' fun σ2 H2 => wipe σ2 vs = wipe σ vs ∧ tt σ2 H2 fun b H3 =>
    if b = true then te σ2 H3 (fun y H4 => Yd a N y H4) else N a H3)
section
variable {X : Cx} {opins : List (Addr × Obj)} {σ : L2.St} {C : GE} {Z : List Addr} {α : Type}
theorem over1 {k : Nat} {A : Around} (h : Room (k + 1) A) : Room k (A.in1.in1.over C.lp []) :=
  ⟨h.hd, by have := h.dp; show A.depth + frameCount [] + 1 + 3 * k + 5 < _; simp only [frameCount, List.map_nil, List.sum_nil]; omega, by have := h.un; show A.units + 1 + 1 + unitsOf [] + 3 + 16 * k + 200 < _; simp only [unitsOf, List.map_nil, List.sum_nil]; omega⟩
theorem over4 {k : Nat} {A : Around} (h : Room (k + 1) A) : Room k (A.in1.in1.in1.in1.in1.over C.lp []) :=
  ⟨h.hd, by have := h.dp; show A.depth + frameCount [] + 1 + 3 * k + 5 < _; simp only [frameCount, List.map_nil, List.sum_nil]; omega, by have := h.un; show A.units + 1 + 1 + 1 + 1 + 1 + unitsOf [] + 3 + 16 * k + 200 < _; simp only [unitsOf, List.map_nil, List.sum_nil]; omega⟩
theorem gstep (ok : GOk X opins σ C) {A : Around} {k : Nat} (h1 : A.handled = none) (h2 : A.depth < recursionLimit) (hrm : Room k (A.in1.over C.lp [])) (hf : A.frames = some X.stack) {g : TG} {tt : TT} {te : TE}
    (hp : ∀ A', Room k A' → PG (C.cx X A') C.tg g ∧ PTs (C.cx X A') C.ifs tt ∧ PE (C.cx X A') C.elt te)
    {Fn : α → Hp → Prop} {Yd : α → (α → Hp → Prop) → V → Hp → Prop} {W : α → Nat → Nat → Hp → Prop} (plan : GPlan C.J g tt te C.vs σ Fn Yd W) {a : α} {i m : Nat} {H : Hp} {s : Shared} (st : GSt X σ C Z i H s) (w : W a i m H)
    {Q : Option Value → Shared → Prop} {E : Value → Shared → Prop}
    (hF : ∀ s1 H1, Fn a H1 → Inv X opins σ H1 s1 → (∀ s', Slept Z s1 s' → Inv X opins σ H1 s') → (∀ b ∈ Z, ∀ o, s.heap.get? b = some o → s1.heap.get? b = some o) → Q none s1)
    (hY : ∀ y v s1 i1 H1 N, (∀ a' H', N a' H' → ∃ m', m' < m ∧ W a' i1 m' H') → Yd a N y H1 → RelV y v → GSt X σ C Z i1 H1 s1 → (∀ b ∈ Z, ∀ o, s.heap.get? b = some o → s1.heap.get? b = some o) → Q (some v) s1) :
    wpAny (model X.prog X.w) A (pyNext (.ref C.a)) Q E s := by
  refine gnext ok h1 h2 hrm hf hp (Fn := Fn a) (Yd := fun y i1 H => ∃ N : α → Hp → Prop, (∀ a' H', N a' H' → ∃ m', m' < m ∧ W a' i1 m' H') ∧ Yd a N y H) (W := fun i' m' H => W a i' m' H ∧ m' ≤ m) ?_ st ⟨w, Nat.le_refl _⟩ hF
    fun y v s1 i1 H1 ⟨N, hN, yd⟩ rv st1 kp => hY y v s1 i1 H1 N hN yd rv st1 kp
  intro i' m' H' ⟨w', hm'⟩
  rcases plan a i' m' H' w' with ⟨q1, q2⟩ | ⟨q1, N, hN, q2⟩
  · exact .inl ⟨q1, q2⟩
  · exact .inr ⟨q1, fun y H => Yd a N y H, N a, fun y H z => ⟨N, fun a' H' n => let ⟨m2, hm2, w2⟩ := hN a' H' n; ⟨m2, Nat.lt_of_lt_of_le hm2 hm', w2⟩, z⟩,
      fun H n => let ⟨m2, hm2, w2⟩ := hN a H n; ⟨m2, hm2, w2, Nat.le_trans (Nat.le_of_lt hm2) hm'⟩, q2⟩
/-- all objects kept -/
theorem GSt.kept (ok : GOk X opins σ C) {i : Nat} {H : Hp} {s : Shared} (st : GSt X σ C Z i H s) {h' : Heap} {t' : Nat} (hk : ∀ b o, s.heap.get? b = some o → h'.get? b = some o) : GSt X σ C Z i H { s with heap := h', toks := t' } := by
  obtain ⟨A, I⟩ := st.inn
  exact st.slept (S := []) ⟨rfl, I.bare, fun b o _ e => hk b o e, fun b hb => absurd hb (by simp)⟩ rfl (fun b hb => absurd hb (by simp)) ok.T.keep
/-- a new object of the consumer's own -/
theorem GSt.more (ok : GOk X opins σ C) {i : Nat} {H : Hp} {s : Shared} (st : GSt X σ C Z i H s) {h' : Heap} {t' : Nat} (hk : ∀ b o, s.heap.get? b = some o → h'.get? b = some o) {o : Obj} (ho : h'.get? s.heap.objs.size = some o) (hd : ∀ v, o.data ≠ .cell v) :
    GSt X σ C (s.heap.objs.size :: Z) i H { s with heap := h', toks := t' } := by
  obtain ⟨A, I⟩ := st.inn
  have st1 := st.kept ok (t' := t') hk
  obtain ⟨A1, I1⟩ := st1.inn
  have hlt : ∀ b ∈ Z, b < s.heap.objs.size := fun b hb => let ⟨o, e, _⟩ := st.val b hb; Heap.lt_size e
  refine ⟨⟨A1, I1.pins_of fun p hp => ?_⟩, st1.tn, st1.fp, st1.gen, st1.gs, List.mem_cons_of_mem _ st.mem, fun b hb hfp => ?_, fun A' => ⟨fun b hb => ?_, fun b hb => ?_, fun b hb => ?_⟩, fun b hb => ?_⟩
  · obtain ⟨hb, e⟩ := of_pinsAt hp
    rcases List.mem_cons.mp hb with z | z
    · have e' : h'.get? p.1 = some p.2 := e
      rw [z, ho] at e'
      cases e'
      rw [z]
      exact ⟨ho, I.hok.fresh (Nat.le_refl _), Nat.ne_of_gt I.lt, I.nofs (Nat.le_refl _), hd⟩
    · exact I1.pin p (List.mem_append_right _ (mem_pinsAt z e))
  · rcases List.mem_cons.mp hb with z | z
    · obtain ⟨o, e, _⟩ := ok.T.obj _ _ st.tn b hfp
      have := Heap.lt_size e
      rw [z] at this
      exact Nat.lt_irrefl _ this
    · exact st.out b z hfp
  · rcases List.mem_cons.mp hb with z | z
    · rw [z]; exact I.sz
    · exact (st.str A').above b z
  · rcases List.mem_cons.mp hb with z | z
    · rw [z]; exact Nat.ne_of_gt I.lt
    · exact (st.str A').loc b z
  · rcases List.mem_cons.mp hb with z | z
    · intro x c e q
      obtain ⟨v, r⟩ := I.cell x c e
      have := r.lt
      rw [q, z] at this
      exact Nat.lt_irrefl _ this
    · exact (st.str A').cel b z
  · rcases List.mem_cons.mp hb with z | z
    · rw [z]; exact ⟨o, ho, hd⟩
    · exact st1.val b z
/-- what a consumer's loop answers -/
def GR (X : Cx) (opins : List (Addr × Obj)) (σ : L2.St) (Q : V → Hp → Prop) (r : Result) (s' : Shared) : Prop := ∃ v u H', r = .ok (.ret u) ∧ Inv X opins σ H' s' ∧ RelV v u ∧ Q v H'
def YAll (Q : V → Hp → Prop) (stop : Bool) : Unit → (Unit → Hp → Prop) → V → Hp → Prop := fun _ N y H => ∃ b, y = .bl b ∧ if b = stop then Q (.bl stop) H else N () H
theorem all_loop (ok : GOk X opins σ C) {A : Around} {k : Nat} (hr : Room (k + 1) A) (hf : A.frames = some X.stack) {g : TG} {tt : TT} {te : TE}
    (hp : ∀ A', Room k A' → PG (C.cx X A') C.tg g ∧ PTs (C.cx X A') C.ifs tt ∧ PE (C.cx X A') C.elt te) {Q : V → Hp → Prop} {W : Unit → Nat → Nat → Hp → Prop}
    (plan : GPlan C.J g tt te C.vs σ (fun _ H => Q (.bl true) H) (YAll Q false) W) : ∀ (m i : Nat) (H : Hp) (s : Shared), GSt X σ C Z i H s → W () i m H →
      codeAny (model X.prog X.w) A (.builtin "all.loop" ⟨[.ref C.a], []⟩) (GR X opins σ Q) s := by
  intro m
  induction m using Nat.strongRecOn with
  | ind m ih =>
    intro i H s st w
    refine codeAny_builtin F.entry_all_loop ?_
    rw [Around.under_plainId F.plain_all_loop _]
    show wpAny _ A.in1 (pyNext (.ref C.a) >>= _) _ _ s
    refine wpAny_bind (gstep ok (A := A.in1) hr.hd hr.depth (over1 hr) hf hp plan st w (fun s1 H1 q I _ _ => ?_) fun y v s1 i1 H1 N hN yd rv st1 _ => ?_)
    · exact wpAny_bind (wpAny_rule (wpAny_pure ⟨.bl true, _, H1, rfl, I, rfl, q⟩))
    · obtain ⟨b, rfl, yd⟩ := yd
      have rv : v = .bool b := rv
      subst rv
      refine wpAny_bind (wpAny_holding (wpAny_truthy_bool ?_))
      refine wpAny_bind (wpAny_letGo ?_)
      cases b with
      | true =>
        simp only [if_true]
        rw [if_neg (by decide)] at yd
        obtain ⟨m', hm, w'⟩ := hN _ _ yd
        exact wpAny_pure ⟨plainId_quiet F.plain_all_loop _, ih m' hm i1 H1 s1 st1 w'⟩
      | false =>
        simp only [Bool.false_eq_true, if_false]
        rw [if_pos rfl] at yd
        exact wpAny_bind (wpAny_rule (wpAny_pure ⟨.bl false, _, H1, rfl, st1.back ok, rfl, yd⟩))
theorem any_loop (ok : GOk X opins σ C) {A : Around} {k : Nat} (hr : Room (k + 1) A) (hf : A.frames = some X.stack) {g : TG} {tt : TT} {te : TE}
    (hp : ∀ A', Room k A' → PG (C.cx X A') C.tg g ∧ PTs (C.cx X A') C.ifs tt ∧ PE (C.cx X A') C.elt te) {Q : V → Hp → Prop} {W : Unit → Nat → Nat → Hp → Prop}
    (plan : GPlan C.J g tt te C.vs σ (fun _ H => Q (.bl false) H) (YAll Q true) W) : ∀ (m i : Nat) (H : Hp) (s : Shared), GSt X σ C Z i H s → W () i m H →
      codeAny (model X.prog X.w) A (.builtin "any.loop" ⟨[.ref C.a], []⟩) (GR X opins σ Q) s := by
  intro m
  induction m using Nat.strongRecOn with
  | ind m ih =>
    intro i H s st w
    refine codeAny_builtin F.entry_any_loop ?_
    rw [Around.under_plainId F.plain_any_loop _]
    show wpAny _ A.in1 (pyNext (.ref C.a) >>= _) _ _ s
    refine wpAny_bind (gstep ok (A := A.in1) hr.hd hr.depth (over1 hr) hf hp plan st w (fun s1 H1 q I _ _ => ?_) fun y v s1 i1 H1 N hN yd rv st1 _ => ?_)
    · exact wpAny_bind (wpAny_rule (wpAny_pure ⟨.bl false, _, H1, rfl, I, rfl, q⟩))
    · obtain ⟨b, rfl, yd⟩ := yd
      have rv : v = .bool b := rv
      subst rv
      refine wpAny_bind (wpAny_holding (wpAny_truthy_bool ?_))
      refine wpAny_bind (wpAny_letGo ?_)
      cases b with
      | false =>
        simp only [Bool.false_eq_true, if_false]
        rw [if_neg (by decide)] at yd
        obtain ⟨m', hm, w'⟩ := hN _ _ yd
        exact wpAny_pure ⟨plainId_quiet F.plain_any_loop _, ih m' hm i1 H1 s1 st1 w'⟩
      | true =>
        simp only [if_true]
        rw [if_pos rfl] at yd
        exact wpAny_bind (wpAny_rule (wpAny_pure ⟨.bl true, _, H1, rfl, st1.back ok, rfl, yd⟩))
theorem call_all (ok : GOk X opins σ C) {A : Around} {k : Nat} (hr : Room (k + 1) A) (hf : A.frames = some X.stack) {g : TG} {tt : TT} {te : TE}
    (hp : ∀ A', Room k A' → PG (C.cx X A') C.tg g ∧ PTs (C.cx X A') C.ifs tt ∧ PE (C.cx X A') C.elt te) {Q : V → Hp → Prop} {W : Unit → Nat → Nat → Hp → Prop} {E : Value → Shared → Prop}
    (plan : GPlan C.J g tt te C.vs σ (fun _ H => Q (.bl true) H) (YAll Q false) W) {m i : Nat} {H : Hp} {s : Shared} (st : GSt X σ C Z i H s) (w : W () i m H) :
    wpAny (model X.prog X.w) A (call (.builtin "all") [.ref C.a]) (fun u s' => ∃ v H', Inv X opins σ H' s' ∧ RelV v u ∧ Q v H') E s := by
  refine call_function_tree F.kind_all F.plain_all F.entry_all (F.args_all1 _) ?_
  unfold Builtin.«all»
  refine wpAny_bind (m := oneArg "all" _) (wpAny_pure ?_)
  refine wpAny_bind (wpAny_pyIter_gen st.gen ?_)
  refine wpAny_pure ⟨plainId_quiet F.plain_all_loop _, codeAny_mono (all_loop ok hr hf hp plan m i H s st w) fun r s' ⟨v, u, H', e, I, rv, q⟩ => ?_⟩
  subst e
  exact ⟨v, H', I, rv, q⟩
theorem call_any (ok : GOk X opins σ C) {A : Around} {k : Nat} (hr : Room (k + 1) A) (hf : A.frames = some X.stack) {g : TG} {tt : TT} {te : TE}
    (hp : ∀ A', Room k A' → PG (C.cx X A') C.tg g ∧ PTs (C.cx X A') C.ifs tt ∧ PE (C.cx X A') C.elt te) {Q : V → Hp → Prop} {W : Unit → Nat → Nat → Hp → Prop} {E : Value → Shared → Prop}
    (plan : GPlan C.J g tt te C.vs σ (fun _ H => Q (.bl false) H) (YAll Q true) W) {m i : Nat} {H : Hp} {s : Shared} (st : GSt X σ C Z i H s) (w : W () i m H) :
    wpAny (model X.prog X.w) A (call (.builtin "any") [.ref C.a]) (fun u s' => ∃ v H', Inv X opins σ H' s' ∧ RelV v u ∧ Q v H') E s := by
  refine call_function_tree F.kind_any F.plain_any F.entry_any (F.args_any1 _) ?_
  unfold Builtin.«any»
  refine wpAny_bind (m := oneArg "any" _) (wpAny_pure ?_)
  refine wpAny_bind (wpAny_pyIter_gen st.gen ?_)
  refine wpAny_pure ⟨plainId_quiet F.plain_any_loop _, codeAny_mono (any_loop ok hr hf hp plan m i H s st w) fun r s' ⟨v, u, H', e, I, rv, q⟩ => ?_⟩
  subst e
  exact ⟨v, H', I, rv, q⟩
end
end GnX


set_option maxHeartbeats 200000
set_option Elab.async false
set_option maxRecDepth 100000
set_option maxHeartbeats 2000000
/-! sum, tuple of a generator expression. -/
namespace GnX
open PySem PySem.Spec PyProof.Rows L2
section
variable {X : Cx} {opins : List (Addr × Obj)} {σ : L2.St} {C : GE} {Z : List Addr}
def YSum : Int → (Int → Hp → Prop) → V → Hp → Prop := fun acc N y H => ∃ j, y = .int j ∧ InLong j ∧ InLong (acc + j) ∧ N (acc + j) H
/-- the consumer writes its own object -/
theorem GSt.wrote (ok : GOk X opins σ C) {i : Nat} {H : Hp} {s : Shared} (st : GSt X σ C Z i H s) {S : Addr} (hS : S ∈ Z) (hSa : S ≠ C.a) {h' : Heap} {t' : Nat} (hk : ∀ b o, b ≠ S → s.heap.get? b = some o → h'.get? b = some o) {o : Obj} (ho : h'.get? S = some o) (hd : ∀ v, o.data ≠ .cell v) :
    GSt X σ C Z i H { s with heap := h', toks := t' } := by
  obtain ⟨A, I⟩ := st.inn
  exact st.slept (S := [S]) ⟨rfl, I.bare, fun b o hb e => hk b o (fun z => hb (by rw [z]; exact List.mem_cons_self)) e, fun b hb => by rw [List.mem_singleton.mp hb]; exact ⟨o, ho, hd⟩⟩ rfl (fun b hb => by rw [List.mem_singleton.mp hb]; exact ⟨hS, hSa⟩) ok.T.keep
theorem sum_loop (ok : GOk X opins σ C) {A : Around} {k : Nat} (hr : Room (k + 1) A) (hf : A.frames = some X.stack) {g : TG} {tt : TT} {te : TE}
    (hp : ∀ A', Room k A' → PG (C.cx X A') C.tg g ∧ PTs (C.cx X A') C.ifs tt ∧ PE (C.cx X A') C.elt te) {Q : V → Hp → Prop} {W : Int → Nat → Nat → Hp → Prop}
    (plan : GPlan C.J g tt te C.vs σ (fun a H => Q (.int a) H) YSum W) {S : Addr} (hS : S ∈ Z) (hSa : S ≠ C.a) : ∀ (m i : Nat) (H : Hp) (s : Shared) (a : Int) (tA : Tok) (c : Nat), GSt X σ C Z i H s → W a i m H →
      s.heap.get? S = some { cls := .type "list", dict := none, data := .seq #[.int a tA] c, slots := #[] } →
      codeAny (model X.prog X.w) A (.builtin "sum.loop" ⟨[.ref C.a, .ref S, rawInt 0, rawInt 0], []⟩) (GR X opins σ Q) s := by
  intro m
  induction m using Nat.strongRecOn with
  | ind m ih =>
    intro i H s a tA c st w hSo
    refine codeAny_builtin F.entry_sum_loop ?_
    rw [Around.under_plainId F.plain_sum_loop _]
    show wpAny _ A.in1 (seqItems? (.ref S) >>= _) _ _ s
    refine wpAny_bind (wpAny_seqItems hSo rfl ?_)
    show wpAny _ A.in1 (tryCatch (pyNext (.ref C.a)) _ >>= _) _ _ s
    refine wpAny_bind (wpAny_tryCatch (gstep ok (A := A.in1) hr.hd hr.depth (over1 hr) hf hp plan st w (fun s1 H1 q I _ _ => ?_) fun y v s1 i1 H1 N hN yd rv st1 kp => ?_))
    · exact wpAny_pure ⟨.int a, _, H1, rfl, I, ⟨tA, rfl⟩, q⟩
    · obtain ⟨j, rfl, ⟨f1, f2⟩, ⟨f3, f4⟩, nx⟩ := yd
      obtain ⟨t, rfl⟩ : ∃ t, v = .int j t := rv
      obtain ⟨m', hm, w'⟩ := hN _ _ nx
      have hS' := kp S hS _ hSo
      have hc : ((decide (-(2 ^ 63) ≤ j) && decide (j < 2 ^ 63)) && (decide (-(2 ^ 63) ≤ a + j) && decide (a + j < 2 ^ 63))) = true := by
        simp only [Bool.and_eq_true, decide_eq_true_eq]
        exact ⟨⟨f1, f2⟩, f3, f4⟩
      show wpAny _ A.in1 (if (_ : Bool) = true then (mkInt (a + j) >>= _) else _) _ _ _
      split
      · refine wpAny_bind (wpAny_mkInt ?_)
        show wpAny _ A.in1 (updateSeq S (fun _ => #[.int (a + j) s1.toks]) >>= _) _ _ _
        refine wpAny_bind ?_
        have hup := Heap.get?_update_self (Obj.mapSeq (fun _ => #[Value.int (a + j) s1.toks])) hS' rfl
        refine wpAny_updateSeq hS' rfl (wpAny_pure ⟨plainId_quiet F.plain_sum_loop _, ih m' hm i1 H1 _ (a + j) s1.toks _ (st1.wrote ok hS hSa (fun b o hb e => (Heap.get?_update_other _ _ (Ne.symm hb)).trans e) hup (fun v z => by cases z)) w' hup⟩)
      · rename_i hneg
        exact absurd hc hneg
theorem call_sum (ok : GOk X opins σ C) {A : Around} {k : Nat} (hr : Room (k + 1) A) (hf : A.frames = some X.stack) {g : TG} {tt : TT} {te : TE}
    (hp : ∀ A', Room k A' → PG (C.cx X A') C.tg g ∧ PTs (C.cx X A') C.ifs tt ∧ PE (C.cx X A') C.elt te) {Q : V → Hp → Prop} {W : Int → Nat → Nat → Hp → Prop} {E : Value → Shared → Prop}
    (plan : GPlan C.J g tt te C.vs σ (fun a H => Q (.int a) H) YSum W) {m i : Nat} {H : Hp} {s : Shared} (st : GSt X σ C Z i H s) (w : W 0 i m H) :
    wpAny (model X.prog X.w) A (call (.builtin "sum") [.ref C.a]) (fun u s' => ∃ v H', Inv X opins σ H' s' ∧ RelV v u ∧ Q v H') E s := by
  refine call_function_tree F.kind_sum F.plain_sum F.entry_sum (F.args_sum1 _) ?_
  unfold Builtin.«sum»
  simp only [List.length_cons, List.length_nil]
  rw [if_neg (by decide)]
  refine wpAny_bind (wpAny_of_eq (show Builtin.Builtins.bindParams "sum" ["start"] 0 { } = pure [none] from rfl) ?_)
  refine wpAny_bind (wpAny_pyIter_gen st.gen ?_)
  refine wpAny_bind (wpAny_mkInt ?_)
  refine wpAny_bind (wpAny_pure ?_)
  simp only [List.forIn_cons, List.forIn_nil]
  refine wpAny_bind (wpAny_bind (wpAny_bind (wpAny_isInstance (T := "int") (b := false) (typeIs_int _ _ _) PySem.sub_int_str ?_)))
  simp only [Bool.false_eq_true, if_false]
  refine wpAny_pure (wpAny_bind (wpAny_bind (wpAny_isInstance (T := "int") (b := false) (typeIs_int _ _ _) PySem.sub_int_bytes ?_)))
  simp only [Bool.false_eq_true, if_false]
  refine wpAny_pure (wpAny_bind (wpAny_bind (wpAny_isInstance (T := "int") (b := false) (typeIs_int _ _ _) PySem.sub_int_bytearray ?_)))
  simp only [Bool.false_eq_true, if_false]
  refine wpAny_pure (wpAny_pure ?_)
  refine wpAny_bind (wpAny_newObj_type ?_)
  have hSa : s.heap.objs.size ≠ C.a := fun e => by
    obtain ⟨o, nm, qn, ho, _⟩ := st.gen
    have := Heap.lt_size ho
    rw [e] at this
    exact Nat.lt_irrefl _ this
  refine wpAny_pure ⟨plainId_quiet F.plain_sum_loop _, codeAny_mono (sum_loop ok hr hf hp plan (Z := s.heap.objs.size :: Z) List.mem_cons_self hSa m i H _ 0 s.toks 0
    (st.more ok (t' := s.toks + 1) (fun b o e => Heap.get?_push_of_some _ e) (Heap.get?_push_size _ rfl) (fun v z => by cases z)) w (Heap.get?_push_size _ rfl)) fun r s' ⟨v, u, H', e, I, rv, q⟩ => ?_⟩
  subst e
  exact ⟨v, H', I, rv, q⟩
/-! ### tuple -/
def YTup : List V → (List V → Hp → Prop) → V → Hp → Prop := fun acc N y H => acc.length < sizeLine ∧ N (acc ++ [y]) H
theorem ext_loop (ok : GOk X opins σ C) {A : Around} {k : Nat} (h1 : A.handled = none) (h2 : A.depth < recursionLimit) (hrm : Room k (A.in1.in1.over C.lp [])) (hf : A.frames = some X.stack) {g : TG} {tt : TT} {te : TE}
    (hp : ∀ A', Room k A' → PG (C.cx X A') C.tg g ∧ PTs (C.cx X A') C.ifs tt ∧ PE (C.cx X A') C.elt te) {Fn : List V → Hp → Prop} {W : List V → Nat → Nat → Hp → Prop}
    (plan : GPlan C.J g tt te C.vs σ Fn YTup W) {S : Addr} (hS : S ∈ Z) (hSa : S ≠ C.a) (res : Value) : ∀ (m i : Nat) (H : Hp) (s : Shared) (xs : List V) (acc : Array Value) (c : Nat), GSt X σ C Z i H s → W xs i m H →
      s.heap.get? S = some { cls := .type "list", dict := none, data := .seq acc c, slots := #[] } → Vals xs acc.toList → xs.length ≤ sizeLine →
      codeAny (model X.prog X.w) A (.builtin "list.extend.loop" ⟨[.ref S, .ref C.a, res], []⟩) (fun r s' => r = .ok (.ret res) ∧ ∃ xs acc c H', Inv X opins σ H' s' ∧ s'.heap.get? S = some { cls := .type "list", dict := none, data := .seq acc c, slots := #[] } ∧ Vals xs acc.toList ∧ xs.length ≤ sizeLine ∧ Fn xs H') s := by
  intro m
  induction m using Nat.strongRecOn with
  | ind m ih =>
    intro i H s xs acc c st w hSo rr hz
    refine codeAny_builtin F.entry_extend_loop ?_
    rw [Around.under_plainId F.plain_extend_loop _]
    show wpAny _ A.in1 (pyNext (.ref C.a) >>= _) _ _ s
    refine wpAny_bind (gstep ok (A := A.in1) h1 h2 hrm hf hp plan st w (fun s1 H1 q I _ kp => ?_) fun y v s1 i1 H1 N hN yd rv st1 kp => ?_)
    · exact wpAny_pure ⟨rfl, xs, acc, c, H1, I, kp S hS _ hSo, rr, hz, q⟩
    · obtain ⟨hl, nx⟩ := yd
      obtain ⟨m', hm, w'⟩ := hN _ _ nx
      have hS' := kp S hS _ hSo
      have hsz : acc.size = xs.length := by
        have := rr.length
        have e2 : acc.toList.length = acc.size := by simp
        omega
      show wpAny _ A.in1 (updateSeq S (·.push v) >>= _) _ _ _
      refine wpAny_bind ?_
      have hup := Heap.get?_update_self (Obj.mapSeq (·.push v)) hS' rfl
      refine wpAny_updateSeq hS' rfl (wpAny_pure ⟨plainId_quiet F.plain_extend_loop _, ih m' hm i1 H1 _ (xs ++ [y]) (acc.push v) _ (st1.wrote ok hS hSa (t' := s1.toks) (fun b o hb e => (Heap.get?_update_other _ _ (Ne.symm hb)).trans e) hup (fun v z => by cases z)) w' hup (by rw [Array.toList_push]; exact rr.append (.cons rv .nil)) (by rw [List.length_append]; exact hl)⟩)
        (by rw [hsz]; omega) (by show (acc.push v).size ≤ sizeLine + 1; rw [Array.size_push, hsz]; omega)
theorem collect_gen (ok : GOk X opins σ C) {A : Around} {k : Nat} (h1 : A.handled = none) (h2 : A.depth < recursionLimit) (hrm : Room k (A.in1.in1.over C.lp [])) (hf : A.frames = some X.stack) {g : TG} {tt : TT} {te : TE}
    (hp : ∀ A', Room k A' → PG (C.cx X A') C.tg g ∧ PTs (C.cx X A') C.ifs tt ∧ PE (C.cx X A') C.elt te) {Fn : List V → Hp → Prop} {W : List V → Nat → Nat → Hp → Prop}
    (plan : GPlan C.J g tt te C.vs σ Fn YTup W) {m i : Nat} {H : Hp} {s : Shared} {E : Value → Shared → Prop} (st : GSt X σ C Z i H s) (w : W [] i m H) {Q : List Value → Shared → Prop}
    (hQ : ∀ l s' xs H', Inv X opins σ H' s' → Vals xs l → xs.length ≤ sizeLine → Fn xs H' → Q l s') :
    wpAny (model X.prog X.w) A (collect (.ref C.a)) Q E s := by
  have hSI : s.heap.objs.size ≠ C.a := fun e => by
    obtain ⟨o, nm, qn, ho, _⟩ := st.gen
    have := Heap.lt_size ho
    rw [e] at this
    exact Nat.lt_irrefl _ this
  unfold collect
  refine wpAny_bind (wpAny_runValue (codeAny_builtin F.entry_proto_collect ?_))
  rw [Around.under_plainId F.plain_proto_collect _]
  show wpAny _ A.in1 (newList [] >>= fun l => again (.builtin "list.__iadd__" ⟨[l, .ref C.a], []⟩)) _ _ s
  refine wpAny_bind (wpAny_newObj_type ?_)
  refine wpAny_pure ⟨plainId_quiet F.plain_list_iadd _, codeAny_builtin F.entry_list_iadd ?_⟩
  rw [Around.under_plainId F.plain_list_iadd _]
  have hS₁ : (s.heap.push { cls := .type "list", data := .seq ([] : List Value).toArray }).get? s.heap.objs.size = some { cls := .type "list", data := .seq ([] : List Value).toArray } := Heap.get?_push_size _ rfl
  have st₁ : GSt X σ C (s.heap.objs.size :: Z) i H { s with heap := s.heap.push { cls := .type "list", data := .seq ([] : List Value).toArray } } := st.more ok (t' := s.toks) (fun b o e => Heap.get?_push_of_some _ e) hS₁ (fun v z => by cases z)
  show wpAny _ A.in1 (Builtin.List.listExtendWith (.ref s.heap.objs.size) (.ref C.a) (.ref s.heap.objs.size)) _ _ _
  unfold Builtin.List.listExtendWith
  refine wpAny_bind (wpAny_typeOf st₁.gen.typeIs ?_)
  have h1' : Builtin.List.listSameRef (.ref s.heap.objs.size) (.ref C.a) = false := by simp [Builtin.List.listSameRef, hSI]
  have h2' : (Value.type "generator" == Value.type "list") = false := by decide
  have h3' : (Value.type "generator" == Value.type "tuple") = false := by decide
  simp only [h1', h2', h3', Bool.or_false, Bool.false_eq_true, if_false]
  refine wpAny_bind (wpAny_pyIter_gen st₁.gen ?_)
  refine wpAny_bind (wpAny_holding ?_)
  unfold Builtin.List.listLengthHint
  refine wpAny_bind (wpAny_specialOf st₁.gen.typeIs F.gen_no_len ?_)
  show wpAny _ A.in1 (specialOf (Value.ref C.a) (Str.ofString "__length_hint__") >>= _) _ _ _
  refine wpAny_bind (wpAny_specialOf st₁.gen.typeIs F.gen_no_hint ?_)
  refine wpAny_pure ?_
  show wpAny _ A.in1 (rule "list.extend.makes-room" >>= fun _ => Builtin.List.listTouch (.ref s.heap.objs.size) >>= fun _ =>
    again (.builtin "list.extend.loop" ⟨[.ref s.heap.objs.size, .ref C.a, .ref s.heap.objs.size], []⟩)) _ _ _
  refine wpAny_bind (wpAny_rule ?_)
  refine wpAny_bind ?_
  show wpAny _ A.in1 (updateSeq s.heap.objs.size (·.push .none) >>= fun _ => updateSeq s.heap.objs.size (·.pop)) _ _ _
  refine wpAny_bind (wpAny_updateSeq hS₁ rfl ?_)
  have hS₂ := Heap.get?_update_self (Obj.mapSeq (·.push Value.none)) hS₁ rfl
  refine wpAny_updateSeq hS₂ rfl ?_
  have hS₃ := Heap.get?_update_self (Obj.mapSeq (·.pop)) hS₂ rfl
  have st₂ := st₁.wrote ok List.mem_cons_self hSI (t' := s.toks) (fun b o hb e => (Heap.get?_update_other _ _ (Ne.symm hb)).trans ((Heap.get?_update_other _ _ (Ne.symm hb)).trans e)) hS₃ (fun v z => by cases z)
  refine wpAny_pure ⟨plainId_quiet F.plain_extend_loop _, codeAny_mono (ext_loop ok h1 h2 hrm hf hp plan List.mem_cons_self hSI (.ref s.heap.objs.size) m i H _ [] #[] _ st₂ w hS₃ .nil (Nat.zero_le _)) fun r s' hr => ?_⟩
  obtain ⟨rfl, xs, acc, c, H', I', hS', rr, hz, q⟩ := hr
  show wpAny _ A (load s.heap.objs.size >>= _) _ _ s'
  refine wpAny_bind (wpAny_load hS' ?_)
  exact wpAny_pure (hQ acc.toList s' xs H' I' rr hz q)
theorem over3 {k : Nat} {A : Around} (h : Room (k + 1) A) : Room k (A.in1.in1.in1.in1.over C.lp []) :=
  ⟨h.hd, by have := h.dp; show A.depth + frameCount [] + 1 + 3 * k + 5 < _; simp only [frameCount, List.map_nil, List.sum_nil]; omega, by have := h.un; show A.units + 1 + 1 + 1 + 1 + unitsOf [] + 3 + 16 * k + 200 < _; simp only [unitsOf, List.map_nil, List.sum_nil]; omega⟩
theorem call_tup (ok : GOk X opins σ C) {A : Around} {k : Nat} (hr : Room (k + 1) A) (hf : A.frames = some X.stack) {g : TG} {tt : TT} {te : TE}
    (hp : ∀ A', Room k A' → PG (C.cx X A') C.tg g ∧ PTs (C.cx X A') C.ifs tt ∧ PE (C.cx X A') C.elt te) {Q : V → Hp → Prop} {W : List V → Nat → Nat → Hp → Prop} {E : Value → Shared → Prop}
    (plan : GPlan C.J g tt te C.vs σ (fun xs H => ∀ p, H p = none → Q (.ref p) (upd H p (.tup xs))) YTup W) {m i : Nat} {H : Hp} {s : Shared} (st : GSt X σ C Z i H s) (w : W [] i m H) :
    wpAny (model X.prog X.w) A (call (.type "tuple") [.ref C.a]) (fun u s' => ∃ v H', Inv X opins σ H' s' ∧ RelV v u ∧ Q v H') E s := by
  refine callType_codes (Q₁ := fun obj s₁ => s₁.TypeIs obj "tuple" ∧ ∃ v H', Inv X opins σ H' s₁ ∧ RelV v obj ∧ Q v H') F.called_tuple (F.typeCall_tuple_1 _) F.entry_object_init ?_ fun obj s₁ h₁ =>
    ⟨h₁.1, F.args_object_init_2 obj _, object_init_meets F.called_tuple.init.lookup F.called_tuple.made (by decide) _ _ A.in1 _ s₁ ⟨h₁.1, rfl, h₁.2⟩⟩
  refine codeAny_of_tree ?_
  show wpAny _ A.in1.in1 (do checkBuiltinCall "tuple.__new__" ⟨[.type "tuple", .ref C.a], []⟩; again (.builtin "tuple.__new__" ⟨[.type "tuple", .ref C.a], []⟩)) _ _ s
  refine wpAny_bind (wpAny_of_eq (F.newCall_tuple_1 _) (wpAny_pure ⟨plainId_quiet F.plain_tuple_new _, codeAny_builtin F.entry_tuple_new ?_⟩))
  rw [Around.under_plainId F.plain_tuple_new _]
  have hsub := sub_tuple_self
  have hinit := init_tuple_lookup
  have hmh := madeHere_tuple
  have hTI := st.gen.typeIs
  wp_walk using wpAny_typeOf hTI, collect_gen ok (A := A.in1.in1) hr.hd hr.depth (over3 hr) hf hp plan st w
  intro l s' xs H' I' rr hz q
  show wpAny _ _ (Builtin.Tuple.tupleExact l.toArray >>= fun v => ret v) _ _ _
  unfold Builtin.Tuple.tupleExact
  have hl := rr.length
  refine wpAny_bind (wpAny_newObj_type ?_ (by show l.toArray.size ≤ sizeLine; rw [List.size_toArray]; omega))
  refine wpAny_pure ⟨⟨_, Heap.get?_push_size _ rfl, rfl⟩, .ref s'.heap.objs.size, upd H' s'.heap.objs.size (.tup xs), I'.laid (t' := s'.toks) (fun b u e => Heap.get?_push_of_some _ e) (Nat.le_refl _) ?_, rfl, q _ (I'.hok.fresh (Nat.le_refl _))⟩
  exact ⟨hz, l, rr, ⟨_, Heap.get?_push_size _ rfl, rfl, _, rfl⟩⟩
/-! ### max -/
def mx (acc : Option Int) (j : Int) : Int := match acc with
  | none => j
  | some b => if j > b then j else b
def YMax : Option Int → (Option Int → Hp → Prop) → V → Hp → Prop := fun acc N y H => ∃ j, y = .int j ∧ N (some (mx acc j)) H
theorem max_loop (ok : GOk X opins σ C) {A : Around} {k : Nat} (hr : Room (k + 1) A) (hf : A.frames = some X.stack) {g : TG} {tt : TT} {te : TE}
    (hp : ∀ A', Room k A' → PG (C.cx X A') C.tg g ∧ PTs (C.cx X A') C.ifs tt ∧ PE (C.cx X A') C.elt te) {Q : V → Hp → Prop} {W : Option Int → Nat → Nat → Hp → Prop}
    (plan : GPlan C.J g tt te C.vs σ (fun a H => ∃ b, a = some b ∧ Q (.int b) H) YMax W) {S : Addr} (hS : S ∈ Z) (hSa : S ≠ C.a) : ∀ (m i : Nat) (H : Hp) (s : Shared) (a : Option Int) (c : Nat), GSt X σ C Z i H s → W a i m H →
      (∃ l, s.heap.get? S = some { cls := .type "list", dict := none, data := .seq l c, slots := #[] } ∧ (match a with
        | none => l = #[]
        | some b => ∃ t, l = #[.int b t, .int b t])) →
      codeAny (model X.prog X.w) A (.builtin "max.loop" ⟨[.ref C.a, .none, .ref S], []⟩) (GR X opins σ Q) s := by
  have hname : (toString "max" ++ toString ".loop" : String) = "max.loop" := by decide
  intro m
  induction m using Nat.strongRecOn with
  | ind m ih =>
    intro i H s a c st w ⟨l, hSo, hl⟩
    refine codeAny_builtin F.entry_max_loop ?_
    rw [Around.under_plainId F.plain_max_loop _]
    show wpAny _ A.in1 (seqItems? (.ref S) >>= _) _ _ s
    cases a with
    | none =>
      dsimp only at hl
      subst hl
      refine wpAny_bind (wpAny_seqItems hSo rfl ?_)
      show wpAny _ A.in1 (tryCatch (pyNext (.ref C.a)) _ >>= _) _ _ s
      refine wpAny_bind (wpAny_tryCatch (gstep ok (A := A.in1) hr.hd hr.depth (over1 hr) hf hp plan st w (fun s1 H1 q I _ _ => ?_) fun y v s1 i1 H1 N hN yd rv st1 kp => ?_))
      · obtain ⟨b, e, _⟩ := q
        cases e
      · obtain ⟨j, rfl, nx⟩ := yd
        obtain ⟨t, rfl⟩ : ∃ t, v = .int j t := rv
        obtain ⟨m', hm, w'⟩ := hN _ _ nx
        have hS' := kp S hS _ hSo
        show wpAny _ A.in1 (updateSeq S (fun _ => #[.int j t, .int j t]) >>= _) _ _ _
        refine wpAny_bind ?_
        have hup := Heap.get?_update_self (Obj.mapSeq (fun _ => #[Value.int j t, Value.int j t])) hS' rfl
        refine wpAny_updateSeq hS' rfl ?_
        rw [hname]
        exact wpAny_pure ⟨plainId_quiet F.plain_max_loop _, ih m' hm i1 H1 _ (some j) _ (st1.wrote ok hS hSa (t' := s1.toks) (fun b o hb e => (Heap.get?_update_other _ _ (Ne.symm hb)).trans e) hup (fun v z => by cases z)) w' ⟨_, hup, t, rfl⟩⟩
    | some b =>
      obtain ⟨tb, hl⟩ := hl
      subst hl
      refine wpAny_bind (wpAny_seqItems hSo rfl ?_)
      show wpAny _ A.in1 (tryCatch (pyNext (.ref C.a)) _ >>= _) _ _ s
      refine wpAny_bind (wpAny_tryCatch (gstep ok (A := A.in1) hr.hd hr.depth (over1 hr) hf hp plan st w (fun s1 H1 q I sl kp => ?_) fun y v s1 i1 H1 N hN yd rv st1 kp => ?_))
      · obtain ⟨b', e, q⟩ := q
        cases e
        have hS' := kp S hS _ hSo
        show wpAny _ A.in1 (updateSeq S (fun _ => #[]) >>= _) _ _ _
        refine wpAny_bind ?_
        have hup := Heap.get?_update_self (Obj.mapSeq (fun _ => (#[] : Array Value))) hS' rfl
        refine wpAny_updateSeq hS' rfl (wpAny_bind (wpAny_letGo (wpAny_pure ?_)))
        refine ⟨.int b, _, H1, rfl, sl _ ⟨rfl, I.bare, fun b o hb e => (Heap.get?_update_other _ _ (fun z => hb (by first | exact z ▸ hS | (rw [z]; exact hS) | (rw [← z]; exact hS)))).trans e, fun b hb => ?_⟩, ⟨tb, rfl⟩, q⟩
        by_cases hbS : b = S
        · rw [hbS]; exact ⟨_, hup, fun v z => by cases z⟩
        · obtain ⟨o, e, q⟩ := st.val b hb
          exact ⟨o, (Heap.get?_update_other _ _ (Ne.symm hbS)).trans (kp b hb o e), q⟩
      · obtain ⟨j, rfl, nx⟩ := yd
        obtain ⟨t, rfl⟩ : ∃ t, v = .int j t := rv
        obtain ⟨m', hm, w'⟩ := hN _ _ nx
        have hS' := kp S hS _ hSo
        show wpAny _ A.in1 (tryCatch (holding [.int j t, .int j t] (richCompare .Gt (.int j t) (.int b tb) >>= _)) _ >>= _) _ _ _
        refine wpAny_bind (wpAny_tryCatch (wpAny_holding (wpAny_bind (richCompare_gives (op := .Gt) (typeIs_int _ _ t) (typeIs_int _ _ tb) F.slot_int_gt F.entry_int_gt (F.args_int_gt_2 _ _) (gives_int_gt _ _ t tb) (fun x => nomatch x) ?_))))
        refine wpAny_bind (wpAny_holding (wpAny_truthy_bool ?_))
        refine wpAny_bind (wpAny_letGo (wpAny_pure ?_))
        by_cases hjb : j > b
        · rw [decide_eq_true (by exact hjb)]
          simp only [if_true]
          refine wpAny_bind ?_
          have hup := Heap.get?_update_self (Obj.mapSeq (fun _ => #[Value.int j t, Value.int j t])) hS' rfl
          refine wpAny_updateSeq hS' rfl (wpAny_bind (wpAny_letGo ?_))
          rw [hname]
          have e1 : mx (some b) j = j := if_pos hjb
          rw [e1] at w'
          exact wpAny_pure ⟨plainId_quiet F.plain_max_loop _, ih m' hm i1 H1 _ (some j) _ (st1.wrote ok hS hSa (t' := s1.toks) (fun b o hb e => (Heap.get?_update_other _ _ (Ne.symm hb)).trans e) hup (fun v z => by cases z)) w' ⟨_, hup, t, rfl⟩⟩
        · rw [decide_eq_false (by exact hjb)]
          simp only [Bool.false_eq_true, if_false]
          refine wpAny_bind (wpAny_letGo ?_)
          rw [hname]
          have e1 : mx (some b) j = b := if_neg hjb
          rw [e1] at w'
          exact wpAny_pure ⟨plainId_quiet F.plain_max_loop _, ih m' hm i1 H1 _ (some b) c st1 w' ⟨_, hS', tb, rfl⟩⟩
theorem call_max (ok : GOk X opins σ C) {A : Around} {k : Nat} (hr : Room (k + 1) A) (hf : A.frames = some X.stack) {g : TG} {tt : TT} {te : TE}
    (hp : ∀ A', Room k A' → PG (C.cx X A') C.tg g ∧ PTs (C.cx X A') C.ifs tt ∧ PE (C.cx X A') C.elt te) {Q : V → Hp → Prop} {W : Option Int → Nat → Nat → Hp → Prop} {E : Value → Shared → Prop}
    (plan : GPlan C.J g tt te C.vs σ (fun a H => ∃ b, a = some b ∧ Q (.int b) H) YMax W) {m i : Nat} {H : Hp} {s : Shared} (st : GSt X σ C Z i H s) (w : W none i m H) :
    wpAny (model X.prog X.w) A (call (.builtin "max") [.ref C.a]) (fun u s' => ∃ v H', Inv X opins σ H' s' ∧ RelV v u ∧ Q v H') E s := by
  have hname : (toString "max" ++ toString ".loop" : String) = "max.loop" := by decide
  refine call_function_tree F.kind_max F.plain_max F.entry_max (F.args_max1 _) ?_
  show wpAny _ A.in1 (Builtin.Builtins.bindParams "max" ["key", "default"] 0 ⟨[], []⟩ >>= _) _ _ s
  refine wpAny_bind (wpAny_of_eq (show Builtin.Builtins.bindParams "max" ["key", "default"] 0 ⟨[], []⟩ = pure [none, none] from rfl) ?_)
  refine wpAny_bind (wpAny_pure ?_)
  refine wpAny_bind (wpAny_pyIter_gen st.gen ?_)
  refine wpAny_bind (wpAny_newObj_type ?_)
  have hSa : s.heap.objs.size ≠ C.a := fun e => by
    obtain ⟨o, nm, qn, ho, _⟩ := st.gen
    have := Heap.lt_size ho
    rw [e] at this
    exact Nat.lt_irrefl _ this
  rw [hname]
  refine wpAny_pure ⟨plainId_quiet F.plain_max_loop _, codeAny_mono (max_loop ok hr hf hp plan (Z := s.heap.objs.size :: Z) List.mem_cons_self hSa m i H _ none 0
    (st.more ok (t' := s.toks) (fun b o e => Heap.get?_push_of_some _ e) (Heap.get?_push_size _ rfl) (fun v z => by cases z)) w ⟨_, Heap.get?_push_size _ rfl, rfl⟩) fun r s' ⟨v, u, H', e, I, rv, q⟩ => ?_⟩
  subst e
  exact ⟨v, H', I, rv, q⟩
end
end GnX


set_option maxHeartbeats 200000
set_option Elab.async false
set_option maxRecDepth 100000
set_option maxHeartbeats 2000000
/-! A generator expression is made. -/
namespace GnX
open PySem PySem.Spec PyProof.Rows L2 GxR
section
variable {X : Cx} {pins : List (Addr × Obj)} {σ : L2.St} {H : Hp} {s : Shared}
theorem gen_make {c P : Addr} {elt tg iter : Expr} {ifs : List Expr} {gpos : Pos} {scope : Scope} {own : List (Str × Nat)} {wi : TI} {Q' : Value → Shared → Prop} {R : It → Hp → Prop}
    (hd : X.A.handled = none) (hdp : X.A.depth < recursionLimit) (hc : X.calm = true) (hN : X.N.Nodup) (TB : TabB X.base X.mg c P) (hcode : X.env.code = .ref c) (hi : PI X tg iter wi) (ok : BlkOk X.N X.env.scope scope own)
    (hco : scope.isCoroutine = false) (hcell : ∀ y ∈ scope.names, y.2 ≠ .cell) (h0 : scope.names.lookup (".0" : Str) = some NameKind.local)
    (hs : ∀ v, genFold iter X.env v = pure v) (I : Inv X pins σ H s) (h : wi σ H fun J H1 => TabG H1 P ∧ R J H1)
    (hQ : ∀ (C : GE) H1 s5, C.tg = tg → C.iter = iter → C.elt = elt → C.ifs = ifs → C.scope = scope → C.vs = own.map (·.2) → (∃ code, C.genv = genEnv scope (cloFrom X.env.cells scope.names []) C.s0.heap.objs.size code builtinsNs X.env) → R C.J H1 → TabG H1 P → Tabbed P H1 C.H0 → GOk X pins σ C → GSt X σ C [C.a] 0 C.H0 s5 → Q' (.ref C.a) s5) :
    wpAny (model X.prog X.w) X.A (eval (.GeneratorExp elt [⟨tg, iter, ifs, 0⟩] scope gpos) X.env) Q' X.xe s := by
  have hfree : ∀ y ∈ scope.names, y.2 = .free → ∃ c, X.env.cells.lookup y.1 = some c := fun y hy e => by
    rcases ok.free y hy e with k | k
    · exact I.ok.has _ (.inl k)
    · exact I.ok.has _ (.inr k)
  refine wpAny_GeneratorExp_make hco (closure_ok hfree) hcell h0 ok.kind hdp (thn (hi.run pins s σ H _ I h) fun xv s1 hx => thn hx fun itv s2 h2 => ?_) hs
  obtain ⟨it, fp, tn, J, H1, rfl, I2, T, st2, f2, ⟨ps, hP, ht⟩, q1⟩ := h2
  have hPs : s2.heap.get? P = some { cls := .none, data := .fields ps } := I2.hok P _ hP
  have cd : PySem.W.CodeHd s2.heap c P := TB.code.keeps fun b u e => I2.bk b u e
  have lim2 : s2.heap.NoLimit := I2.nolimit
  have fne : ∀ b ∈ fp, b ≠ P := fun b hb e => by
    have := (f2 b hb).1
    rw [e, hP] at this
    cases this
  refine ⟨lim2, ?_⟩
  have cont : ∀ (code : Value) (h3 : Heap) (tk : Nat) (ps' : Array Value), Heap.ExtBut P s2.heap h3 → s2.heap.objs.size ≤ h3.objs.size → h3.get? P = some { cls := .none, data := .fields ps' } → (∃ more, ps' = ps ++ more) → TriplesOk ps'.toList →
      wpAny (model X.prog X.w) X.A (builtinsFor X.env.globals X.env.builtins) (fun bi s₄ =>
        ∀ h', h'.Ns s₄.heap.objs.size (fun y => if y = ".0" then some (.ref it) else none) → Heap.SameBut s₄.heap.objs.size (s₄.heap.push { cls := .type "frame", data := .dict #[] }) h' →
          Q' (.ref h'.objs.size) { s₄ with
            gens := s₄.gens.push (.fresh (.compStart (.GeneratorExp elt [⟨tg, iter, ifs, 0⟩] scope gpos) 0 (.ref it) .none (genEnv scope (cloFrom X.env.cells scope.names []) s₄.heap.objs.size code bi X.env))),
            toks := s₄.toks + 1 + 1 + 1,
            heap := h'.push { cls := .type "generator", data := .fields #[.int s₄.gens.size 0, .str "<genexpr>" (s₄.toks + 1), .str (X.env.qual ++ "<genexpr>") (s₄.toks + 1 + 1)] } }) X.xe { s2 with heap := h3, toks := tk } := by
    intro code h3 tk ps' hx hsz hP3 hmore ht3
    obtain ⟨more, em⟩ := hmore
    obtain ⟨bm, ob, e1, e2, e3, e4, e5, e6, e7, e8⟩ := TB.bm
    have keep3 : ∀ b u, b ≠ P → s2.heap.get? b = some u → h3.get? b = some u := fun b u hb e => hx b u hb e
    refine wpAny_builtinsFor (m := X.mg) (by rw [I2.ok.glob]; exact (I2.mod.glob.keeps I2.bk).extBut hx TB.gP) e1 e2 (keep3 _ _ e4 (I2.bk _ _ e5)) e6 e7 e8 ?_
    intro h' hn' hs'
    have J2 := inv_tab (more := more) (h' := h3) (g' := s2.gens) (d' := s2.drawn) (t' := tk) I2 hP keep3 (by rw [← em]; exact hP3) I2.bare
    have J2 : Inv X pins σ (upd H1 P (.tbl (ps ++ more))) { s2 with heap := h3, toks := tk } := J2
    have hsz' : h'.objs.size = h3.objs.size + 1 := by rw [hs'.1, Heap.size_push]
    have keep' : ∀ b o, h3.get? b = some o → h'.get? b = some o := fun b o e => hs'.extBut b o (Nat.ne_of_lt (Heap.lt_size e)) (Heap.get?_push_of_some _ e)
    have fl : ∀ b ∈ fp, b < s2.heap.objs.size := fun b hb => let ⟨o, e, _⟩ := T.obj _ _ st2 b hb; Heap.lt_size e
    have f3 : ∀ b ∈ fp, FpOk X pins (upd H1 P (.tbl (ps ++ more))) b := fun b hb => ⟨by rw [upd_ne (fne b hb)]; exact (f2 b hb).1, (f2 b hb).2⟩
    have st3 : tn 0 h3 := T.keep _ _ _ st2 fun b hb o e => keep3 b o (fne b hb) e
    generalize hce : genEnv scope (cloFrom X.env.cells scope.names []) h3.objs.size code builtinsNs X.env = genv
    have base := fun (A : Around) (hA : A.handled = none) (hAf : A.frames = some (genv :: X.stack)) => gen_start (A := A) (it := .ref it) (h' := h') (g' := s2.gens.push (.fresh (.compStart (.GeneratorExp elt [⟨tg, iter, ifs, 0⟩] scope gpos) 0 (.ref it) .none genv))) (tk := tk + 1 + 1 + 1) J2 ok hcell hN hc
      (fun b hb => ⟨f3 b hb, Nat.lt_of_lt_of_le (fl b hb) hsz⟩) hce.symm hA hAf keep' ⟨_, hn'⟩ (I2.bare.push rfl)
    have hA1 : (X.A.in1.over (Code.compLoop (.GeneratorExp elt [⟨tg, iter, ifs, 0⟩] scope gpos) 0 (.ref it) .none genv) []).handled = none := hd
    have hA2 : (X.A.in1.over (Code.compLoop (.GeneratorExp elt [⟨tg, iter, ifs, 0⟩] scope gpos) 0 (.ref it) .none genv) []).frames = some (genv :: X.stack) := by
      have e9 : X.A.in1.frames = some X.stack := I2.ok.frames
      exact over_frames (C := ⟨s2, H1, scope, genv, fp, it, tg, iter, elt, ifs, gpos, J, tn, own.map (·.2), 0, 0⟩) (A := X.A.in1) e9
    have K4 := base _ hA1 hA2
    have hnew : ∀ b u, h'.get? b = some u → (h'.push { cls := .type "generator", data := .fields #[.int s2.gens.size 0, .str "<genexpr>" (tk + 1), .str (X.env.qual ++ "<genexpr>") (tk + 1 + 1)] }).get? b = some u := fun b u e => Heap.get?_push_of_some _ e
    have hgo : (h'.push { cls := .type "generator", data := .fields #[.int s2.gens.size 0, .str "<genexpr>" (tk + 1), .str (X.env.qual ++ "<genexpr>") (tk + 1 + 1)] }).get? h'.objs.size = some { cls := .type "generator", data := .fields #[.int s2.gens.size 0, .str "<genexpr>" (tk + 1), .str (X.env.qual ++ "<genexpr>") (tk + 1 + 1)] } := Heap.get?_push_size _ rfl
    have K5 := K4.kept (t' := tk + 1 + 1 + 1) hnew
    refine hQ { s0 := { s2 with heap := h3, toks := tk }, H0 := upd H1 P (.tbl (ps ++ more)), scope := scope, genv := genv, fp := fp, it := it, tg := tg, iter := iter, elt := elt, ifs := ifs, pos := gpos, J := J, tn := tn, vs := own.map (·.2), a := h'.objs.size, gi := s2.gens.size } H1 _ rfl rfl rfl rfl rfl rfl ⟨code, hce.symm⟩ q1 ⟨ps, hP, ht⟩ ⟨⟨ps ++ more, upd_same, by rw [← em]; exact ht3⟩, fun b hb => upd_ne hb⟩
      ⟨J2, f3, T, hc, by subst hce; exact hco⟩ ⟨⟨_, K5.pins_of fun p hp => ?_⟩, T.keep _ _ _ st3 fun b _ o e => hnew b o (keep' b o e), fun b hb => (f3 b hb).1, ⟨_, _, _, hgo, rfl, rfl, rfl⟩, ⟨_, Array.getElem?_push_size .., .inl ?_⟩, List.mem_singleton.mpr rfl, fun b hb hfp => ?_, fun A' => ⟨fun b hb => ?_, fun b hb => ?_, fun b hb => ?_⟩, fun b hb => ?_⟩
    · obtain ⟨hb, e⟩ := of_pinsAt hp
      have hb := List.mem_singleton.mp hb
      have e' : (h'.push _).get? p.1 = some p.2 := e
      rw [hb, hgo] at e'
      rw [hb, ← Option.some.inj e']
      exact ⟨hgo, K4.hok.fresh (Nat.le_refl _), Nat.ne_of_gt K4.lt, K4.nofs (Nat.le_refl _), fun v z => by cases z⟩
    · show GenState.fresh _ = GenState.fresh _
      rfl
    · rw [List.mem_singleton.mp hb] at hfp
      have this : h'.objs.size < s2.heap.objs.size := fl _ hfp
      omega
    · rw [List.mem_singleton.mp hb]
      show h3.objs.size ≤ h'.objs.size
      omega
    · rw [List.mem_singleton.mp hb]
      exact Nat.ne_of_gt K4.lt
    · rw [List.mem_singleton.mp hb]
      intro x c e q
      obtain ⟨v, r⟩ := K4.cell x c e
      have := r.lt
      rw [q] at this
      exact Nat.lt_irrefl _ this
    · rw [List.mem_singleton.mp hb]
      exact ⟨_, hgo, fun v z => by cases z⟩
  cases hf : codeAmong gpos ps.toList with
  | none =>
    refine wpAny_genexprCodeX hcode (cd.code hPs ht) (cd.tab hPs) hf fun c' h' tk hx hge hlt hco' _ htab' _ => ?_
    obtain ⟨o1, vs, f1, tf, fl, tg, inF, tx, tt, op, _, _, _, _, _, _, _, _, _, htr, _⟩ := hco'
    exact cont _ h' tk _ hx (Nat.le_trans hge (Nat.le_of_lt hlt)) htab'.2 ⟨_, rfl⟩ htr
  | some cv =>
    refine wpAny_genexprCode_hit hcode (cd.code hPs ht) hf ?_
    exact cont cv s2.heap s2.toks ps (Heap.ExtBut.refl _ _) (Nat.le_refl _) hPs ⟨#[], by simp⟩ ht
end
end GnX


set_option maxHeartbeats 200000
set_option Elab.async false
set_option maxRecDepth 100000
set_option maxHeartbeats 2000000
/-! Generator expressions, by what is computed. -/
namespace Ev
open PySem PySem.Spec PyProof.Rows L2 GxR GnX
section
variable {T : Tb} {G : Wd} {gn : Gn} {bs : List Nat} {W W' : WX} {k : Nat} {X : Cx} {ρ ρ' : List Addr} {S S' : Sto} {H H' : Hp} {env : Env} {σ : L2.St}
theorem tabbed_nx {P : Addr} (st : StOk G bs ρ S H) (t : TabG H P) (z : Tabbed P H H') : StOk G bs ρ S H' ∧ Nx ρ H ρ H' := by
  obtain ⟨ps, e, _⟩ := t
  have x : Nx [] H [] H' := ⟨⟨[], by simp, fun p hp => by simp at hp⟩, fun a o e' _ nt => by
      rw [z.2 a (fun q => by rw [q, e] at e'; cases e'; exact nt ps rfl)]; exact e', fun a e' => by
      by_cases q : a = P
      · obtain ⟨qs, e2, _⟩ := z.1
        rw [q, e2] at e'
        cases e'
      · rw [z.2 a q] at e'
        exact e', fun P' t' => by
      by_cases q : P' = P
      · rw [q]; exact z.1
      · obtain ⟨qs, e2, r⟩ := t'
        exact ⟨qs, (z.2 P' q).trans e2, r⟩⟩
  exact st.stay (fun a o e => e) x (by simp) (fun a e => e) fun P t => t
theorem wipe2 : ∀ (ws : List Nat) (σ : L2.St), wipe (wipe σ ws) ws = wipe σ ws := fun ws σ => by
  refine List.ext_getElem? fun n => ?_
  by_cases hn : n ∈ ws
  · have key : ∀ (σ : L2.St), (wipe σ ws)[n]? = if n < σ.length then some none else none := fun σ => by
      cases e : (wipe σ ws)[n]? with
      | none => rw [List.getElem?_eq_none_iff, wipe_length] at e; rw [if_neg (by omega)]
      | some o =>
        have := (List.getElem?_eq_some_iff.mp e).1
        rw [wipe_length] at this
        rw [if_pos this]
        cases o with
        | none => rfl
        | some v => exact absurd hn (wipe_some e).2
    rw [key, key, wipe_length]
  · rw [wipe_out hn]
theorem gen_rd {α α' : Type} {P : Addr} {own : List (Str × Nat)} {ei : Env → Sto → R (List D × Option Nat)} {ec : CF} {ef : EF} {t : Tg} {fin : α → Option D} {stp : α → D → Option (Sum α D)} {a0 : α} {a0' : α'}
    (Rel : List Addr → Hp → α → α' → Prop) (hmono : ∀ ρ H ρ' H' a a', Nx ρ H ρ' H' → Apt ρ H → Rel ρ H a a' → Rel ρ' H' a a') {Fn : α' → Hp → Prop} {Yd : α' → (α' → Hp → Prop) → V → Hp → Prop} {Q : VK}
    (hF : ∀ a a' ρ S H, StOk G bs ρ S H → Rel ρ H a a' → (match fin a with
      | some d => Sat G bs W σ ρ H (.ok d S) (KQ G Q)
      | none => False) → Fn a' H)
    (hY : ∀ a a' y yv ρ S H (N : α' → Hp → Prop), StOk G bs ρ S H → Rel ρ H a a' → Rp G ρ H y yv → (match stp a y with
      | none => False
      | some (.inr d) => Sat G bs W σ ρ H (.ok d S) (KQ G Q)
      | some (.inl b) => ∀ b', Rel ρ H b b' → N b' H) → Yd a' N yv H)
    (hP : P ∈ G.ts) (h1 : ∀ i ∈ own.map (·.2), i ∈ t.sl) (h2 : ∀ i ∈ t.sl, i ∈ own.map (·.2)) (h0 : ∀ ρ H, Rel ρ H a0 a0')
    (h : tE G gn bs W (fun env S => bnd (ei env S) fun q S1 => genF fin stp q.2 q.1 ef ec t env q.1 a0 S1) σ H Q) :
    tI G gn bs W ei σ H fun J H1 => TabG H1 P ∧ ∀ H2, Tabbed P H1 H2 → ∃ W' m, W' a0' 0 m H2 ∧ GPlan J (gT X.K t) (tC G gn bs (fun _ _ _ _ => False) ec) (tE G gn bs (fun _ _ _ _ => False) ef) (own.map (·.2)) σ Fn Yd W' := by
  obtain ⟨ρ, S, env, st, ce, tb, h⟩ := h
  refine ⟨ρ, S, env, st, ce, tb, h.bnd.imp fun q S1 ρ1 H1 x1 s1 h1' hst J hJ => ⟨(tb.mono x1) P hP, fun H2 hT => ?_⟩⟩
  have f1 : Fs G gn bs ρ1 S1 H1 env σ := (Fs.mk st ce tb).next x1 s1
  obtain ⟨s2, x2⟩ := tabbed_nx s1 (f1.tb P hP) hT
  refine ⟨fun a' i m H => m = q.1.length - i ∧ i ≤ q.1.length ∧ ∃ a ρ S, Nx ρ1 H2 ρ H ∧ StOk G bs ρ S H ∧ still q.2 q.1 S = true ∧ Rel ρ H a a' ∧ Sat G bs W σ ρ H (genF fin stp q.2 q.1 ef ec t env (q.1.drop i) a S) (KQ G Q), _,
    ⟨rfl, Nat.zero_le _, a0, ρ1, S1, .refl, s2, hst, h0 _ _, Sat.mono h1' x2⟩, ?_⟩
  intro a' i m H ⟨hm, hi, a, ρ, S, x, s, hs, rl, h⟩
  have jt := hJ ρ S H (x2.trans x) s hs i
  by_cases hlt : i < q.1.length
  · right
    refine ⟨jt.1 hlt, fun b' H' => ∃ m', m' < m ∧ (m' = q.1.length - (i + 1) ∧ i + 1 ≤ q.1.length ∧ ∃ a ρ S, Nx ρ1 H2 ρ H' ∧ StOk G bs ρ S H' ∧ still q.2 q.1 S = true ∧ Rel ρ H' a b' ∧ Sat G bs W σ ρ H' (genF fin stp q.2 q.1 ef ec t env (q.1.drop (i + 1)) a S) (KQ G Q)), fun b' H' z => z, fun y H' hy => ?_⟩
    obtain ⟨d, ed, x3, s3, rd⟩ := jt.2.2 y H' hlt hy
    have nx : ∀ {H'' : Hp} {ρ'' : List Addr} {S'' : Sto} {b : α} {b' : α'}, Nx ρ H' ρ'' H'' → StOk G bs ρ'' S'' H'' → still q.2 q.1 S'' = true → Rel ρ'' H'' b b' → Sat G bs W σ ρ'' H'' (genF fin stp q.2 q.1 ef ec t env (q.1.drop (i + 1)) b S'') (KQ G Q) → ∃ m', m' < m ∧ (m' = q.1.length - (i + 1) ∧ i + 1 ≤ q.1.length ∧ ∃ a ρ S, Nx ρ1 H2 ρ H'' ∧ StOk G bs ρ S H'' ∧ still q.2 q.1 S = true ∧ Rel ρ H'' a b' ∧ Sat G bs W σ ρ H'' (genF fin stp q.2 q.1 ef ec t env (q.1.drop (i + 1)) a S) (KQ G Q)) :=
      fun {H'' ρ'' S'' b b'} y1 y2 y3 y4 y5 => ⟨_, by omega, rfl, hlt, b, ρ'', S'', (x.trans x3).trans y1, y2, y3, y4, y5⟩
    have hd : q.1.drop i = d :: q.1.drop (i + 1) := by
      rw [← List.getElem_cons_drop hlt]
      congr 1
      rw [List.getElem?_eq_getElem hlt] at ed
      exact Option.some.inj ed
    rw [hd] at h
    have h' := Sat.mono h x3
    have rl' := hmono _ _ _ _ _ _ x3 s.apt rl
    simp only [genF] at h'
    cases et : setT t d env with
    | none => rw [et] at h'; exact h'.elim
    | some env' =>
      rw [et] at h'
      dsimp only at h'
      have ce1 : CfE G ρ H' env σ := f1.ce.mono ((x2.trans x).trans x3) f1.st.apt
      have tb1 : TabsOk G gn H' := f1.tb.mono ((x2.trans x).trans x3)
      refine gT_ok et (ce1.wiped (own.map (·.2))) h1 rd ?_
      intro σ' ce' hw
      refine ⟨?_, ?_⟩
      · rw [hw _ h2]
        exact wipe2 _ _
      · refine ⟨ρ, S, env', s3, ce', tb1, h'.neBnd fun b Sb ρb Hb xb sb hb' => ?_⟩
        cases b with
        | false =>
          dsimp only at hb'
          split at hb'
          · rename_i hsb
            exact nx xb sb hsb (hmono _ _ _ _ _ _ xb s3.apt rl') hb'
          · exact hb'.elim
        | true =>
          show tE G gn bs (fun _ _ _ _ => False) ef σ' Hb _
          dsimp only at hb'
          refine ⟨ρb, Sb, env', sb, ce'.mono xb s3.apt, tb1.mono xb, hb'.neBnd fun y2 Se ρe He xe se he' v rv => ?_⟩
          refine hY a a' y2 v ρe Se He _ se (hmono _ _ _ _ _ _ xe sb.apt (hmono _ _ _ _ _ _ xb s3.apt rl')) rv ?_
          cases eq : stp a y2 with
          | none => rw [eq] at he'; exact he'.elim
          | some u =>
            rw [eq] at he'
            cases u with
            | inr d => exact he'
            | inl b =>
              dsimp only at he' ⊢
              intro b' rb
              split at he'
              · rename_i hsb
                exact nx (xb.trans xe) se hsb rb he'
              · exact he'.elim
  · left
    have hil : i = q.1.length := by omega
    refine ⟨jt.2.1 (by omega), ?_⟩
    rw [hil, List.drop_length] at h
    simp only [genF] at h
    refine hF a a' ρ S H s rl ?_
    cases ef : fin a with
    | none => rw [ef] at h; exact h.elim
    | some d => rw [ef] at h; exact h
theorem genFold_of {e : Expr} {env : PySem.Env} {x : Value} (h : plainE e = true) (hl : notLst e = true) : genFold e env x = pure x := by
  cases e <;> first | rfl | (cases hl; done) | (cases h; done)
theorem in64_ok {i : Int} (h : in64 i = true) : InLong i := by
  unfold in64 at h
  have h' := of_decide_eq_true h
  exact h'
theorem gscB_ok {scope : Scope} (h : gscB scope = true) : scope.isCoroutine = false ∧ (∀ y ∈ scope.names, y.2 ≠ .cell) ∧ scope.names.lookup (".0" : Str) = some NameKind.local := by
  unfold gscB at h
  simp only [Bool.and_eq_true, Bool.not_eq_true', List.all_eq_true] at h
  refine ⟨h.1.1, fun y hy e => ?_, ?_⟩
  · have := h.1.2 y hy
    rw [e] at this
    cases this
  · have := h.2
    split at this
    · assumption
    · cases this
theorem Sat.kq {d : D} {Q : VK} (h : Sat G bs W σ ρ H (.ok d S) (KQ G Q)) (s : StOk G bs ρ S H) {v : V} (r : Rp G ρ H d v) : Q v H := h ρ H .refl s v r
/-- the parts of a generator expression -/
structure GParts (T : Tb) (G : Wd) (gn : Gn) (bs : List Nat) (W : WX) (k : Nat) (X : Cx) (P : Addr) (elt tg iter : Expr) (ifs : List Expr) (scope : Scope) (own : List (Str × Nat)) (ei : Env → Sto → R (List D × Option Nat)) (ec : CF) (ef : EF) (t : Tg) : Prop where
  C : XC T G gn k X W
  room : Room (9 * k + 6) X.A
  tab : ∃ cA, X.env.code = .ref cA ∧ TabB X.base X.mg cA P
  mem : P ∈ G.ts
  it : PI X tg iter (tI G gn bs W ei)
  ok : BlkOk X.N X.env.scope scope own
  sc : gscB scope = true
  pl : plainE iter = true
  nl : notLst iter = true
  h1 : ∀ i ∈ own.map (·.2), i ∈ t.sl
  h2 : ∀ i ∈ t.sl, i ∈ own.map (·.2)
  parts : ∀ (s : Shared) (H : Hp) (genv : PySem.Env) (A' : Around) (fp : List Addr), (∃ code, genv = genEnv scope (cloFrom X.env.cells scope.names []) s.heap.objs.size code builtinsNs X.env) → Room (9 * k + 5) A' →
    PG (gbk X s H scope genv A' fp) tg (gT X.K t) ∧ PTs (gbk X s H scope genv A' fp) ifs (tC G gn bs (fun _ _ _ _ => False) ec) ∧ PE (gbk X s H scope genv A' fp) elt (tE G gn bs (fun _ _ _ _ => False) ef)
variable {P : Addr} {elt tg iter : Expr} {ifs : List Expr} {scope : Scope} {own : List (Str × Nat)} {ei : Env → Sto → R (List D × Option Nat)} {ec : CF} {ef : EF} {t : Tg} {gpos p pos : Pos}
/-- the generator expression made, with its consumer's plan -/
theorem GParts.make (g : GParts T G gn bs W k X P elt tg iter ifs scope own ei ec ef t) {α' : Type} {a0' : α'} {Fn : α' → Hp → Prop} {Yd : α' → (α' → Hp → Prop) → V → Hp → Prop} {pins : List (Addr × Obj)} {s : Shared} (I : Inv X pins σ H s)
    (h : tI G gn bs W ei σ H fun J H1 => TabG H1 P ∧ ∀ H2, Tabbed P H1 H2 → ∃ W' m, W' a0' 0 m H2 ∧ GPlan J (gT X.K t) (tC G gn bs (fun _ _ _ _ => False) ec) (tE G gn bs (fun _ _ _ _ => False) ef) (own.map (·.2)) σ Fn Yd W') {Q' : Value → Shared → Prop}
    (hQ : ∀ (C : GE) (W' : α' → Nat → Nat → Hp → Prop) m s5, GOk X pins σ C → GSt X σ C [C.a] 0 C.H0 s5 → W' a0' 0 m C.H0 → GPlan C.J (gT X.K t) (tC G gn bs (fun _ _ _ _ => False) ec) (tE G gn bs (fun _ _ _ _ => False) ef) C.vs σ Fn Yd W' →
      (∀ A', Room (9 * k + 5) A' → PG (C.cx X A') C.tg (gT X.K t) ∧ PTs (C.cx X A') C.ifs (tC G gn bs (fun _ _ _ _ => False) ec) ∧ PE (C.cx X A') C.elt (tE G gn bs (fun _ _ _ _ => False) ef)) → Q' (.ref C.a) s5) :
    wpAny (model X.prog X.w) X.A (eval (.GeneratorExp elt [⟨tg, iter, ifs, 0⟩] scope gpos) X.env) Q' X.xe s := by
  obtain ⟨cA, hcode, TB⟩ := g.tab
  obtain ⟨q1, q2, q3⟩ := gscB_ok g.sc
  refine gen_make g.room.hd g.room.depth g.C.calm g.C.nd TB hcode g.it g.ok q1 q2 q3 (fun v => genFold_of g.pl g.nl) I h fun C H1 s5 e1 e2 e3 e4 e5 e6 hgv hR hT hTab ok st => ?_
  obtain ⟨W', m, w, plan⟩ := hR C.H0 hTab
  refine hQ C W' m s5 ok st w (by rw [e6]; exact plan) fun A' hA => ?_
  have := g.parts C.s0 C.H0 C.genv A' C.fp hgv hA
  rw [e1, e3, e4]
  show PG (gbk X C.s0 C.H0 C.scope C.genv A' C.fp) tg _ ∧ PTs (gbk X C.s0 C.H0 C.scope C.genv A' C.fp) ifs _ ∧ PE (gbk X C.s0 C.H0 C.scope C.genv A' C.fp) elt _
  rw [e5]
  exact this
theorem pe_genV (g : GParts T G gn bs W k X P elt tg iter ifs scope own ei ec ef t) {b : Bi} (hg : Gl X (biN b)) (hc : isConsumer b = true)
    (he : starEach [.GeneratorExp elt [⟨tg, iter, ifs, 0⟩] scope gpos] X.env = (false, eval (.GeneratorExp elt [⟨tg, iter, ifs, 0⟩] scope gpos) X.env) :: starEach [] X.env := by rfl) :
    PE X (.Call (.Name (biN b) p) [.GeneratorExp elt [⟨tg, iter, ifs, 0⟩] scope gpos] [] pos) (tE G gn bs W (fun env S => bnd (ei env S) fun q S1 => genV b q.2 q.1 ef ec t env S1)) := by
  have fr : ∀ {pins : List (Addr × Obj)} {σ : L2.St} {H : Hp} {s : Shared}, Inv X pins σ H s → X.A.frames = some X.stack := fun I => I.ok.frames
  refine ⟨fun pins s σ H Q I h => ?_⟩
  cases b with
  | all =>
    simp only [genV] at h
    have h' := gen_rd (X := X) (own := own) (fun _ _ _ _ => True) (fun _ _ _ _ _ _ _ _ _ => trivial) (Fn := fun (_ : Unit) H => Q (.bl true) H) (fin := fun _ => some (.bl true)) (stp := stpB false) (Yd := YAll Q false) (Q := Q) (a0' := ())
      (fun a a' ρ S H s _ q => q.kq s (.bl true)) (fun a a' y yv ρ S H N s _ r q => by
        cases r with
        | bl v =>
          simp only [stpB] at q
          refine ⟨v, rfl, ?_⟩
          by_cases hv : v = false
          · rw [if_pos hv] at q ⊢
            exact q.kq s (.bl false)
          · rw [if_neg hv] at q ⊢
            exact q () trivial
        | _ => exact q.elim) g.mem g.h1 g.h2 (fun _ _ => trivial) h
    refine wpAny_Call_Name_kw (ld_blt I hg (g.C.F.blt _ (by decide)) rfl ?_)
    refine PyProof.Rows.callWith_builtin1 ?_ he (by rfl)
    rw [he]
    refine Calls.spliced_cons (g.make I h' fun C W' m s5 ok st w plan hp => ?_)
    exact Calls.spliced_nil (call_all ok (k := 9 * k + 5) g.room (fr I) hp plan st w)
  | any =>
    simp only [genV] at h
    have h' := gen_rd (X := X) (own := own) (fun _ _ _ _ => True) (fun _ _ _ _ _ _ _ _ _ => trivial) (Fn := fun (_ : Unit) H => Q (.bl false) H) (fin := fun _ => some (.bl false)) (stp := stpB true) (Yd := YAll Q true) (Q := Q) (a0' := ())
      (fun a a' ρ S H s _ q => q.kq s (.bl false)) (fun a a' y yv ρ S H N s _ r q => by
        cases r with
        | bl v =>
          simp only [stpB] at q
          refine ⟨v, rfl, ?_⟩
          by_cases hv : v = true
          · rw [if_pos hv] at q ⊢
            exact q.kq s (.bl true)
          · rw [if_neg hv] at q ⊢
            exact q () trivial
        | _ => exact q.elim) g.mem g.h1 g.h2 (fun _ _ => trivial) h
    refine wpAny_Call_Name_kw (ld_blt I hg (g.C.F.blt _ (by decide)) rfl ?_)
    refine PyProof.Rows.callWith_builtin1 ?_ he (by rfl)
    rw [he]
    refine Calls.spliced_cons (g.make I h' fun C W' m s5 ok st w plan hp => ?_)
    exact Calls.spliced_nil (call_any ok (k := 9 * k + 5) g.room (fr I) hp plan st w)
  | sum =>
    simp only [genV] at h
    have h' := gen_rd (X := X) (own := own) (fun _ _ (a a' : Int) => a = a') (fun _ _ _ _ _ _ _ _ z => z) (Fn := fun (a : Int) H => Q (.int a) H) (fin := fun a => some (.int a)) (stp := stpS) (Yd := YSum) (Q := Q) (a0' := (0 : Int))
      (fun a a' ρ S H s e q => by subst e; exact q.kq s (.int a)) (fun a a' y yv ρ S H N s e r q => by
        subst e
        cases r with
        | int j =>
          simp only [stpS] at q
          split at q
          · exact q.elim
          · rename_i e
            split at e
            · cases e
            · cases e
          · rename_i b e
            split at e
            · rename_i hj
              cases e
              exact ⟨j, rfl, in64_ok hj.1, in64_ok hj.2, q _ rfl⟩
            · cases e
        | _ => exact q.elim) g.mem g.h1 g.h2 (fun _ _ => rfl) h
    refine wpAny_Call_Name_kw (ld_blt I hg (g.C.F.blt _ (by decide)) rfl ?_)
    refine PyProof.Rows.callWith_builtin1 ?_ he (by rfl)
    rw [he]
    refine Calls.spliced_cons (g.make I h' fun C W' m s5 ok st w plan hp => ?_)
    exact Calls.spliced_nil (call_sum ok (k := 9 * k + 5) g.room (fr I) hp plan st w)
  | tuple =>
    simp only [genV] at h
    have h' := gen_rd (X := X) (own := own) (fun ρ H (a : List D) (a' : List V) => Rps G ρ H a a') (fun _ _ _ _ _ _ x ap r => r.mono x ap) (Fn := fun (xs : List V) H => ∀ p, H p = none → Q (.ref p) (upd H p (.tup xs))) (fin := fun a => some (.tup a)) (stp := stpT) (Yd := YTup) (Q := Q) (a0' := ([] : List V))
      (fun a a' ρ S H s r q p hp => Sat.kq (q.mono (Nx.new hp)) (s.new hp) (s.newTup hp r)) (fun a a' y yv ρ S H N s ra r q => by
        simp only [stpT] at q
        split at q
        · exact q.elim
        · rename_i e
          split at e <;> cases e
        · rename_i b e
          split at e
          · rename_i hl
            cases e
            exact ⟨Nat.lt_of_lt_of_le (by rw [← ra.length]; exact hl) (lim_le (Nat.le_refl _)), q _ (ra.append (.cons r .nil))⟩
          · cases e) g.mem g.h1 g.h2 (fun _ _ => .nil) h
    refine wpAny_Call_Name_kw (ld_blt I hg (g.C.F.blt _ (by decide)) rfl ?_)
    refine PySem.Pv.callWith_type1 ?_ he (by rfl)
    rw [he]
    refine Calls.spliced_cons (g.make I h' fun C W' m s5 ok st w plan hp => ?_)
    exact Calls.spliced_nil (call_tup ok (k := 9 * k + 5) g.room (fr I) hp plan st w)
  | max =>
    simp only [genV] at h
    have h' := gen_rd (X := X) (own := own) (fun _ _ (a a' : Option Int) => a = a') (fun _ _ _ _ _ _ _ _ z => z) (Fn := fun (a : Option Int) H => ∃ b, a = some b ∧ Q (.int b) H) (fin := fun a => a.map .int) (stp := stpM) (Yd := YMax) (Q := Q) (a0' := (none : Option Int))
      (fun a a' ρ S H s e q => by
        subst e
        cases a with
        | none => exact q.elim
        | some b => exact ⟨b, rfl, q.kq s (.int b)⟩) (fun a a' y yv ρ S H N s e r q => by
        subst e
        cases r with
        | int j => exact ⟨j, rfl, q _ rfl⟩
        | _ => exact q.elim) g.mem g.h1 g.h2 (fun _ _ => rfl) h
    refine wpAny_Call_Name_kw (ld_blt I hg (g.C.F.blt _ (by decide)) rfl ?_)
    refine PyProof.Rows.callWith_builtin1 ?_ he (by rfl)
    rw [he]
    refine Calls.spliced_cons (g.make I h' fun C W' m s5 ok st w plan hp => ?_)
    exact Calls.spliced_nil (call_max ok (k := 9 * k + 5) g.room (fr I) hp plan st w)
  | _ => cases hc
end
end Ev


set_option maxHeartbeats 200000
set_option Elab.async false
set_option maxRecDepth 100000
set_option maxHeartbeats 4000000
/-! What is checked is sound: expressions. -/
namespace Ev
open PySem PySem.Spec PyProof.Rows L2

/-- how many -/
def Es.len : Es → Nat
  | .nil => 0
  | .cons _ r => r.len + 1
section
variable {T : Tb} {G : Wd} {gn : Gn} {k : Nat} {bs : List Nat} {b₀ : Nat}
theorem evEs_len {cf} : ∀ {es : Es} {env : Env} {S S1 : Sto} {ds : List D}, evEs T cf b₀ es env S = .ok ds S1 → ds.length = es.len
  | .nil, env, S, S1, ds, h => by
    rw [evEs] at h
    cases h
    rfl
  | .cons e r, env, S, S1, ds, h => by
    rw [evEs] at h
    dsimp only at h
    cases e1 : evE T cf b₀ e env S with
    | ok x S2 =>
      rw [e1] at h
      dsimp only [bnd] at h
      cases e2 : evEs T cf b₀ r env S2 with
      | ok xs S3 =>
        rw [e2] at h
        dsimp only [bnd] at h
        cases h
        rw [List.length_cons, evEs_len e2]
        rfl
      | err _ _ _ _ => rw [e2] at h; cases h
      | bad => rw [e2] at h; cases h
    | err _ _ _ _ => rw [e1] at h; cases h
    | bad => rw [e1] at h; cases h
theorem chkEs_len : ∀ {es : Es} {c : Ck} {fs : List Expr}, chkEs T gn es c fs = true → fs.length = es.len
  | .nil, c, fs, h => by
    rw [chkEs] at h
    rw [List.isEmpty_iff.mp h]
    rfl
  | .cons e r, c, fs, h => by
    simp only [chkEs] at h
    split at h
    · rw [Bool.and_eq_true] at h
      rw [List.length_cons, chkEs_len h.2]
      rfl
    · cases h
theorem ne_cons {fs : List Expr} (h : (!fs.isEmpty) = true) : ∃ e es, fs = e :: es := by
  cases fs with
  | nil => cases h
  | cons e es => exact ⟨e, es, rfl⟩
theorem glE_all {c : Ck} {X : Cx} (kk : Cok G k c X) {es : List Expr} (h : es.all (glE c) = true) : ∀ x p, Expr.Name x p ∈ es → Gl X x ∧ (x == ("__debug__" : Str)) = false := fun x p m => by
  have := List.all_eq_true.mp h _ m
  exact glB_ok kk this
/-- the nodes that are tested as they stand -/
def plT : Expr → Bool
  | .UnaryOp .Not _ _ => false
  | .BoolOp _ _ _ => false
  | .IfExp _ _ _ _ => false
  | .Compare _ _ _ _ => false
  | _ => true
theorem plT_ok {e : Expr} (h : plT e = true) {env : PySem.Env} : ∀ whole, isTrue e env whole = (do let v ← whole; standAt e.pos; holding [v] (truthy v)) := fun whole => by
  cases e <;> first | rfl | (cases h; done) | skip
  rename_i op a p
  cases op <;> first | rfl | cases h
theorem three {X : Cx} {W : WX} {e : Expr} {ev : EF} {b : Bool} (q : PE X e (tE G gn bs W ev)) (h : plT e = true) (hp : plainE e = true) : PE X e (tE G gn bs W ev) ∧ (b = true → PT X e (tB G gn bs W ev)) ∧ plainE e = true := ⟨q, fun _ => pt_of q (plT_ok h), hp⟩
variable (hb : ∀ b ∈ bs, b ≤ b₀)
include hb
set_option hygiene false in
mutual
theorem okE : ∀ (x : E) {c : Ck} {e : Expr} {X : Cx} {W : WX}, chkE T gn x c e = true → XC T G gn k X W → Cok G k c X → PE X e (tE G gn bs W (evE T (lv T k).1 b₀ x)) ∧ (tst x = true → PT X e (tB G gn bs W (evE T (lv T k).1 b₀ x))) ∧ plainE e = true
  | .loc i, c, e, X, W, h, C, kk => by
    simp only [chkE] at h
    split at h
    · obtain ⟨h1, h2, h3, h4⟩ := locB_ok kk h
      have q := pe_loc (T := T) (G := G) (gn := gn) (bs := bs) (W := W) (cf := (lv T k).1) (b₀ := b₀) (pos := by assumption) h1 h2 h3 h4
      exact ⟨q, fun _ => pt_of q (plT_ok rfl), rfl⟩
    · cases h
  | .int i, c, e, X, W, h, C, kk => by
    simp only [chkE] at h
    split at h
    · rw [beq_iff_eq] at h
      subst h
      exact three (by rw [evE]; exact pe_c pe_int fun ρ H => .int i) rfl rfl
    · cases h
  | .bl b, c, e, X, W, h, C, kk => by
    simp only [chkE] at h
    split at h
    · rw [beq_iff_eq] at h
      subst h
      exact three (by rw [evE]; exact pe_c pe_bl fun ρ H => .bl b) rfl rfl
    · cases h
  | .non, c, e, X, W, h, C, kk => by
    simp only [chkE] at h
    split at h
    · exact three (by rw [evE]; exact pe_c pe_non fun ρ H => .non) rfl rfl
    · cases h
  | .str x, c, e, X, W, h, C, kk => by
    simp only [chkE] at h
    split at h
    · rw [beq_iff_eq] at h
      subst h
      exact three (by rw [evE]; exact pe_c pe_str fun ρ H => .str x) rfl rfl
    · cases h
  | .kint x i, c, e, X, W, h, C, kk => by
    simp only [chkE] at h
    split at h
    · simp only [Bool.and_eq_true, beq_iff_eq, decide_eq_true_eq] at h
      obtain ⟨⟨h1, h2⟩, h3⟩ := h
      subst h1
      obtain ⟨g1, g2⟩ := glB_ok kk h2
      obtain ⟨t, ht⟩ := C.F.kn x i h3
      exact three (by rw [evE]; exact pe_c (pe_glob (v := .int i) g1 ht ⟨t, rfl⟩ g2) fun ρ H => .int i) rfl rfl
    · cases h
  | .fnv _, c, e, X, W, h, C, kk => by
    simp only [chkE] at h
    cases h
  | .bin o a b, c, e, X, W, h, C, kk => by
    simp only [chkE] at h
    split at h
    · simp only [Bool.and_eq_true] at h
      obtain ⟨⟨h1, h2⟩, h3⟩ := h
      rw [opB_ok h1]
      have qa := okE a h2 C kk
      have qb := okE b h3 C kk
      exact three (by rw [evE]; exact pe_binE C o qa.1 qb.1) rfl rfl
    · cases h
  | .neg a, c, e, X, W, h, C, kk => by
    simp only [chkE] at h
    split at h
    · have qa := okE a h C kk
      exact three (by rw [evE]; exact pe_negE qa.1) rfl rfl
    · cases h
  | .cmp o a b, c, e, X, W, h, C, kk => by
    simp only [chkE] at h
    split at h
    · simp only [Bool.and_eq_true, Bool.not_eq_true'] at h
      obtain ⟨⟨⟨h1, h2⟩, h3⟩, h4⟩ := h
      rw [copB_ok h1]
      have qa := okE a h2 C kk
      have qb := okE b h3 C kk
      exact ⟨by rw [evE]; exact pe_cmpE C o qa.1 qb.1 h4, fun _ => by rw [evE]; exact pt_cmpE C o qa.1 qb.1 h4, rfl⟩
    · cases h
  | .chn o o' a b d, c, e, X, W, h, C, kk => by
    simp only [chkE] at h
    split at h
    · simp only [Bool.and_eq_true, Bool.not_eq_true'] at h
      obtain ⟨⟨⟨⟨⟨h1, h1'⟩, h2⟩, h3⟩, h4⟩, h5⟩ := h
      rw [copB_ok h1, copB_ok h1']
      have qa := okE a h2 C kk
      have qb := okE b h3 C kk
      have qd := okE d h4 C kk
      exact ⟨by rw [evE]; exact pe_chnE C o o' qa.1 qb.1 qd.1 h5, fun _ => by rw [evE]; exact pt_chnE C o o' qa.1 qb.1 qd.1 h5, rfl⟩
    · cases h
  | .isn a, c, e, X, W, h, C, kk => by
    simp only [chkE] at h
    split at h
    · have qa := okE a h C kk
      exact ⟨by rw [evE]; exact pe_isnE qa.1, fun _ => by rw [evE]; exact pt_isnE qa.1, rfl⟩
    · cases h
  | .nisn a, c, e, X, W, h, C, kk => by
    simp only [chkE] at h
    split at h
    · have qa := okE a h C kk
      exact ⟨by rw [evE]; exact pe_nisnE qa.1, fun _ => by rw [evE]; exact pt_nisnE qa.1, rfl⟩
    · cases h
  | .isb a b, c, e, X, W, h, C, kk => by
    simp only [chkE] at h
    split at h
    · simp only [Bool.and_eq_true, beq_iff_eq] at h
      obtain ⟨h1, h2⟩ := h
      subst h1
      have qa := okE a h2 C kk
      exact ⟨by rw [evE]; exact pe_isbE qa.1, fun _ => by rw [evE]; exact pt_isbE qa.1, rfl⟩
    · cases h
  | .and a b, c, e, X, W, h, C, kk => by
    simp only [chkE] at h
    split at h
    · rename_i f g r p
      rw [Bool.and_eq_true] at h
      have qa := okE a h.1 C kk
      have qb := okE b h.2 C kk
      cases r with
      | nil =>
        refine ⟨by rw [evE]; exact pe_andE qa.1 (pe_one qb.1), fun ht => ?_, rfl⟩
        rw [tst, Bool.and_eq_true] at ht
        rw [evE]
        exact pt_andE (qa.2.1 ht.1) (pw_and1 (qb.2.1 ht.2)).pt
      | cons r1 r2 =>
        refine ⟨by rw [evE]; exact pe_andE qa.1 qb.1, fun ht => ?_, rfl⟩
        rw [tst, Bool.and_eq_true] at ht
        rw [evE]
        exact pt_andE (qa.2.1 ht.1) (qb.2.1 ht.2)
    · cases h
  | .or a b, c, e, X, W, h, C, kk => by
    simp only [chkE] at h
    split at h
    · rename_i f g r p
      rw [Bool.and_eq_true] at h
      have qa := okE a h.1 C kk
      have qb := okE b h.2 C kk
      cases r with
      | nil =>
        refine ⟨by rw [evE]; exact pe_orE qa.1 (pe_one qb.1), fun ht => ?_, rfl⟩
        rw [tst, Bool.and_eq_true] at ht
        rw [evE]
        exact pt_orE (qa.2.1 ht.1) (pw_or1 (qb.2.1 ht.2)).pt
      | cons r1 r2 =>
        refine ⟨by rw [evE]; exact pe_orE qa.1 qb.1, fun ht => ?_, rfl⟩
        rw [tst, Bool.and_eq_true] at ht
        rw [evE]
        exact pt_orE (qa.2.1 ht.1) (qb.2.1 ht.2)
    · cases h
  | .not a, c, e, X, W, h, C, kk => by
    simp only [chkE] at h
    split at h
    · have qa := okE a h C kk
      exact ⟨by rw [evE]; exact pe_notE qa.1, fun ht => by rw [evE]; exact pt_notE (qa.2.1 (by rw [tst] at ht; exact ht)), rfl⟩
    · cases h
  | .ife t a b, c, e, X, W, h, C, kk => by
    simp only [chkE] at h
    split at h
    · simp only [Bool.and_eq_true] at h
      obtain ⟨⟨⟨h0, h1⟩, h2⟩, h3⟩ := h
      have qt := okE t h1 C kk
      have qa := okE a h2 C kk
      have qb := okE b h3 C kk
      refine ⟨by rw [evE]; exact pe_ifE (qt.2.1 h0) qa.1 qb.1, fun ht => ?_, rfl⟩
      rw [tst] at ht
      cases ht
    · cases h
  | .tup es, c, e, X, W, h, C, kk => by
    simp only [chkE] at h
    split at h
    · simp only [Bool.and_eq_true, decide_eq_true_eq] at h
      have qs := okEs es h.1 C kk
      exact three (by rw [evE]; exact pe_tupE qs.1 h.2 fun env S ds S1 e => by rw [evEs_len e, chkEs_len h.1]) rfl rfl
    · cases h
  | .frz a, c, e, X, W, h, C, kk => by
    simp only [chkE] at h
    have qa := okA a h C kk
    have q : PE X e (tE G gn bs W (evE T (lv T k).1 b₀ (.frz a))) := by rw [evE]; exact pe_frzE qa.1
    exact ⟨q, fun _ => pt_of q (plT_ok qa.2.2), qa.2.1⟩
  | .sub a i, c, e, X, W, h, C, kk => by
    simp only [chkE] at h
    split at h
    · simp only [Bool.and_eq_true] at h
      have qa := okE a h.1 C kk
      have qb := okE i h.2 C kk
      exact three (by rw [evE]; exact pe_subE C.F.kK qa.1 qb.1 qb.2.2) rfl rfl
    · cases h
  | .slc a lo hi, c, e, X, W, h, C, kk => by
    simp only [chkE] at h
    split at h
    · simp only [Bool.and_eq_true] at h
      have qa := okE a h.1.1 C kk
      have ql := okP lo h.1.2 C kk
      have qh := okP hi h.2 C kk
      exact three (by rw [evE]; exact pe_slcE C.F.kK qa.1 ql qh) rfl rfl
    · cases h
  | .fld a f, c, e, X, W, h, C, kk => by
    simp only [chkE] at h
    split at h
    · simp only [Bool.and_eq_true, beq_iff_eq] at h
      have qa := okE a h.1.1 C kk
      exact three (by rw [evE]; exact pe_fldE C.F qa.1 h.1.2 (by rw [C.F.nmE]; exact h.2)) rfl rfl
    · cases h
  | .call f es, c, e, X, W, h, C, kk => by
    simp only [chkE] at h
    split at h
    · simp only [Bool.and_eq_true, decide_eq_true_eq] at h
      obtain ⟨⟨⟨⟨h1, h2⟩, h3⟩, h4⟩, h5⟩ := h
      obtain ⟨e1, es1, rfl⟩ := ne_cons h5
      obtain ⟨fn, hfn⟩ := Option.isSome_iff_exists.mp h3
      obtain ⟨g1, g2⟩ := glB_ok kk h2
      have qs := okEs es h4 C kk
      exact three (by rw [evE]; exact pe_callE C hfn h1 g1 g2 qs.1 qs.2) rfl rfl
    · cases h
  | .mk f es, c, e, X, W, h, C, kk => by
    simp only [chkE] at h
    split at h
    · simp only [Bool.and_eq_true, decide_eq_true_eq] at h
      obtain ⟨⟨⟨⟨h1, h2⟩, h3⟩, h4⟩, h5⟩ := h
      obtain ⟨e1, es1, rfl⟩ := ne_cons h5
      obtain ⟨f', hf'⟩ := Option.isSome_iff_exists.mp h3
      obtain ⟨fn, hfn⟩ := C.F.ifn _ _ hf'
      obtain ⟨g1, g2⟩ := glB_ok kk h2
      have qs := okEs es h4 C kk
      exact three (by rw [evE]; exact pe_mkE C hf' hfn h1 g1 g2 qs.1 qs.2) rfl rfl
    · cases h
  | .mkl i f es, c, e, X, W, h, C, kk => by
    simp only [chkE] at h
    split at h
    · simp only [Bool.and_eq_true] at h
      obtain ⟨⟨⟨h1, h3⟩, h4⟩, h5⟩ := h
      obtain ⟨e1, es1, rfl⟩ := ne_cons h5
      obtain ⟨f', hf'⟩ := Option.isSome_iff_exists.mp h3
      obtain ⟨g1, g2, g3, g4⟩ := locB_ok kk h1
      have qs := okEs es h4 C kk
      exact three (by rw [evE]; exact pe_mklE C hf' g1 g2 g3 g4 qs.1 qs.2) rfl rfl
    · cases h
  | .mth m o es, c, e, X, W, h, C, kk => by
    simp only [chkE] at h
    split at h
    · simp only [Bool.and_eq_true, beq_iff_eq, decide_eq_true_eq] at h
      obtain ⟨⟨⟨⟨⟨h1, h2⟩, h3⟩, h4⟩, h5⟩, h6⟩ := h
      have qo := okE o h1 C kk
      have qs := okEs es h4 C kk
      exact three (by rw [evE]; exact pe_mthE C qo.1 qs.1 (by rw [C.F.nmE]; exact h3) h2 qs.2 h5 (by rw [beq_iff_eq]; exact h6)) rfl rfl
    · cases h
  | .cmt f m es, c, e, X, W, h, C, kk => by
    simp only [chkE] at h
    split at h
    · simp only [Bool.and_eq_true, beq_iff_eq, decide_eq_true_eq] at h
      obtain ⟨⟨⟨⟨⟨⟨⟨h1, h2⟩, h3⟩, h4⟩, h5⟩, h6⟩, h7⟩, h8⟩ := h
      obtain ⟨e1, es1, rfl⟩ := ne_cons h8
      obtain ⟨f', hf'⟩ := Option.isSome_iff_exists.mp h4
      obtain ⟨g1, g2⟩ := glB_ok kk h2
      have qs := okEs es h5 C kk
      refine three ?_ rfl rfl
      rw [evE]
      simp only [hf']
      exact pe_cmtE C hf' h1 g1 g2 qs.1 (by rw [C.F.nmE]; exact h3) qs.2 h6 (by rw [beq_iff_eq]; exact h7)
    · cases h
  | .bi b es, c, e, X, W, h, C, kk => by
    simp only [chkE] at h
    split at h
    · simp only [Bool.and_eq_true, beq_iff_eq] at h
      obtain ⟨⟨⟨⟨h1, h2⟩, h3⟩, h4⟩, h5⟩ := h
      obtain ⟨e1, es1, rfl⟩ := ne_cons h5
      subst h1
      obtain ⟨g1, g2⟩ := glB_ok kk h2
      have qs := okEs es h4 C kk
      refine three ?_ rfl rfl
      rw [evE]
      exact pe_biE C b g1 (fun z => by subst z; exact h3) qs.1 qs.2
    · cases h
  | .maxd a d, c, e, X, W, h, C, kk => by
    simp only [chkE] at h
    split at h
    · simp only [Bool.and_eq_true, beq_iff_eq] at h
      obtain ⟨⟨⟨⟨h1, h2⟩, h3⟩, h4⟩, h5⟩ := h
      subst h1 h3 h4
      have qa := okE a h5 C kk
      exact three (by rw [evE]; exact pe_maxdE C (glB_ok kk h2).1 qa.1 qa.2.2) rfl rfl
    · cases h
  | .ist a ts, c, e, X, W, h, C, kk => by
    simp only [chkE] at h
    split at h
    · rename_i x p f g p2
      simp only [Bool.and_eq_true, beq_iff_eq] at h
      obtain ⟨⟨⟨h1, h2⟩, h3⟩, h4⟩ := h
      subst h1
      obtain ⟨g1, g2⟩ := glB_ok kk h2
      have qa := okE a h3 C kk
      refine three ?_ rfl rfl
      rw [evE]
      refine pe_istE C g1 qa.1 qa.2.2 ?_
      have tupCase : tupTy gn c ts g = true → ∃ es j tp, g = .Tuple es j tp ∧ tysIs gn ts es = true ∧ ts.length ≤ 100 ∧ ∀ x p, Expr.Name x p ∈ es → Gl X x ∧ (x == ("__debug__" : Str)) = false := fun z => by
        unfold tupTy at z
        split at z
        · simp only [Bool.and_eq_true, decide_eq_true_eq] at z
          exact ⟨_, _, _, rfl, z.1.1, z.2, glE_all kk z.1.2⟩
        · cases z
      split at h4
      · rename_i t
        rw [Bool.or_eq_true, Bool.and_eq_true] at h4
        rcases h4 with h4 | h4
        · refine .inl ⟨t, rfl, h4.1, fun x p z => ?_⟩
          subst z
          exact glB_ok kk h4.2
        · exact .inr (tupCase h4)
      · exact .inr (tupCase h4)
    · cases h
  | .gen b t it o x, c, e, X, W, h, C, kk => by
    simp only [chkE] at h
    split at h
    · rename_i y p elt tg iter ifs scope gpos pos
      simp only [Bool.and_eq_true, beq_iff_eq, decide_eq_true_eq] at h
      obtain ⟨⟨⟨⟨⟨⟨⟨⟨⟨⟨⟨⟨h1, h2⟩, h3⟩, h4⟩, h5⟩, h6⟩, h7⟩, h8⟩, h9⟩, h10⟩, h11⟩, h12⟩, h13⟩ := h
      subst h1
      obtain ⟨rm, cA, P, hcode, TB, hP⟩ := kk.gen h4
      have qi := okI it h9 C kk
      have g : GParts T G gn bs W k X P elt tg iter ifs scope (ownOf c t) (evI T (lv T k).1 b₀ it) (evC T (lv T k).1 b₀ o) (evE T (lv T k).1 b₀ x) t := by
        refine ⟨C, rm, ⟨cA, hcode, TB⟩, hP, qi.1, ?_, h5, qi.2, h6, ?_, ?_, fun s H genv A' fp hgv hA => ?_⟩
        · have := blkOk_by h7
          rw [← kk.N, ← kk.sc] at this
          exact this
        · rw [ownOf_sl]; exact fun i h => h
        · rw [ownOf_sl]; exact fun i h => h
        · have C' : XC T G gn k (GnX.gbk X s H scope genv A' fp) (fun _ _ _ _ => False) := ⟨C.F, C.XF, takesF, C.calm, C.nd, hA, C.fns⟩
          have kb : Cok G k (c.gblk scope) (GnX.gbk X s H scope genv A' fp) := ⟨kk.N, by
            obtain ⟨code, e⟩ := hgv
            show genv.scope = scope
            rw [e]
            rfl, (fun z => by cases z), fun z => by cases z⟩
          exact ⟨chkT_ok kb C.nd C.calm h8, okC o h11 h12 h13 C' kb, (okE x h10 C' kb).1⟩
      exact three (by rw [evE]; exact pe_genV g (glB_ok kk h2).1 h3) rfl rfl
    · cases h
  | .app a b, c, e, X, W, h, C, kk => by
    simp only [chkE] at h
    split at h
    · simp only [Bool.and_eq_true, beq_iff_eq] at h
      obtain ⟨⟨⟨⟨h1, h2⟩, h3⟩, h4⟩, h5⟩ := h
      subst h1
      have qa := okE a h2 C kk
      have qb := okE b h3 C kk
      exact three (by rw [evE]; exact pe_appE hb qa.1 qb.1 h4 qb.2.2 (by rw [beq_iff_eq]; exact h5)) rfl rfl
    · cases h
  | .pop a, c, e, X, W, h, C, kk => by
    simp only [chkE] at h
    split at h
    · simp only [Bool.and_eq_true, beq_iff_eq] at h
      obtain ⟨⟨⟨h1, h2⟩, h4⟩, h5⟩ := h
      subst h1
      have qa := okE a h2 C kk
      exact three (by rw [evE]; exact pe_popE hb qa.1 h4 (by rw [beq_iff_eq]; exact h5)) rfl rfl
    · cases h
  | .popi a b, c, e, X, W, h, C, kk => by
    simp only [chkE] at h
    split at h
    · simp only [Bool.and_eq_true, beq_iff_eq] at h
      obtain ⟨⟨⟨⟨h1, h2⟩, h3⟩, h4⟩, h5⟩ := h
      subst h1
      have qa := okE a h2 C kk
      have qb := okE b h3 C kk
      exact three (by rw [evE]; exact pe_popiE hb qa.1 qb.1 h4 qb.2.2 (by rw [beq_iff_eq]; exact h5)) rfl rfl
    · cases h
theorem okEs : ∀ (es : Es) {c : Ck} {fs : List Expr} {X : Cx} {W : WX}, chkEs T gn es c fs = true → XC T G gn k X W → Cok G k c X → PA X fs (tEs G gn bs W (evEs T (lv T k).1 b₀ es)) ∧ fs.all plainE = true
  | .nil, c, fs, X, W, h, C, kk => by
    simp only [chkEs] at h
    rw [List.isEmpty_iff.mp h]
    exact ⟨by rw [evEs]; exact pa_nilE, rfl⟩
  | .cons e r, c, fs, X, W, h, C, kk => by
    simp only [chkEs] at h
    split at h
    · rw [Bool.and_eq_true] at h
      have q := okE e h.1 C kk
      have qs := okEs r h.2 C kk
      exact ⟨by rw [evEs]; exact pa_consE q.1 qs.1 q.2.2, by rw [List.all_cons, q.2.2, qs.2]; rfl⟩
    · cases h
theorem okP : ∀ (o : O) {c : Ck} {f : Option Expr} {X : Cx} {W : WX}, chkO T gn o c f = true → XC T G gn k X W → Cok G k c X → PO X f (tP G gn bs W (evP T (lv T k).1 b₀ o))
  | .none, c, f, X, W, h, C, kk => by
    simp only [chkO] at h
    rw [Option.isNone_iff_eq_none.mp h, evP]
    exact po_noneE
  | .some e, c, f, X, W, h, C, kk => by
    simp only [chkO] at h
    split at h
    · rw [evP]
      exact po_someE (okE e h C kk).1
    · cases h
theorem okC : ∀ (o : O) {c : Ck} {fs : List Expr} {X : Cx} {W : WX}, chkO T gn o c (match fs with | [] => none | f :: _ => some f) = true → fs.length ≤ 1 → tstO o = true → XC T G gn k X W → Cok G k c X → PTs X fs (tC G gn bs W (evC T (lv T k).1 b₀ o))
  | .none, c, fs, X, W, h, hl, ht, C, kk => by
    simp only [chkO] at h
    cases fs with
    | nil => rw [evC]; exact pts_noneE
    | cons f fs => cases h
  | .some e, c, fs, X, W, h, hl, ht, C, kk => by
    simp only [chkO] at h
    cases fs with
    | nil => cases h
    | cons f fs =>
      cases fs with
      | cons _ _ => simp at hl
      | nil => rw [evC]; exact pts_someE ((okE e h C kk).2.1 ht)
theorem okA : ∀ (a : A) {c : Ck} {e : Expr} {X : Cx} {W : WX}, chkA T gn a c e = true → XC T G gn k X W → Cok G k c X → PE X e (tA G gn bs W (evA T (lv T k).1 b₀ a)) ∧ plainE e = true ∧ plT e = true
  | .disp es, c, e, X, W, h, C, kk => by
    simp only [chkA] at h
    split at h
    · simp only [Bool.and_eq_true, decide_eq_true_eq] at h
      have qs := okEs es h.1 C kk
      exact ⟨by rw [evA]; exact pe_dispE qs.1 h.2 fun env S ds S1 e => by rw [evEs_len e, chkEs_len h.1], rfl, rfl⟩
    · cases h
  | .comp t it o x, c, e, X, W, h, C, kk => by
    simp only [chkA] at h
    split at h
    · rename_i elt tg iter ifs scope pos
      simp only [Bool.and_eq_true, decide_eq_true_eq] at h
      obtain ⟨⟨⟨⟨⟨⟨h1, h2⟩, h3⟩, h4⟩, h5⟩, h6⟩, h7⟩ := h
      have kb : ∀ (s : Shared) (H : Hp) (Ca : Addr) (cl : List (Str × Addr)) (fp : List Addr), Cok G k (c.blk scope) (X.blk s H scope (compEnvC scope cl Ca X.env) fp) := fun s H Ca cl fp => ⟨kk.N, by
        show relabel scope X.env = relS scope c.sc
        rw [← kk.sc]
        rfl, (fun z => by cases z), fun z => kk.gen z⟩
      have qi := okI it h3 C kk
      refine ⟨?_, rfl, rfl⟩
      rw [evA]
      refine pe_compE C qi.1 (own := ownOf c t) ?_ (fun s H Ca cl fp => chkT_ok (kb s H Ca cl fp) C.nd C.calm h2) (fun s H Ca cl fp => okC o h5 h6 h7 (C.blk s H scope _ fp) (kb s H Ca cl fp)) (fun s H Ca cl fp => (okE x h4 (C.blk s H scope _ fp) (kb s H Ca cl fp)).1) qi.2 ?_ ?_ hb
      · have := blkOk_by h1
        rw [← kk.N, ← kk.sc] at this
        exact this
      · rw [ownOf_sl]; exact fun i h => h
      · rw [ownOf_sl]; exact fun i h => h
    · cases h
  | .ofs x, c, e, X, W, h, C, kk => by
    simp only [chkA] at h
    split at h
    · simp only [Bool.and_eq_true, beq_iff_eq] at h
      obtain ⟨⟨h1, h2⟩, h3⟩ := h
      subst h1
      have q := okE x h3 C kk
      exact ⟨by rw [evA]; exact pe_ofsE C (glB_ok kk h2).1 q.1 q.2.2, rfl, rfl⟩
    · cases h
  | .rgl x, c, e, X, W, h, C, kk => by
    simp only [chkA] at h
    split at h
    · simp only [Bool.and_eq_true, beq_iff_eq] at h
      obtain ⟨⟨⟨⟨h1, h2⟩, h3⟩, h4⟩, h5⟩ := h
      subst h1 h3
      have q := okE x h5 C kk
      exact ⟨by rw [evA]; exact pe_rglE C (glB_ok kk h2).1 (glB_ok kk h4).1 q.1 q.2.2, rfl, rfl⟩
    · cases h
  | .lrv x, c, e, X, W, h, C, kk => by
    simp only [chkA] at h
    split at h
    · simp only [Bool.and_eq_true, beq_iff_eq] at h
      obtain ⟨⟨⟨⟨h1, h2⟩, h3⟩, h4⟩, h5⟩ := h
      subst h1 h3
      have q := okE x h5 C kk
      exact ⟨by rw [evA]; exact pe_ofrRev C (glB_ok kk h2).1 (glB_ok kk h4).1 q.1 q.2.2, rfl, rfl⟩
    · cases h
  | .srt x, c, e, X, W, h, C, kk => by
    simp only [chkA] at h
    split at h
    · simp only [Bool.and_eq_true, beq_iff_eq] at h
      obtain ⟨⟨h1, h2⟩, h3⟩ := h
      subst h1
      have q := okE x h3 C kk
      exact ⟨by rw [evA]; exact pe_srtE C (glB_ok kk h2).1 q.1 q.2.2, rfl, rfl⟩
    · cases h
  | .cat a b, c, e, X, W, h, C, kk => by
    simp only [chkA] at h
    split at h
    · simp only [Bool.and_eq_true] at h
      obtain ⟨⟨h1, h2⟩, h3⟩ := h
      rw [opB_ok h1]
      exact ⟨by rw [evA]; exact pe_catE (okE a h2 C kk).1 (okE b h3 C kk).1, rfl, rfl⟩
    · cases h
  | .rep a b, c, e, X, W, h, C, kk => by
    simp only [chkA] at h
    split at h
    · simp only [Bool.and_eq_true] at h
      obtain ⟨⟨h1, h2⟩, h3⟩ := h
      rw [opB_ok h1]
      exact ⟨by rw [evA]; exact pe_repE (okE a h2 C kk).1 (okE b h3 C kk).1, rfl, rfl⟩
    · cases h
  | .slc a lo hi, c, e, X, W, h, C, kk => by
    simp only [chkA] at h
    split at h
    · simp only [Bool.and_eq_true] at h
      exact ⟨by rw [evA]; exact pe_slcA (okE a h.1.1 C kk).1 (okP lo h.1.2 C kk) (okP hi h.2 C kk), rfl, rfl⟩
    · cases h
theorem okI : ∀ (i : I) {c : Ck} {tg e : Expr} {X : Cx} {W : WX}, chkI T gn i c tg e = true → XC T G gn k X W → Cok G k c X → PI X tg e (tI G gn bs W (evI T (lv T k).1 b₀ i)) ∧ plainE e = true
  | .val x, c, tg, e, X, W, h, C, kk => by
    simp only [chkI] at h
    have q := okE x h C kk
    exact ⟨by rw [evI]; exact pi_valE C.F.kK q.1, q.2.2⟩
  | .rng1 a, c, tg, e, X, W, h, C, kk => by
    simp only [chkI] at h
    split at h
    · simp only [Bool.and_eq_true, beq_iff_eq] at h
      obtain ⟨⟨h1, h2⟩, h3⟩ := h
      subst h1
      have q := okE a h3 C kk
      exact ⟨by rw [evI]; exact pi_rng1E C (glB_ok kk h2).1 q.1 q.2.2, rfl⟩
    · cases h
  | .rng2 a b, c, tg, e, X, W, h, C, kk => by
    simp only [chkI] at h
    split at h
    · simp only [Bool.and_eq_true, beq_iff_eq] at h
      obtain ⟨⟨⟨h1, h2⟩, h3⟩, h4⟩ := h
      subst h1
      have q := okE a h3 C kk
      have q' := okE b h4 C kk
      exact ⟨by rw [evI]; exact pi_rng2E C (glB_ok kk h2).1 q.1 q'.1 q.2.2 q'.2.2, rfl⟩
    · cases h
  | .zip a b, c, tg, e, X, W, h, C, kk => by
    simp only [chkI] at h
    split at h
    · simp only [Bool.and_eq_true, beq_iff_eq] at h
      obtain ⟨⟨⟨⟨h1, h2⟩, h3⟩, h4⟩, h5⟩ := h
      subst h1
      have q := okE a h3 C kk
      have q' := okE b h4 C kk
      cases tg <;> try (simp [isTup] at h5; done)
      exact ⟨by rw [evI]; exact pi_zipE C (glB_ok kk h2).1 q.1 q'.1 q.2.2 q'.2.2, rfl⟩
    · cases h
  | .enu a, c, tg, e, X, W, h, C, kk => by
    simp only [chkI] at h
    split at h
    · simp only [Bool.and_eq_true, beq_iff_eq] at h
      obtain ⟨⟨⟨h1, h2⟩, h3⟩, h5⟩ := h
      subst h1
      have q := okE a h3 C kk
      cases tg <;> try (simp [isTup] at h5; done)
      exact ⟨by rw [evI]; exact pi_enuE C (glB_ok kk h2).1 q.1 q.2.2, rfl⟩
    · cases h
  | .rev a, c, tg, e, X, W, h, C, kk => by
    simp only [chkI] at h
    split at h
    · simp only [Bool.and_eq_true, beq_iff_eq] at h
      obtain ⟨⟨h1, h2⟩, h3⟩ := h
      subst h1
      have q := okE a h3 C kk
      exact ⟨by rw [evI]; exact pi_revE C (glB_ok kk h2).1 q.1 q.2.2, rfl⟩
    · cases h
  | .revr a, c, tg, e, X, W, h, C, kk => by
    simp only [chkI] at h
    split at h
    · simp only [Bool.and_eq_true, beq_iff_eq] at h
      obtain ⟨⟨⟨⟨h1, h2⟩, h3⟩, h4⟩, h5⟩ := h
      subst h1 h3
      have q := okE a h5 C kk
      exact ⟨by rw [evI]; exact pi_revrE C (glB_ok kk h2).1 (glB_ok kk h4).1 q.1 q.2.2, rfl⟩
    · cases h
end
end
end Ev


set_option maxHeartbeats 200000
set_option Elab.async false
set_option maxRecDepth 100000
set_option maxHeartbeats 2000000
/-! Statements. -/
namespace Ev
open PySem PySem.Spec PyProof.Rows L2

/-- what is wanted of a statement's end -/
def SatO (G : Wd) (bs : List Nat) (W : WX) (p : Nat) (ρ : List Addr) (H : Hp) (o : Out) (Z : Ends) : Prop := match o with
  | .nx env S => ∀ ρ' H' σ', Nb p ρ H ρ' H' → StOk G bs ρ' S H' → CfE G ρ' H' env σ' → Z.nx σ' H'
  | .bk env S => ∀ ρ' H' σ', Nb p ρ H ρ' H' → StOk G bs ρ' S H' → CfE G ρ' H' env σ' → Z.bk σ' H'
  | .ct env S => ∀ ρ' H' σ', Nb p ρ H ρ' H' → StOk G bs ρ' S H' → CfE G ρ' H' env σ' → Z.ct σ' H'
  | .rt d S => ∀ ρ' H' v, Nb p ρ H ρ' H' → StOk G bs ρ' S H' → Rp G ρ' H' d v → Z.rt v H'
  | .err c fs vs env S => ∀ ρ' H' σ' dd ws, Nb p ρ H ρ' H' → StOk G bs ρ' S H' → CfE G ρ' H' env σ' → H' dd = some (.xd ((fs.map G.nm).zip ws)) → dd ∉ ρ' → Rps G ρ' H' vs ws → W (.ref (G.cl c)) (some dd) σ' H'
  | .bad => False
def tSt (G : Wd) (gn : Gn) (bs : List Nat) (W : WX) (b₀ : Nat) (ev : Nat → Env → Sto → Out) : TS := fun Z σ H => ∃ p ρ S env, StOk G bs ρ S H ∧ CfE G ρ H env σ ∧ TabsOk G gn H ∧ b₀ ≤ p ∧ p ≤ S.length ∧ SatO G bs W p ρ H (ev p env S) Z
theorem _root_.L2.PS.imp {X : Cx} {e : Stmt} {t t' : TS} (h : PS X e t) (k : ∀ Z σ H, t' Z σ H → t Z σ H) : PS X e t' := ⟨fun pins s σ H Z I q => h.run pins s σ H Z I (k Z σ H q)⟩
theorem _root_.L2.PSs.imp {X : Cx} {e : List Stmt} {t t' : TS} (h : PSs X e t) (k : ∀ Z σ H, t' Z σ H → t Z σ H) : PSs X e t' := ⟨fun pins s σ H Z I q => h.run pins s σ H Z I (k Z σ H q)⟩
section
variable {T : Tb} {G : Wd} {gn : Gn} {bs : List Nat} {W W' : WX} {k b₀ p : Nat} {X : Cx} {ρ ρ' : List Addr} {S S' : Sto} {H H' : Hp} {env : Env} {σ : L2.St} {α β : Type} {Z Z' : Ends}
theorem SatO.mono {o : Out} (h : SatO G bs W p ρ H o Z) (x : Nb p ρ H ρ' H') : SatO G bs W p ρ' H' o Z := by
  cases o with
  | nx env S => exact fun ρ2 H2 σ' y => h ρ2 H2 σ' (x.trans y)
  | bk env S => exact fun ρ2 H2 σ' y => h ρ2 H2 σ' (x.trans y)
  | ct env S => exact fun ρ2 H2 σ' y => h ρ2 H2 σ' (x.trans y)
  | rt d S => exact fun ρ2 H2 v y => h ρ2 H2 v (x.trans y)
  | err c fs vs env S => exact fun ρ2 H2 σ' dd ws y => h ρ2 H2 σ' dd ws (x.trans y)
  | bad => exact h
theorem SatO.nxAt (h : SatO G bs W p ρ H (.nx env S) Z) (f : Fs G gn bs ρ S H env σ) : Z.nx σ H := h ρ H σ .refl f.st f.ce
theorem SatO.imp {o : Out} (h : SatO G bs W p ρ H o Z) (h1 : ∀ env S, o = .nx env S → ∀ ρ' H' σ', Nb p ρ H ρ' H' → StOk G bs ρ' S H' → CfE G ρ' H' env σ' → Z.nx σ' H' → Z'.nx σ' H') (h2 : ∀ env S, o = .bk env S → ∀ ρ' H' σ', Nb p ρ H ρ' H' → StOk G bs ρ' S H' → CfE G ρ' H' env σ' → Z.bk σ' H' → Z'.bk σ' H')
    (h3 : ∀ env S, o = .ct env S → ∀ ρ' H' σ', Nb p ρ H ρ' H' → StOk G bs ρ' S H' → CfE G ρ' H' env σ' → Z.ct σ' H' → Z'.ct σ' H') (h4 : Z.rt = Z'.rt) : SatO G bs W p ρ H o Z' := by
  cases o with
  | nx env S => exact fun ρ2 H2 σ' y s c => h1 _ _ rfl _ _ _ y s c (h ρ2 H2 σ' y s c)
  | bk env S => exact fun ρ2 H2 σ' y s c => h2 _ _ rfl _ _ _ y s c (h ρ2 H2 σ' y s c)
  | ct env S => exact fun ρ2 H2 σ' y s c => h3 _ _ rfl _ _ _ y s c (h ρ2 H2 σ' y s c)
  | rt d S => exact fun ρ2 H2 v y s r => by rw [← h4]; exact h ρ2 H2 v y s r
  | err c fs vs env S => exact h
  | bad => exact h
/-- first an expression -/
theorem Fs.bndS (f : Fs G gn bs ρ S H env σ) (hp : p ≤ S.length) {r : R α} {g : α → Sto → Out} (h : SatO G bs W p ρ H (Ev.bndS r env g) Z) : Sat G bs W σ ρ H r (fun a S1 ρ1 H1 => SatO G bs W p ρ1 H1 (g a S1) Z) := by
  have hl : p ≤ ρ.length := by rw [f.st.len]; exact hp
  cases r with
  | ok a S1 => exact fun ρ1 H1 x s => SatO.mono h (x.nb hl)
  | err c fs vs S1 => exact fun ρ1 H1 dd ws x s e n r => h ρ1 H1 σ dd ws (x.nb hl) s (f.ce.mono x f.st.apt) e n r
  | bad => exact h.elim
theorem Nx.len_le (x : Nx ρ H ρ' H') (hp : p ≤ ρ.length) : p ≤ ρ'.length := by
  obtain ⟨μ, rfl, _⟩ := x.pre
  rw [List.length_append]; omega
theorem Fs.seqS (f : Fs G gn bs ρ S H env σ) (hp : p ≤ S.length) {ev : EF} {g : D → Sto → Out} {Q : VK} (h : SatO G bs W p ρ H (Ev.bndS (ev env S) env g) Z)
    (q : ∀ d S1 ρ1 H1 v, Nx ρ H ρ1 H1 → Fs G gn bs ρ1 S1 H1 env σ → p ≤ S1.length → Rp G ρ1 H1 d v → SatO G bs W p ρ1 H1 (g d S1) Z → Q v H1) : Ev.tE G gn bs W ev σ H Q :=
  f.tE ((f.bndS hp h).imp fun d S1 ρ1 H1 x s h2 v r => q d S1 ρ1 H1 v x (f.next x s) (by rw [← s.len]; exact x.len_le (by rw [f.st.len]; exact hp)) r h2)
theorem Fs.seqSA (f : Fs G gn bs ρ S H env σ) (hp : p ≤ S.length) {ev : Env → Sto → R Nat} {g : Nat → Sto → Out} {Q : VK} (h : SatO G bs W p ρ H (Ev.bndS (ev env S) env g) Z)
    (q : ∀ n S1 ρ1 H1 v, Nx ρ H ρ1 H1 → Fs G gn bs ρ1 S1 H1 env σ → p ≤ S1.length → Rp G ρ1 H1 (.ref n) v → SatO G bs W p ρ1 H1 (g n S1) Z → Q v H1) : tA G gn bs W ev σ H Q :=
  ⟨ρ, S, env, f.st, f.ce, f.tb, (f.bndS hp h).imp fun d S1 ρ1 H1 x s h2 v r => q d S1 ρ1 H1 v x (f.next x s) (by rw [← s.len]; exact x.len_le (by rw [f.st.len]; exact hp)) r h2⟩
theorem Fs.seqSB (f : Fs G gn bs ρ S H env σ) (hp : p ≤ S.length) {ev : EF} {g : D → Sto → Out} {Q : Bool → Hp → Prop} (h : SatO G bs W p ρ H (Ev.bndS (ev env S) env g) Z)
    (q : ∀ d S1 ρ1 H1, Nx ρ H ρ1 H1 → Fs G gn bs ρ1 S1 H1 env σ → p ≤ S1.length → SatO G bs W p ρ1 H1 (g d S1) Z → ∃ b, d = .bl b ∧ Q b H1) : Ev.tB G gn bs W ev σ H Q :=
  f.tB ((f.bndS hp h).imp fun d S1 ρ1 H1 x s h2 => q d S1 ρ1 H1 x (f.next x s) (by rw [← s.len]; exact x.len_le (by rw [f.st.len]; exact hp)) h2)
theorem Fs.set (f : Fs G gn bs ρ S H env σ) {d : D} {v : V} (i : Nat) (r : Rp G ρ H d v) : Fs G gn bs ρ S H (env.set i (some d)) (σ.set i (some v)) := ⟨f.st, f.ce.set i r, f.tb⟩
/-! ### name = e -/
theorem ps_setE {i : Nat} {x : Str} {e : Expr} {ev : EF} {pos pos' : Pos} (hN : X.N.Nodup) (hi : X.N[i]? = some x) (hx : L2.Loc X.env.scope x) (hf : X.fn x = true ∨ X.env.scope.names.lookup x = some .local) (he : PE X e (tE G gn bs W ev)) (hc : compE e = false) :
    PS X (.Assign [.Name x pos'] e pos) (tSt G gn bs W b₀ (fun _ env S => bndS (ev env S) env fun d S1 => .nx (env.set i (some d)) S1)) :=
  (ps_set hN hi hx he (swap_of hc) hf).imp fun Z σ H ⟨p, ρ, S, env, st, ce, tb, h0, hp, h⟩ =>
    (Fs.mk st ce tb).seqS hp h fun d S1 ρ1 H1 v x1 f1 hp1 r1 h1 => h1.nxAt (f1.set i r1)
theorem ps_newE {i : Nat} {x : Str} {e : Expr} {ev : Env → Sto → R Nat} {pos pos' : Pos} (hN : X.N.Nodup) (hi : X.N[i]? = some x) (hx : L2.Loc X.env.scope x) (hf : X.fn x = true ∨ X.env.scope.names.lookup x = some .local) (he : PE X e (tA G gn bs W ev)) (hc : compE e = false) :
    PS X (.Assign [.Name x pos'] e pos) (tSt G gn bs W b₀ (fun _ env S => bndS (ev env S) env fun n S1 => .nx (env.set i (some (.ref n))) S1)) :=
  (ps_set hN hi hx he (swap_of hc) hf).imp fun Z σ H ⟨p, ρ, S, env, st, ce, tb, h0, hp, h⟩ =>
    (Fs.mk st ce tb).seqSA hp h fun d S1 ρ1 H1 v x1 f1 hp1 r1 h1 => h1.nxAt (f1.set i r1)
/-- a comprehension is stored -/
theorem ps_asgLc {i : Nat} {y : Str} {py : Pos} {elt tg iter : Expr} {ifs : List Expr} {scope : Scope} {own : List (Str × Nat)} {pos spos : Pos} {wi : TI} {g : TG} {tt : TT} {te : TE} (hc : X.calm = true) (hN : X.N.Nodup) (hy : X.N[i]? = some y) (hx : L2.Loc X.env.scope y) (hf : X.fn y = true ∨ X.env.scope.names.lookup y = some .local)
    (hi : PI X tg iter wi) (ok : BlkOk X.N X.env.scope scope own)
    (hg : ∀ (s : Shared) (H : Hp) (C : Addr) (cl : List (Str × Addr)) (fp : List Addr), PG (X.blk s H scope (compEnvC scope cl C X.env) fp) tg g) (ht : ∀ (s : Shared) (H : Hp) (C : Addr) (cl : List (Str × Addr)) (fp : List Addr), PTs (X.blk s H scope (compEnvC scope cl C X.env) fp) ifs tt)
    (he : ∀ (s : Shared) (H : Hp) (C : Addr) (cl : List (Str × Addr)) (fp : List Addr), PE (X.blk s H scope (compEnvC scope cl C X.env) fp) elt te) (hp : plainE iter = true) :
    PS X (.Assign [.Name y py] (.ListComp elt [⟨tg, iter, ifs, 0⟩] scope pos) spos) (tAsg (tLc wi g tt te (own.map (·.2))) (gName i)) := by
  have hsw : swapsWith (.ListComp elt [⟨tg, iter, ifs, 0⟩] scope pos) (some (.Name y py)) spos.line X.env = pure (X.env.blockKind == .function && X.env.kindOf y == some .local && py.line == pos.line && !(scope.names.any fun (n, k) => n == y && (k == .local || k == .cell))) := rfl
  cases hb : (X.env.blockKind == .function && X.env.kindOf y == some .local && py.line == pos.line && !(scope.names.any fun (n, k) => n == y && (k == .local || k == .cell))) with
  | true =>
    rw [hb] at hsw
    rw [Bool.and_eq_true, Bool.and_eq_true, Bool.and_eq_true, beq_iff_eq, beq_iff_eq] at hb
    exact ps_setLc hc hN hy hb.1.1.2 hsw hi ok hg ht he fun _ => fold_of hp
  | false =>
    rw [hb] at hsw
    exact ps_set hN hy hx (pe_lc hc hN hi ok hg ht he fun _ => fold_of hp) hsw hf
/-! ### other ends of an assignment -/
theorem sole_of {tg e : Expr} {l : Nat} {env : PySem.Env} (h : compE e = false) : swapsWithSole [tg] e l env = pure false := by
  show swapsWith e (some tg) l env = pure false
  exact swap_of h
theorem ps_setsE {b₀ : Nat} (hb : ∀ b ∈ bs, b ≤ b₀) {eo ei e : Expr} {o i v : EF} {pos p2 : Pos} (ho : PE X eo (tE G gn bs W o)) (hi : PE X ei (tE G gn bs W i)) (he : PE X e (tE G gn bs W v)) (hc : compE e = false) (hs : plainE ei = true) :
    PS X (.Assign [.Subscript eo ei p2] e pos) (tSt G gn bs W b₀ (fun _ env S => bndS (v env S) env fun d S1 => bndS (o env S1) env fun x S2 => bndS (i env S2) env fun y S3 => (match x, y with
      | .ref n, .int k => (match S3[n]? with
        | some (.lst xs) => (match ixN xs.length k with
          | some j => if d.pure = true ∨ b₀ ≤ n then .nx env (S3.set n (.lst (xs.set j d))) else .bad
          | none => .bad)
        | _ => .bad)
      | _, _ => .bad))) :=
  (ps_asg he (pg_sub (pos := p2) ho hi set_list (fun v => by cases ei <;> first | rfl | cases hs)) (sole_of hc) (by rfl) (by rfl)).imp fun Z σ H ⟨p, ρ, S, env, st, ce, tb, h0, hp, h⟩ =>
    (Fs.mk st ce tb).seqS hp h fun d S1 ρ1 H1 vv x1 f1 hp1 r1 h1 => f1.seqS hp1 h1 fun x S2 ρ2 H2 xv x2 f2 hp2 r2 h2 => f2.seqS hp2 h2 fun y S3 ρ3 H3 yv x3 f3 hp3 r3 h3 => by
      have r1' := (r1.mono x2 f1.st.apt).mono x3 f2.st.apt
      have r2' := r2.mono x3 f2.st.apt
      split at h3
      · rename_i n k
        split at h3
        · rename_i xs e3
          split at h3
          · rename_i j ej
            split at h3
            · rename_i c
              obtain ⟨a, vs, rfl, ea, eh, rr⟩ := f3.st.lstAt r2' e3
              cases r3
              refine ⟨a, vs, k, j, rfl, rfl, eh, by rw [← rr.length]; exact ej, ?_⟩
              have lowx : ∀ b ∈ bs, n < b → D.blws b (xs.set j d) = true := fun b hbb hn => blws_mem.mpr fun w hw => by
                have := f3.st.low b hbb n _ hn e3
                rw [D.blw] at this
                rcases List.mem_or_eq_of_mem_set hw with q | q
                · exact blws_mem.mp this w q
                · rw [q]; exact blw_of_pure hb c b hbb hn
              obtain ⟨f4, x4⟩ := f3.wrote hb ea e3 eh (rr.set r1' j) lowx
              exact h3 ρ3 _ σ (x4.nb (by rw [f3.st.len]; exact hp3)) f4.st f4.ce
            · exact h3.elim
          · exact h3.elim
        · exact h3.elim
      · exact h3.elim
theorem putF_len : ∀ (f : Nat) (d : D) (fs : List Nat) (vs : List D), fs.length = vs.length → (putF f d fs vs).1.length = (putF f d fs vs).2.length ∧ (putF f d fs vs).1.length ≤ fs.length + 1
  | f, d, [], [], _ => by simp [putF]
  | f, d, g :: gs, v :: vs, h => by
    rw [putF]
    split
    · exact ⟨by simpa using h, by simp⟩
    · have := putF_len f d gs vs (by simpa using h)
      exact ⟨by simpa using this.1, by simpa using this.2⟩
  | f, d, [], _ :: _, h => by simp at h
  | f, d, _ :: _, [], h => by simp at h
theorem putF_ok (inj : ∀ a b, G.nm a = G.nm b → a = b) {f : Nat} {d : D} {y : V} (r : Rp G ρ H d y) : ∀ {fs : List Nat} {vs : List D} {ws : List V}, fs.length = vs.length → Rps G ρ H vs ws → ∃ us, Rps G ρ H (putF f d fs vs).2 us ∧ (((putF f d fs vs).1.map G.nm).zip us) = L2.putF (G.nm f) y ((fs.map G.nm).zip ws)
  | [], [], _, _, .nil => ⟨[y], .cons r .nil, rfl⟩
  | g :: gs, v :: vs, _, h, .cons (v := w) (vs := ws) rv rt => by
    rw [putF]
    by_cases e : g = f
    · rw [if_pos e]
      refine ⟨y :: ws, .cons r rt, ?_⟩
      show (G.nm g, y) :: ((gs.map G.nm).zip ws) = L2.putF (G.nm f) y ((G.nm g, w) :: ((gs.map G.nm).zip ws))
      rw [e, L2.putF, if_pos rfl]
    · rw [if_neg e]
      obtain ⟨us, h1, h2⟩ := putF_ok inj r (f := f) (fs := gs) (vs := vs) (by simpa using h) rt
      refine ⟨w :: us, .cons rv h1, ?_⟩
      show (G.nm g, w) :: (((putF f d gs vs).1.map G.nm).zip us) = L2.putF (G.nm f) y ((G.nm g, w) :: ((gs.map G.nm).zip ws))
      rw [h2, L2.putF, if_neg (fun z => e (inj _ _ z))]
  | [], _ :: _, _, h, _ => by simp at h
  | _ :: _, [], _, h, _ => by simp at h
theorem putF_mem {f : Nat} {d x : D} : ∀ {fs : List Nat} {vs : List D}, x ∈ (putF f d fs vs).2 → x = d ∨ x ∈ vs
  | [], [], h => by simp [putF] at h; exact .inl h
  | [], _ :: _, h => by simp [putF] at h; exact .inl h
  | _ :: _, [], h => by simp [putF] at h; exact .inl h
  | g :: gs, v :: vs, h => by
    rw [putF] at h
    split at h
    · rcases List.mem_cons.mp h with q | q
      · exact .inl q
      · exact .inr (List.mem_cons_of_mem _ q)
    · rcases List.mem_cons.mp h with q | q
      · exact .inr (by rw [q]; exact List.mem_cons_self ..)
      · rcases putF_mem q with z | z
        · exact .inl z
        · exact .inr (List.mem_cons_of_mem _ z)
theorem ps_setfE (F : Facts T G gn X.K X.mg) {b₀ : Nat} (hb : ∀ b ∈ bs, b ≤ b₀) {eo e : Expr} {o v : EF} {f : Nat} {x : Str} {pos p2 : Pos} (ho : PE X eo (tE G gn bs W o)) (he : PE X e (tE G gn bs W v)) (hc : compE e = false) (hx : G.nm f = x) :
    PS X (.Assign [.Attribute eo x p2] e pos) (tSt G gn bs W b₀ (fun _ env S => bndS (v env S) env fun d S1 => bndS (o env S1) env fun x S2 => (match x with
      | .ref n => (match S2[n]? with
        | some (.obj c fs vs) => if T.fld c f = true ∧ fs.length < 100 ∧ (d.pure = true ∨ b₀ ≤ n) then .nx env (S2.set n (.obj c (putF f d fs vs).1 (putF f d fs vs).2)) else .bad
        | _ => .bad)
      | _ => .bad))) :=
  (ps_fld ho he (swap_of hc)).imp fun Z σ H ⟨p, ρ, S, env, st, ce, tb, h0, hp, h⟩ =>
    (Fs.mk st ce tb).seqS hp h fun d S1 ρ1 H1 vv x1 f1 hp1 r1 h1 => f1.seqS hp1 h1 fun x S2 ρ2 H2 xv x2 f2 hp2 r2 h2 => by
      have r1' := r1.mono x2 f1.st.apt
      split at h2
      · rename_i n
        split at h2
        · rename_i c fs vs e2
          split at h2
          · rename_i cc
            cases r2 with | ref ea =>
            rename_i a
            have hco := f2.st.at_ n a _ ea e2
            cases hco with | obj e1 rr l =>
            rename_i dx ws
            obtain ⟨k1, k2⟩ := F.fld _ _ cc.1
            subst hx
            refine ⟨a, _, dx, _, rfl, e1, k1, k2, ?_, ?_⟩
            · rw [List.length_zip, List.length_map]; omega
            · obtain ⟨us, h3, h4⟩ := putF_ok F.nm r1' (f := f) l rr
              rw [← h4]
              have hxx : Nx ρ2 H2 ρ2 (upd H2 a (.ins (G.cl c) dx (((putF f d fs vs).1.map G.nm).zip us))) := .write (List.mem_of_getElem? ea) e1 fun ps q => by cases q
              obtain ⟨s3, x3⟩ := f2.st.write ea e2 (d' := .obj c (putF f d fs vs).1 (putF f d fs vs).2) (o := .ins (G.cl c) dx (((putF f d fs vs).1.map G.nm).zip us)) (.obj upd_same (h3.mono hxx f2.st.apt) (putF_len f d fs vs l).1) fun b hbb hn => by
                rw [D.blw]
                refine blws_mem.mpr fun w hw => ?_
                rcases putF_mem hw with q | q
                · rw [q]; exact blw_of_pure hb cc.2.2 b hbb hn
                · have := f2.st.low b hbb n _ hn e2
                  rw [D.blw] at this
                  exact blws_mem.mp this w q
              exact h2 ρ2 _ σ (x3.nb (by rw [f2.st.len]; exact hp2)) s3 (f2.ce.mono x3 f2.st.apt)
          · exact h2.elim
        · exact h2.elim
      · exact h2.elim
theorem ps_tplE {is : List Nat} {tg e : Expr} {ev : EF} {pos : Pos} (hg : PG X tg (gT X.K (.tp is))) (he : PE X e (tE G gn bs W ev)) (hc : compE e = false) (ht : ∃ es j p, tg = .Tuple es j p) (hn : isTup e = false) :
    PS X (.Assign [tg] e pos) (tSt G gn bs W b₀ (fun _ env S => bndS (ev env S) env fun d S1 => (match setT (.tp is) d env with
      | some env' => .nx env' S1
      | none => .bad))) := by
  obtain ⟨es, j, p, rfl⟩ := ht
  refine (ps_asg he hg (sole_of hc) (by cases e <;> first | rfl | cases hn) (by rfl)).imp fun Z σ H ⟨p, ρ, S, env, st, ce, tb, h0, hp, h⟩ =>
    (Fs.mk st ce tb).seqS hp h fun d S1 ρ1 H1 v x1 f1 hp1 r1 h1 => ?_
  cases et : setT (.tp is) d env with
  | none => rw [et] at h1; exact h1.elim
  | some env' =>
    rw [et] at h1
    have cx : CfX G ρ1 H1 [] env σ := ⟨f1.ce.len, fun i d _ e => f1.ce.at_ i d e⟩
    exact gT_ok et cx (by simp) r1 fun σ' c' _ => h1 ρ1 H1 σ' .refl f1.st c'
/-! ### other statements -/
theorem ps_expE {e : Expr} {ev : EF} {pos : Pos} (he : PE X e (tE G gn bs W ev)) (hc : compE e = false) : PS X (.Expr e pos) (tSt G gn bs W b₀ (fun _ env S => bndS (ev env S) env fun _ S1 => .nx env S1)) :=
  (ps_expr he (swap_of hc)).imp fun Z σ H ⟨p, ρ, S, env, st, ce, tb, h0, hp, h⟩ =>
    (Fs.mk st ce tb).seqS hp h fun d S1 ρ1 H1 v x1 f1 hp1 r1 h1 => h1.nxAt f1
theorem ps_retE {e : Expr} {ev : EF} {pos : Pos} (he : PE X e (tE G gn bs W ev)) : PS X (.Return (some e) pos) (tSt G gn bs W b₀ (fun _ env S => bndS (ev env S) env fun d S1 => .rt d S1)) :=
  (ps_ret he).imp fun Z σ H ⟨p, ρ, S, env, st, ce, tb, h0, hp, h⟩ =>
    (Fs.mk st ce tb).seqS hp h fun d S1 ρ1 H1 v x1 f1 hp1 r1 h1 => h1 ρ1 H1 v .refl f1.st r1
theorem ps_retA {a : Env → Sto → R Nat} {e : Expr} {pos : Pos} (he : PE X e (tA G gn bs W a)) : PS X (.Return (some e) pos) (tSt G gn bs W b₀ (fun _ env S => bndS (a env S) env fun n S1 => .rt (.ref n) S1)) :=
  (ps_ret he).imp fun Z σ H ⟨p, ρ, S, env, st, ce, tb, h0, hp, h⟩ =>
    (Fs.mk st ce tb).seqSA hp h fun d S1 ρ1 H1 v x1 f1 hp1 r1 h1 => h1 ρ1 H1 v .refl f1.st r1
theorem ps_retnE {pos : Pos} : PS X (.Return none pos) (tSt G gn bs W b₀ (fun _ _ S => .rt .non S)) :=
  ps_retN.imp fun Z σ H ⟨p, ρ, S, env, st, ce, tb, h0, hp, h⟩ => h ρ H .non .refl st .non
theorem ps_brkE {pos : Pos} : PS X (.Break pos) (tSt G gn bs W b₀ (fun _ env S => .bk env S)) :=
  ps_break.imp fun Z σ H ⟨p, ρ, S, env, st, ce, tb, h0, hp, h⟩ => h ρ H σ .refl st ce
theorem ps_cntE {pos : Pos} : PS X (.Continue pos) (tSt G gn bs W b₀ (fun _ env S => .ct env S)) :=
  ps_continue.imp fun Z σ H ⟨p, ρ, S, env, st, ce, tb, h0, hp, h⟩ => h ρ H σ .refl st ce
theorem ps_pssE {pos : Pos} : PS X (.Pass pos) (tSt G gn bs W b₀ (fun _ env S => .nx env S)) :=
  ps_pass.imp fun Z σ H ⟨p, ρ, S, env, st, ce, tb, h0, hp, h⟩ => h ρ H σ .refl st ce
theorem ps_badE {st : Stmt} : PS X st (tSt G gn bs W b₀ (fun _ _ _ => .bad)) :=
  ps_never.imp fun Z σ H ⟨p, ρ, S, env, st, ce, tb, h0, hp, h⟩ => h.elim
theorem ps_ifsE {e : Expr} {ss ts : List Stmt} {c : EF} {a b : Nat → Env → Sto → Out} {pos : Pos} (hc : PT X e (tB G gn bs W c)) (ha : PSs X ss (tSt G gn bs W b₀ a)) (hb : PSs X ts (tSt G gn bs W b₀ b)) :
    PS X (.If e ss ts pos) (tSt G gn bs W b₀ (fun p env S => bndS (c env S) env fun v S1 => (match v with
      | .bl true => a p env S1
      | .bl false => b p env S1
      | _ => .bad))) :=
  (ps_if hc ha hb).imp fun Z σ H ⟨p, ρ, S, env, st, ce, tb, h0, hp, h⟩ =>
    (Fs.mk st ce tb).seqSB hp h fun d S1 ρ1 H1 x1 f1 hp1 h1 => by
      split at h1
      · exact ⟨true, rfl, p, ρ1, S1, env, f1.st, f1.ce, f1.tb, h0, hp1, h1⟩
      · exact ⟨false, rfl, p, ρ1, S1, env, f1.st, f1.ce, f1.tb, h0, hp1, h1⟩
      · exact h1.elim
theorem Nb.len_le (x : Nb p ρ H ρ' H') (hp : p ≤ ρ.length) : p ≤ ρ'.length := by
  have := congrArg List.length x.low
  rw [List.length_take, List.length_take] at this
  omega
theorem TabsOk.nb (t : TabsOk G gn H) (x : Nb p ρ H ρ' H') : TabsOk G gn H' := fun P hP => x.tab P (t P hP)
theorem pss_nilE : PSs X [] (tSt G gn bs W b₀ (fun _ env S => .nx env S)) := pss_nil.imp fun Z σ H ⟨p, ρ, S, env, st, ce, tb, h0, hp, h⟩ => h ρ H σ .refl st ce
theorem pss_consE {s : Stmt} {ss : List Stmt} {a b : Nat → Env → Sto → Out} (h1 : PS X s (tSt G gn bs W b₀ a)) (h2 : PSs X ss (tSt G gn bs W b₀ b)) :
    PSs X (s :: ss) (tSt G gn bs W b₀ (fun p env S => (match a p env S with
      | .nx env1 S1 => b p env1 S1
      | o => o))) :=
  (pss_cons h1 h2).imp fun Z σ H ⟨p, ρ, S, env, st, ce, tb, h0, hp, h⟩ => by
    refine ⟨p, ρ, S, env, st, ce, tb, h0, hp, ?_⟩
    dsimp only at h
    cases e : a p env S with
    | nx env1 S1 =>
      rw [e] at h
      exact fun ρ1 H1 σ1 x s c => ⟨p, ρ1, S1, env1, s, c, tb.nb x, h0, by rw [← s.len]; exact x.len_le (by rw [st.len]; exact hp), SatO.mono h x⟩
    | bk env1 S1 => rw [e] at h; exact h
    | ct env1 S1 => rw [e] at h; exact h
    | rt d S1 => rw [e] at h; exact h
    | err c fs vs env1 S1 => rw [e] at h; exact h
    | bad => rw [e] at h; exact h
end
end Ev


set_option maxHeartbeats 200000
set_option Elab.async false
set_option maxRecDepth 100000
set_option maxHeartbeats 2000000
/-! Loops; the check of statements. -/
namespace Ev
open PySem PySem.Spec PyProof.Rows L2

section
variable {T : Tb} {G : Wd} {gn : Gn} {bs : List Nat} {W W' : WX} {k b₀ p : Nat} {X : Cx} {ρ ρ' ρ₁ : List Addr} {S S' : Sto} {H H' H₁ : Hp} {env : Env} {σ : L2.St} {α β : Type} {Z Z' : Ends}
theorem Nb.down {p' : Nat} (x : Nb p' ρ H ρ' H') (h : p ≤ p') : Nb p ρ H ρ' H' where
  low := by
    have := congrArg (List.take p) x.low
    rw [List.take_take, List.take_take, Nat.min_eq_left h] at this
    exact this
  new := fun a ha => by
    have e : ρ'.drop p = ((ρ.take p').drop p) ++ ρ'.drop (max p p') := by
      rw [← x.low]
      conv => lhs; rw [← List.take_append_drop p' ρ']
      rw [List.drop_append, Nat.max_eq_right h]
      congr 1
      by_cases hl : p' ≤ ρ'.length
      · rw [List.length_take, Nat.min_eq_left hl, Nat.sub_eq_zero_of_le h, List.drop_zero]
      · rw [List.drop_eq_nil_of_le (show ρ'.length ≤ p' by omega)]
        simp
    rw [e] at ha
    rcases List.mem_append.mp ha with q | q
    · left
      rw [← List.take_append_drop p' ρ, List.drop_append]
      exact List.mem_append_left _ q
    · rw [Nat.max_eq_right h] at q
      rcases x.new a q with q | q
      · left
        have : p' = p + (p' - p) := by omega
        rw [this, ← List.drop_drop] at q
        exact List.mem_of_mem_drop q
      · exact .inr q
  keep := x.keep
  dom := x.dom
  tab := x.tab
theorem Nb.nx (x : Nb p ρ H ρ' H') (h : p = ρ.length) : Nx ρ H ρ' H' := by
  subst h
  refine ⟨⟨ρ'.drop ρ.length, ?_, fun a ha => ?_⟩, x.keep, x.dom, x.tab⟩
  · have e : ρ'.take ρ.length = ρ := by rw [x.low, List.take_length]
    conv => lhs; rw [← List.take_append_drop ρ.length ρ']
    rw [e]
  · rcases x.new a ha with q | q
    · rw [List.drop_length] at q; cases q
    · exact q
theorem SatO.up {p' : Nat} {o : Out} (h : SatO G bs W p ρ H o Z) (hp : p ≤ p') : SatO G bs W p' ρ H o Z := by
  cases o with
  | nx env S => exact fun ρ2 H2 σ' y => h ρ2 H2 σ' (y.down hp)
  | bk env S => exact fun ρ2 H2 σ' y => h ρ2 H2 σ' (y.down hp)
  | ct env S => exact fun ρ2 H2 σ' y => h ρ2 H2 σ' (y.down hp)
  | rt d S => exact fun ρ2 H2 v y => h ρ2 H2 v (y.down hp)
  | err c fs vs env S => exact fun ρ2 H2 σ' dd ws y => h ρ2 H2 σ' dd ws (y.down hp)
  | bad => exact h
/-- a turn's end -/
theorem SatO.turn {o : Out} {g : Env → Sto → Out} (h : SatO G bs W p ρ H (match o with
      | .nx e S => g e S
      | .ct e S => g e S
      | .bk e S => .nx e S
      | .rt d S => .rt d S
      | .err c fs vs e S => .err c fs vs e S
      | .bad => .bad) Z) (tb : TabsOk G gn H) (hp : p ≤ ρ.length) {N : L2.St → Hp → Prop} {p' : Nat} (hpp : p ≤ p')
    (hN : ∀ ρ' S' env' σ' H', Nb p' ρ H ρ' H' → Fs G gn bs ρ' S' H' env' σ' → p ≤ S'.length → SatO G bs W p ρ' H' (g env' S') Z → N σ' H') : SatO G bs W p' ρ H o { Z with nx := N, ct := N, bk := Z.nx } := by
  cases o with
  | nx env S => exact fun ρ2 H2 σ' y s c => hN ρ2 S env σ' H2 y ⟨s, c, tb.nb y⟩ (by rw [← s.len]; exact (y.down hpp).len_le hp) (SatO.mono h (y.down hpp))
  | ct env S => exact fun ρ2 H2 σ' y s c => hN ρ2 S env σ' H2 y ⟨s, c, tb.nb y⟩ (by rw [← s.len]; exact (y.down hpp).len_le hp) (SatO.mono h (y.down hpp))
  | bk env S => exact fun ρ2 H2 σ' y s c => h ρ2 H2 σ' (y.down hpp) s c
  | rt d S => exact fun ρ2 H2 v y s r => h ρ2 H2 v (y.down hpp) s r
  | err c fs vs env S => exact fun ρ2 H2 σ' dd ws y => h ρ2 H2 σ' dd ws (y.down hpp)
  | bad => exact h
theorem ps_whlE (ow : PassesOwn (model X.prog X.w) X.A X.env X.xe) {e : Expr} {ss : List Stmt} {c : EF} {b : Nat → Env → Sto → Out} {n : Nat} {pos : Pos} (hc : PT X e (tB G gn bs W c)) (hb : PSs X ss (tSt G gn bs W b₀ b)) :
    PS X (.While e ss [] pos) (tSt G gn bs W b₀ (fun p env S => whlL c (b p) n env S)) :=
  (ps_while ow hc hb).imp fun Z σ H ⟨p, ρ, S, env, st, ce, tb, h0, hp, h⟩ => by
    refine ⟨fun m σ H => ∃ ρ S env, Fs G gn bs ρ S H env σ ∧ p ≤ S.length ∧ SatO G bs W p ρ H (whlL c (b p) m env S) Z, ⟨n, ρ, S, env, ⟨st, ce, tb⟩, hp, h⟩, ?_⟩
    intro m σ H ⟨ρ, S, env, f, hp, h⟩
    cases m with
    | zero => exact h.elim
    | succ m =>
      rw [whlL] at h
      refine f.seqSB hp h fun d S1 ρ1 H1 x1 f1 hp1 h1 => ?_
      split at h1
      · refine ⟨true, rfl, ?_⟩
        show ∃ N : L2.St → Hp → Prop, _
        refine ⟨fun σ' H' => ∃ m', m' < m + 1 ∧ ∃ ρ S env, Fs G gn bs ρ S H' env σ' ∧ p ≤ S.length ∧ SatO G bs W p ρ H' (whlL c (b p) m' env S) Z, fun σ' H' z => z, ?_⟩
        exact ⟨p, ρ1, S1, env, f1.st, f1.ce, f1.tb, h0, hp1, SatO.turn (g := whlL c (b p) m) h1 f1.tb (by rw [f1.st.len]; exact hp1) (Nat.le_refl _) fun ρ' S' env' σ' H' x' f' hp' h' => ⟨m, Nat.lt_succ_self _, ρ', S', env', f', hp', h'⟩⟩
      · exact ⟨false, rfl, h1.nxAt f1⟩
      · exact h1.elim
theorem ps_forE (ow : PassesOwn (model X.prog X.w) X.A X.env X.xe) (hcm : X.calm = true) {tg e : Expr} {ss : List Stmt} {ei : Env → Sto → R (List D × Option Nat)} {b : Nat → Env → Sto → Out} {t : Tg} {pos : Pos} (hi : PI X tg e (tI G gn bs W ei)) (hg : PG X tg (gT X.K t)) (hb : PSs X ss (tSt G gn bs W b₀ b)) (hpl : plainE e = true) :
    PS X (.For tg e ss [] pos) (tSt G gn bs W b₀ (fun _ env S => bndS (ei env S) env fun q S1 => forL q.2 q.1 t (b S1.length) q.1 env S1)) :=
  (ps_for ow hcm hi hg hb (fun _ => fold_of hpl)).imp fun Z σ H ⟨p, ρ, S, env, st, ce, tb, h0, hp, h⟩ => by
    have f0 : Fs G gn bs ρ S H env σ := ⟨st, ce, tb⟩
    refine ⟨ρ, S, env, st, ce, tb, (f0.bndS hp h).imp fun q S1 ρ1 H1 x1 s1 h1' hst J hJ => ?_⟩
    have f1 : Fs G gn bs ρ1 S1 H1 env σ := f0.next x1 s1
    have hp1 : p ≤ S1.length := by rw [← s1.len]; exact x1.len_le (by rw [st.len]; exact hp)
    refine ⟨fun i m σ H => m = q.1.length - i ∧ i ≤ q.1.length ∧ ∃ ρ S env, Nx ρ1 H1 ρ H ∧ Fs G gn bs ρ S H env σ ∧ still q.2 q.1 S = true ∧ SatO G bs W p ρ H (forL q.2 q.1 t (b S1.length) (q.1.drop i) env S) Z,
      ⟨_, rfl, Nat.zero_le _, ρ1, S1, env, .refl, f1, hst, h1'⟩, ?_⟩
    intro i m σ H ⟨hm, hi, ρ, S, env, x, f, hs, h⟩
    have jt := hJ ρ S H x f.st hs i
    have hpS : p ≤ S.length := by rw [← f.st.len]; exact x.len_le (by rw [f1.st.len]; exact hp1)
    have hqS : S1.length ≤ S.length := by rw [← f.st.len]; exact x.len_le (by rw [f1.st.len]; exact Nat.le_refl _)
    by_cases hlt : i < q.1.length
    · right
      refine ⟨jt.1 hlt, fun σ' H' => ∃ m', m' < m ∧ (m' = q.1.length - (i + 1) ∧ i + 1 ≤ q.1.length ∧ ∃ ρ S env, Nx ρ1 H1 ρ H' ∧ Fs G gn bs ρ S H' env σ' ∧ still q.2 q.1 S = true ∧ SatO G bs W p ρ H' (forL q.2 q.1 t (b S1.length) (q.1.drop (i + 1)) env S) Z), fun σ' H' z => z, fun y H' hy => ?_⟩
      obtain ⟨d, ed, x3, s3, rd⟩ := jt.2.2 y H' hlt hy
      have hd : q.1.drop i = d :: q.1.drop (i + 1) := by
        rw [← List.getElem_cons_drop hlt]
        congr 1
        rw [List.getElem?_eq_getElem hlt] at ed
        exact Option.some.inj ed
      rw [hd] at h
      have h' := SatO.mono h (x3.nb (b := p) (by rw [f.st.len]; exact hpS))
      rw [forL] at h'
      have f3 : Fs G gn bs ρ S H' env σ := f.next x3 s3
      cases et : setT t d env with
      | none => rw [et] at h'; exact h'.elim
      | some env' =>
        rw [et] at h'
        dsimp only at h'
        have cx : CfX G ρ H' [] env σ := ⟨f3.ce.len, fun i d _ e => f3.ce.at_ i d e⟩
        refine gT_ok et cx (by simp) rd ?_
        intro σ' ce' hw
        refine ⟨S1.length, ρ, S, env', s3, ce', f3.tb, Nat.le_trans h0 hp1, hqS, ?_⟩
        refine SatO.turn (g := fun env2 S2 => if still q.2 q.1 S2 = true then forL q.2 q.1 t (b S1.length) (q.1.drop (i + 1)) env2 S2 else .bad) h' f3.tb (by rw [f3.st.len]; exact hpS) hp1 fun ρ'' S'' env'' σ'' H'' x'' f'' hp'' h'' => ?_
        split at h''
        · rename_i hst''
          refine ⟨_, by omega, rfl, hlt, ρ'', S'', env'', ?_, f'', hst'', h''⟩
          exact ((((x.trans x3).nb (b := S1.length) (by rw [f1.st.len]; exact Nat.le_refl _)).trans x'').nx (by rw [f1.st.len]))
        · exact h''.elim
    · left
      refine ⟨jt.2.1 (by omega), ?_⟩
      have hil : i = q.1.length := by omega
      rw [hil, List.drop_length, forL] at h
      exact h.nxAt f
/-! ### a cell is closed -/
theorem envB_at {n : Nat} : ∀ {i : Nat} {env : Env} {j : Nat} {d : D}, envB n i env = true → j ≠ i → env[j]? = some (some d) → d.blw n = true
  | _, [], _, _, _, _, e => by simp at e
  | 0, _ :: r, 0, _, _, hj, _ => absurd rfl hj
  | 0, _ :: r, j + 1, d, h, _, e => by
    have h : r.all (oB n) = true := h
    exact List.all_eq_true.mp h (some d) (List.mem_of_getElem? (i := j) (by simpa using e))
  | i + 1, o :: r, 0, d, h, _, e => by
    have h : (oB n o && envB n i r) = true := h
    rw [Bool.and_eq_true] at h
    simp at e
    subst e
    exact h.1
  | i + 1, o :: r, j + 1, d, h, hj, e => by
    have h : (oB n o && envB n i r) = true := h
    rw [Bool.and_eq_true] at h
    exact envB_at h.2 (fun z => hj (congrArg Nat.succ z)) (by simpa using e)
theorem pss_sealE (hb : ∀ b ∈ bs, b ≤ b₀) {i : Nat} {ss : List Stmt} {r : Nat → Env → Sto → Out} (h : PSs X ss (tSt G gn bs W b₀ r)) :
    PSs X ss (tSt G gn bs W b₀ (fun p env S => (match (match env[i]?, S.getLast? with
      | some (some (.ref n)), some (.lst xs) => if n + 1 = S.length ∧ p ≤ n ∧ envB n i env = true ∧ D.blws n S = true then Out.nx (env.set i (some (.lst xs))) S.dropLast else .bad
      | _, _ => .bad) with
      | .nx env1 S1 => r p env1 S1
      | o => o))) :=
  h.imp fun Z σ H ⟨p, ρ, S, env, st, ce, tb, h0, hp, h⟩ => by
    dsimp only at h
    cases e1 : env[i]? with
    | none => rw [e1] at h; exact h.elim
    | some o =>
      cases o with
      | none => rw [e1] at h; exact h.elim
      | some d =>
        cases d with
        | ref n =>
          cases e2 : S.getLast? with
          | none => rw [e1, e2] at h; exact h.elim
          | some d =>
            cases d with
            | lst xs =>
              rw [e1, e2] at h
              dsimp only at h
              by_cases c : n + 1 = S.length ∧ p ≤ n ∧ envB n i env = true ∧ D.blws n S = true
              · rw [if_pos c] at h
                dsimp only at h
                obtain ⟨c1, c2, c3, c4⟩ := c
                have hdl : S.dropLast = S.take n := by rw [List.dropLast_eq_take]; congr 1; omega
                have en : S[n]? = some (.lst xs) := by
                  rw [List.getLast?_eq_getElem?] at e2
                  rw [← e2]; congr 1; omega
                have hm := blws_mem.mp c4
                have s2 := st.cut (n := n) (fun j d _ e => hm d (List.mem_of_getElem? e)) (fun b hbb => by have := hb b hbb; omega) (by omega)
                obtain ⟨v, ev, rv⟩ := ce.at_ i _ e1
                obtain ⟨a, vs, rfl, ea, eh, rr⟩ := st.lstAt rv en
                have bx : D.blws n xs = true := by
                  have := hm _ (List.mem_of_getElem? en)
                  rw [D.blw] at this
                  exact this
                have na : a ∉ ρ.take n := fun q => by
                  obtain ⟨j, hj⟩ := List.getElem?_of_mem q
                  have hj2 := (List.getElem?_eq_some_iff.mp hj).1
                  rw [List.length_take] at hj2
                  rw [List.getElem?_take_of_lt (by omega)] at hj
                  obtain ⟨h1', q1⟩ := List.getElem?_eq_some_iff.mp hj
                  obtain ⟨h2', q2⟩ := List.getElem?_eq_some_iff.mp ea
                  have := (List.getElem_inj st.nd).mp (q1.trans q2.symm)
                  omega
                have rl : Rp G (ρ.take n) H (.lst xs) (.ref a) := .lst eh na (fun q => (st.out a q).2 (List.mem_of_getElem? ea)) (rr.cutB bx)
                have nb : Nb p ρ H (ρ.take n) H := ⟨by rw [List.take_take, Nat.min_eq_left c2], fun q hq => .inl (by
                  rw [List.drop_take] at hq
                  exact List.mem_of_mem_take hq), fun _ _ e _ _ => e, fun _ e => e, fun _ t => t⟩
                refine ⟨p, ρ.take n, S.take n, env.set i (some (.lst xs)), s2, ⟨by rw [List.length_set]; exact ce.len, fun j d e => ?_⟩, tb, h0, by rw [List.length_take]; omega, ?_⟩
                · by_cases hj : j = i
                  · subst hj
                    rw [List.getElem?_set_self (List.getElem?_eq_some_iff.mp e1).1] at e
                    cases e
                    exact ⟨_, ev, rl⟩
                  · rw [List.getElem?_set_ne (Ne.symm hj)] at e
                    obtain ⟨w, h1, h2⟩ := ce.at_ j d e
                    exact ⟨w, h1, h2.cut (envB_at c3 hj e)⟩
                · rw [← hdl]
                  exact SatO.mono h nb
              · rw [if_neg c] at h; exact h.elim
            | _ => rw [e1, e2] at h; exact h.elim
        | _ => rw [e1] at h; exact h.elim
end
end Ev


set_option maxHeartbeats 200000
set_option Elab.async false
set_option maxRecDepth 100000
set_option maxHeartbeats 2000000
/-! Exceptions: raise, try. -/
namespace Ev
open PySem PySem.Spec PyProof.Rows L2
section
variable {T : Tb} {G : Wd} {gn : Gn} {bs : List Nat} {W W' : WX} {k b₀ p : Nat} {X : Cx} {ρ ρ' : List Addr} {S S' : Sto} {H H' : Hp} {env : Env} {σ : L2.St}
/-- what such an __init__ does -/
def spI (C : Addr) (f : Str) : Sp := fun vs H Q _ => ∃ a y, vs = [.ref a, y] ∧ H a = some (exo a C none) ∧ ∀ dx, H dx = none → dx ≠ a → Q .non (upd (upd H dx (exd dx [(f, y)])) a (exo a C (some dx)))
theorem iniX_ok {P : Program} {w : World} {K : PySem.W.Frag} {mg : Str → Option Value} {base : Heap} {CX : CXT} {C fI : Addr} {f : Str} (o : OexC K C) (no : PySem.W.findIn K (.ref C) f = some none) (I : IniX K f fI) :
    ∃ fd ps, FnOk P w K mg base CX (0 + 1) fI fd ps (spI C f) ∧ Binds K fd ps [] := by
  obtain ⟨qual, sf, x, params, scope, fd, p1, p2, p3, p4, F, S, B, v1, v2, d1, d2, d3, d4⟩ := I.ex
  refine ⟨fd, [sf, x], FunD.ok F S (fun vs H Q E ⟨a, y, e, _⟩ => by rw [e]; rfl) fun cdv A outer s H vs Q E hr ⟨a, y, e, ea, hq⟩ => ⟨_, pss_one (ps_ost (pe_var (X := cxOf CX P w K mg base [sf, x] qual scope fI cdv A outer s H E) (i := 0) rfl v1 d1 d2) (pe_var (X := cxOf CX P w K mg base [sf, x] qual scope fI cdv A outer s H E) (i := 1) rfl v2 d3 d4)), ?_⟩, B⟩
  subst e
  exact ⟨y, rfl, .ref a, rfl, a, C, rfl, o, no, .inl ⟨ea, fun dx h1 h2 => hq dx h1 h2⟩⟩
theorem ps_raisE (C : XC T G gn k X W) {c f : Nat} (hf : T.exc c = some f) {x : Str} (hx : gn.xnm c = some x) {np cp pos : Pos} {e : Expr} {ev : EF} (hg : Gl X x) (hdb : (x == ("__debug__" : Str)) = false) (he : PE X e (tE G gn bs W ev)) (hp : plainE e = true) :
    PS X (.Raise (some (.Call (.Name x np) [e] [] cp)) none pos) (tSt G gn bs W b₀ (fun _ env S => bndS (ev env S) env fun d S1 => .err c [f] [d] env S1)) := by
  have xc := C.XF.exc c f hf
  obtain ⟨fI, i1, i2, i3⟩ := xc.ini
  obtain ⟨fd, ps, F1, hb⟩ := iniX_ok (P := X.prog) (w := X.w) (mg := X.mg) (base := X.base) (CX := L2.CX X.prog X.w) xc.o xc.no i3
  refine (ps_raise C.calm C.tk (pmk_oex xc.o i1 i2 F1 (C.room.mono (by omega)) hb .nil (fun pins σ H s e s' I c => no_pass (σ := σ) pins H s e s' I c) hg (C.XF.xnm c x hx) (pa_cons he pa_nil (star_of hp)) hdb (star_of hp) (by rfl))).imp fun Z σ H ⟨p, ρ, S, env, st, ce, tb, h0, hp, h⟩ => ?_
  refine (Fs.mk st ce tb).seqS (Q := fun v H1 => _) hp h fun d S1 ρ1 H1 v x1 f1 hp1 r1 h1 => ?_
  refine ⟨by simp, fun a ha => ⟨a, v, rfl, upd_same, fun dx hdx hne => ⟨rfl, dx, [(G.nm f, v)], upd_same, (upd_ne hne).trans upd_same, ?_, ?_⟩⟩⟩
  · have : upd H1 a (exo a (G.cl c) none) dx = none := hdx
    rwa [upd_ne hne] at this
  · have hdx1 : H1 dx = none := by
      have : upd H1 a (exo a (G.cl c) none) dx = none := hdx
      rwa [upd_ne hne] at this
    have e1 : upd (del (upd (upd (upd H1 a (exo a (G.cl c) none)) dx (exd dx [(G.nm f, v)])) a (exo a (G.cl c) (some dx))) a) dx (.xd [(G.nm f, v)]) = upd H1 dx (.xd [(G.nm f, v)]) := by
      funext b
      by_cases h1 : b = dx
      · subst h1; rw [upd_same, upd_same]
      · rw [upd_ne h1, upd_ne h1]
        by_cases h2 : b = a
        · subst h2; rw [del_same, ha]
        · rw [del_ne h2, upd_ne h2, upd_ne h1, upd_ne h2]
    rw [e1]
    have hl : p ≤ ρ1.length := by rw [f1.st.len]; exact hp1
    have x2 : Nx ρ1 H1 ρ1 (upd H1 dx (.xd [(G.nm f, v)])) := Nx.new hdx1
    exact h1 ρ1 _ σ dx [v] (x2.nb hl) (f1.st.new hdx1) (f1.ce.mono x2 f1.st.apt) upd_same (f1.st.fr hdx1).1 (.cons (r1.mono x2 f1.st.apt) .nil)
end
/-! ### try -/
mutual
/-- an except suite's value -/
def chkHE (T : Tb) (gn : Gn) (i : Nat) (n : Str) (c : Nat) : E → Expr → Bool
  | .int k => fun e => (match e with
    | .Constant (.int j) _ _ => k == j
    | _ => false)
  | .bl b => fun e => (match e with
    | .Constant (.bool j) _ _ => b == j
    | _ => false)
  | .non => fun e => (match e with
    | .Constant .none _ _ => true
    | _ => false)
  | .str x => fun e => (match e with
    | .Constant (.str y) _ _ => x == y
    | _ => false)
  | .fld a f => fun e => (match e with
    | .Attribute (.Name y _) g _ => y == n && gn.nm f == g && decide (T.exc c = some f) && (match a with
      | .loc j => j == i
      | _ => false)
    | _ => false)
  | .tup es => fun e => (match e with
    | .Tuple fs _ _ => chkHEs T gn i n c es fs && decide (fs.length ≤ 1000)
    | _ => false)
  | _ => fun _ => false
def chkHEs (T : Tb) (gn : Gn) (i : Nat) (n : Str) (c : Nat) : Es → List Expr → Bool
  | .nil => fun es => es.isEmpty
  | .cons e r => fun es => (match es with
    | f :: fs => chkHE T gn i n c e f && plainE f && chkHEs T gn i n c r fs
    | [] => false)
end
section
variable {T : Tb} {G : Wd} {gn : Gn} {bs : List Nat} {W W' : WX} {k b₀ p : Nat} {X : Cx} {ρ ρ' : List Addr} {S S' : Sto} {H H' : Hp} {env : Env} {σ : L2.St}
structure Hv (G : Wd) (bs : List Nat) (i : Nat) (a dd : Addr) (fs : List Nat) (vs : List D) (ρ : List Addr) (S : Sto) (σ : L2.St) (H : Hp) : Prop where
  st : StOk G bs ρ S H
  sl : σ[i]? = some (some (.ref a))
  xd : ∃ ws, H dd = some (.xd ((fs.map G.nm).zip ws)) ∧ Rps G ρ H vs ws
  no : dd ∉ ρ
theorem Hv.next {i : Nat} {a dd : Addr} {fs : List Nat} {vs : List D} (h : Hv G bs i a dd fs vs ρ S σ H) (x : Nx ρ H ρ H') (s : StOk G bs ρ S H') : Hv G bs i a dd fs vs ρ S σ H' :=
  ⟨s, h.sl, let ⟨ws, e, r⟩ := h.xd; ⟨ws, x.keep _ _ e h.no (fun ps q => by cases q), r.mono x h.st.apt⟩, h.no⟩
def tH (G : Wd) (bs : List Nat) (i : Nat) (a dd : Addr) (fs : List Nat) (vs : List D) (o : Option D) : TE := fun σ H Q => ∃ ρ S, Hv G bs i a dd fs vs ρ S σ H ∧ ∃ d, o = some d ∧ ∀ H' v, Nx ρ H ρ H' → StOk G bs ρ S H' → Rp G ρ H' d v → Q v H'
def tHs (G : Wd) (bs : List Nat) (i : Nat) (a dd : Addr) (fs : List Nat) (vs : List D) (o : Option (List D)) : TA := fun σ H Q => ∃ ρ S, Hv G bs i a dd fs vs ρ S σ H ∧ ∃ ds, o = some ds ∧ ∀ H' us, Nx ρ H ρ H' → StOk G bs ρ S H' → Rps G ρ H' ds us → Q us H'
variable {i : Nat} {n : Str} {c : Nat} {a dd : Addr} {oe : Obj} {pn : List (Addr × Obj)} {fs : List Nat} {vs : List D}
mutual
theorem pe_hv (F : Facts T G gn X.K X.mg) (XF : XFacts T G gn X.K X.mg) (hi : X.N[i]? = some n) (hv : Vis X.env.scope n) (d1 : (n == ("__debug__" : Str)) = false) (d2 : (n == ("__classdict__" : Str)) = false) (hz : Zc (.ref (G.cl c)) (some dd) oe) (hf : ∃ vs, oe.data = .fields vs) :
    ∀ (e : E) {ex : Expr}, chkHE T gn i n c e ex = true → PE (X.suite a ((a, oe) :: pn)) ex (tH G bs i a dd fs vs (hvE i fs vs e))
  | .int k, ex, h => by
    simp only [chkHE] at h
    split at h
    · rw [beq_iff_eq] at h; subst h
      exact pe_int.imp fun σ H Q ⟨ρ, S, z, d, e, q⟩ => by
        rw [hvE] at e; cases e
        exact q H _ .refl z.st (.int k)
    · cases h
  | .bl b, ex, h => by
    simp only [chkHE] at h
    split at h
    · rw [beq_iff_eq] at h; subst h
      exact pe_bl.imp fun σ H Q ⟨ρ, S, z, d, e, q⟩ => by
        rw [hvE] at e; cases e
        exact q H _ .refl z.st (.bl b)
    · cases h
  | .non, ex, h => by
    simp only [chkHE] at h
    split at h
    · exact pe_non.imp fun σ H Q ⟨ρ, S, z, d, e, q⟩ => by
        rw [hvE] at e; cases e
        exact q H _ .refl z.st .non
    · cases h
  | .str x, ex, h => by
    simp only [chkHE] at h
    split at h
    · rw [beq_iff_eq] at h; subst h
      exact pe_str.imp fun σ H Q ⟨ρ, S, z, d, e, q⟩ => by
        rw [hvE] at e; cases e
        exact q H _ .refl z.st (.str x)
    · cases h
  | .fld b f, ex, h => by
    simp only [chkHE] at h
    split at h
    · simp only [Bool.and_eq_true, beq_iff_eq, decide_eq_true_eq] at h
      obtain ⟨⟨⟨h1, h2⟩, h3⟩, h4⟩ := h
      subst h1
      have xc := XF.exc c f h3
      have hno : PySem.W.findIn X.K (.ref (G.cl c)) (gn.nm f) = some none := by rw [← F.nmE]; exact xc.no
      rw [← h2]
      refine (pe_xf xc.x hno hz hf (pe_var (X := X.suite a ((a, oe) :: pn)) hi hv d1 d2) (by rfl)).imp fun σ H Q ⟨ρ, S, z, d, e, q⟩ => ?_
      obtain ⟨ws, e1, r⟩ := z.xd
      cases b with
      | loc j =>
        simp only [beq_iff_eq] at h4
        subst h4
        simp only [hvE, if_true] at e
        obtain ⟨v, l, rv⟩ := lookF_ok F.nm e r
        rw [F.nmE] at l
        exact ⟨_, z.sl, rfl, rfl, dd, _, v, rfl, e1, l, q H v .refl z.st rv⟩
      | _ => cases h4
    · cases h
  | .tup es, ex, h => by
    simp only [chkHE] at h
    split at h
    · simp only [Bool.and_eq_true, decide_eq_true_eq] at h
      have hs := pa_hv F XF hi hv d1 d2 hz hf es h.1
      refine (pe_tup hs.1).imp fun σ H Q ⟨ρ, S, z, d, e, q⟩ => ?_
      simp only [hvE] at e
      cases eo : hvEs i fs vs es with
      | none => rw [eo] at e; cases e
      | some ds =>
        rw [eo] at e
        cases e
        refine ⟨ρ, S, z, ds, rfl, fun H' us x s r => ⟨?_, fun p hp => ?_⟩⟩
        · have l1 := r.length
          have l2 := hs.2 _ eo
          rw [← l1, l2, sizeLine_eq]
          omega
        · exact q _ _ (x.trans (Nx.new hp)) (s.new hp) (s.newTup hp r)
    · cases h
  | .loc _, ex, h => by simp [chkHE] at h
  | .kint _ _, ex, h => by simp [chkHE] at h
  | .fnv _, ex, h => by simp [chkHE] at h
  | .bin _ _ _, ex, h => by simp [chkHE] at h
  | .neg _, ex, h => by simp [chkHE] at h
  | .cmp _ _ _, ex, h => by simp [chkHE] at h
  | .chn _ _ _ _ _, ex, h => by simp [chkHE] at h
  | .isn _, ex, h => by simp [chkHE] at h
  | .nisn _, ex, h => by simp [chkHE] at h
  | .isb _ _, ex, h => by simp [chkHE] at h
  | .and _ _, ex, h => by simp [chkHE] at h
  | .or _ _, ex, h => by simp [chkHE] at h
  | .not _, ex, h => by simp [chkHE] at h
  | .ife _ _ _, ex, h => by simp [chkHE] at h
  | .frz _, ex, h => by simp [chkHE] at h
  | .sub _ _, ex, h => by simp [chkHE] at h
  | .slc _ _ _, ex, h => by simp [chkHE] at h
  | .call _ _, ex, h => by simp [chkHE] at h
  | .mk _ _, ex, h => by simp [chkHE] at h
  | .mkl _ _ _, ex, h => by simp [chkHE] at h
  | .mth _ _ _, ex, h => by simp [chkHE] at h
  | .cmt _ _ _, ex, h => by simp [chkHE] at h
  | .bi _ _, ex, h => by simp [chkHE] at h
  | .maxd _ _, ex, h => by simp [chkHE] at h
  | .ist _ _, ex, h => by simp [chkHE] at h
  | .gen _ _ _ _ _, ex, h => by simp [chkHE] at h
  | .app _ _, ex, h => by simp [chkHE] at h
  | .pop _, ex, h => by simp [chkHE] at h
  | .popi _ _, ex, h => by simp [chkHE] at h
theorem pa_hv (F : Facts T G gn X.K X.mg) (XF : XFacts T G gn X.K X.mg) (hi : X.N[i]? = some n) (hv : Vis X.env.scope n) (d1 : (n == ("__debug__" : Str)) = false) (d2 : (n == ("__classdict__" : Str)) = false) (hz : Zc (.ref (G.cl c)) (some dd) oe) (hf : ∃ vs, oe.data = .fields vs) :
    ∀ (es : Es) {ex : List Expr}, chkHEs T gn i n c es ex = true → PA (X.suite a ((a, oe) :: pn)) ex (tHs G bs i a dd fs vs (hvEs i fs vs es)) ∧ ∀ ds, hvEs i fs vs es = some ds → ds.length = ex.length
  | .nil, ex, h => by
    simp only [chkHEs] at h
    rw [List.isEmpty_iff.mp h]
    refine ⟨?_, fun ds e => by rw [hvEs] at e; cases e; rfl⟩
    exact pa_nil.imp fun σ H Q ⟨ρ, S, z, d, e, q⟩ => by
      rw [hvEs] at e; cases e
      exact q H _ .refl z.st .nil
  | .cons e r, ex, h => by
    simp only [chkHEs] at h
    split at h
    · rename_i f fs'
      simp only [Bool.and_eq_true] at h
      have h1 := pe_hv F XF hi hv d1 d2 hz hf e h.1.1
      have h2 := pa_hv F XF hi hv d1 d2 hz hf r h.2
      refine ⟨?_, fun ds e1 => ?_⟩
      · refine (pa_cons h1 h2.1 (star_of h.1.2)).imp fun σ H Q ⟨ρ, S, z, d, e1, q⟩ => ?_
        rw [hvEs] at e1
        cases a1 : hvE i fs vs e with
        | none => rw [a1] at e1; simp at e1
        | some d0 =>
          cases a2 : hvEs i fs vs r with
          | none => rw [a1, a2] at e1; simp at e1
          | some ds =>
            rw [a1, a2] at e1
            simp only [Option.some.injEq] at e1
            subst e1
            refine ⟨ρ, S, z, d0, rfl, fun H' v x s r1 => ⟨ρ, S, z.next x s, ds, rfl, fun H'' us x' s' r' => ?_⟩⟩
            exact q H'' (v :: us) (x.trans x') s' (.cons (r1.mono x' s.apt) r')
      · rw [hvEs] at e1
        cases a1 : hvE i fs vs e with
        | none => rw [a1] at e1; simp at e1
        | some d0 =>
          cases a2 : hvEs i fs vs r with
          | none => rw [a1, a2] at e1; simp at e1
          | some ds' =>
            rw [a1, a2] at e1
            simp only [Option.some.injEq] at e1
            subst e1
            rw [List.length_cons, h2.2 _ a2]
            rfl
    · cases h
end
/-- the frame on top -/
structure Sk (X : Cx) : Prop where
  top : X.stack = X.env :: X.outer
  fr : X.env.frame = some X.env.locals
theorem ps_tryE (sk : Sk X) (C : XC T G gn k X W) {f : Nat} (hc : T.exc c = some f) {x : Str} (hx : gn.xnm c = some x) (hg : Gl X x) (hdb : (x == ("__debug__" : Str)) = false) (hi : X.N[i]? = some n) (hln : X.env.kindOf n = some .local) (d1 : (n == ("__debug__" : Str)) = false) (d2 : (n == ("__classdict__" : Str)) = false)
    {np pos pos' rp : Pos} {body : List Stmt} {r : Nat → Env → Sto → Out} {e : E} {ex : Expr}
    (hb : ∀ (W' : WX) (pn : List (Addr × Obj)) (xe : Value → Shared → Prop), Takes (X.tr pn xe) W' → PassesOwn (model X.prog X.w) X.A X.env xe → PSs (X.tr pn xe) body (tSt G gn bs W' b₀ r)) (he : chkHE T gn i n c e ex = true) :
    PS X (.Try body [.ExceptHandler (some (.Name x np)) (some n) [.Return (some ex) rp] pos'] [] [] pos) (tSt G gn bs W b₀ (fun p env S => (match r p env S with
      | .err c' fs vs env1 S1 => if (T.exc c).isSome = true ∧ (T.exc c').isSome = true ∧ i < env1.length then (if c' = c then (match hvS i fs vs (.cons (.ret e) .nil) with
        | some d => .rt d S1
        | none => .bad) else .err c' fs vs env1 S1) else .bad
      | o => o))) := by
  have hv : Vis X.env.scope n := .inl hln
  refine (ps_try_as (ts := fun a cls d => fun D σ H => ∃ dd fs vs, d = some dd ∧ cls = .ref (G.cl c) ∧ tH G bs i a dd fs vs (hvE i fs vs e) σ H D.rt) sk.top sk.fr C.nd hi hln ⟨hg, hdb, .inl (C.XF.xnm c x hx)⟩ C.tk hb fun a oe cls d pn hz hf => ?_).imp fun Z σ H ⟨p, ρ, S, env, st, ce, tb, h0, hp, h⟩ => ?_
  · refine ⟨fun pins s σ H D I ⟨dd, fs, vs, e1, e2, q⟩ => ?_⟩
    subst e1 e2
    exact (pss_one (ps_ret (pe_hv (bs := bs) (fs := fs) (vs := vs) C.F C.XF hi hv d1 d2 hz hf e he))).run pins s σ H D I q
  · refine ⟨p, ρ, S, env, st, ce, tb, h0, hp, ?_⟩
    dsimp only at h
    cases eo : r p env S with
    | nx _ _ => rw [eo] at h; exact h
    | rt _ _ => rw [eo] at h; exact h
    | bk _ _ => rw [eo] at h; exact h
    | ct _ _ => rw [eo] at h; exact h
    | bad => rw [eo] at h; exact h
    | err c' fs vs env1 S1 =>
      rw [eo] at h
      dsimp only at h
      split at h
      · rename_i hh
        intro ρ' H' σ' dd ws x1 s1 cc hdd hno rr
        refine ⟨decide (c' = c), C.XF.exm c c' hh.1 hh.2.1, fun hbt a ha => ?_, fun hbf => ?_⟩
        · have ec := of_decide_eq_true hbt
          subst ec
          rw [if_pos rfl] at h
          cases ed : hvS i fs vs (.cons (.ret e) .nil) with
          | none => rw [ed] at h; exact h.elim
          | some d =>
            rw [ed] at h
            refine ⟨dd, fs, vs, rfl, rfl, ρ', S1, ⟨s1, List.getElem?_set_self (by have := cc.len; omega), ⟨ws, hdd, rr⟩, hno⟩, d, ed, fun H'' v x' s' rv => ?_⟩
            exact h ρ' H'' v (x1.trans (x'.nb (x1.len_le (by rw [st.len]; exact hp)))) s' rv
        · rw [if_neg (of_decide_eq_false hbf)] at h
          exact h ρ' H' σ' dd ws x1 s1 cc hdd hno rr
      · exact h.elim
end
end Ev


set_option maxHeartbeats 200000
set_option Elab.async false
set_option maxRecDepth 100000
set_option maxHeartbeats 4000000
/-! What is checked is sound: statements. -/
namespace Ev
open PySem PySem.Spec PyProof.Rows L2

def augO : Bop → Bool
  | .add => true
  | .sub => true
  | .mod => true
  | .shl => true
  | .shr => true
  | .band => true
  | .bxor => true
  | .bor => true
  | _ => false
def sealOf : St → Option Nat
  | .shut i => some i
  | _ => none
theorem sealOf_ok {s : St} {i : Nat} (h : sealOf s = some i) : s = .shut i := by
  cases s <;> first | (cases h; rfl) | cases h
section
variable (T : Tb) (gn : Gn)
mutual
def chkS : St → Ck → Stmt → Bool
  | .set i e => fun c s => (match s with
    | .Assign [.Name x _] f _ => stoB c i x && chkE T gn e c f && !(compE f)
    | _ => false)
  | .new i a => fun c s => (match s with
    | .Assign [.Name x _] f _ => stoB c i x && chkA T gn a c f && !(compE f)
    | _ => false)
  | .setc i t it o x => fun c s => (match s with
    | .Assign [.Name y _] f _ => stoB c i y && chkA T gn (.comp t it o x) c f
    | _ => false)
  | .newc i t it o x => fun c s => (match s with
    | .Assign [.Name y _] f _ => stoB c i y && chkA T gn (.comp t it o x) c f
    | _ => false)
  | .raw _ _ _ => fun _ _ => false
  | .sets o i e => fun c s => (match s with
    | .Assign [.Subscript f g _] h _ => chkE T gn o c f && chkE T gn i c g && chkE T gn e c h && !(compE h)
    | _ => false)
  | .setf o f e => fun c s => (match s with
    | .Assign [.Attribute g x _] h _ => chkE T gn o c g && chkE T gn e c h && !(compE h) && (gn.nm f == x)
    | _ => false)
  | .tpl is e => fun c s => (match s with
    | .Assign [tg] f _ => chkT c (.tp is) tg && chkE T gn e c f && !(compE f) && !(isTup f)
    | _ => false)
  | .par _ _ _ _ => fun _ _ => false
  | .aug i o e => fun c s => (match s with
    | .AugAssign (.Name x _) op f _ => opB o op && augO o && stoB c i x && chkE T gn e c f
    | _ => false)
  | .exp e => fun c s => (match s with
    | .Expr f _ => chkE T gn e c f && !(compE f)
    | _ => false)
  | .ret e => fun c s => (match s with
    | .Return (some f) _ => chkE T gn e c f
    | _ => false)
  | .retn => fun _ s => (match s with
    | .Return none _ => true
    | _ => false)
  | .ifs e a b => fun c s => (match s with
    | .If f ss ts _ => tst e && chkE T gn e c f && chkSs a c ss && chkSs b c ts
    | _ => false)
  | .whl _ e b => fun c s => (match s with
    | .While f ss [] _ => tst e && chkE T gn e c f && chkSs b c ss
    | _ => false)
  | .for t it b => fun c s => (match s with
    | .For tg f ss [] _ => chkT c t tg && chkI T gn it c tg f && chkSs b c ss
    | _ => false)
  | .brk => fun _ s => (match s with
    | .Break _ => true
    | _ => false)
  | .cnt => fun _ s => (match s with
    | .Continue _ => true
    | _ => false)
  | .pss => fun _ s => (match s with
    | .Pass _ => true
    | _ => false)
  | .shut _ => fun _ _ => false
  | .rais c' es => fun c s => (match es with
    | .cons e .nil => (match s with
      | .Raise (some (.Call (.Name x _) [f] [] _)) none _ => decide (gn.xnm c' = some x) && glB c x && (T.exc c').isSome && chkE T gn e c f
      | _ => false)
    | _ => true)
  | .tryx b c' i h => fun c s => (match s with
    | .Try ss [.ExceptHandler (some (.Name x _)) (some n) [.Return (some ex) _] _] [] [] _ => decide (gn.xnm c' = some x) && glB c x && (T.exc c').isSome && chkSs b c ss && decide (c.N[i]? = some n) && (match c.sc.names.lookup n with
      | some .local => true
      | _ => false) && okN n && (match h with
      | .cons (.ret e) .nil => chkHE T gn i n c' e ex
      | _ => false)
    | _ => false)
def chkSs : Ss → Ck → List Stmt → Bool
  | .nil => fun _ ss => ss.isEmpty
  | .cons s r => fun c ss => (match sealOf s with
    | some _ => chkSs r c ss
    | none => (match ss with
      | t :: ts => chkS s c t && chkSs r c ts
      | [] => false))
end
end
section
variable {T : Tb} {G : Wd} {gn : Gn} {bs : List Nat} {W : WX} {k b₀ : Nat} {X : Cx}
theorem aug_ok {o : Bop} (h : augO o = true) : PIp X o.op (fun x y H Q => ∃ i j r, iop o i j = some r ∧ x = .int i ∧ y = .int j ∧ Q (.int r) H) := by
  intro pins s σ H x y v u Q I rx ry ⟨i, j, r, e, hx, hy, q⟩
  subst hx hy
  cases o with
  | add => cases e; exact augR iop_add I rx ry ⟨i, j, rfl, rfl, q⟩
  | sub => cases e; exact augR iop_sub I rx ry ⟨i, j, rfl, rfl, q⟩
  | mod =>
    simp only [iop] at e
    split at e
    · rename_i c; cases e; exact augR iop_mod I rx ry ⟨i, j, rfl, rfl, c, q⟩
    · cases e
  | shl =>
    simp only [iop] at e
    split at e
    · rename_i c; cases e; exact augR iop_shl I rx ry ⟨i, j, rfl, rfl, c, q⟩
    · cases e
  | shr =>
    simp only [iop] at e
    split at e
    · rename_i c; cases e; exact augR iop_shr I rx ry ⟨i, j, rfl, rfl, c, q⟩
    · cases e
  | band => cases e; exact augR iop_and I rx ry ⟨i, j, rfl, rfl, q⟩
  | bxor => cases e; exact augR iop_xor I rx ry ⟨i, j, rfl, rfl, q⟩
  | bor => cases e; exact augR iop_or I rx ry ⟨i, j, rfl, rfl, q⟩
  | mul => cases h
  | fdiv => cases h
  | pow => cases h
theorem ps_augE {i : Nat} {x : Str} {e : Expr} {ev : EF} {o : Bop} {pos pos' : Pos} (ha : augO o = true) (hN : X.N.Nodup) (hi : X.N[i]? = some x) (hx : L2.Loc X.env.scope x) (hf : X.fn x = true ∨ X.env.scope.names.lookup x = some .local) (he : PE X e (tE G gn bs W ev)) :
    PS X (.AugAssign (.Name x pos') o.op e pos) (tSt G gn bs W b₀ (fun _ env S => (match env[i]? with
      | some (some (.int k)) => bndS (ev env S) env fun y S1 => (match y with
        | .int j => (match iop o k j with
          | some r => .nx (env.set i (some (.int r))) S1
          | none => .bad)
        | _ => .bad)
      | _ => .bad))) :=
  (ps_aug hN hi hx he (aug_ok ha) hf).imp fun Z σ H ⟨p, ρ, S, env, st, ce, tb, h0, hp, h⟩ => by
    dsimp only at h
    split at h
    · rename_i kk e1
      obtain ⟨v, ev, rv⟩ := ce.at_ i _ e1
      cases rv
      refine ⟨_, ev, (Fs.mk st ce tb).seqS hp h fun d S1 ρ1 H1 v x1 f1 hp1 r1 h1 => ?_⟩
      split at h1
      · rename_i j
        cases r1
        cases e2 : iop o kk j with
        | none => rw [e2] at h1; exact h1.elim
        | some r =>
          rw [e2] at h1
          exact ⟨kk, j, r, e2, rfl, rfl, h1.nxAt (f1.set i (.int r))⟩
      · exact h1.elim
    · exact h.elim
variable (hb : ∀ b ∈ bs, b ≤ b₀)
include hb
theorem comp_parts {t : Tg} {it : I} {o : O} {x : E} {c : Ck} {e : Expr} (h : chkA T gn (.comp t it o x) c e = true) (C : XC T G gn k X W) (kk : Cok G k c X) : ∃ elt tg iter ifs scope pos own, e = .ListComp elt [⟨tg, iter, ifs, 0⟩] scope pos ∧ PI X tg iter (tI G gn bs W (evI T (lv T k).1 b₀ it)) ∧ BlkOk X.N X.env.scope scope own ∧
    (∀ (s : Shared) (H : Hp) (Ca : Addr) (cl : List (Str × Addr)) (fp : List Addr), PG (X.blk s H scope (compEnvC scope cl Ca X.env) fp) tg (gT X.K t)) ∧ (∀ (s : Shared) (H : Hp) (Ca : Addr) (cl : List (Str × Addr)) (fp : List Addr), PTs (X.blk s H scope (compEnvC scope cl Ca X.env) fp) ifs (tC G gn bs (fun _ _ _ _ => False) (evC T (lv T k).1 b₀ o))) ∧
    (∀ (s : Shared) (H : Hp) (Ca : Addr) (cl : List (Str × Addr)) (fp : List Addr), PE (X.blk s H scope (compEnvC scope cl Ca X.env) fp) elt (tE G gn bs (fun _ _ _ _ => False) (evE T (lv T k).1 b₀ x))) ∧ plainE iter = true ∧ own.map (·.2) = t.sl := by
  simp only [chkA] at h
  split at h
  · rename_i elt tg iter ifs scope pos
    simp only [Bool.and_eq_true, decide_eq_true_eq] at h
    obtain ⟨⟨⟨⟨⟨⟨h1, h2⟩, h3⟩, h4⟩, h5⟩, h6⟩, h7⟩ := h
    have kb : ∀ (s : Shared) (H : Hp) (Ca : Addr) (cl : List (Str × Addr)) (fp : List Addr), Cok G k (c.blk scope) (X.blk s H scope (compEnvC scope cl Ca X.env) fp) := fun s H Ca cl fp => ⟨kk.N, by
      show relabel scope X.env = relS scope c.sc
      rw [← kk.sc]
      rfl, (fun z => by cases z), fun z => kk.gen z⟩
    have qi := okI hb it h3 C kk
    refine ⟨elt, tg, iter, ifs, scope, pos, ownOf c t, rfl, qi.1, ?_, fun s H Ca cl fp => chkT_ok (kb s H Ca cl fp) C.nd C.calm h2, fun s H Ca cl fp => okC hb o h5 h6 h7 (C.blk s H scope _ fp) (kb s H Ca cl fp), fun s H Ca cl fp => (okE hb x h4 (C.blk s H scope _ fp) (kb s H Ca cl fp)).1, qi.2, ownOf_sl c t⟩
    have := blkOk_by h1
    rw [← kk.N, ← kk.sc] at this
    exact this
  · cases h
theorem isTup_ok {e : Expr} (h : isTup e = true) : ∃ es j p, e = .Tuple es j p := by
  cases e <;> first | exact ⟨_, _, _, rfl⟩ | cases h
theorem tp_tup {c : Ck} {is : List Nat} {e : Expr} (h : chkT c (.tp is) e = true) : ∃ es j p, e = .Tuple es j p := by
  cases e <;> first | exact ⟨_, _, _, rfl⟩ | (simp [chkT] at h)
mutual
theorem okS : ∀ (s : St) {c : Ck} {st : Stmt} {X : Cx} {W : WX}, chkS T gn s c st = true → XC T G gn k X W → PassesOwn (model X.prog X.w) X.A X.env X.xe → Cok G k c X → Sk X → PS X st (tSt G gn bs W b₀ (evS T (lv T k).1 b₀ s))
  | .set i e, c, st, X, W, h, C, ow, kk, sk => by
    simp only [chkS] at h
    split at h
    · simp only [Bool.and_eq_true, Bool.not_eq_true'] at h
      obtain ⟨q1, q2, q3⟩ := stoB_ok kk h.1.1
      rw [evS]
      exact ps_setE C.nd q1 q2 q3 (okE hb e h.1.2 C kk).1 h.2
    · cases h
  | .new i a, c, st, X, W, h, C, ow, kk, sk => by
    simp only [chkS] at h
    split at h
    · simp only [Bool.and_eq_true, Bool.not_eq_true'] at h
      obtain ⟨q1, q2, q3⟩ := stoB_ok kk h.1.1
      rw [evS]
      exact ps_newE C.nd q1 q2 q3 (okA hb a h.1.2 C kk).1 h.2
    · cases h
  | .setc i t it o x, c, st, X, W, h, C, ow, kk, sk => by
    simp only [chkS] at h
    split at h
    · simp only [Bool.and_eq_true] at h
      obtain ⟨q1, q2, q3⟩ := stoB_ok kk h.1
      obtain ⟨elt, tg, iter, ifs, scope, pos, own, rfl, hi, ok, hg, ht, he, hp, ho⟩ := comp_parts hb h.2 C kk
      rw [evS]
      refine (ps_asgLc C.calm C.nd q1 q2 q3 hi ok hg ht he hp).imp fun Z σ H ⟨p, ρ, S, env, st, ce, tb, h0, hp, h⟩ => ?_
      refine compE_rd C (by rw [ho]; exact fun i h => h) (by rw [ho]; exact fun i h => h) hb ?_
      have h2 : tE G gn bs W (evE T (lv T k).1 b₀ (.frz (.comp t it o x))) σ H (fun x H1 => gName i x σ H1 Z.nx) := (Fs.mk st ce tb).seqS hp h fun d S1 ρ1 H1 v x1 f1 hp1 r1 h1 => h1.nxAt (f1.set i r1)
      obtain ⟨ρ', S', env', st', ce', tb', h3⟩ := h2
      rw [evE] at h3
      refine ⟨ρ', S', env', st', ce', tb', ?_⟩
      have := (Fs.mk st' ce' tb').close h3
      rw [evA] at this
      exact this
    · cases h
  | .newc i t it o x, c, st, X, W, h, C, ow, kk, sk => by
    simp only [chkS] at h
    split at h
    · simp only [Bool.and_eq_true] at h
      obtain ⟨q1, q2, q3⟩ := stoB_ok kk h.1
      obtain ⟨elt, tg, iter, ifs, scope, pos, own, rfl, hi, ok, hg, ht, he, hp, ho⟩ := comp_parts hb h.2 C kk
      rw [evS]
      refine (ps_asgLc C.calm C.nd q1 q2 q3 hi ok hg ht he hp).imp fun Z σ H ⟨p, ρ, S, env, st, ce, tb, h0, hp, h⟩ => ?_
      refine compE_rd C (by rw [ho]; exact fun i h => h) (by rw [ho]; exact fun i h => h) hb ?_
      have h2 : tA G gn bs W (evA T (lv T k).1 b₀ (.comp t it o x)) σ H (fun x H1 => gName i x σ H1 Z.nx) := (Fs.mk st ce tb).seqSA hp h fun d S1 ρ1 H1 v x1 f1 hp1 r1 h1 => h1.nxAt (f1.set i r1)
      rw [evA] at h2
      exact h2
    · cases h
  | .raw _ _ _, c, st, X, W, h, C, ow, kk, sk => by
    simp only [chkS] at h
    cases h
  | .sets o i e, c, st, X, W, h, C, ow, kk, sk => by
    simp only [chkS] at h
    split at h
    · simp only [Bool.and_eq_true, Bool.not_eq_true'] at h
      obtain ⟨⟨⟨h1, h2⟩, h3⟩, h4⟩ := h
      have qi := okE hb i h2 C kk
      rw [evS]
      exact ps_setsE hb (okE hb o h1 C kk).1 qi.1 (okE hb e h3 C kk).1 h4 qi.2.2
    · cases h
  | .setf o f e, c, st, X, W, h, C, ow, kk, sk => by
    simp only [chkS] at h
    split at h
    · simp only [Bool.and_eq_true, Bool.not_eq_true', beq_iff_eq] at h
      obtain ⟨⟨⟨h1, h2⟩, h3⟩, h4⟩ := h
      rw [evS]
      exact ps_setfE C.F hb (okE hb o h1 C kk).1 (okE hb e h2 C kk).1 h3 (by rw [C.F.nmE]; exact h4)
    · cases h
  | .tpl is e, c, st, X, W, h, C, ow, kk, sk => by
    simp only [chkS] at h
    split at h
    · simp only [Bool.and_eq_true, Bool.not_eq_true'] at h
      obtain ⟨⟨⟨h1, h2⟩, h3⟩, h4⟩ := h
      rw [evS]
      exact ps_tplE (chkT_ok kk C.nd C.calm h1) (okE hb e h2 C kk).1 h3 (tp_tup hb h1) h4
    · cases h
  | .par _ _ _ _, c, st, X, W, h, C, ow, kk, sk => by
    simp only [chkS] at h
    cases h
  | .aug i o e, c, st, X, W, h, C, ow, kk, sk => by
    simp only [chkS] at h
    split at h
    · simp only [Bool.and_eq_true] at h
      obtain ⟨⟨⟨h1, h2⟩, h3⟩, h4⟩ := h
      rw [opB_ok h1, evS]
      obtain ⟨q1, q2, q3⟩ := stoB_ok kk h3
      exact ps_augE h2 C.nd q1 q2 q3 (okE hb e h4 C kk).1
    · cases h
  | .exp e, c, st, X, W, h, C, ow, kk, sk => by
    simp only [chkS] at h
    split at h
    · simp only [Bool.and_eq_true, Bool.not_eq_true'] at h
      rw [evS]
      exact ps_expE (okE hb e h.1 C kk).1 h.2
    · cases h
  | .ret e, c, st, X, W, h, C, ow, kk, sk => by
    simp only [chkS] at h
    split at h
    · rw [evS]
      exact ps_retE (okE hb e h C kk).1
    · cases h
  | .retn, c, st, X, W, h, C, ow, kk, sk => by
    simp only [chkS] at h
    split at h
    · rw [evS]
      exact ps_retnE
    · cases h
  | .ifs e a b, c, st, X, W, h, C, ow, kk, sk => by
    simp only [chkS] at h
    split at h
    · simp only [Bool.and_eq_true] at h
      obtain ⟨⟨⟨h1, h2⟩, h3⟩, h4⟩ := h
      rw [evS]
      exact ps_ifsE ((okE hb e h2 C kk).2.1 h1) (okSs a h3 C ow kk sk) (okSs b h4 C ow kk sk)
    · cases h
  | .whl n e b, c, st, X, W, h, C, ow, kk, sk => by
    simp only [chkS] at h
    split at h
    · simp only [Bool.and_eq_true] at h
      obtain ⟨⟨h1, h2⟩, h3⟩ := h
      rw [evS]
      exact ps_whlE ow ((okE hb e h2 C kk).2.1 h1) (okSs b h3 C ow kk sk)
    · cases h
  | .for t it b, c, st, X, W, h, C, ow, kk, sk => by
    simp only [chkS] at h
    split at h
    · simp only [Bool.and_eq_true] at h
      obtain ⟨⟨h1, h2⟩, h3⟩ := h
      have qi := okI hb it h2 C kk
      rw [evS]
      exact ps_forE ow C.calm qi.1 (chkT_ok kk C.nd C.calm h1) (okSs b h3 C ow kk sk) qi.2
    · cases h
  | .brk, c, st, X, W, h, C, ow, kk, sk => by
    simp only [chkS] at h
    split at h
    · rw [evS]
      exact ps_brkE
    · cases h
  | .cnt, c, st, X, W, h, C, ow, kk, sk => by
    simp only [chkS] at h
    split at h
    · rw [evS]
      exact ps_cntE
    · cases h
  | .pss, c, st, X, W, h, C, ow, kk, sk => by
    simp only [chkS] at h
    split at h
    · rw [evS]
      exact ps_pssE
    · cases h
  | .shut _, c, st, X, W, h, C, ow, kk, sk => by
    simp only [chkS] at h
    cases h
  | .rais c' .nil, c, st, X, W, h, C, ow, kk, sk => by
    rw [evS]
    exact ps_badE
  | .rais c' (.cons e (.cons _ _)), c, st, X, W, h, C, ow, kk, sk => by
    rw [evS]
    exact ps_badE
  | .rais c' (.cons e .nil), c, st, X, W, h, C, ow, kk, sk => by
    simp only [chkS] at h
    split at h
    · simp only [Bool.and_eq_true, decide_eq_true_eq] at h
      obtain ⟨⟨⟨h1, h2⟩, h3⟩, h4⟩ := h
      obtain ⟨f, hf⟩ := Option.isSome_iff_exists.mp h3
      obtain ⟨g1, g2⟩ := glB_ok kk h2
      have q := okE hb e h4 C kk
      rw [evS]
      simp only [hf]
      exact ps_raisE C hf h1 g1 g2 q.1 q.2.2
    · cases h
  | .tryx b c' i hd, c, st, X, W, h, C, ow, kk, sk => by
    simp only [chkS] at h
    split at h
    · rename_i ss x np n ex rp pos' pos
      simp only [Bool.and_eq_true, decide_eq_true_eq] at h
      obtain ⟨⟨⟨⟨⟨⟨⟨h1, h2⟩, h3⟩, h4⟩, h5⟩, h6⟩, h7⟩, h8⟩ := h
      obtain ⟨f, hf⟩ := Option.isSome_iff_exists.mp h3
      obtain ⟨g1, g2⟩ := glB_ok kk h2
      obtain ⟨o1, o2⟩ := okN_1 h7
      split at h8
      · rename_i e
        have hln : X.env.kindOf n = some .local := by
          show X.env.scope.names.lookup n = _
          rw [kk.sc]
          split at h6
          · assumption
          · cases h6
        rw [evS]
        refine ps_tryE sk C hf h1 g1 g2 (by rw [kk.N]; exact h5) hln o1 o2 (fun W' pn xe tk ow' => ?_) h8
        exact okSs b h4 ⟨C.F, C.XF, tk, C.calm, C.nd, C.room, C.fns⟩ ow' ⟨kk.N, kk.sc, kk.top, kk.gen⟩ ⟨sk.top, sk.fr⟩
      · cases h8
    · cases h
theorem okSs : ∀ (ss : Ss) {c : Ck} {sts : List Stmt} {X : Cx} {W : WX}, chkSs T gn ss c sts = true → XC T G gn k X W → PassesOwn (model X.prog X.w) X.A X.env X.xe → Cok G k c X → Sk X → PSs X sts (tSt G gn bs W b₀ (evSs T (lv T k).1 b₀ ss))
  | .nil, c, sts, X, W, h, C, ow, kk, sk => by
    simp only [chkSs] at h
    rw [List.isEmpty_iff.mp h, evSs]
    exact pss_nilE
  | .cons s r, c, sts, X, W, h, C, ow, kk, sk => by
    simp only [chkSs] at h
    split at h
    · rename_i i hs
      have q := pss_sealE hb (i := i) (okSs r h C ow kk sk)
      rw [evSs, sealOf_ok hs]
      simp only [evS]
      exact q
    · split at h
      · rw [Bool.and_eq_true] at h
        rw [evSs]
        exact pss_consE (okS s h.1 C ow kk sk) (okSs r h.2 C ow kk sk)
      · cases h
end
end
end Ev


set_option maxHeartbeats 200000
set_option Elab.async false
set_option maxRecDepth 100000
set_option maxHeartbeats 2000000
/-! Defs. -/
namespace Ev
open PySem PySem.Spec PyProof.Rows L2

section
variable {T : Tb} {G : Wd} {gn : Gn} {bs : List Nat} {k : Nat} {ρ ρ' : List Addr} {S S' : Sto} {H H' : Hp} {env : Env} {σ : L2.St}
/-- a value whose outermost list, object may be a cell of number n or more -/
inductive Rq (G : Wd) (ρ : List Addr) (H : Hp) (n : Nat) : D → V → Prop
  | rp {d : D} {v : V} (r : Rp G ρ H d v) : Rq G ρ H n d v
  | lst {a : Addr} {xs : List D} {vs : List V} (e : H a = some (.lst vs)) (q : a ∉ ρ.take n) (m : a ∉ G.z) (r : Rps G ρ H xs vs) : Rq G ρ H n (.lst xs) (.ref a)
  | obj {a dx : Addr} {c : Nat} {fs : List Nat} {vs : List D} {ws : List V} (e : H a = some (.ins (G.cl c) dx ((fs.map G.nm).zip ws))) (q : a ∉ ρ.take n) (m : a ∉ G.z) (r : Rps G ρ H vs ws) (l : fs.length = vs.length) : Rq G ρ H n (.obj c fs vs) (.ref a)
theorem allM_len {f : D → Option D} : ∀ {xs ys : List D}, allM f xs = some ys → ys.length = xs.length
  | [], ys, h => by cases h; rfl
  | x :: r, ys, h => by
    rw [allM] at h
    split at h
    · rename_i a b e1 e2
      cases h
      rw [List.length_cons, List.length_cons, allM_len e2]
    · cases h
theorem frz_ok (st : StOk G bs ρ S H) {n : Nat} : ∀ (k : Nat) {d d' : D} {v : V}, frz n S k d = some d' → Rq G ρ H n d v → Rp G (ρ.take n) H d' v
  | 0, d, d', v, h, _ => by cases h
  | k + 1, d, d', v, h, w => by
    have ih : ∀ {xs ys : List D} {vs : List V}, allM (frz n S k) xs = some ys → Rps G ρ H xs vs → Rps G (ρ.take n) H ys vs := by
      intro xs
      induction xs with
      | nil => intro ys vs h r; cases h; cases r; exact .nil
      | cons x r ih =>
        intro ys vs h rr
        rw [allM] at h
        split at h
        · rename_i a b e1 e2
          cases h
          cases rr with | cons r1 r2 => exact .cons (frz_ok st k e1 (.rp r1)) (ih e2 r2)
        · cases h
    have nt : ∀ {a : Addr}, a ∉ ρ → a ∉ ρ.take n := fun q z => q (List.mem_of_mem_take z)
    have mp : ∀ {o : Option (List D)} {F : List D → D} {d' : D}, o.map F = some d' → ∃ ys, o = some ys ∧ d' = F ys := fun {o F d'} e => by
      cases o with
      | none => cases e
      | some ys => cases e; exact ⟨ys, rfl, rfl⟩
    unfold frz at h
    split at h
    · obtain ⟨ys, e1, rfl⟩ := mp h
      cases w with
      | rp r => cases r with | tup e r => exact .tup e (ih e1 r)
    · obtain ⟨ys, e1, rfl⟩ := mp h
      cases w with
      | rp r => cases r with | lst e q m r => exact .lst e (nt q) m (ih e1 r)
      | lst e q m r => exact .lst e q m (ih e1 r)
    · obtain ⟨ys, e1, rfl⟩ := mp h
      cases w with
      | rp r => cases r with | obj e q m r l => exact .obj e (nt q) m (ih e1 r) (by rw [l, allM_len e1])
      | obj e q m r l => exact .obj e q m (ih e1 r) (by rw [l, allM_len e1])
    · rename_i m
      cases w with
      | rp r =>
        split at h
        · rename_i hm
          cases h
          cases r with | ref e => exact .ref (by rw [List.getElem?_take_of_lt hm]; exact e)
        · rename_i hm
          split at h
          · rename_i c ec
            cases r with | ref e =>
            rename_i a
            have q : a ∉ ρ.take n := fun z => by
              obtain ⟨j, hj⟩ := List.getElem?_of_mem z
              have hj2 := (List.getElem?_eq_some_iff.mp hj).1
              rw [List.length_take] at hj2
              rw [List.getElem?_take_of_lt (by omega)] at hj
              obtain ⟨h1', q1⟩ := List.getElem?_eq_some_iff.mp hj
              obtain ⟨h2', q2⟩ := List.getElem?_eq_some_iff.mp e
              have := (List.getElem_inj st.nd).mp (q1.trans q2.symm)
              omega
            have mz : a ∉ G.z := fun z => (st.out a z).2 (List.mem_of_getElem? e)
            have hc := st.at_ m a c e ec
            cases hc with
            | lst e1 r1 => exact frz_ok st k h (.lst e1 q mz r1)
            | obj e1 r1 l => exact frz_ok st k h (.obj e1 q mz r1 l)
          · cases h
    · rename_i h1 h2 h3 h4
      cases h
      cases w with
      | rp r =>
        cases r with
        | non => exact .non
        | bl b => exact .bl b
        | int i => exact .int i
        | str x => exact .str x
        | tup _ _ => exact absurd rfl (h1 _)
        | lst _ _ _ _ => exact absurd rfl (h2 _)
        | obj _ _ _ _ _ => exact absurd rfl (h3 _ _ _)
        | ref _ => exact absurd rfl (h4 _)
        | fn f => exact .fn f
        | cls c => exact .cls c
        | scr e q m => exact .scr e (nt q) m
        | scrK e => exact .scrK e
      | lst _ _ _ _ => exact absurd rfl (h2 _)
      | obj _ _ _ _ _ => exact absurd rfl (h3 _ _ _)
theorem fz_ok (st : StOk G bs ρ S H) {n : Nat} {d d' : D} {v : V} (h : fz n S d = some d') (r : Rp G ρ H d v) : Rp G (ρ.take n) H d' v := by
  unfold fz at h
  split at h
  · rename_i hp
    cases h
    exact r.cut (d.blw_pure n hp)
  · exact frz_ok st 8 h (.rp r)
mutual
theorem Rp.blwAll : ∀ {d : D} {v : V}, Rp G ρ H d v → d.blw ρ.length = true
  | _, _, .non => rfl
  | _, _, .bl _ => rfl
  | _, _, .int _ => rfl
  | _, _, .str _ => rfl
  | _, _, .tup _ r => by rw [D.blw]; exact Rps.blwAll r
  | _, _, .lst _ _ _ r => by rw [D.blw]; exact Rps.blwAll r
  | _, _, .obj _ _ _ r _ => by rw [D.blw]; exact Rps.blwAll r
  | _, _, .ref e => by rw [D.blw]; exact decide_eq_true (List.getElem?_eq_some_iff.mp e).1
  | _, _, .fn _ => rfl
  | _, _, .cls _ => rfl
  | _, _, .scr _ _ _ => rfl
  | _, _, .scrK _ => rfl
theorem Rps.blwAll : ∀ {ds : List D} {vs : List V}, Rps G ρ H ds vs → D.blws ρ.length ds = true
  | _, _, .nil => rfl
  | _, _, .cons h t => by rw [D.blws, Rp.blwAll h, Rps.blwAll t]; rfl
end
theorem StOk.blwAll (st : StOk G bs ρ S H) {i : Nat} {d : D} (e : S[i]? = some d) : d.blw S.length = true := by
  obtain ⟨a, ea, c⟩ := st.cell e
  rw [← st.len]
  cases c with
  | lst e r => rw [D.blw]; exact r.blwAll
  | obj e r l => rw [D.blw]; exact r.blwAll
mutual
/-- no cells: seen from outside -/
theorem Rp.out0 {z : List Addr} (hz : z = G.z ++ ρ) : ∀ {d : D} {v : V}, Rp (G.at_ z) [] H d v → Rp G ρ H d v
  | _, _, .non => .non
  | _, _, .bl b => .bl b
  | _, _, .int i => .int i
  | _, _, .str x => .str x
  | _, _, .tup e r => .tup e (Rps.out0 hz r)
  | _, _, .lst e n m r => .lst e (fun q => m (by show _ ∈ z; rw [hz]; exact List.mem_append_right _ q)) (fun q => m (by show _ ∈ z; rw [hz]; exact List.mem_append_left _ q)) (Rps.out0 hz r)
  | _, _, .obj e n m r l => .obj e (fun q => m (by show _ ∈ z; rw [hz]; exact List.mem_append_right _ q)) (fun q => m (by show _ ∈ z; rw [hz]; exact List.mem_append_left _ q)) (Rps.out0 hz r) l
  | _, _, .ref e => by simp at e
  | _, _, .fn f => .fn f
  | _, _, .cls c => .cls c
  | _, _, .scr e n m => .scr e (fun q => m (by show _ ∈ z; rw [hz]; exact List.mem_append_right _ q)) (fun q => m (by show _ ∈ z; rw [hz]; exact List.mem_append_left _ q))
  | _, _, .scrK e => .scrK e
theorem Rps.out0 {z : List Addr} (hz : z = G.z ++ ρ) : ∀ {ds : List D} {vs : List V}, Rps (G.at_ z) [] H ds vs → Rps G ρ H ds vs
  | _, _, .nil => .nil
  | _, _, .cons h t => .cons (Rp.out0 hz h) (Rps.out0 hz t)
end
theorem Rps.map_some {np nl : Nat} {N : List Str} {ds : List D} {vs : List V} (r : Rps G ρ H ds vs) (h1 : ds.length = np) (h2 : N.length = nl) (h3 : np ≤ nl) : CfE G ρ H (ds.map some ++ List.replicate (nl - np) none) (L2.start N vs) := by
  have hl := r.length
  refine ⟨by unfold L2.start; simp only [List.length_append, List.length_map, List.length_replicate]; omega, fun i d e => ?_⟩
  by_cases hi : i < ds.length
  · rw [List.getElem?_append_left (by simpa using hi), List.getElem?_map] at e
    cases ed : ds[i]? with
    | none => rw [ed] at e; cases e
    | some d' =>
      rw [ed] at e
      cases e
      obtain ⟨v, ev, rv⟩ := r.get ed
      refine ⟨v, ?_, rv⟩
      unfold L2.start
      rw [List.getElem?_append_left (by rw [List.length_map]; omega), List.getElem?_map, ev]
      rfl
  · rw [List.getElem?_append_right (by simpa using hi), List.getElem?_replicate] at e
    split at e <;> cases e
/-- what is known of a def -/
structure DefOk (T : Tb) (gn : Gn) (K : PySem.W.Frag) (tb : Addr → Addr → Prop) (a : Addr) (fn : Fn) : Prop where
  ex : ∃ (x qual : Str) (params : Arguments) (body : List Stmt) (scope : Scope) (ps N : List Str) (fd : FuncData) (g : Bool), FunD K x qual params body scope [] [] a fd ∧ FnScope N ps scope ∧ Binds K fd ps [] ∧ ps.length = fn.np ∧ N.length = fn.nl ∧ chkSs T gn fn.body ⟨N, scope, true, g⟩ body = true ∧ (g = true → ∃ cA P, fd.code = .ref cA ∧ tb cA P)
/-- the rule for such a def, the code object known -/
theorem funD_ok {P : Program} {w : World} {K : PySem.W.Frag} {mg : Str → Option Value} {base : Heap} {x qual : Str} {params : Arguments} {body : List Stmt} {scope : Scope} {dvs : List V} {kws : List (Str × V)} {f : Addr} {fd : FuncData} {CX : CXT} {N ps : List Str} {k : Nat} {sp : Sp} (F : FunD K x qual params body scope dvs kws f fd) (S : FnScope N ps scope) (len : ∀ vs H Q E, sp vs H Q E → vs.length = ps.length)
    (hbody : ∀ (cdv : Value) (A : Around) (outer : List PySem.Env) (s : Shared) (H : Hp) (vs : List V) (Q : VK) (E : XK), fd.code = cdv → Room k (A.deeper (envOfC qual scope s.heap.objs.size f cdv)) → sp vs H Q E →
      ∃ t, PSs (cxOf CX P w K mg base N qual scope f cdv A outer s H E) body t ∧ t { nx := fun _ H' => Q .non H', rt := Q } (start N vs) H) : FnOk P w K mg base CX (k + 1) f fd ps sp := by
  obtain ⟨oc, od, dV, kV, doc, pm, an, cdv, ct, osl, rfl, lk, hcd, _, _⟩ := F.ex
  exact fn_of lk hcd S len fun A outer s H vs Q E hr hsp => hbody cdv A outer s H vs Q E rfl hr hsp
theorem DefOk.len {K : PySem.W.Frag} {tb : Addr → Addr → Prop} {a : Addr} {fn : Fn} (F : DefOk T gn K tb a fn) : fn.np ≤ fn.nl := by
  obtain ⟨x, qual, params, body, scope, ps, N, fd, _, _, S, _, h1, h2, _⟩ := F.ex
  have := congrArg List.length S.pre
  rw [List.length_take] at this
  omega
/-- what the frame's end gives -/
theorem fin_ok {E : XK} {Q : VK} {cf} {fn : Fn} {ds : List D} (st : StOk G bs ρ S H) (hl : ds.length = fn.np) (h : Sat G bs (fun c d _ H' => E c d H') [] ρ H (runF T cf fn ds S) (KQ G Q)) :
    SatO G (S.length :: bs) (fun c d _ H' => E c d H') S.length ρ H (evSs T cf S.length fn.body S.length (ds.map some ++ List.replicate (fn.nl - fn.np) none) S) { nx := fun _ H' => Q .non H', rt := Q } := by
  unfold runF at h
  rw [if_pos hl] at h
  have key : ∀ {d : D} {S1 : Sto}, Sat G bs (fun c d _ H' => E c d H') [] ρ H (fin S.length d S1) (KQ G Q) → ∀ {ρ' : List Addr} {H' : Hp} {v : V}, Nb S.length ρ H ρ' H' → StOk G (S.length :: bs) ρ' S1 H' → Rp G ρ' H' d v → Q v H' := by
    intro d S1 h ρ' H' v x s r
    unfold fin at h
    split at h
    · rename_i d' ed
      have e1 : ρ'.take S.length = ρ := by rw [x.low, ← st.len, List.take_length]
      have s1 : StOk G bs ρ' S1 H' := ⟨s.len, s.nd, s.at_, fun b hb => s.low b (List.mem_cons_of_mem _ hb), fun b hb => s.base b (List.mem_cons_of_mem _ hb), s.out⟩
      have s2 := s1.cut (n := S.length) (fun i d hi e => s.low _ (List.mem_cons_self ..) i d hi e) (fun b hb => st.base b hb) (s.base _ (List.mem_cons_self ..))
      rw [e1] at s2
      have r2 := fz_ok s1 ed r
      rw [e1] at r2
      exact h ρ H' ⟨⟨[], by simp, fun p hp => by simp at hp⟩, x.keep, x.dom, x.tab⟩ s2 v r2
    · exact h.elim
  cases e : evSs T cf S.length fn.body S.length (ds.map some ++ List.replicate (fn.nl - fn.np) none) S with
  | nx env1 S1 => rw [e] at h; exact fun ρ' H' σ' x s c => key h x s .non
  | rt d S1 => rw [e] at h; exact fun ρ' H' v x s r => key h x s r
  | bk env1 S1 => rw [e] at h; exact h.elim
  | ct env1 S1 => rw [e] at h; exact h.elim
  | err c fs vs env1 S1 =>
    rw [e] at h
    dsimp only at h
    split at h
    · rename_i hpu
      intro ρ' H' σ' dd ws x s cc hdd hno rr
      have e1 : ρ'.take S.length = ρ := by rw [x.low, ← st.len, List.take_length]
      have s1 : StOk G bs ρ' S1 H' := ⟨s.len, s.nd, s.at_, fun b hb => s.low b (List.mem_cons_of_mem _ hb), fun b hb => s.base b (List.mem_cons_of_mem _ hb), s.out⟩
      have s2 := s1.cut (n := S.length) (fun i d hi e => s.low _ (List.mem_cons_self ..) i d hi e) (fun b hb => st.base b hb) (s.base _ (List.mem_cons_self ..))
      rw [e1] at s2
      have r2 : Rps G ρ H' vs ws := by
        have := rr.cutB (n := S.length) (D.blws_pure S.length vs hpu)
        rw [e1] at this
        exact this
      exact h ρ H' dd ws ⟨⟨[], by simp, fun p hp => by simp at hp⟩, x.keep, x.dom, x.tab⟩ s2 hdd (fun q => hno (by rw [← e1] at q; exact List.mem_of_mem_take q)) r2
    · exact h.elim
  | bad => rw [e] at h; exact h.elim
variable {P : Program} {w : World} {K : PySem.W.Frag} {mg : Str → Option Value} {base : Heap}
theorem fn_ok (F : Facts T G gn K mg) (XF : XFacts T G gn K mg) {f : Nat} {fn : Fn} (hf : T.fns f = some fn) (d : DefOk T gn K (fun c P => GxR.TabB base mg c P ∧ P ∈ G.ts) (G.fa f) fn) {g : Bool} {x qual : Str} {params : Arguments} {body : List Stmt} {scope : Scope} {ps N : List Str} {fd : FuncData} (FD : FunD K x qual params body scope [] [] (G.fa f) fd) (SC : FnScope N ps scope) (h1 : ps.length = fn.np) (h2 : N.length = fn.nl) (ck : chkSs T gn fn.body ⟨N, scope, true, g⟩ body = true) (hg : g = true → ∃ cA P, fd.code = .ref cA ∧ GxR.TabB base mg cA P ∧ P ∈ G.ts)
    (ih : ∀ f fn, T.fns f = some fn → FnR P w K mg base (L2.CX P w) (9 * k) (G.fa f) (spF T G gn k f)) : FnOk P w K mg base (L2.CX P w) (9 * k + 8 + 1) (G.fa f) fd ps (spF T G gn (k + 1) f) := by
  have hlen : ∀ vs H Q E, spF T G gn (k + 1) f vs H Q E → vs.length = ps.length := by
    intro vs H Q E ⟨z, bs, ρ, S, ds, st, tb, r, h⟩
    rw [← r.length, h1]
    by_cases q : ds.length = fn.np
    · exact q
    · simp only [lv, hf, runF, if_neg q] at h
      split at h <;> exact h.elim
  refine funD_ok FD SC hlen fun cdv A outer s H vs Q E hcdv hr hsp => ?_
  have hv := hlen vs H Q E hsp
  obtain ⟨z, bs, ρ, S, ds, st, tb, r, h⟩ := hsp
  have hds : ds.length = fn.np := by rw [r.length, hv, h1]
  have Cx : ∀ G' : Wd, Facts T G' gn K mg → XFacts T G' gn K mg → (∀ f fn, T.fns f = some fn → FnR P w K mg base (L2.CX P w) (9 * k) (G'.fa f) (spF T G' gn k f)) → XC T G' gn k (cxOf (L2.CX P w) P w K mg base N qual scope (G.fa f) cdv A outer s H E) (fun c d _ H' => E c d H') := fun G' F' XF' ih' =>
    ⟨F', XF', takes_of rfl rfl rfl rfl, rfl, SC.nd, hr.mono (by omega), ih'⟩
  have ow : PassesOwn (model P w) (cxOf (L2.CX P w) P w K mg base N qual scope (G.fa f) cdv A outer s H E).A (cxOf (L2.CX P w) P w K mg base N qual scope (G.fa f) cdv A outer s H E).env (cxOf (L2.CX P w) P w K mg base N qual scope (G.fa f) cdv A outer s H E).xe := passes_of (X := cxOf (L2.CX P w) P w K mg base N qual scope (G.fa f) cdv A outer s H E) rfl
  have kk : ∀ z, Cok (G.at_ z) k ⟨N, scope, true, g⟩ (cxOf (L2.CX P w) P w K mg base N qual scope (G.fa f) cdv A outer s H E) := fun z => ⟨rfl, rfl, (fun _ _ => rfl), fun e => ⟨hr.mono (by omega), let ⟨cA, P', e1, e2, e3⟩ := hg e; ⟨cA, P', hcdv.symm.trans e1, e2, e3⟩⟩⟩
  simp only [lv, hf] at h
  have Fz : ∀ z, Facts T (G.at_ z) gn K mg := fun z => ⟨F.kK, F.blt, F.gcd, F.fn, F.cn, F.kn, F.cls, F.cok, F.ini, F.fld, F.mth, F.cms, F.sf, F.neq, F.mfn, F.cfn, F.ifn, F.nmE, F.nm, F.nms, F.isi, F.isb, F.isc⟩
  have Xz : ∀ z, XFacts T (G.at_ z) gn K mg := fun z => ⟨XF.exc, XF.xnm, XF.exm⟩
  split at h
  · rename_i hpu
    -- a frame of its own
    have st0 : StOk (G.at_ (z ++ ρ)) [] [] [] H := ⟨rfl, .nil, fun n a d e => by simp at e, fun b hb => by simp at hb, fun b hb => by simp at hb, fun a ha => ⟨by
      rcases List.mem_append.mp ha with q | q
      · exact (st.out a q).1
      · exact st.some_ q, by simp⟩⟩
    have r0 : Rps (G.at_ (z ++ ρ)) [] H ds vs := Rps.into (G := G.at_ z) (ρ := ρ) rfl (fun a o e _ _ => e) (by simp) st.apt r hpu
    have hs : Sat (G.at_ (z ++ ρ)) [] (fun c d _ H' => E c d H') [] [] H (runF T (lv T k).1 fn ds []) (KQ (G.at_ (z ++ ρ)) Q) := by
      cases e : runF T (lv T k).1 fn ds [] with
      | bad => rw [e] at h; exact h.elim
      | err c fs vs' S1 =>
        rw [e] at h
        dsimp only at h
        split at h
        · rename_i hpv
          intro ρ' H' dd ws x1 s1 hdd hnd rr
          obtain ⟨s2, x2⟩ := st.stay (fun a o e => e) x1 (by simp) (fun a e => e) (fun P t => t)
          refine h ρ H' dd ws x2 s2 hdd (fun q => ?_) (Rps.out (G := G.at_ z) rfl rr hpv)
          obtain ⟨n, hn⟩ := List.getElem?_of_mem q
          obtain ⟨d, _, cc⟩ := s2.cellA hn
          cases cc with
          | lst e' => rw [hdd] at e'; cases e'
          | obj e' => rw [hdd] at e'; cases e'
        · exact h.elim
      | ok d S1 =>
        rw [e] at h
        intro ρ' H' x1 s1 v rv
        obtain ⟨s2, x2⟩ := st.stay (fun a o e => e) x1 (by simp) (fun a e => e) (fun P t => t)
        have hS1 : S1 = [] := by
          unfold runF at e
          rw [if_pos hds] at e
          have key : ∀ {d' : D} {S2 : Sto}, fin ([] : Sto).length d' S2 = .ok d S1 → S1 = [] := fun {d' S2} z => by
            unfold fin at z
            split at z
            · cases z; rfl
            · cases z
          split at e
          · exact key e
          · exact key e
          · split at e <;> cases e
          · cases e
        have hρ : ρ' = [] := by
          have := s1.len
          rw [hS1] at this
          exact List.eq_nil_of_length_eq_zero this
        subst hρ
        exact h ρ H' x2 s2 v (Rp.out0 (G := G.at_ z) rfl rv)
    refine ⟨_, okSs (T := T) (G := G.at_ (z ++ ρ)) (gn := gn) (bs := [0]) (W := fun c d _ H' => E c d H') (k := k) (b₀ := 0) (by simp) fn.body ck (Cx _ (Fz _) (Xz _) ih) ow (kk _) ⟨rfl, rfl⟩, 0, [], [], ds.map some ++ List.replicate (fn.nl - fn.np) none, ⟨st0.len, st0.nd, st0.at_, fun b hb n d hn => by simp, fun b hb => by rw [List.mem_singleton.mp hb]; exact Nat.le_refl _, st0.out⟩, r0.map_some hds h2 d.len, tb, Nat.le_refl _, Nat.le_refl _, fin_ok st0 hds hs⟩
  · have st1 : StOk (G.at_ z) (S.length :: bs) ρ S H := ⟨st.len, st.nd, st.at_, fun b hb n d hn e => by
      rcases List.mem_cons.mp hb with q | q
      · rw [q]; exact st.blwAll e
      · exact st.low b q n d hn e, fun b hb => by
      rcases List.mem_cons.mp hb with q | q
      · rw [q]; exact Nat.le_refl _
      · exact st.base b q, st.out⟩
    refine ⟨_, okSs (T := T) (G := G.at_ z) (gn := gn) (bs := S.length :: bs) (W := fun c d _ H' => E c d H') (k := k) (b₀ := S.length) (fun b hb => st1.base b hb) fn.body ck (Cx _ (Fz _) (Xz _) ih) ow (kk _) ⟨rfl, rfl⟩, S.length, ρ, S, ds.map some ++ List.replicate (fn.nl - fn.np) none, st1, r.map_some hds h2 d.len, tb, Nat.le_refl _, Nat.le_refl _, fin_ok st hds h⟩
theorem fn_step (F : Facts T G gn K mg) (XF : XFacts T G gn K mg) {f : Nat} {fn : Fn} (hf : T.fns f = some fn) (d : DefOk T gn K (fun c P => GxR.TabB base mg c P ∧ P ∈ G.ts) (G.fa f) fn)
    (ih : ∀ f fn, T.fns f = some fn → FnR P w K mg base (L2.CX P w) (9 * k) (G.fa f) (spF T G gn k f)) : FnR P w K mg base (L2.CX P w) (9 * (k + 1)) (G.fa f) (spF T G gn (k + 1) f) := by
  obtain ⟨x, qual, params, body, scope, ps, N, fd, g, FD, SC, B, h1, h2, ck, hg⟩ := id d.ex
  have := (fn_ok (P := P) (w := w) (base := base) F XF hf d FD SC h1 h2 ck hg ih).raw B .nil
  exact this.imp fun vs H Q E h => by rw [List.append_nil]; exact h
/-- THE RULE: every def does what is computed -/
theorem fn_all (F : Facts T G gn K mg) (XF : XFacts T G gn K mg) (d : ∀ f fn, T.fns f = some fn → DefOk T gn K (fun c P => GxR.TabB base mg c P ∧ P ∈ G.ts) (G.fa f) fn) : ∀ (k : Nat) (f : Nat) (fn : Fn), T.fns f = some fn → FnR P w K mg base (L2.CX P w) (9 * k) (G.fa f) (spF T G gn k f)
  | 0, f, fn, hf => fun A outer s H us vs Q E hr e0 r ⟨z, bs, ρ, S, ds, st, tb, rr, h⟩ => h.elim
  | k + 1, f, fn, hf => fn_step F XF hf (d f fn hf) (fn_all F XF d k)
end
end Ev


set_option maxHeartbeats 200000
set_option Elab.async false
set_option maxRecDepth 100000
set_option maxHeartbeats 2000000
/-! The head. -/
namespace Ev
open PySem PySem.Spec PyProof.Rows L2

/-- where a def stands -/
inductive Loc where
  | glo (x : Str) | meth (C m : Str) | cmeth (C m : Str)
def cmA (K : PySem.W.Frag) (p : Addr) : Addr := match PySem.W.recIn K p "classmethod" with
  | some (.ref g :: _) => g
  | _ => 0
def adr (K : PySem.W.Frag) : Loc → Addr
  | .glo x => He.ga K x
  | .meth C m => He.ma K (He.ga K C) m
  | .cmeth C m => cmA K (He.ma K (He.ga K C) m)
/-- a def of the text -/
structure Dd where
  at_ : Loc
  name : Str
  qual : Str
  params : Arguments
  body : List Stmt
  scope : Scope
  ps : List Str
  N : List Str
  fn : Fn
  gen : Bool
structure Cd where
  name : Str
  imm : Bool
  ini : Option Nat
  mths : List (Nat × Nat)
  cms : List (Nat × Nat)
  flds : List Nat
/-- an own exception: its class, its field, its __init__ -/
structure Xd where
  name : Str
  fl : Nat
  d : Dd
structure Pd where
  ds : List Dd
  cs : List Cd
  nms : List Str
  kns : List (Str × Int)
  gcd : Bool
  xs : List Xd
def Pd.all (d : Pd) : List Dd := d.ds ++ d.xs.map (·.d)
def Pd.T (d : Pd) : Tb where
  fns := fun f => (d.ds[f]?).map (·.fn)
  mth := fun c m => (d.cs[c]?).bind fun k => k.mths.lookup m
  cms := fun c m => (d.cs[c]?).bind fun k => k.cms.lookup m
  ini := fun c => (d.cs[c]?).bind (·.ini)
  imm := fun c => ((d.cs[c]?).map (·.imm)).getD false
  cok := fun c => decide (c < d.cs.length)
  exc := fun c => if d.cs.length ≤ c then (d.xs[c - d.cs.length]?).map (·.fl) else none
  fld := fun c f => ((d.cs[c]?).map fun k => k.flds.contains f).getD false
def Pd.nm (d : Pd) (i : Nat) : Str := if i < d.nms.length then d.nms.getD i Str.empty else ⟨Array.replicate (i + 100) 35⟩
def Pd.gn (d : Pd) : Gn where
  fnm := fun f => (d.ds[f]?).bind fun k => (match k.at_ with
    | .glo x => some x
    | _ => none)
  cnm := fun c => (d.cs[c]?).map (·.name)
  knm := fun x => d.kns.lookup x
  nm := d.nm
  gcd := d.gcd
  xnm := fun c => if d.cs.length ≤ c then (d.xs[c - d.cs.length]?).map (·.name) else none
def Pd.fa (d : Pd) (K : PySem.W.Frag) (f : Nat) : Addr := ((d.ds[f]?).map fun k => adr K k.at_).getD 0
def Pd.cl (d : Pd) (K : PySem.W.Frag) (c : Nat) : Addr := match d.cs[c]? with
  | some k => He.ga K k.name
  | none => ((d.xs[c - d.cs.length]?).map fun x => He.ga K x.name).getD 0
def codeA (K : PySem.W.Frag) (a : Addr) : Addr := match K.lookup a with
  | some ⟨_, _, .func fd, _⟩ => (match fd.code with
    | .ref c => c
    | _ => 0)
  | _ => 0
/-- a def's code object and its table -/
def Dd.cT (K : PySem.W.Frag) (D : Dd) : Addr × Addr := (codeA K (adr K D.at_), He.tabOf K (codeA K (adr K D.at_)))
def Pd.tabs (d : Pd) (K : PySem.W.Frag) : List (Addr × Addr) := (d.ds.filter (·.gen)).map (Dd.cT K)
def Pd.G (d : Pd) (K : PySem.W.Frag) : Wd := ⟨d.cl K, d.nm, d.fa K, [], K, (d.tabs K).map (·.2)⟩
/-! ### what is checked of the heap -/
def iaB (a b : Option (Option Value)) : Bool := He.eqO a b
def clsB (K : PySem.W.Frag) (x : Str) : Bool := (He.Fa.cls x).ok K && iaB (PySem.W.findIn K (.ref (He.ga K x)) "__class__") (some (some (.builtin "object.__class__"))) && iaB (PySem.W.specialIn K (.builtin "object.__class__") "__get__") (some (some (.builtin "getset_descriptor.__get__"))) &&
  decide (PySem.W.takesIn K (.builtin "object.__class__") = some true) && decide (PySem.W.mroIn K (He.ga K x) (.type "object") = some true)
def cmB (K : PySem.W.Frag) (x m : Str) : Bool := PySem.W.readsIn K (He.ga K x) (.type "type") && iaB (PySem.W.specialIn K (.ref (He.ga K x)) "__getattribute__") (some (some (.builtin "type.__getattribute__"))) && (match PySem.W.findCls K (.ref (He.ga K x)) (.type "type") m with
  | some (.get (.builtin i) (.ref p) .none (.ref c)) => decide (i = "classmethod.__get__") && decide (p = He.ma K (He.ga K x) m) && decide (c = He.ga K x)
  | _ => false) && (match PySem.W.recIn K (He.ma K (He.ga K x) m) "classmethod" with
  | some (.ref g :: _) => PySem.W.fnIn K g
  | _ => false)
def Pd.mthB (d : Pd) (K : PySem.W.Frag) (x : Str) (p : Nat × Nat) : Bool := (He.Fa.meth x (d.nm p.1)).ok K && decide (d.fa K p.2 = He.ma K (He.ga K x) (d.nm p.1)) && decide (p.2 < d.ds.length) && (!(p.1 == nAdd || p.1 == nSub || p.1 == nMul) || PySem.W.selfFirst K (He.ga K x)) && (!(p.1 == nEq) || neB K (He.ga K x))
def Pd.cB (d : Pd) (K : PySem.W.Frag) (c : Cd) : Bool := (He.Fa.glo c.name).ok K && clsB K c.name && (match c.ini with
    | some f => (He.Fa.mkr c.name).ok K && decide (d.fa K f = He.ma K (He.ga K c.name) "__init__") && decide (f < d.ds.length)
    | none => true) && c.flds.all (fun f => (He.Fa.noat c.name (d.nm f)).ok K) && c.mths.all (d.mthB K c.name) && c.cms.all (fun p => cmB K c.name (d.nm p.1) && decide (d.fa K p.2 = cmA K (He.ma K (He.ga K c.name) (d.nm p.1))) && decide (p.2 < d.ds.length)) &&
  (["int", "bool", "str", "tuple", "list"].all fun n => decide (PySem.W.kitOne K (.ref (He.ga K c.name)) (.type n) = some false)) && (["int", "bool", "str", "tuple", "list", "NoneType"].all fun n => decide (PySem.W.kitOne K (.type n) (.ref (He.ga K c.name)) = some false))
def Pd.isiB (d : Pd) (K : PySem.W.Frag) : Bool := d.cs.zipIdx.all fun p => d.cs.zipIdx.all fun q => decide (PySem.W.kitOne K (.ref (He.ga K p.1.name)) (.ref (He.ga K q.1.name)) = some (p.2 == q.2))
def Pd.nmsB (d : Pd) : Bool := d.nms.all (fun x => decide (x.cps.size < 100)) && decide d.nms.Nodup && decide (4 < d.nms.length) && decide (d.nm nEq = "__eq__") && decide (d.nm nAdd = "__add__") && decide (d.nm nSub = "__sub__") && decide (d.nm nMul = "__mul__")
def isNoneV : Value → Bool
  | .none => true
  | _ => false
theorem isNoneV_ok {v : Value} (h : isNoneV v = true) : v = .none := by
  cases v <;> first | rfl | cases h
def Pd.fB (K : PySem.W.Frag) (d : Dd) : Bool := PySem.W.keepIn K (.ref (adr K d.at_)) && (match d.at_ with
    | .glo x => (He.Fa.glo x).ok K
    | _ => true) && (match K.lookup (adr K d.at_) with
    | some ⟨_, _, .func fd, _⟩ => PySem.W.codeIn K fd.code d.qual && isNoneV fd.defaults
    | _ => false)
def Pd.ex (d : Pd) (K : PySem.W.Frag) : Bool := blts.all (fun x => (He.Fa.free x).ok K) && (!d.gcd || iaB (PySem.W.nsIn K mainGlobals "gcd") (some (some (.builtin "math.gcd")))) && d.kns.all (fun p => (He.Fa.int p.1 p.2).ok K) && d.cs.all (d.cB K) && d.isiB K && d.ds.all (Pd.fB K)
def oexB (K : PySem.W.Frag) (C : Addr) : Bool := (match K.lookup C with
  | some ⟨.type t, _, .cls cd, sl⟩ => decide (t = "type") && (match cd.mro, sl.toList with
    | .ref C' :: bm, [_, _, _, _, some (.builtin n), _] => decide (C' = C) && decide (n = "ValueError.__new__") && !cd.hasDel && cd.hasDict && PySem.HandSPX.refsVE bm
    | _, _ => false)
  | _ => false) && iaB (PySem.W.findIn K (.ref C) "__setattr__") (some (some (.builtin "object.__setattr__"))) && decide (PySem.W.subIn K (.ref C) (.type "BaseException") = some true) && decide (PySem.W.typeIn K (.ref C) = some (.type "type")) && PySem.W.keepIn K (.ref C)
def locK (sc : Scope) (x : Str) : Bool := (match sc.names.lookup x with
  | some .local => true
  | _ => false) && okN x
def Pd.iniB (d : Pd) (x : Xd) : Bool := decide (x.d.name = "__init__") && (match x.d.ps, x.d.body with
  | [sf, y], [.Assign [.Attribute (.Name a _) g _] (.Name b _) _] => decide (x.d.N = [sf, y]) && decide (a = sf) && decide (b = y) && decide (g = d.nm x.fl) && locK x.d.scope sf && locK x.d.scope y
  | _, _ => false)
def Pd.xB (d : Pd) (K : PySem.W.Frag) (x : Xd) : Bool := (He.Fa.glo x.name).ok K && oexB K (He.ga K x.name) && xfB K (He.ga K x.name) && iaB (PySem.W.findIn K (.ref (He.ga K x.name)) (d.nm x.fl)) (some none) && iaB (PySem.W.findIn K (.ref (He.ga K x.name)) "__init__") (some (some (.ref (adr K x.d.at_)))) && decide (PySem.W.typeIn K (.ref (adr K x.d.at_)) = some (.type "function")) && Pd.fB K x.d
def Pd.exmB (d : Pd) (K : PySem.W.Frag) : Bool := d.xs.zipIdx.all fun p => d.xs.zipIdx.all fun q => decide (PySem.W.exmOne K (.ref (He.ga K p.1.name)) (.ref (He.ga K q.1.name)) = some (decide (p.2 = q.2)))
def Pd.exX (d : Pd) (K : PySem.W.Frag) : Bool := d.xs.all (d.xB K) && d.exmB K
def fnA (K : PySem.W.Frag) (a : Addr) : He.FnW := match K.lookup a with
  | some ⟨_, _, .func fd, _⟩ => some (fd.name, fd.qualname, fd.params, fd.body, fd.scope, fd.globals, fd.closure, fd.builtins)
  | _ => none
def Dd.val (d : Dd) : He.FnW := some (d.name, d.qual, d.params, .stmts d.body, d.scope, mainGlobals, [], builtinsNs)
section
variable {d : Pd} {K : PySem.W.Frag} {h : Heap} {mg : Str → Option Value}
theorem Pd.nm_inj (hn : d.nmsB = true) : ∀ a b, d.nm a = d.nm b → a = b := by
  unfold Pd.nmsB at hn
  simp only [Bool.and_eq_true, decide_eq_true_eq, List.all_eq_true] at hn
  obtain ⟨⟨⟨⟨⟨⟨h1, h2⟩, _⟩, _⟩, _⟩, _⟩, _⟩ := hn
  have sz : ∀ i, i < d.nms.length → (d.nms.getD i Str.empty).cps.size < 100 := fun i hi => by
    rw [List.getD_eq_getElem?_getD, List.getElem?_eq_getElem hi]
    exact h1 _ (List.getElem_mem hi)
  intro a b e
  unfold Pd.nm at e
  split at e <;> split at e
  · rename_i ha hb
    rw [List.getD_eq_getElem?_getD, List.getD_eq_getElem?_getD, List.getElem?_eq_getElem ha, List.getElem?_eq_getElem hb] at e
    exact (List.getElem_inj h2).mp e
  · rename_i ha hb
    have := sz a ha
    rw [e] at this
    simp at this
    omega
  · rename_i ha hb
    have := sz b hb
    rw [← e] at this
    simp at this
    omega
  · have := congrArg (fun x : Str => x.cps.size) e
    simpa using this
theorem iaB_ok {a b : Option (Option Value)} (h : iaB a b = true) : a = b := He.eqO_ok h
theorem Pd.facts (X : K.In h) (Gm : h.Ns mainGlobals mg) (hn : d.nmsB = true) (c : d.ex K = true) : Facts d.T (d.G K) d.gn K mg := by
  unfold Pd.ex at c
  simp only [Bool.and_eq_true, List.all_eq_true] at c
  obtain ⟨⟨⟨⟨⟨c1, c2⟩, c3⟩, c4⟩, c5⟩, c6⟩ := c
  have hcs : ∀ {k : Nat} {C : Cd}, d.cs[k]? = some C → d.cB K C = true := fun e => c4 _ (List.mem_of_getElem? e)
  have hds : ∀ {k : Nat} {D : Dd}, d.ds[k]? = some D → Pd.fB K D = true := fun e => c6 _ (List.mem_of_getElem? e)
  have cl_of : ∀ {k : Nat} {C : Cd}, d.cs[k]? = some C → d.cl K k = He.ga K C.name := fun e => by unfold Pd.cl; rw [e]
  have fa_of : ∀ {k : Nat} {D : Dd}, d.ds[k]? = some D → d.fa K k = adr K D.at_ := fun e => by unfold Pd.fa; rw [e]; rfl
  have cnm_of : ∀ {k : Nat} {x : Str}, d.gn.cnm k = some x → ∃ C, d.cs[k]? = some C ∧ C.name = x := fun {k x} e => by
    have e : (d.cs[k]?).map (·.name) = some x := e
    cases q : d.cs[k]? with
    | none => rw [q] at e; cases e
    | some C => rw [q] at e; cases e; exact ⟨C, rfl, rfl⟩
  have parts : ∀ {C : Cd}, d.cB K C = true → (He.Fa.glo C.name).ok K = true ∧ clsB K C.name = true ∧ (∀ f, C.ini = some f → (He.Fa.mkr C.name).ok K = true ∧ d.fa K f = He.ma K (He.ga K C.name) "__init__" ∧ f < d.ds.length) ∧ (∀ f ∈ C.flds, (He.Fa.noat C.name (d.nm f)).ok K = true) ∧ (∀ p ∈ C.mths, d.mthB K C.name p = true) ∧
      (∀ p ∈ C.cms, cmB K C.name (d.nm p.1) = true ∧ d.fa K p.2 = cmA K (He.ma K (He.ga K C.name) (d.nm p.1)) ∧ p.2 < d.ds.length) ∧ (∀ n ∈ ["int", "bool", "str", "tuple", "list"], PySem.W.kitOne K (.ref (He.ga K C.name)) (.type n) = some false) ∧ (∀ n ∈ ["int", "bool", "str", "tuple", "list", "NoneType"], PySem.W.kitOne K (.type n) (.ref (He.ga K C.name)) = some false) := by
    intro C hC
    unfold Pd.cB at hC
    simp only [Bool.and_eq_true] at hC
    obtain ⟨⟨⟨⟨⟨⟨⟨k1, k2⟩, k3⟩, k4⟩, k5⟩, k6⟩, k7⟩, k8⟩ := hC
    refine ⟨k1, k2, fun f e => ?_, List.all_eq_true.mp k4, List.all_eq_true.mp k5, fun p hp => ?_, fun n hn => of_decide_eq_true (List.all_eq_true.mp k7 n hn), fun n hn => of_decide_eq_true (List.all_eq_true.mp k8 n hn)⟩
    · rw [e] at k3
      simp only [Bool.and_eq_true, decide_eq_true_eq] at k3
      exact ⟨k3.1.1, k3.1.2, k3.2⟩
    · have := List.all_eq_true.mp k6 p hp
      simp only [Bool.and_eq_true, decide_eq_true_eq] at this
      exact ⟨this.1.1, this.1.2, this.2⟩
  have clsOk : ∀ {x : Str}, clsB K x = true → ClsOk K (He.ga K x) := fun {x} hc => by
    unfold clsB at hc
    simp only [Bool.and_eq_true, decide_eq_true_eq] at hc
    obtain ⟨⟨⟨⟨q1, q2⟩, q3⟩, q4⟩, q5⟩ := hc
    exact ⟨He.cls_ok q1, iaB_ok q2, iaB_ok q3, q4, q5⟩
  have mem_lk : ∀ {α : Type} {l : List (Nat × α)} {m : Nat} {f : α}, l.lookup m = some f → (m, f) ∈ l := fun {α l m f} e => by
    induction l with
    | nil => cases e
    | cons p l ih =>
      rw [List.lookup_cons] at e
      cases q : (m == p.1) with
      | true =>
        rw [q] at e
        cases e
        rw [beq_iff_eq.mp q]
        exact List.mem_cons_self ..
      | false =>
        rw [q] at e
        exact List.mem_cons_of_mem _ (ih e)
  have hmth : ∀ {c m f : Nat}, d.T.mth c m = some f → ∃ C, d.cs[c]? = some C ∧ d.mthB K C.name (m, f) = true := fun {c m f} e => by
    have e : (d.cs[c]?).bind (fun k => k.mths.lookup m) = some f := e
    cases q : d.cs[c]? with
    | none => rw [q] at e; cases e
    | some C =>
      rw [q] at e
      have e : C.mths.lookup m = some f := e
      have z := (parts (hcs q)).2.2.2.2.1 (m, f) (mem_lk e)
      exact ⟨C, rfl, z⟩
  have hcms : ∀ {c m f : Nat}, d.T.cms c m = some f → ∃ C, d.cs[c]? = some C ∧ cmB K C.name (d.nm m) = true ∧ d.fa K f = cmA K (He.ma K (He.ga K C.name) (d.nm m)) ∧ f < d.ds.length := fun {c m f} e => by
    have e : (d.cs[c]?).bind (fun k => k.cms.lookup m) = some f := e
    cases q : d.cs[c]? with
    | none => rw [q] at e; cases e
    | some C =>
      rw [q] at e
      have e : C.cms.lookup m = some f := e
      obtain ⟨z1, z2, z3⟩ := (parts (hcs q)).2.2.2.2.2.1 (m, f) (mem_lk e)
      exact ⟨C, rfl, z1, z2, z3⟩
  have hini : ∀ {c f : Nat}, d.T.ini c = some f → ∃ C, d.cs[c]? = some C ∧ C.ini = some f := fun {c f} e => by
    have e : (d.cs[c]?).bind (·.ini) = some f := e
    cases q : d.cs[c]? with
    | none => rw [q] at e; cases e
    | some C => rw [q] at e; exact ⟨C, rfl, e⟩
  have fns_lt : ∀ {f : Nat}, f < d.ds.length → ∃ fn, d.T.fns f = some fn := fun {f} hf => ⟨d.ds[f].fn, by
    show (d.ds[f]?).map (·.fn) = _
    rw [List.getElem?_eq_getElem hf]
    rfl⟩
  have hn' := hn
  unfold Pd.nmsB at hn'
  simp only [Bool.and_eq_true, decide_eq_true_eq] at hn'
  refine ⟨rfl, fun x hx => He.free_ok X Gm (c1 x hx), fun hg => ?_, fun f x e => ?_, fun c x e => ?_, fun x i e => ?_, fun c x e => ?_, fun c e => ?_, fun c f e => ?_, fun c f e => ?_, fun c m f e => ?_, fun c m f e => ?_, fun c m f e hm => ?_, fun c f e => ?_, fun c m f e => ?_, fun c m f e => ?_, fun c f e => ?_, fun a => rfl, Pd.nm_inj hn, ⟨hn'.1.1.1.2, hn'.1.1.2, hn'.1.2, hn'.2⟩, fun c e xc xe h1 h2 => ?_, fun c x n h1 h2 => ?_, fun c x n h1 h2 => ?_⟩
  · have hg : d.gcd = true := hg
    rw [hg] at c2
    exact PySem.W.mg_of X Gm (iaB_ok (by simpa using c2))
  · have e : (d.ds[f]?).bind (fun k => (match k.at_ with | .glo x => some x | _ => none)) = some x := e
    cases q : d.ds[f]? with
    | none => rw [q] at e; cases e
    | some D =>
      rw [q] at e
      have e : (match D.at_ with | .glo x => some x | _ => none) = some x := e
      have b := hds q
      unfold Pd.fB at b
      simp only [Bool.and_eq_true] at b
      have ef := fa_of q
      cases ql : D.at_ with
      | glo y =>
        rw [ql] at e b ef
        cases e
        have : (d.G K).fa f = He.ga K x := ef
        rw [this]
        exact ⟨He.glo_ok X Gm b.1.2, b.1.1⟩
      | meth _ _ => rw [ql] at e; cases e
      | cmeth _ _ => rw [ql] at e; cases e
  · obtain ⟨C, q, rfl⟩ := cnm_of e
    have : (d.G K).cl c = He.ga K C.name := cl_of q
    rw [this]
    exact He.glo_ok X Gm (parts (hcs q)).1
  · have e : d.kns.lookup x = some i := e
    have : (x, i) ∈ d.kns := by
      clear c1 c2 c3 c4 c5 c6
      generalize d.kns = l at e
      induction l with
      | nil => cases e
      | cons p l ih =>
        rw [List.lookup_cons] at e
        cases q : (x == p.1) with
        | true =>
          rw [q] at e
          cases e
          rw [beq_iff_eq.mp q]
          exact List.mem_cons_self ..
        | false =>
          rw [q] at e
          exact List.mem_cons_of_mem _ (ih e)
    exact He.int_ok X Gm (c3 _ this)
  · obtain ⟨C, q, rfl⟩ := cnm_of e
    have : (d.G K).cl c = He.ga K C.name := cl_of q
    rw [this]
    exact clsOk (parts (hcs q)).2.1
  · have e : c < d.cs.length := of_decide_eq_true e
    exact ⟨_, by show (d.cs[c]?).map (·.name) = some d.cs[c].name; rw [List.getElem?_eq_getElem e]; rfl⟩
  · obtain ⟨C, q, hi⟩ := hini e
    obtain ⟨k1, k2, k3⟩ := (parts (hcs q)).2.2.1 f hi
    have h1 : (d.G K).cl c = He.ga K C.name := cl_of q
    have h2 : (d.G K).fa f = He.ma K (He.ga K C.name) "__init__" := k2
    rw [h1, h2]
    exact He.mkr_ok k1
  · have e : ((d.cs[c]?).map fun k => k.flds.contains f).getD false = true := e
    cases q : d.cs[c]? with
    | none => rw [q] at e; cases e
    | some C =>
      rw [q] at e
      have e : C.flds.contains f = true := e
      have h1 : (d.G K).cl c = He.ga K C.name := cl_of q
      rw [h1]
      exact ⟨(clsOk (parts (hcs q)).2.1).cls, He.noat_ok ((parts (hcs q)).2.2.2.1 f (by simpa using e))⟩
  · obtain ⟨C, q, b⟩ := hmth e
    unfold Pd.mthB at b
    simp only [Bool.and_eq_true, decide_eq_true_eq] at b
    have h1 : (d.G K).cl c = He.ga K C.name := cl_of q
    have h2 : (d.G K).fa f = He.ma K (He.ga K C.name) (d.nm m) := b.1.1.1.2
    rw [h1, h2]
    exact ⟨(clsOk (parts (hcs q)).2.1).cls, He.meth_ok b.1.1.1.1⟩
  · obtain ⟨C, q, b, b2, b3⟩ := hcms e
    have h1 : (d.G K).cl c = He.ga K C.name := cl_of q
    have h2 : (d.G K).fa f = cmA K (He.ma K (He.ga K C.name) (d.nm m)) := b2
    rw [h1, h2]
    unfold cmB at b
    simp only [Bool.and_eq_true] at b
    obtain ⟨⟨⟨r1, r2⟩, r3⟩, r4⟩ := b
    have r4' : ∃ g rest, PySem.W.recIn K (He.ma K (He.ga K C.name) (d.nm m)) "classmethod" = some (.ref g :: rest) ∧ PySem.W.fnIn K g = true := by
      split at r4
      · rename_i g rest er
        exact ⟨g, rest, er, r4⟩
      · cases r4
    obtain ⟨g, rest, er, hg⟩ := r4'
    have hga : cmA K (He.ma K (He.ga K C.name) (d.nm m)) = g := by unfold cmA; rw [er]
    rw [hga]
    refine ⟨.type "type", He.ma K (He.ga K C.name) (d.nm m), ⟨r1, iaB_ok r2⟩, ⟨?_, ⟨rest, er⟩, hg⟩⟩
    show PySem.W.findCls K (.ref (He.ga K C.name)) (.type "type") (d.nm m) = _
    split at r3
    · rename_i i p c' ef
      simp only [Bool.and_eq_true, decide_eq_true_eq] at r3
      rw [ef, r3.1.1, r3.1.2, r3.2]
    · cases r3
  · obtain ⟨C, q, b⟩ := hmth e
    unfold Pd.mthB at b
    simp only [Bool.and_eq_true] at b
    have h1 : (d.G K).cl c = He.ga K C.name := cl_of q
    rw [h1]
    have b2 := b.1.2
    rcases hm with rfl | rfl | rfl <;> simpa using b2
  · obtain ⟨C, q, b⟩ := hmth e
    unfold Pd.mthB at b
    simp only [Bool.and_eq_true] at b
    have h1 : (d.G K).cl c = He.ga K C.name := cl_of q
    rw [h1]
    have b2 := b.2
    exact ⟨by simpa using b2, (clsOk (parts (hcs q)).2.1).hm⟩
  · obtain ⟨C, q, b⟩ := hmth e
    unfold Pd.mthB at b
    simp only [Bool.and_eq_true, decide_eq_true_eq] at b
    exact fns_lt b.1.1.2
  · obtain ⟨C, q, b, b2, b3⟩ := hcms e
    exact fns_lt b3
  · obtain ⟨C, q, hi⟩ := hini e
    exact fns_lt ((parts (hcs q)).2.2.1 f hi).2.2
  · obtain ⟨C, q, rfl⟩ := cnm_of h1
    obtain ⟨C', q', rfl⟩ := cnm_of h2
    have k1 : (d.G K).cl c = He.ga K C.name := cl_of q
    have k2 : (d.G K).cl e = He.ga K C'.name := cl_of q'
    rw [k1, k2]
    unfold Pd.isiB at c5
    have z1 := List.all_eq_true.mp c5 (C, c) (List.mem_zipIdx_iff_getElem?.mpr q)
    have z2 := List.all_eq_true.mp z1 (C', e) (List.mem_zipIdx_iff_getElem?.mpr q')
    exact of_decide_eq_true z2
  · obtain ⟨C, q, rfl⟩ := cnm_of h1
    have k1 : (d.G K).cl c = He.ga K C.name := cl_of q
    rw [k1]
    exact (parts (hcs q)).2.2.2.2.2.2.1 n h2
  · obtain ⟨C, q, rfl⟩ := cnm_of h1
    have k1 : (d.G K).cl c = He.ga K C.name := cl_of q
    rw [k1]
    exact (parts (hcs q)).2.2.2.2.2.2.2 n h2
/-! ### the defs -/
def scB (N P : List Str) (sc : Scope) : Bool := (match sc.kind with | .function => true | _ => false) && !sc.isCoroutine && !sc.isGenerator && decide N.Nodup && decide (N.take P.length = P) && (P.all fun x => match sc.names.lookup x with
    | some .local => true
    | some .cell => true
    | _ => false) && sc.names.all fun y => match y.2 with
    | .free => false
    | _ => true
theorem scB_ok {N P : List Str} {sc : Scope} (h : scB N P sc = true) : FnScope N P sc := by
  unfold scB at h
  simp only [Bool.and_eq_true, decide_eq_true_eq, Bool.not_eq_true', List.all_eq_true] at h
  obtain ⟨⟨⟨⟨⟨⟨h1, h2⟩, h3⟩, h4⟩, h5⟩, h6⟩, h7⟩ := h
  refine ⟨?_, h2, h3, h4, h5, fun x hx => ?_, fun y hy z => ?_⟩
  · split at h1
    · assumption
    · cases h1
  · have := h6 x hx
    split at this
    · exact .inl (by assumption)
    · exact .inr (by assumption)
    · cases this
  · have := h7 y hy
    rw [z] at this
    cases this
/-- positional values alone are bound -/
def BindOk (d : Dd) : Prop := ∀ (kV doc pm : Value) (an : Option Addr) (cdv ct : Value) (us : List Value), us.length = d.ps.length → bindArgs (PySem.W.fnOf d.name d.qual d.params d.body d.scope .none kV doc pm an cdv ct) ⟨us, []⟩ = pure (d.ps.zip us)
def Dd.ok (T : Tb) (gn : Gn) (d : Dd) : Bool := scB d.N d.ps d.scope && decide (d.ps.length = d.fn.np) && decide (d.N.length = d.fn.nl) && chkSs T gn d.fn.body ⟨d.N, d.scope, true, d.gen⟩ d.body
theorem Dd.funD {D : Dd} (e : fnA K (adr K D.at_) = D.val) (c : Pd.fB K D = true) : ∃ fd, FunD K D.name D.qual D.params D.body D.scope [] [] (adr K D.at_) fd ∧ fd.code = .ref (codeA K (adr K D.at_)) := by
  unfold Pd.fB at c
  simp only [Bool.and_eq_true] at c
  obtain ⟨⟨kp, _⟩, c2⟩ := c
  unfold fnA at e
  cases q : K.lookup (adr K D.at_) with
  | none =>
    rw [q] at c2
    cases c2
  | some o =>
    obtain ⟨oc, od, dt, osl⟩ := o
    rw [q] at c2 e
    cases dt with
    | func fd =>
      obtain ⟨n1, n2, n3, n4, n5, n6, n7, n8, n9, n10, n11, n12, n13, n14, n15⟩ := fd
      have e2 : (some (n1, n2, n3, n4, n5, n6, n7, n15) : He.FnW) = some (D.name, D.qual, D.params, .stmts D.body, D.scope, mainGlobals, [], builtinsNs) := e
      simp only [Option.some.injEq, Prod.mk.injEq] at e2
      obtain ⟨h1, h2, h3, h4, h5, h6, h7, h8⟩ := e2
      subst h1 h2 h3 h4 h5 h6 h7 h8
      have c3 : (PySem.W.codeIn K n13 D.qual && isNoneV n8) = true := c2
      rw [Bool.and_eq_true] at c3
      have hn : n8 = Value.none := isNoneV_ok c3.2
      obtain ⟨cc, hcc⟩ := He.codeIn_ref c3.1
      exact ⟨_, ⟨⟨oc, od, n8, n9, n10, n11, n12, n13, n14, osl, rfl, q, c3.1, .inl ⟨rfl, hn⟩, .inl rfl⟩, kp⟩, by unfold codeA; rw [q]; subst hcc; rfl⟩
    | _ => cases c2
theorem Pd.def_ok (hd : ∀ D ∈ d.ds, fnA K (adr K D.at_) = D.val) (c : d.ds.all (Pd.fB K) = true) (hb : ∀ D ∈ d.ds, BindOk D) (ck : d.ds.all (Dd.ok d.T d.gn) = true) {f : Nat} {D : Dd} (e : d.ds[f]? = some D) :
    ∃ fd, FunD K D.name D.qual D.params D.body D.scope [] [] ((d.G K).fa f) fd ∧ fd.code = .ref (codeA K (adr K D.at_)) ∧ FnScope D.N D.ps D.scope ∧ (∀ (s : Shared) (us : List Value), us.length = D.ps.length → BindsTo s fd ⟨us, []⟩ (D.ps.zip us)) ∧ Binds K fd D.ps [] ∧ D.ps.length = D.fn.np ∧ D.N.length = D.fn.nl ∧ chkSs d.T d.gn D.fn.body ⟨D.N, D.scope, true, D.gen⟩ D.body = true := by
  have m := List.mem_of_getElem? e
  obtain ⟨fd, F, hcd⟩ := Dd.funD (hd D m) (List.all_eq_true.mp c D m)
  have ef : (d.G K).fa f = adr K D.at_ := by
    show ((d.ds[f]?).map fun k => adr K k.at_).getD 0 = _
    rw [e]
    rfl
  rw [← ef] at F
  have k := List.all_eq_true.mp ck D m
  unfold Dd.ok at k
  simp only [Bool.and_eq_true, decide_eq_true_eq] at k
  exact ⟨fd, F, hcd, scB_ok k.1.1.1, F.bindsA (hb D m), F.bindsN (hb D m), k.1.1.2, k.1.2, k.2⟩
theorem Pd.defs {base : Heap} (TB : ∀ p ∈ d.tabs K, GxR.TabB base mg p.1 p.2) (hd : ∀ D ∈ d.ds, fnA K (adr K D.at_) = D.val) (c : d.ds.all (Pd.fB K) = true) (hb : ∀ D ∈ d.ds, BindOk D) (ck : d.ds.all (Dd.ok d.T d.gn) = true) : ∀ f fn, d.T.fns f = some fn → DefOk d.T d.gn K (fun c P => GxR.TabB base mg c P ∧ P ∈ (d.G K).ts) ((d.G K).fa f) fn := fun f fn e => by
  have e : (d.ds[f]?).map (·.fn) = some fn := e
  cases q : d.ds[f]? with
  | none => rw [q] at e; cases e
  | some D =>
    rw [q] at e
    cases e
    obtain ⟨fd, F, hcd, S, _, B, h1, h2, h3⟩ := Pd.def_ok hd c hb ck q
    refine ⟨_, _, _, _, _, _, _, fd, _, F, S, B, h1, h2, h3, fun hg => ⟨_, (Dd.cT K D).2, hcd, TB (Dd.cT K D) ?_, List.mem_map.mpr ⟨_, ?_, rfl⟩⟩⟩
    · exact List.mem_map.mpr ⟨D, List.mem_filter.mpr ⟨List.mem_of_getElem? q, hg⟩, rfl⟩
    · exact List.mem_map.mpr ⟨D, List.mem_filter.mpr ⟨List.mem_of_getElem? q, hg⟩, rfl⟩
end
/-! ### own exceptions -/
theorem oexB_ok {K : PySem.W.Frag} {C : Addr} (h : oexB K C = true) : OexC K C := by
  unfold oexB at h
  simp only [Bool.and_eq_true, decide_eq_true_eq] at h
  obtain ⟨⟨⟨⟨h1, h2⟩, h3⟩, h4⟩, h5⟩ := h
  refine ⟨?_, iaB_ok h2, h3, h4, h5⟩
  split at h1
  · rename_i t od cd sl e
    rw [Bool.and_eq_true, decide_eq_true_eq] at h1
    obtain ⟨rfl, h1⟩ := h1
    split at h1
    · rename_i C' bm k0 k1 k2 k3 n k5 hm hs
      simp only [Bool.and_eq_true, decide_eq_true_eq, Bool.not_eq_true'] at h1
      obtain ⟨⟨⟨⟨rfl, rfl⟩, h6⟩, h7⟩, h8⟩ := h1
      obtain ⟨n1, n2, n3, n4, n5, n6, n7, n8, n9, n10, n11⟩ := cd
      dsimp only at hm h6 h7
      subst hm h6 h7
      refine ⟨n1, n5, n4, n2, bm, n7, n8, n9, n10, od, k0, k1, k2, k3, k5, ?_, h8⟩
      rw [e]
      have : sl = #[k0, k1, k2, k3, some (.builtin "ValueError.__new__"), k5] := by
        rw [← Array.toArray_toList (xs := sl), hs]
      rw [this]
    · cases h1
  · cases h1
theorem locK_ok {sc : Scope} {x : Str} (h : locK sc x = true) : Vis sc x ∧ (x == ("__debug__" : Str)) = false ∧ (x == ("__classdict__" : Str)) = false := by
  unfold locK at h
  rw [Bool.and_eq_true] at h
  refine ⟨?_, okN_1 h.2⟩
  have := h.1
  split at this
  · exact .inl (by assumption)
  · cases this
section
variable {d : Pd} {K : PySem.W.Frag} {h : Heap} {mg : Str → Option Value}
theorem Pd.xfacts (X : K.In h) (Gm : h.Ns mainGlobals mg) (hd : ∀ D ∈ d.all, fnA K (adr K D.at_) = D.val) (c : d.exX K = true) (hb : ∀ D ∈ d.all, BindOk D) (ck : d.xs.all (fun x => d.iniB x && scB x.d.N x.d.ps x.d.scope) = true) : XFacts d.T (d.G K) d.gn K mg := by
  unfold Pd.exX at c
  rw [Bool.and_eq_true, List.all_eq_true] at c
  have cl_of : ∀ {k : Nat} {x : Xd}, d.cs.length ≤ k → d.xs[k - d.cs.length]? = some x → (d.G K).cl k = He.ga K x.name := fun {k x} hk e => by
    show d.cl K k = _
    unfold Pd.cl
    rw [List.getElem?_eq_none hk]
    dsimp only
    rw [e]
    rfl
  have of_exc : ∀ {k f : Nat}, d.T.exc k = some f → d.cs.length ≤ k ∧ ∃ x, d.xs[k - d.cs.length]? = some x ∧ x.fl = f := fun {k f} e => by
    have e : (if d.cs.length ≤ k then (d.xs[k - d.cs.length]?).map (·.fl) else none) = some f := e
    split at e
    · rename_i hk
      cases q : d.xs[k - d.cs.length]? with
      | none => rw [q] at e; cases e
      | some x => rw [q] at e; cases e; exact ⟨hk, x, rfl, rfl⟩
    · cases e
  refine ⟨fun k f e => ?_, fun k x e => ?_, fun k k' e e' => ?_⟩
  · obtain ⟨hk, x, q, rfl⟩ := of_exc e
    rw [cl_of hk q]
    have hm := List.mem_of_getElem? q
    have b := c.1 x hm
    unfold Pd.xB at b
    simp only [Bool.and_eq_true, decide_eq_true_eq] at b
    obtain ⟨⟨⟨⟨⟨⟨b1, b2⟩, b3⟩, b4⟩, b5⟩, b6⟩, b7⟩ := b
    have hmd : x.d ∈ d.all := List.mem_append_right _ (List.mem_map.mpr ⟨x, hm, rfl⟩)
    obtain ⟨fd, F, _⟩ := Dd.funD (hd _ hmd) b7
    have cki := List.all_eq_true.mp ck x hm
    rw [Bool.and_eq_true] at cki
    have sc := scB_ok cki.2
    have ini := cki.1
    unfold Pd.iniB at ini
    rw [Bool.and_eq_true, decide_eq_true_eq] at ini
    obtain ⟨i1, i2⟩ := ini
    have bn := F.bindsN (hb _ hmd)
    split at i2
    · rename_i sf y a p1 g p2 bb p3 p4 eps ebody
      simp only [Bool.and_eq_true, decide_eq_true_eq] at i2
      obtain ⟨⟨⟨⟨⟨j1, rfl⟩, rfl⟩, rfl⟩, j5⟩, j6⟩ := i2
      obtain ⟨l1, l2, l3⟩ := locK_ok j5
      obtain ⟨m1, m2, m3⟩ := locK_ok j6
      rw [i1, ebody] at F
      rw [eps] at bn sc
      rw [j1] at sc
      exact ⟨oexB_ok b2, xfB_ok b3, iaB_ok b4, _, iaB_ok b5, b6, ⟨_, _, _, _, _, fd, p1, p2, p3, p4, F, sc, bn, l1, m1, l2, l3, m2, m3⟩⟩
    · cases i2
  · have e : (if d.cs.length ≤ k then (d.xs[k - d.cs.length]?).map (·.name) else none) = some x := e
    split at e
    · rename_i hk
      cases q : d.xs[k - d.cs.length]? with
      | none => rw [q] at e; cases e
      | some y =>
        rw [q] at e
        cases e
        rw [cl_of hk q]
        have b := c.1 y (List.mem_of_getElem? q)
        unfold Pd.xB at b
        simp only [Bool.and_eq_true] at b
        exact He.glo_ok X Gm b.1.1.1.1.1.1
    · cases e
  · obtain ⟨f, hf⟩ := Option.isSome_iff_exists.mp e
    obtain ⟨f', hf'⟩ := Option.isSome_iff_exists.mp e'
    obtain ⟨hk, x, q, _⟩ := of_exc hf
    obtain ⟨hk', x', q', _⟩ := of_exc hf'
    rw [cl_of hk q, cl_of hk' q']
    have z := c.2
    unfold Pd.exmB at z
    have z1 := List.all_eq_true.mp z (x', k' - d.cs.length) (List.mem_zipIdx_iff_getElem?.mpr q')
    have z2 := List.all_eq_true.mp z1 (x, k - d.cs.length) (List.mem_zipIdx_iff_getElem?.mpr q)
    rw [of_decide_eq_true z2]
    congr 1
    exact decide_eq_decide.mpr ⟨fun q => by dsimp only at q; omega, fun q => by rw [q]⟩
end
/-! ### the Hook -/
def asE (g : Addr → Option Obj) (n : Nat) : List Addr := He.asD g n ++ [cStatics]
def Pd.tabsB (d : Pd) (g : Addr → Option Obj) (K : PySem.W.Frag) : Bool := (d.tabs K).all fun p => PySem.W.codeHdIn K p.1 p.2 && (match g p.2 with
  | some o => He.emptyTab o
  | none => false)
def obsE (n : Nat) (d : Pd) (g : Addr → Option Obj) : List He.FnW × Bool := (d.all.map fun D => fnA (He.frT g (asE g n)) (adr (He.frT g (asE g n)) D.at_), d.ex (He.frT g (asE g n)) && d.exX (He.frT g (asE g n)) && d.tabsB g (He.frT g (asE g n)))
structure SaysE (d : Pd) (h : Heap) (K : PySem.W.Frag) : Prop where
  ds : ∀ D ∈ d.all, fnA K (adr K D.at_) = D.val
  ex : d.ex K = true
  exx : d.exX K = true
  hd : ∀ p ∈ d.tabs K, PySem.W.codeHdIn K p.1 p.2 = true
  out : ∀ p ∈ d.tabs K, K.lookup p.2 = none
  empty : ∀ p ∈ d.tabs K, h.get? p.2 = some { cls := .none, data := .fields #[] }
def hookE (n : Nat) (d : Pd) : PySem.W.Hook where
  α := List He.FnW × Bool
  obs := fun s => obsE n d s.heap.get?
  val := fun _ => (d.all.map Dd.val, true)
  says := fun _ h => ∃ K : PySem.W.Frag, K.In h ∧ SaysE d h K
  of := fun _ s e => by
    have e2 : (d.ex (He.frT s.heap.get? (asE s.heap.get? n)) && d.exX (He.frT s.heap.get? (asE s.heap.get? n)) && d.tabsB s.heap.get? (He.frT s.heap.get? (asE s.heap.get? n))) = true := congrArg (fun z : List He.FnW × Bool => z.2) e
    rw [Bool.and_eq_true, Bool.and_eq_true] at e2
    have key : ∀ p ∈ d.tabs (He.frT s.heap.get? (asE s.heap.get? n)), PySem.W.codeHdIn (He.frT s.heap.get? (asE s.heap.get? n)) p.1 p.2 = true ∧ ∃ o, s.heap.get? p.2 = some o ∧ He.emptyTab o = true := fun p hp => by
      have := List.all_eq_true.mp e2.2 p hp
      rw [Bool.and_eq_true] at this
      refine ⟨this.1, ?_⟩
      cases q : s.heap.get? p.2 with
      | none => rw [q] at this; cases this.2
      | some o => rw [q] at this; exact ⟨o, rfl, this.2⟩
    exact ⟨_, He.frT_in, ⟨fun D m => by
      have e1 : (d.all.map fun D => fnA (He.frT s.heap.get? (asE s.heap.get? n)) (adr (He.frT s.heap.get? (asE s.heap.get? n)) D.at_)) = d.all.map Dd.val := congrArg (fun z : List He.FnW × Bool => z.1) e
      exact List.map_inj_left.mp e1 D m, e2.1.1, e2.1.2, fun p hp => (key p hp).1, fun p hp => let ⟨_, o, q, z⟩ := key p hp; He.frT_none q z, fun p hp => by
      obtain ⟨_, o, q, z⟩ := key p hp
      rw [q, He.emptyTab_eq z]⟩⟩
  keeps := fun _ _ _ ⟨K, hK, c⟩ k => ⟨K, PySem.W.Frag.In.keeps hK k, ⟨c.ds, c.ex, c.exx, c.hd, c.out, fun p hp => k _ _ (c.empty p hp)⟩⟩
theorem obsE_eq {n : Nat} {d : Pd} {g : Addr → Option Obj} {s : Shared} (h : ∀ a, g a = s.heap.get? a) : obsE n d g = (hookE n d).obs s := by
  have e : g = s.heap.get? := funext h
  rw [e]
  rfl
/-! ### the law -/
theorem law_at {l : PySem.W.OpenLaw} {w : World} {d : Pd} {K : PySem.W.Frag} {h : Heap} {mg : Str → Option Value} {fa : Addr} {n κ li : Nat} {D : Dd} {x : Str} (X : K.In h) (Gm : h.Ns mainGlobals mg) (S : SaysE d h K) (hn : d.nmsB = true) (hb : ∀ D ∈ d.all, BindOk D) (ck : d.ds.all (Dd.ok d.T d.gn) = true) (ckx : d.xs.all (fun x => d.iniB x && scB x.d.N x.d.ps x.d.scope) = true)
    (hD : d.ds[li]? = some D) (hat : D.at_ = .glo "law") (hps : D.ps = [x]) (hmg : mg "law" = some (.ref fa))
    (law : ∀ ns : List Int, ns.length ≤ n → (∀ z ∈ ns, Builtin.Int.intBits z ≤ 1048576) → (lv d.T (κ + 1)).1 li [.scr ns] [] = .ok (.bl true) []) :
    LamX.LawAtS l w K (L2.CX l.prog w) (9 * κ + 8 + 1) n x mg fa h := by
  have F := Pd.facts X Gm hn S.ex
  have XF := Pd.xfacts X Gm S.ds S.exx hb ckx
  have sds : ∀ D ∈ d.ds, fnA K (adr K D.at_) = D.val := fun D m => S.ds D (List.mem_append_left _ m)
  have hb' : ∀ D ∈ d.ds, BindOk D := fun D m => hb D (List.mem_append_left _ m)
  have c : d.ds.all (Pd.fB K) = true := by
    have := S.ex
    unfold Pd.ex at this
    rw [Bool.and_eq_true] at this
    exact this.2
  obtain ⟨fd, FD, hcd, SC, ba, B, h1, h2, h3⟩ := Pd.def_ok sds c hb' ck hD
  have hfns : d.T.fns li = some D.fn := by
    show (d.ds[li]?).map (·.fn) = _
    rw [hD]
    rfl
  have hgn : d.gn.fnm li = some ("law" : Str) := by
    show (d.ds[li]?).bind (fun k => (match k.at_ with | .glo x => some x | _ => none)) = _
    rw [hD]
    show (match D.at_ with | .glo x => some x | _ => none) = some ("law" : Str)
    rw [hat]
  have hfa : (d.G K).fa li = fa := by
    have := (F.fn li "law" hgn).1
    rw [hmg] at this
    cases this
    rfl
  rw [hfa] at FD
  refine ⟨fd, d.tabs K, spF d.T (d.G K) d.gn (κ + 1) li, S.empty, S.out, fun p hp => PySem.W.codeHd_of_K X (S.hd p hp), fun s u => ?_, fun H a ns hl hbits hT hS => ?_, fun base KB GB TB' => ?_⟩
  · have := ba s [u] (by rw [hps]; rfl)
    rw [hps] at this
    exact this
  · refine ⟨[], [], [], [], [.scr ns], ⟨rfl, .nil, fun n a d e => by simp at e, fun b hb => by simp at hb, fun b hb => by simp at hb, fun a ha => by simp at ha⟩, fun P hP => by
      obtain ⟨p, hp, e⟩ := List.mem_map.mp hP
      rw [← e]
      exact ⟨#[], hT p hp, trivial⟩, .cons ?_ .nil, ?_⟩
    · rcases hS with hS | hS
      · exact .scr hS (by simp) (by simp)
      · exact .scrK hS
    · rw [law ns hl hbits]
      intro ρ' H' x1 s1 v r
      cases r
      rfl
  · have TBx : ∀ p ∈ d.tabs K, GxR.TabB base mg p.1 p.2 := fun p hp => ⟨(TB' p hp).code, (TB' p hp).bm, (TB' p hp).gP⟩
    have dd := Pd.defs (mg := mg) (base := base) TBx sds c hb' ck
    have q := fn_ok (P := l.prog) (w := w) (base := base) (k := κ) F XF hfns (dd li D.fn hfns) (by rw [hfa]; exact FD) SC h1 h2 h3 (fun hg => ⟨_, (Dd.cT K D).2, hcd, TBx (Dd.cT K D) (List.mem_map.mpr ⟨D, List.mem_filter.mpr ⟨List.mem_of_getElem? hD, hg⟩, rfl⟩), List.mem_map.mpr ⟨_, List.mem_map.mpr ⟨D, List.mem_filter.mpr ⟨List.mem_of_getElem? hD, hg⟩, rfl⟩, rfl⟩⟩) (fn_all F XF dd κ)
    rw [hfa, hps] at q
    exact q
theorem cx_no {P : Program} {w : World} (H : Hp) (s : Shared) (e : Value) (s' : Shared) (c : L2.CX P w [] H s (fun _ _ _ => False) e s') : False := by
  obtain ⟨_, _, _, _, _, _, _, _, _, _, _, _, z⟩ := c
  exact z
end Ev


set_option maxHeartbeats 200000
set_option Elab.async false
set_option maxRecDepth 100000
/-! For the laws: how a call is worked out. -/
namespace Ev
open PySem PySem.Spec

section
variable {T : Tb} {k f : Nat} {fn : Fn} {ds : List D} {S S1 : Sto} {d d' : D}
theorem call_rt (hf : T.fns f = some fn) (hp : D.pures ds = true) (hl : ds.length = fn.np) (he : evSs T (lv T k).1 0 fn.body 0 (ds.map some ++ List.replicate (fn.nl - fn.np) none) [] = .rt d S1) (hz : fz 0 S1 d = some d') : (lv T (k + 1)).1 f ds S = .ok d' S := by
  simp only [lv, hf, hp, if_true, runF, hl, List.length_nil, he, fin, hz]
theorem call_nx {env : Env} (hf : T.fns f = some fn) (hp : D.pures ds = true) (hl : ds.length = fn.np) (he : evSs T (lv T k).1 0 fn.body 0 (ds.map some ++ List.replicate (fn.nl - fn.np) none) [] = .nx env S1) : (lv T (k + 1)).1 f ds S = .ok .non S := by
  simp only [lv, hf, hp, if_true, runF, hl, List.length_nil, he, fin]
  rfl
theorem fz_pure (h : d.pure = true) : fz 0 S1 d = some d := by simp [fz, h]
end
@[simp] theorem pures_ints (ns : List Int) : D.pures (ns.map D.int) = true := by
  induction ns with
  | nil => rfl
  | cons n r ih => rw [List.map_cons, D.pures, ih]; rfl
@[simp] theorem blws_ints (n : Nat) (ns : List Int) : D.blws n (ns.map D.int) = true := D.blws_pure n _ (pures_ints ns)
@[simp] theorem dats_ints (n : Nat) (ns : List Int) : D.dats n (ns.map D.int) = true := by
  induction ns with
  | nil => cases n <;> rfl
  | cons m r ih => rw [List.map_cons, D.dats, ih, D.dat]; rfl
theorem pures_app (xs ys : List D) : D.pures (xs ++ ys) = (D.pures xs && D.pures ys) := by
  induction xs with
  | nil => simp [D.pures]
  | cons x r ih => simp [D.pures, ih, Bool.and_assoc]


/-! ### rules, by what the parts come to -/
section
variable {T : Tb} {cf : Nat → List D → Sto → R D} {b₀ p : Nat} {env e1 : Env} {S S1 S2 : Sto}
theorem E_or {a b : E} {u v : Bool} (ha : evE T cf b₀ a env S = .ok (.bl u) S) (hb : u = false → evE T cf b₀ b env S = .ok (.bl v) S) : evE T cf b₀ (.or a b) env S = .ok (.bl (u || v)) S := by
  rw [evE]; dsimp only; rw [ha]
  cases u with
  | true => rfl
  | false => exact hb rfl
theorem E_and {a b : E} {u v : Bool} (ha : evE T cf b₀ a env S = .ok (.bl u) S) (hb : u = true → evE T cf b₀ b env S = .ok (.bl v) S) : evE T cf b₀ (.and a b) env S = .ok (.bl (u && v)) S := by
  rw [evE]; dsimp only; rw [ha]
  cases u with
  | true => exact hb rfl
  | false => rfl
theorem E_not {a : E} {u : Bool} (ha : evE T cf b₀ a env S = .ok (.bl u) S1) : evE T cf b₀ (.not a) env S = .ok (.bl (!u)) S1 := by
  rw [evE]; dsimp only; rw [ha]
theorem E_chn {o o' : Cop} {a b c : E} {x y z : D} {u v : Bool} (ha : evE T cf b₀ a env S = .ok x S) (hb : evE T cf b₀ b env S = .ok y S) (hu : vcmp o (dr S x) (dr S y) = some u) (hc : u = true → evE T cf b₀ c env S = .ok z S) (hv : u = true → vcmp o' (dr S y) (dr S z) = some v) : evE T cf b₀ (.chn o o' a b c) env S = .ok (.bl (u && v)) S := by
  rw [evE]; dsimp only; rw [ha]
  simp only [bnd, hb, hu, ofO]
  cases u with
  | true => simp only [hc rfl, hv rfl, Option.map, ofO, Bool.true_and]
  | false => rfl
theorem E_ife {a b c : E} {u : Bool} {r : R D} (hc : evE T cf b₀ c env S = .ok (.bl u) S1) (ht : u = true → evE T cf b₀ a env S1 = r) (hf : u = false → evE T cf b₀ b env S1 = r) : evE T cf b₀ (.ife c a b) env S = r := by
  rw [evE]; dsimp only; rw [hc]
  cases u with
  | true => exact ht rfl
  | false => exact hf rfl
theorem S_ifs {a b : Ss} {c : E} {u : Bool} {r : Out} (hc : evE T cf b₀ c env S = .ok (.bl u) S1) (ht : u = true → evSs T cf b₀ a p env S1 = r) (hf : u = false → evSs T cf b₀ b p env S1 = r) : evS T cf b₀ (.ifs c a b) p env S = r := by
  rw [evS]; dsimp only; rw [hc]
  cases u with
  | true => exact ht rfl
  | false => exact hf rfl
theorem C_nx {s : St} {r : Ss} {o : Out} (h : evS T cf b₀ s p env S = .nx e1 S1) (hr : evSs T cf b₀ r p e1 S1 = o) : evSs T cf b₀ (.cons s r) p env S = o := by
  rw [evSs]; dsimp only; rw [h]; exact hr
theorem C_rt {s : St} {r : Ss} {d : D} (h : evS T cf b₀ s p env S = .rt d S1) : evSs T cf b₀ (.cons s r) p env S = .rt d S1 := by
  rw [evSs]; dsimp only; rw [h]
theorem C_bk {s : St} {r : Ss} (h : evS T cf b₀ s p env S = .bk e1 S1) : evSs T cf b₀ (.cons s r) p env S = .bk e1 S1 := by
  rw [evSs]; dsimp only; rw [h]
theorem S_set {i : Nat} {e : E} {d : D} (h : evE T cf b₀ e env S = .ok d S1) : evS T cf b₀ (.set i e) p env S = .nx (env.set i (some d)) S1 := by
  rw [evS]; dsimp only; rw [h]
theorem S_ret {e : E} {d : D} (h : evE T cf b₀ e env S = .ok d S1) : evS T cf b₀ (.ret e) p env S = .rt d S1 := by
  rw [evS]; dsimp only; rw [h]
theorem S_exp {e : E} {d : D} (h : evE T cf b₀ e env S = .ok d S1) : evS T cf b₀ (.exp e) p env S = .nx env S1 := by
  rw [evS]; dsimp only; rw [h]
theorem S_for {t : Tg} {it : I} {b : Ss} {q : List D × Option Nat} {o : Out} (h : evI T cf b₀ it env S = .ok q S1) (hl : forL q.2 q.1 t (evSs T cf b₀ b S1.length) q.1 env S1 = o) : evS T cf b₀ (.for t it b) p env S = o := by
  rw [evS]; dsimp only; rw [h]; exact hl
theorem E_call {f : Nat} {es : Es} {ds : List D} {r : R D} (h : evEs T cf b₀ es env S = .ok ds S1) (hr : cf f ds S1 = r) : evE T cf b₀ (.call f es) env S = r := by
  rw [evE]; dsimp only; rw [h]; exact hr
theorem E_bin {o : Bop} {a b : E} {x y : D} {r : R D} (ha : evE T cf b₀ a env S = .ok x S1) (hb : evE T cf b₀ b env S1 = .ok y S2) (hr : bop2 T cf o x y S2 = r) : evE T cf b₀ (.bin o a b) env S = r := by
  rw [evE]; dsimp only; rw [ha]; simp only [bnd, hb]; exact hr
theorem E_cmp {o : Cop} {a b : E} {x y : D} {r : R D} (ha : evE T cf b₀ a env S = .ok x S1) (hb : evE T cf b₀ b env S1 = .ok y S2) (hr : cmp2 T cf o x y S2 = r) : evE T cf b₀ (.cmp o a b) env S = r := by
  rw [evE]; dsimp only; rw [ha]; simp only [bnd, hb]; exact hr
theorem E_bi {b : Bi} {es : Es} {ds : List D} {d : D} (h : evEs T cf b₀ es env S = .ok ds S1) (hd : vbi b (ds.map (dr S1)) = some d) : evE T cf b₀ (.bi b es) env S = .ok d S1 := by
  rw [evE]; dsimp only; rw [h]; simp only [bnd, bi2, hd, ofO]
theorem Es_nil : evEs T cf b₀ .nil env S = .ok [] S := by rw [evEs]
theorem Es_cons {e : E} {r : Es} {x : D} {xs : List D} (h : evE T cf b₀ e env S = .ok x S1) (hr : evEs T cf b₀ r env S1 = .ok xs S2) : evEs T cf b₀ (.cons e r) env S = .ok (x :: xs) S2 := by
  rw [evEs]; dsimp only; rw [h]; simp only [bnd, hr]
/-- the walk of a comprehension whose items change nothing -/
theorem compL_val {f : EF} {c : CF} {t : Tg} {n : Nat} {all : List D} (xs : List D) : ∀ (acc : List D) (g : D → Env) (cb : D → Bool) (y : D → D), S.length = n → (∀ x ∈ xs, ∀ ac, setT t x env = some (g x) ∧ c (g x) (S ++ [.lst ac]) = .ok (cb x) (S ++ [.lst ac]) ∧ (cb x = true → f (g x) (S ++ [.lst ac]) = .ok (y x) (S ++ [.lst ac]))) → acc.length + xs.length ≤ lim → compL none all f c t n env xs (S ++ [.lst acc]) = .ok () (S ++ [.lst (acc ++ (xs.filter cb).map y)]) := by
  induction xs with
  | nil => intro acc g cb y hn h hl; simp [compL]
  | cons x r ih =>
    intro acc g cb y hn h hl
    obtain ⟨h1, h2, h3⟩ := h x List.mem_cons_self acc
    have hr : ∀ x' ∈ r, ∀ ac, setT t x' env = some (g x') ∧ c (g x') (S ++ [.lst ac]) = .ok (cb x') (S ++ [.lst ac]) ∧ (cb x' = true → f (g x') (S ++ [.lst ac]) = .ok (y x') (S ++ [.lst ac])) := fun x' hx => h x' (List.mem_cons_of_mem _ hx)
    rw [List.length_cons] at hl
    rw [compL, h1]
    simp only [h2, ne, bnd]
    cases hb : cb x with
    | true =>
      simp only [h3 hb]
      have hg : (S ++ [D.lst acc])[n]? = some (.lst acc) := by
        rw [← hn]; simp
      have hs : (S ++ [D.lst acc]).set n (.lst (acc ++ [y x])) = S ++ [.lst (acc ++ [y x])] := by
        rw [← hn]; simp
      simp only [hg, hs, still]
      rw [if_pos ⟨by omega, trivial⟩, ih (acc ++ [y x]) g cb y hn hr (by simp; omega)]
      simp [List.filter_cons, hb]
    | false =>
      simp only [still, if_true]
      rw [ih acc g cb y hn hr (by omega)]
      simp [List.filter_cons, hb]
/-- a list made by a comprehension, as a value -/
theorem E_comp {t : Tg} {it : I} {c : O} {e : E} {xs : List D} (g : D → Env) (cb : D → Bool) (y : D → D) (hi : evI T cf b₀ it env S = .ok (xs, none) S) (h : ∀ x ∈ xs, ∀ ac, setT t x env = some (g x) ∧ evC T cf b₀ c (g x) (S ++ [.lst ac]) = .ok (cb x) (S ++ [.lst ac]) ∧ (cb x = true → evE T cf b₀ e (g x) (S ++ [.lst ac]) = .ok (y x) (S ++ [.lst ac]))) (hl : xs.length ≤ lim) (hbw : D.blws S.length (S ++ [.lst ((xs.filter cb).map y)]) = true) : evE T cf b₀ (.frz (.comp t it c e)) env S = .ok (.lst ((xs.filter cb).map y)) S := by
  rw [evE]; dsimp only; rw [evA]; dsimp only; rw [hi]
  simp only [bnd]
  rw [compL_val xs [] g cb y rfl h (by simp; exact hl)]
  simp only [if_true, closed]
  simp [hbw]
end
end Ev


set_option maxHeartbeats 200000
set_option Elab.async false
set_option maxRecDepth 100000
/-! Typed models of what texts compute, and the rules that lead from a model to the text. -/
namespace Ev
open PySem PySem.Spec L2

/-! ### models -/
inductive Fl (σ ρ : Type) where
  | nx (s : σ) | bk (s : σ) | rt (r : ρ)
def bd {α β : Type} (a : Option α) (k : α → Option β) : Option β := match a with
  | some x => k x
  | none => none
@[simp] theorem bd_some {α β : Type} (a : α) (k : α → Option β) : bd (some a) k = k a := rfl
@[simp] theorem bd_none {α β : Type} (k : α → Option β) : bd none k = none := rfl
theorem bdE {α β : Type} {a : Option α} {k : α → Option β} {r : β} (h : bd a k = some r) : ∃ x, a = some x ∧ k x = some r := by
  cases a with
  | none => cases h
  | some x => exact ⟨x, rfl, h⟩
def forR {σ α ρ : Type} (step : σ → α → Option (Fl σ ρ)) : List α → σ → Option (Fl σ ρ)
  | [], s => some (.nx s)
  | x :: r, s => (match step s x with
    | some (.nx s') => forR step r s'
    | some (.bk s') => some (.nx s')
    | some (.rt v) => some (.rt v)
    | none => none)
def whlM {σ ρ : Type} (c : σ → Option Bool) (step : σ → Option (Fl σ ρ)) : Nat → σ → Option (Fl σ ρ)
  | 0, _ => none
  | n + 1, s => (match c s with
    | some true => (match step s with
      | some (.nx s') => whlM c step n s'
      | some (.bk s') => some (.nx s')
      | some (.rt v) => some (.rt v)
      | none => none)
    | some false => some (.nx s)
    | none => none)
def compG {α β : Type} (c : α → Option Bool) (f : α → Option β) : List α → Option (List β)
  | [] => some []
  | x :: r => (match c x with
    | some true => (match f x with
      | some y => (compG c f r).map (y :: ·)
      | none => none)
    | some false => compG c f r
    | none => none)
def compM {α β : Type} (c : α → Option Bool) (f : α → Option β) (xs : List α) : Option (List β) := if xs.length ≤ lim then compG c f xs else none
def getM {α : Type} (xs : List α) (i : Int) : Option α := atI xs i
def setM {α : Type} (xs : List α) (i : Int) (x : α) : Option (List α) := (ixN xs.length i).map fun j => xs.set j x
def popM {α : Type} (xs : List α) : Option (α × List α) := (xs[xs.length - 1]?).map fun x => (x, xs.dropLast)
def popiM {α : Type} (xs : List α) (i : Int) : Option (α × List α) := (ixN xs.length i).bind fun j => (xs[j]?).bind fun x => if -(2 ^ 63) ≤ i ∧ i < 2 ^ 63 then some (x, xs.eraseIdx j) else none
def appM {α : Type} (xs : List α) (x : α) : Option (List α) := if xs.length < lim then some (xs ++ [x]) else none
def catM {α : Type} (xs ys : List α) : Option (List α) := if xs.length + ys.length ≤ lim then some (xs ++ ys) else none
def cutT {α : Type} (xs : List α) (lo hi : Option Int) : List α := (xs.drop (HT.sIx xs.length 0 lo)).take (HT.sIx xs.length xs.length hi - HT.sIx xs.length 0 lo)
def repM {α : Type} (xs : List α) (k : Int) : Option (List α) := if 0 ≤ k ∧ k ≤ 1000 ∧ xs.length ≤ 100 then some (List.replicate k.toNat xs).flatten else none
def repTM {α : Type} (xs : List α) (k : Int) : Option (List α) := if xs.length = 1 ∧ 2 ≤ k ∧ k ≤ 1000 then some (List.replicate k.toNat xs).flatten else none
def mulM (x y : Int) : Option Int := if x.natAbs < 2 ^ 20000 ∧ y.natAbs < 2 ^ 20000 then some (x * y) else none
def fdivM (x y : Int) : Option Int := if 0 < y ∧ y.natAbs < 2 ^ 8000 then some (x / y) else none
def modM (x y : Int) : Option Int := if 0 < y then some (x % y) else none
def shlM (i j : Int) : Option Int := if 0 ≤ j ∧ j ≤ 1000000 ∧ i.natAbs < 2 ^ 64 then some (i * 2 ^ j.toNat) else none
def shrM (i j : Int) : Option Int := if 0 ≤ j then some (i / 2 ^ j.toNat) else none
def powM (i j : Int) : Option Int := if 0 ≤ j ∧ j ≤ 1000000 ∧ i.natAbs < 2 ^ 64 then some (i ^ j.toNat) else none
def rngT (lo : Int) (n : Nat) : List Int := (List.range n).map fun (k : Nat) => lo + (k : Int)
def rng1M (n : Int) : Option (List Int) := if small n = true then some (rngT 0 n.toNat) else none
def rng2M (a b : Int) : Option (List Int) := if small a = true ∧ small b = true then some (rngT a (b - a).toNat) else none
def maxM (xs : List Int) : Option Int := if xs ≠ [] then some (maxI xs) else none
def minM (xs : List Int) : Option Int := if xs ≠ [] then some (minI xs) else none
def maxdT (xs : List Int) (d : Int) : Int := if xs = [] then d else maxI xs
def absT (i : Int) : Int := if i < 0 then -i else i
def max2T (i j : Int) : Int := if j > i then j else i
def min2T (i j : Int) : Int := if j < i then j else i
def gcdT (i j : Int) : Int := ((Nat.gcd i.natAbs j.natAbs : Nat) : Int)
def optM {α β : Type} (o : Option α) (f : α → β) (g : β) : β := match o with
  | some x => f x
  | none => g
theorem optM_some {α β : Type} {o : Option α} {x : α} {f : α → β} {g : β} (h : o = some x) : optM o f g = f x := by subst h; rfl
theorem optM_none {α β : Type} {o : Option α} {f : α → β} {g : β} (h : o = none) : optM o f g = g := by subst h; rfl
theorem some_of {α : Type} {o : Option α} (h : o.isSome = true) : ∃ x, o = some x := Option.isSome_iff_exists.1 h
theorem some_of' {α : Type} {o : Option α} (h : o.isNone = false) : ∃ x, o = some x := by cases o with
  | none => cases h
  | some x => exact ⟨x, rfl⟩
theorem none_of {α : Type} {o : Option α} (h : o.isSome = false) : o = none := by cases o with
  | none => rfl
  | some x => cases h
theorem none_of' {α : Type} {o : Option α} (h : o.isNone = true) : o = none := by cases o with
  | none => rfl
  | some x => cases h
def optB {α : Type} (o : Option α) (f : α → Bool) : Bool := match o with
  | some x => f x
  | none => false
def forS {σ α : Type} (step : σ → α → Option σ) : List α → σ → Option σ
  | [], s => some s
  | x :: r, s => (match step s x with
    | some s' => forS step r s'
    | none => none)
theorem forS_ok {σ α : Type} {step : σ → α → Option σ} : ∀ {xs : List α} {s s' : σ}, forS step xs s = some s' → forR (ρ := Unit) (fun s x => (step s x).map Fl.nx) xs s = some (.nx s')
  | [], s, s', h => by simp only [forS] at h; injection h with h; subst h; rfl
  | x :: r, s, s', h => by
    simp only [forS] at h
    split at h
    · rename_i s1 hs
      simp only [forR, hs, Option.map]
      exact forS_ok h
    · cases h
/-- a loop that may break -/
def forB {σ α : Type} (step : σ → α → Option (Fl σ Unit)) (xs : List α) (s : σ) : Option σ := match forR step xs s with
  | some (.nx s') => some s'
  | _ => none
theorem forB_ok {σ α : Type} {step : σ → α → Option (Fl σ Unit)} {xs : List α} {s s' : σ} (h : forB step xs s = some s') : forR step xs s = some (.nx s') := by
  unfold forB at h
  split at h
  · rename_i h'; injection h with h; subst h; exact h'
  · cases h
def whlB {σ : Type} (c : σ → Option Bool) (step : σ → Option (Fl σ Unit)) (n : Nat) (s : σ) : Option σ := match whlM c step n s with
  | some (.nx s') => some s'
  | _ => none
theorem whlB_ok {σ : Type} {c : σ → Option Bool} {step : σ → Option (Fl σ Unit)} {n : Nat} {s s' : σ} (h : whlB c step n s = some s') : whlM c step n s = some (.nx s') := by
  unfold whlB at h
  split at h
  · rename_i h'; injection h with h; subst h; exact h'
  · cases h
def enuT {α : Type} : Int → List α → List (Int × α)
  | _, [] => []
  | k, x :: r => (k, x) :: enuT (k + 1) r

/-! ### how typed values are data -/
abbrev eI : Int → D := D.int
abbrev eB : Bool → D := D.bl
abbrev eN : Unit → D := fun _ => .non
abbrev eS : Str → D := D.str
abbrev eL {α : Type} (e : α → D) : List α → D := fun xs => .lst (xs.map e)
abbrev eT {α : Type} (e : α → D) : List α → D := fun xs => .tup (xs.map e)
abbrev eP2 {α β : Type} (a : α → D) (b : β → D) : α × β → D := fun p => .tup [a p.1, b p.2]
abbrev eP3 {α β γ : Type} (a : α → D) (b : β → D) (c : γ → D) : α × β × γ → D := fun p => .tup [a p.1, b p.2.1, c p.2.2]
abbrev eP4 {α β γ δ : Type} (a : α → D) (b : β → D) (c : γ → D) (d : δ → D) : α × β × γ × δ → D := fun p => .tup [a p.1, b p.2.1, c p.2.2.1, d p.2.2.2]
abbrev eP5 {α β γ δ ε : Type} (a : α → D) (b : β → D) (c : γ → D) (d : δ → D) (e : ε → D) : α × β × γ × δ × ε → D := fun p => .tup [a p.1, b p.2.1, c p.2.2.1, d p.2.2.2.1, e p.2.2.2.2]
def eO {α : Type} (e : α → D) : Option α → D
  | none => .non
  | some a => e a
abbrev eZ : List Int → D := D.scr
abbrev eC (c : Nat) : Unit → D := fun _ => .cls c
class PU {α : Type} (e : α → D) : Prop where
  p : ∀ a, (e a).pure = true
theorem pures_map {α : Type} {e : α → D} [PU e] (xs : List α) : D.pures (xs.map e) = true := by
  induction xs with
  | nil => rfl
  | cons x r ih => rw [List.map_cons, D.pures, PU.p x, ih]; rfl
instance : PU eI := ⟨fun _ => rfl⟩
instance : PU eB := ⟨fun _ => rfl⟩
instance : PU eN := ⟨fun _ => rfl⟩
instance : PU eS := ⟨fun _ => rfl⟩
instance : PU eZ := ⟨fun _ => rfl⟩
instance {c : Nat} : PU (eC c) := ⟨fun _ => rfl⟩
instance {α : Type} {e : α → D} [PU e] : PU (eL e) := ⟨fun xs => by rw [D.pure]; exact pures_map xs⟩
instance {α : Type} {e : α → D} [PU e] : PU (eT e) := ⟨fun xs => by rw [D.pure]; exact pures_map xs⟩
instance {α : Type} {e : α → D} [PU e] : PU (eO e) := ⟨fun x => by cases x with
  | none => rfl
  | some a => exact PU.p (e := e) a⟩
theorem pures_nil : D.pures [] = true := rfl
theorem pures_cons {d : D} {ds : List D} (h : d.pure = true) (hs : D.pures ds = true) : D.pures (d :: ds) = true := by rw [D.pures, h, hs]; rfl
instance {α β : Type} {a : α → D} {b : β → D} [PU a] [PU b] : PU (eP2 a b) := ⟨fun x => by rw [D.pure]; exact pures_cons (PU.p _) (pures_cons (PU.p _) pures_nil)⟩
instance {α β γ : Type} {a : α → D} {b : β → D} {c : γ → D} [PU a] [PU b] [PU c] : PU (eP3 a b c) := ⟨fun x => by rw [D.pure]; exact pures_cons (PU.p _) (pures_cons (PU.p _) (pures_cons (PU.p _) pures_nil))⟩
instance {α β γ δ : Type} {a : α → D} {b : β → D} {c : γ → D} {d : δ → D} [PU a] [PU b] [PU c] [PU d] : PU (eP4 a b c d) := ⟨fun x => by rw [D.pure]; exact pures_cons (PU.p _) (pures_cons (PU.p _) (pures_cons (PU.p _) (pures_cons (PU.p _) pures_nil)))⟩
instance {α β γ δ ε : Type} {a : α → D} {b : β → D} {c : γ → D} {d : δ → D} {e : ε → D} [PU a] [PU b] [PU c] [PU d] [PU e] : PU (eP5 a b c d e) := ⟨fun x => by rw [D.pure]; exact pures_cons (PU.p _) (pures_cons (PU.p _) (pures_cons (PU.p _) (pures_cons (PU.p _) (pures_cons (PU.p _) pures_nil))))⟩
theorem pu {α : Type} (e : α → D) [PU e] (a : α) : (e a).pure = true := PU.p a
theorem bl_of {n : Nat} {S : Sto} (h : D.pures S = true) : D.blws n S = true := D.blws_pure n S h
theorem pures_snoc {S : Sto} {d : D} (h : D.pures S = true) (hd : d.pure = true) : D.pures (S ++ [d]) = true := by
  rw [pures_app, h]; exact pures_cons hd pures_nil
/-- what the end of a call leaves of a value -/
class FZ {α : Type} (k : outParam Nat) (e : α → D) : Prop where
  z : ∀ n S j a, k < j → frz n S j (e a) = some (e a)
instance : FZ 0 eI := ⟨fun n S j a h => by cases j with | zero => omega | succ j => rfl⟩
instance : FZ 0 eB := ⟨fun n S j a h => by cases j with | zero => omega | succ j => rfl⟩
instance : FZ 0 eN := ⟨fun n S j a h => by cases j with | zero => omega | succ j => rfl⟩
instance : FZ 0 eS := ⟨fun n S j a h => by cases j with | zero => omega | succ j => rfl⟩
instance {α : Type} {k : Nat} {e : α → D} [FZ k e] : FZ k (eO e) := ⟨fun n S j a h => by
  cases a with
  | none => cases j with | zero => omega | succ j => rfl
  | some a => exact FZ.z (e := e) n S j a h⟩
theorem allM_frz {α : Type} {k : Nat} {e : α → D} [FZ k e] (n : Nat) (S : Sto) (j : Nat) (h : k < j) (xs : List α) : allM (frz n S j) (xs.map e) = some (xs.map e) := by
  induction xs with
  | nil => rfl
  | cons x r ih => rw [List.map_cons, allM, FZ.z n S j x h, ih]
instance {α : Type} {k : Nat} {e : α → D} [FZ k e] : FZ (k + 1) (eL e) := ⟨fun n S j a h => by
  cases j with
  | zero => omega
  | succ j => rw [frz]; rw [allM_frz n S j (by omega)]; rfl⟩
instance {α : Type} {k : Nat} {e : α → D} [FZ k e] : FZ (k + 1) (eT e) := ⟨fun n S j a h => by
  cases j with
  | zero => omega
  | succ j => rw [frz]; rw [allM_frz n S j (by omega)]; rfl⟩
instance {α β : Type} {k l : Nat} {a : α → D} {b : β → D} [FZ k a] [FZ l b] : FZ (max k l + 1) (eP2 a b) := ⟨fun n S j x h => by
  cases j with
  | zero => omega
  | succ j => rw [frz]; simp only [allM]; rw [FZ.z (e := a) n S j _ (by omega), FZ.z (e := b) n S j _ (by omega)]; rfl⟩
instance {α β γ : Type} {k l m : Nat} {a : α → D} {b : β → D} {c : γ → D} [FZ k a] [FZ l b] [FZ m c] : FZ (max k (max l m) + 1) (eP3 a b c) := ⟨fun n S j x h => by
  cases j with
  | zero => omega
  | succ j => rw [frz]; simp only [allM]; rw [FZ.z (e := a) n S j _ (by omega), FZ.z (e := b) n S j _ (by omega), FZ.z (e := c) n S j _ (by omega)]; rfl⟩
theorem fz_ref {α : Type} {k m n : Nat} {e : α → D} [FZ k e] (hk : k < 7) {S : Sto} {a : α} (hg : S[m]? = some (e a)) (hn : ¬ m < n) : fz n S (.ref m) = some (e a) := by
  unfold fz
  rw [if_neg (by rw [D.pure]; decide), frz]
  simp only [hn, if_false, hg]
  exact FZ.z n S 7 a hk
/-- data that == compares -/
class DQ {α : Type} (k : outParam Nat) (e : α → D) : Prop where
  d : ∀ n a, k ≤ n → D.dat n (e a) = true
class EQ {α : Type} (e : α → D) : Prop where
  q : ∀ a b, D.eqv (e a) (e b) = true ↔ a = b
instance : DQ 0 eI := ⟨fun n a _ => by cases n <;> rfl⟩
instance : DQ 0 eB := ⟨fun n a _ => by cases n <;> rfl⟩
instance : DQ 0 eN := ⟨fun n a _ => by cases n <;> rfl⟩
theorem dats_map {α : Type} {k : Nat} {e : α → D} [DQ k e] (n : Nat) (h : k ≤ n) (xs : List α) : D.dats n (xs.map e) = true := by
  induction xs with
  | nil => cases n <;> rfl
  | cons x r ih => rw [List.map_cons, D.dats, DQ.d n x h, ih]; rfl
instance {α : Type} {k : Nat} {e : α → D} [DQ k e] : DQ (k + 1) (eL e) := ⟨fun n a h => by
  cases n with
  | zero => omega
  | succ n => rw [D.dat]; exact dats_map n (by omega) a⟩
instance {α : Type} {k : Nat} {e : α → D} [DQ k e] : DQ (k + 1) (eT e) := ⟨fun n a h => by
  cases n with
  | zero => omega
  | succ n => rw [D.dat]; exact dats_map n (by omega) a⟩
instance {α : Type} {k : Nat} {e : α → D} [DQ k e] : DQ k (eO e) := ⟨fun n a h => by
  cases a with
  | none => cases n <;> rfl
  | some a => exact DQ.d (e := e) n a h⟩
theorem dats_cons {n : Nat} {d : D} {ds : List D} (h : D.dat n d = true) (hs : D.dats n ds = true) : D.dats n (d :: ds) = true := by rw [D.dats, h, hs]; rfl
theorem dats_nil {n : Nat} : D.dats n [] = true := by cases n <;> rfl
instance {α β : Type} {k l : Nat} {a : α → D} {b : β → D} [DQ k a] [DQ l b] : DQ (max k l + 1) (eP2 a b) := ⟨fun n x h => by
  cases n with
  | zero => omega
  | succ n => rw [D.dat]; exact dats_cons (DQ.d n _ (by omega)) (dats_cons (DQ.d n _ (by omega)) dats_nil)⟩
instance {α β γ : Type} {k l m : Nat} {a : α → D} {b : β → D} {c : γ → D} [DQ k a] [DQ l b] [DQ m c] : DQ (max k (max l m) + 1) (eP3 a b c) := ⟨fun n x h => by
  cases n with
  | zero => omega
  | succ n => rw [D.dat]; exact dats_cons (DQ.d n _ (by omega)) (dats_cons (DQ.d n _ (by omega)) (dats_cons (DQ.d n _ (by omega)) dats_nil))⟩
instance : EQ eI := ⟨fun a b => by simp [D.eqv]⟩
instance : EQ eB := ⟨fun a b => by simp [D.eqv]⟩
instance : EQ eN := ⟨fun a b => by simp [D.eqv]⟩
theorem eqvs_map {α : Type} {e : α → D} [EQ e] : ∀ xs ys : List α, D.eqvs (xs.map e) (ys.map e) = true ↔ xs = ys
  | [], [] => by simp [D.eqvs]
  | [], _ :: _ => by simp [D.eqvs]
  | _ :: _, [] => by simp [D.eqvs]
  | x :: r, y :: t => by simp [D.eqvs, EQ.q, eqvs_map r t]
instance {α : Type} {e : α → D} [EQ e] : EQ (eL e) := ⟨fun a b => by simp only [D.eqv]; exact eqvs_map a b⟩
instance {α : Type} {e : α → D} [EQ e] : EQ (eT e) := ⟨fun a b => by simp only [D.eqv]; exact eqvs_map a b⟩
instance {α β : Type} {a : α → D} {b : β → D} [EQ a] [EQ b] : EQ (eP2 a b) := ⟨fun x y => by
  simp only [D.eqv, D.eqvs, Bool.and_eq_true, EQ.q, Prod.ext_iff, and_true]⟩
instance {α β γ : Type} {a : α → D} {b : β → D} {c : γ → D} [EQ a] [EQ b] [EQ c] : EQ (eP3 a b c) := ⟨fun x y => by
  simp only [D.eqv, D.eqvs, Bool.and_eq_true, EQ.q, Prod.ext_iff, and_true]⟩
theorem veq {α : Type} [DecidableEq α] {k : Nat} (e : α → D) [DQ k e] [EQ e] (hk : k ≤ 8) (a b : α) : vcmp .eq (e a) (e b) = some (decide (a = b)) := by
  simp only [vcmp]
  rw [if_pos ⟨DQ.d 8 a hk, DQ.d 8 b hk⟩]
  congr 1
  rw [Bool.eq_iff_iff, EQ.q, decide_eq_true_iff]
theorem vne {α : Type} [DecidableEq α] {k : Nat} (e : α → D) [DQ k e] [EQ e] (hk : k ≤ 8) (a b : α) : vcmp .ne (e a) (e b) = some (!decide (a = b)) := by
  simp only [vcmp]
  rw [if_pos ⟨DQ.d 8 a hk, DQ.d 8 b hk⟩]
  congr 2
  rw [Bool.eq_iff_iff, EQ.q, decide_eq_true_iff]
theorem inAny_map {α : Type} [DecidableEq α] {e : α → D} [EQ e] (x : α) (xs : List α) : inAny (e x) (xs.map e) = decide (x ∈ xs) := by
  unfold inAny
  rw [List.any_map, Bool.eq_iff_iff, List.any_eq_true, decide_eq_true_iff]
  constructor
  · rintro ⟨y, hy, h⟩
    rw [Function.comp, EQ.q] at h
    rwa [← h]
  · intro h
    exact ⟨x, h, by rw [Function.comp, EQ.q]⟩
theorem vinL {α : Type} [DecidableEq α] {k : Nat} (e : α → D) [DQ k e] [EQ e] (hk : k ≤ 8) (x : α) (xs : List α) : inV (e x) (.lst (xs.map e)) = some (decide (x ∈ xs)) := by
  simp only [inV]
  rw [if_pos ⟨DQ.d 8 x hk, dats_map 8 hk xs⟩, inAny_map]
theorem vinTI (x : Int) (xs : List Int) : inV (.int x) (.tup (xs.map eI)) = some (decide (x ∈ xs)) := by
  simp only [inV]
  have h : (xs.map eI).all D.flat = true := by
    rw [List.all_map, List.all_eq_true]; intro a _; rfl
  rw [if_pos ⟨rfl, h⟩]
  exact congrArg some (inAny_map (e := eI) x xs)
end Ev


set_option maxHeartbeats 200000
set_option Elab.async false
set_option maxRecDepth 100000
/-! Rules: from the values of the parts to that of the whole. -/
namespace Ev
open PySem PySem.Spec L2

section
variable {T : Tb} {cf : Nat → List D → Sto → R D} {b₀ p : Nat} {env e1 : Env} {S S1 S2 : Sto}
abbrev V (T : Tb) (cf : Nat → List D → Sto → R D) (b₀ : Nat) (e : E) (env : Env) (S : Sto) (d : D) : Prop := evE T cf b₀ e env S = .ok d S
abbrev Vs (T : Tb) (cf : Nat → List D → Sto → R D) (b₀ : Nat) (e : Es) (env : Env) (S : Sto) (d : List D) : Prop := evEs T cf b₀ e env S = .ok d S
abbrev VP (T : Tb) (cf : Nat → List D → Sto → R D) (b₀ : Nat) (e : O) (env : Env) (S : Sto) (d : Option Int) : Prop := evP T cf b₀ e env S = .ok d S
abbrev VC (T : Tb) (cf : Nat → List D → Sto → R D) (b₀ : Nat) (e : O) (env : Env) (S : Sto) (d : Bool) : Prop := evC T cf b₀ e env S = .ok d S
abbrev VI (T : Tb) (cf : Nat → List D → Sto → R D) (b₀ : Nat) (e : I) (env : Env) (S : Sto) (xs : List D) (ck : Option Nat) : Prop := evI T cf b₀ e env S = .ok (xs, ck) S
abbrev VA (T : Tb) (cf : Nat → List D → Sto → R D) (b₀ : Nat) (e : A) (env : Env) (S : Sto) (ds : List D) : Prop := evA T cf b₀ e env S = .ok S.length (S ++ [.lst ds])
theorem v_cast {e : E} {d d' : D} (h : V T cf b₀ e env S d) (hd : d = d') : V T cf b₀ e env S d' := hd ▸ h
theorem v_loc {i : Nat} {d : D} (h : env[i]? = some (some d)) : V T cf b₀ (.loc i) env S d := by unfold V; rw [evE]; dsimp only; rw [h]
theorem v_int (i : Int) : V T cf b₀ (.int i) env S (.int i) := by unfold V; rw [evE]
theorem v_bl (b : Bool) : V T cf b₀ (.bl b) env S (.bl b) := by unfold V; rw [evE]
theorem v_non : V T cf b₀ .non env S .non := by unfold V; rw [evE]
theorem v_str (x : Str) : V T cf b₀ (.str x) env S (.str x) := by unfold V; rw [evE]
theorem v_kint (x : Str) (i : Int) : V T cf b₀ (.kint x i) env S (.int i) := by unfold V; rw [evE]
theorem v_neg {a : E} {i : Int} (h : V T cf b₀ a env S (.int i)) : V T cf b₀ (.neg a) env S (.int (-i)) := by unfold V at *; rw [evE]; dsimp only; rw [h]
theorem v_iop {o : Bop} {a b : E} {i j z : Int} (ha : V T cf b₀ a env S (.int i)) (hb : V T cf b₀ b env S (.int j)) (h : iop o i j = some z) : V T cf b₀ (.bin o a b) env S (.int z) := by
  refine E_bin ha hb ?_
  simp only [bop2, dr, vop, h, Option.map, ofO]
theorem v_add {a b : E} {i j : Int} (ha : V T cf b₀ a env S (.int i)) (hb : V T cf b₀ b env S (.int j)) : V T cf b₀ (.bin .add a b) env S (.int (i + j)) := v_iop ha hb rfl
theorem v_subt {a b : E} {i j : Int} (ha : V T cf b₀ a env S (.int i)) (hb : V T cf b₀ b env S (.int j)) : V T cf b₀ (.bin .sub a b) env S (.int (i - j)) := v_iop ha hb rfl
theorem v_mul {a b : E} {i j z : Int} (ha : V T cf b₀ a env S (.int i)) (hb : V T cf b₀ b env S (.int j)) (h : mulM i j = some z) : V T cf b₀ (.bin .mul a b) env S (.int z) := v_iop ha hb h
theorem v_fdiv {a b : E} {i j z : Int} (ha : V T cf b₀ a env S (.int i)) (hb : V T cf b₀ b env S (.int j)) (h : fdivM i j = some z) : V T cf b₀ (.bin .fdiv a b) env S (.int z) := v_iop ha hb h
theorem lt8000 {n : Nat} (h : n < 2 ^ 200) : n < 2 ^ 8000 := Nat.lt_of_lt_of_le h (Nat.pow_le_pow_right (by decide) (by decide))
theorem lt20000 {n : Nat} (h : n < 2 ^ 200) : n < 2 ^ 20000 := Nat.lt_of_lt_of_le h (Nat.pow_le_pow_right (by decide) (by decide))
theorem v_fdivc {a b : E} {i j : Int} (ha : V T cf b₀ a env S (.int i)) (hb : V T cf b₀ b env S (.int j)) (h : 0 < j ∧ j.natAbs < 2 ^ 200) : V T cf b₀ (.bin .fdiv a b) env S (.int (i / j)) := v_iop ha hb (by simp only [iop]; exact if_pos ⟨h.1, lt8000 h.2⟩)
theorem v_mod {a b : E} {i j z : Int} (ha : V T cf b₀ a env S (.int i)) (hb : V T cf b₀ b env S (.int j)) (h : modM i j = some z) : V T cf b₀ (.bin .mod a b) env S (.int z) := v_iop ha hb h
theorem v_modc {a b : E} {i j : Int} (ha : V T cf b₀ a env S (.int i)) (hb : V T cf b₀ b env S (.int j)) (h : 0 < j) : V T cf b₀ (.bin .mod a b) env S (.int (i % j)) := v_iop ha hb (by simp only [iop]; exact if_pos h)
theorem v_shl {a b : E} {i j z : Int} (ha : V T cf b₀ a env S (.int i)) (hb : V T cf b₀ b env S (.int j)) (h : shlM i j = some z) : V T cf b₀ (.bin .shl a b) env S (.int z) := v_iop ha hb h
theorem v_shr {a b : E} {i j z : Int} (ha : V T cf b₀ a env S (.int i)) (hb : V T cf b₀ b env S (.int j)) (h : shrM i j = some z) : V T cf b₀ (.bin .shr a b) env S (.int z) := v_iop ha hb h
theorem v_pow {a b : E} {i j z : Int} (ha : V T cf b₀ a env S (.int i)) (hb : V T cf b₀ b env S (.int j)) (h : powM i j = some z) : V T cf b₀ (.bin .pow a b) env S (.int z) := v_iop ha hb h
theorem v_band {a b : E} {i j : Int} (ha : V T cf b₀ a env S (.int i)) (hb : V T cf b₀ b env S (.int j)) : V T cf b₀ (.bin .band a b) env S (.int (Builtin.bitAnd i j)) := v_iop ha hb rfl
theorem v_bor {a b : E} {i j : Int} (ha : V T cf b₀ a env S (.int i)) (hb : V T cf b₀ b env S (.int j)) : V T cf b₀ (.bin .bor a b) env S (.int (Builtin.bitOr i j)) := v_iop ha hb rfl
theorem v_bxor {a b : E} {i j : Int} (ha : V T cf b₀ a env S (.int i)) (hb : V T cf b₀ b env S (.int j)) : V T cf b₀ (.bin .bxor a b) env S (.int (Builtin.bitXor i j)) := v_iop ha hb rfl
theorem v_vop {o : Bop} {a b : E} {x y z : D} (ha : V T cf b₀ a env S x) (hb : V T cf b₀ b env S y) (hx : ∀ c fs vs, dr S x ≠ .obj c fs vs) (h : vop o (dr S x) (dr S y) = some z) : V T cf b₀ (.bin o a b) env S z := by
  refine E_bin ha hb ?_
  unfold bop2
  split
  · rename_i h1 _; exact absurd h1 (hx _ _ _)
  · rw [h]; rfl
theorem v_catL {α : Type} {e : α → D} {a b : E} {x y : D} {xs ys zs : List α} (ha : V T cf b₀ a env S x) (hb : V T cf b₀ b env S y) (hx : dr S x = .lst (xs.map e)) (hy : dr S y = .lst (ys.map e)) (h : catM xs ys = some zs) : V T cf b₀ (.bin .add a b) env S (.lst (zs.map e)) := by
  refine v_vop ha hb (by rw [hx]; intro c fs vs h; cases h) ?_
  rw [hx, hy]
  unfold catM at h
  split at h
  · rename_i hl; injection h with h; subst h
    simp only [vop, List.length_map, hl, if_true, List.map_append]
  · cases h
theorem v_catT {α : Type} {e : α → D} {a b : E} {x y : D} {xs ys zs : List α} (ha : V T cf b₀ a env S x) (hb : V T cf b₀ b env S y) (hx : dr S x = .tup (xs.map e)) (hy : dr S y = .tup (ys.map e)) (h : catM xs ys = some zs) : V T cf b₀ (.bin .add a b) env S (.tup (zs.map e)) := by
  refine v_vop ha hb (by rw [hx]; intro c fs vs h; cases h) ?_
  rw [hx, hy]
  unfold catM at h
  split at h
  · rename_i hl; injection h with h; subst h
    simp only [vop, List.length_map, hl, if_true, List.map_append]
  · cases h
theorem flat_map {α : Type} (e : α → D) (k : Nat) (xs : List α) : (List.replicate k (xs.map e)).flatten = (List.replicate k xs).flatten.map e := by
  induction k with
  | zero => rfl
  | succ k ih => rw [List.replicate_succ, List.replicate_succ, List.flatten_cons, List.flatten_cons, List.map_append, ih]
theorem v_repL {α : Type} {e : α → D} {a b : E} {x : D} {xs zs : List α} {k : Int} (ha : V T cf b₀ a env S x) (hb : V T cf b₀ b env S (.int k)) (hx : dr S x = .lst (xs.map e)) (h : repM xs k = some zs) : V T cf b₀ (.bin .mul a b) env S (.lst (zs.map e)) := by
  refine v_vop ha hb (by rw [hx]; intro c fs vs h; cases h) ?_
  rw [hx]
  unfold repM at h
  split at h
  · rename_i hl; injection h with h; subst h
    simp only [dr, vop, List.length_map, hl, and_self, if_true, rpt, flat_map]
  · cases h
theorem v_repT {α : Type} {e : α → D} {a b : E} {x : D} {xs zs : List α} {k : Int} (ha : V T cf b₀ a env S x) (hb : V T cf b₀ b env S (.int k)) (hx : dr S x = .tup (xs.map e)) (h : repTM xs k = some zs) : V T cf b₀ (.bin .mul a b) env S (.tup (zs.map e)) := by
  refine v_vop ha hb (by rw [hx]; intro c fs vs h; cases h) ?_
  rw [hx]
  unfold repTM at h
  split at h
  · rename_i hl; injection h with h; subst h
    simp only [dr, vop, List.length_map, hl, and_self, if_true, rpt, flat_map]
  · cases h
theorem v_own {o : Bop} {a b : E} {x y z : D} {c f m : Nat} {fs gs : List Nat} {vs ws : List D} (ha : V T cf b₀ a env S x) (hb : V T cf b₀ b env S y) (hx : dr S x = .obj c fs vs) (hy : dr S y = .obj c gs ws) (hm : dun o = some m) (hf : T.mth c m = some f) (h : cf f [x, y] S = .ok z S) : V T cf b₀ (.bin o a b) env S z := by
  refine E_bin ha hb ?_
  simp only [bop2, hx, hy, hm, hf, if_true, h]
theorem v_ownEq {a b : E} {x y z : D} {c f : Nat} {fs gs : List Nat} {vs ws : List D} (ha : V T cf b₀ a env S x) (hb : V T cf b₀ b env S y) (hx : dr S x = .obj c fs vs) (hy : dr S y = .obj c gs ws) (hf : T.mth c nEq = some f) (h : cf f [x, y] S = .ok z S) : V T cf b₀ (.cmp .eq a b) env S z := by
  refine E_cmp ha hb ?_
  simp only [cmp2, hx, hy, hf, if_true, h]
theorem v_ownNe {a b : E} {x y : D} {u : Bool} {c f : Nat} {fs gs : List Nat} {vs ws : List D} (ha : V T cf b₀ a env S x) (hb : V T cf b₀ b env S y) (hx : dr S x = .obj c fs vs) (hy : dr S y = .obj c gs ws) (hf : T.mth c nEq = some f) (h : cf f [x, y] S = .ok (.bl u) S) : V T cf b₀ (.cmp .ne a b) env S (.bl (!u)) := by
  refine E_cmp ha hb ?_
  simp only [cmp2, hx, hy, hf, if_true, h, notD, bnd]
theorem v_vcmp {o : Cop} {a b : E} {x y : D} {v : Bool} (ha : V T cf b₀ a env S x) (hb : V T cf b₀ b env S y) (hx : ∀ c fs vs, dr S x ≠ .obj c fs vs) (h : vcmp o (dr S x) (dr S y) = some v) : V T cf b₀ (.cmp o a b) env S (.bl v) := by
  refine E_cmp ha hb ?_
  unfold cmp2
  split
  · rename_i h1 _; exact absurd h1 (hx _ _ _)
  · rw [h]; rfl
theorem v_vcmp2 {o : Cop} {a b : E} {x y : D} {v : Bool} (ha : V T cf b₀ a env S x) (hb : V T cf b₀ b env S y) (hy : ∀ c fs vs, dr S y ≠ .obj c fs vs) (h : vcmp o (dr S x) (dr S y) = some v) : V T cf b₀ (.cmp o a b) env S (.bl v) := by
  refine E_cmp ha hb ?_
  unfold cmp2
  split
  · rename_i _ h1; exact absurd h1 (hy _ _ _)
  · rw [h]; rfl
theorem v_icmp {o : Cop} {a b : E} {i j : Int} {v : Bool} (ha : V T cf b₀ a env S (.int i)) (hb : V T cf b₀ b env S (.int j)) (h : vcmp o (.int i) (.int j) = some v) : V T cf b₀ (.cmp o a b) env S (.bl v) := v_vcmp ha hb (by intro c fs vs h; cases h) h
theorem v_lt {a b : E} {i j : Int} (ha : V T cf b₀ a env S (.int i)) (hb : V T cf b₀ b env S (.int j)) : V T cf b₀ (.cmp .lt a b) env S (.bl (decide (i < j))) := v_icmp ha hb rfl
theorem v_le {a b : E} {i j : Int} (ha : V T cf b₀ a env S (.int i)) (hb : V T cf b₀ b env S (.int j)) : V T cf b₀ (.cmp .le a b) env S (.bl (decide (i ≤ j))) := v_icmp ha hb rfl
theorem v_gt {a b : E} {i j : Int} (ha : V T cf b₀ a env S (.int i)) (hb : V T cf b₀ b env S (.int j)) : V T cf b₀ (.cmp .gt a b) env S (.bl (decide (j < i))) := v_icmp ha hb rfl
theorem v_ge {a b : E} {i j : Int} (ha : V T cf b₀ a env S (.int i)) (hb : V T cf b₀ b env S (.int j)) : V T cf b₀ (.cmp .ge a b) env S (.bl (decide (j ≤ i))) := v_icmp ha hb rfl
/-- ==, != of data of one kind (x, y: what stands there; cells looked up) -/
theorem v_eq {α : Type} [DecidableEq α] {k : Nat} {a b : E} {x y : D} (e : α → D) [DQ k e] [EQ e] (hk : k ≤ 8) {u w : α} (ha : V T cf b₀ a env S x) (hb : V T cf b₀ b env S y) (hx : dr S x = e u) (hy : dr S y = e w) : V T cf b₀ (.cmp .eq a b) env S (.bl (decide (u = w))) := by
  refine v_vcmp ha hb ?_ (by rw [hx, hy]; exact veq e hk u w)
  intro c fs vs h
  have := DQ.d (e := e) 8 u hk
  rw [← hx, h] at this
  simp [D.dat] at this
theorem v_ne {α : Type} [DecidableEq α] {k : Nat} {a b : E} {x y : D} (e : α → D) [DQ k e] [EQ e] (hk : k ≤ 8) {u w : α} (ha : V T cf b₀ a env S x) (hb : V T cf b₀ b env S y) (hx : dr S x = e u) (hy : dr S y = e w) : V T cf b₀ (.cmp .ne a b) env S (.bl (!decide (u = w))) := by
  refine v_vcmp ha hb ?_ (by rw [hx, hy]; exact vne e hk u w)
  intro c fs vs h
  have := DQ.d (e := e) 8 u hk
  rw [← hx, h] at this
  simp [D.dat] at this
theorem v_inL {α : Type} [DecidableEq α] {k : Nat} {a b : E} {y : D} (e : α → D) [DQ k e] [EQ e] (hk : k ≤ 8) {u : α} {ws : List α} (ha : V T cf b₀ a env S (e u)) (hb : V T cf b₀ b env S y) (hx : dr S (e u) = e u) (hy : dr S y = .lst (ws.map e)) : V T cf b₀ (.cmp .inn a b) env S (.bl (decide (u ∈ ws))) := by
  refine v_vcmp2 ha hb (by rw [hy]; intro c fs vs h; cases h) ?_
  rw [hx, hy]; exact vinL e hk u ws
theorem v_ninL {α : Type} [DecidableEq α] {k : Nat} {a b : E} {y : D} (e : α → D) [DQ k e] [EQ e] (hk : k ≤ 8) {u : α} {ws : List α} (ha : V T cf b₀ a env S (e u)) (hb : V T cf b₀ b env S y) (hx : dr S (e u) = e u) (hy : dr S y = .lst (ws.map e)) : V T cf b₀ (.cmp .nin a b) env S (.bl (!decide (u ∈ ws))) := by
  refine v_vcmp2 ha hb (by rw [hy]; intro c fs vs h; cases h) ?_
  rw [hx, hy]
  simp only [vcmp, vinL e hk u ws, Option.map]
theorem v_inT {a b : E} {y : D} {u : Int} {ws : List Int} (ha : V T cf b₀ a env S (.int u)) (hb : V T cf b₀ b env S y) (hy : dr S y = .tup (ws.map eI)) : V T cf b₀ (.cmp .inn a b) env S (.bl (decide (u ∈ ws))) := by
  refine v_vcmp2 ha hb (by rw [hy]; intro c fs vs h; cases h) ?_
  rw [hy]; exact vinTI u ws
theorem v_ninT {a b : E} {y : D} {u : Int} {ws : List Int} (ha : V T cf b₀ a env S (.int u)) (hb : V T cf b₀ b env S y) (hy : dr S y = .tup (ws.map eI)) : V T cf b₀ (.cmp .nin a b) env S (.bl (!decide (u ∈ ws))) := by
  refine v_vcmp2 ha hb (by rw [hy]; intro c fs vs h; cases h) ?_
  rw [hy]
  show (inV (.int u) (.tup (ws.map eI))).map (!·) = _
  rw [vinTI u ws]; rfl
theorem v_not {a : E} {u : Bool} (h : V T cf b₀ a env S (.bl u)) : V T cf b₀ (.not a) env S (.bl (!u)) := E_not h
theorem v_and {a b : E} {u v : Bool} (ha : V T cf b₀ a env S (.bl u)) (hb : u = true → V T cf b₀ b env S (.bl v)) : V T cf b₀ (.and a b) env S (.bl (u && v)) := E_and ha hb
theorem v_or {a b : E} {u v : Bool} (ha : V T cf b₀ a env S (.bl u)) (hb : u = false → V T cf b₀ b env S (.bl v)) : V T cf b₀ (.or a b) env S (.bl (u || v)) := E_or ha hb
/-- with a second part that has a value only where it is asked -/
theorem v_andP {a b : E} {u v : Bool} {m : Option Bool} (ha : V T cf b₀ a env S (.bl u)) (h : (if u = true then m else some false) = some v) (hb : u = true → m = some v → V T cf b₀ b env S (.bl v)) : V T cf b₀ (.and a b) env S (.bl v) := by
  cases u with
  | true => exact E_and (u := true) (v := v) ha fun _ => hb rfl (by simpa using h)
  | false =>
    have : v = false := by simpa using h.symm
    subst this
    exact E_and (u := false) (v := false) ha fun h => by cases h
theorem v_orP {a b : E} {u v : Bool} {m : Option Bool} (ha : V T cf b₀ a env S (.bl u)) (h : (if u = true then some true else m) = some v) (hb : u = false → m = some v → V T cf b₀ b env S (.bl v)) : V T cf b₀ (.or a b) env S (.bl v) := by
  cases u with
  | false => exact E_or (u := false) (v := v) ha fun _ => hb rfl (by simpa using h)
  | true =>
    have : v = true := by simpa using h.symm
    subst this
    exact E_or (u := true) (v := true) ha fun h => by cases h
/-- x is not None and .. -/
theorem v_andN {α : Type} {e : α → D} {a b : E} {o : Option α} {v : Bool} {m : α → Option Bool} (ha : V T cf b₀ a env S (eO e o)) (hn : ∀ x, isNon (e x) = false) (h : (match o with | some x => m x | none => some false) = some v) (hb : ∀ x, o = some x → m x = some v → V T cf b₀ b env S (.bl v)) : V T cf b₀ (.and (.nisn a) b) env S (.bl v) := by
  cases o with
  | none =>
    have : v = false := by simpa using h.symm
    subst this
    refine E_and (u := false) (v := false) ?_ fun h => by cases h
    rw [evE]; dsimp only; rw [ha]; rfl
  | some x =>
    refine E_and (u := true) (v := v) ?_ fun _ => hb x rfl h
    rw [evE]; dsimp only; rw [ha]
    simp only [bnd, eO, hn x]; rfl
theorem v_andNT {α : Type} {e : α → D} {a b : E} {o : Option α} {v : α → Bool} (ha : V T cf b₀ a env S (eO e o)) (hn : ∀ x, isNon (e x) = false) (hb : ∀ x, o = some x → V T cf b₀ b env S (.bl (v x))) : V T cf b₀ (.and (.nisn a) b) env S (.bl (optB o v)) := by
  cases o with
  | none =>
    refine E_and (u := false) (v := false) ?_ fun h => by cases h
    rw [evE]; dsimp only; rw [ha]; rfl
  | some x =>
    refine E_and (u := true) (v := v x) ?_ fun _ => hb x rfl
    rw [evE]; dsimp only; rw [ha]
    simp only [bnd, eO, hn x]; rfl
theorem va_cast {a : A} {ds ds' : List D} (h : VA T cf b₀ a env S ds) (hd : ds = ds') : VA T cf b₀ a env S ds' := hd ▸ h
theorem v_isn {α : Type} {e : α → D} {a : E} {o : Option α} (ha : V T cf b₀ a env S (eO e o)) (hn : ∀ x, isNon (e x) = false) : V T cf b₀ (.isn a) env S (.bl o.isNone) := by
  unfold V at *; rw [evE]; dsimp only; rw [ha]
  cases o with
  | none => rfl
  | some x => simp only [bnd, eO, hn x]; rfl
theorem v_nisn {α : Type} {e : α → D} {a : E} {o : Option α} (ha : V T cf b₀ a env S (eO e o)) (hn : ∀ x, isNon (e x) = false) : V T cf b₀ (.nisn a) env S (.bl o.isSome) := by
  unfold V at *; rw [evE]; dsimp only; rw [ha]
  cases o with
  | none => rfl
  | some x => simp only [bnd, eO, hn x]; rfl
theorem v_isnc {a : E} {x : D} (ha : V T cf b₀ a env S x) : V T cf b₀ (.isn a) env S (.bl (isNon x)) := by
  unfold V at *; rw [evE]; dsimp only; rw [ha]
theorem v_nisnc {a : E} {x : D} (ha : V T cf b₀ a env S x) : V T cf b₀ (.nisn a) env S (.bl (!isNon x)) := by
  unfold V at *; rw [evE]; dsimp only; rw [ha]
theorem v_isb {a : E} {b v : Bool} (ha : V T cf b₀ a env S (.bl v)) : V T cf b₀ (.isb a b) env S (.bl (decide (v = b))) := by
  unfold V at *; rw [evE]; dsimp only; rw [ha]
theorem v_chnI {o o' : Cop} {a b c : E} {x y z : Int} {u v : Bool} (ha : V T cf b₀ a env S (.int x)) (hb : V T cf b₀ b env S (.int y)) (hu : vcmp o (.int x) (.int y) = some u) (hc : V T cf b₀ c env S (.int z)) (hv : vcmp o' (.int y) (.int z) = some v) : V T cf b₀ (.chn o o' a b c) env S (.bl (u && v)) :=
  E_chn ha hb hu (fun _ => hc) (fun _ => hv)
theorem v_ife {a b c : E} {u : Bool} {d : D} (hc : V T cf b₀ c env S (.bl u)) (ht : u = true → V T cf b₀ a env S d) (hf : u = false → V T cf b₀ b env S d) : V T cf b₀ (.ife c a b) env S d := E_ife hc ht hf
theorem v_ifeT {α : Type} {e : α → D} {a b c : E} {u : Bool} {x y : α} (hc : V T cf b₀ c env S (.bl u)) (ht : u = true → V T cf b₀ a env S (e x)) (hf : u = false → V T cf b₀ b env S (e y)) : V T cf b₀ (.ife c a b) env S (e (if u = true then x else y)) := by
  refine E_ife hc (fun h => ?_) fun h => ?_
  · rw [if_pos h]; exact ht h
  · rw [if_neg (by rw [h]; decide)]; exact hf h
theorem v_tup {es : Es} {ds : List D} (h : Vs T cf b₀ es env S ds) : V T cf b₀ (.tup es) env S (.tup ds) := by
  unfold V; rw [evE]; dsimp only; rw [h]
theorem vs_nil : Vs T cf b₀ .nil env S [] := Es_nil
theorem vs_cons {e : E} {r : Es} {x : D} {xs : List D} (h : V T cf b₀ e env S x) (hr : Vs T cf b₀ r env S xs) : Vs T cf b₀ (.cons e r) env S (x :: xs) := Es_cons h hr
theorem atI_map {α β : Type} (f : α → β) (xs : List α) (i : Int) : atI (xs.map f) i = (atI xs i).map f := by
  unfold atI
  rw [List.length_map]
  cases ixN xs.length i with
  | none => rfl
  | some j => simp only [Option.bind, List.getElem?_map]
theorem v_sub {α : Type} {e : α → D} {a i : E} {d : D} {xs : List α} {k : Int} {x : α} (ha : V T cf b₀ a env S d) (hi : V T cf b₀ i env S (.int k)) (hd : items? (dr S d) = some (xs.map e)) (h : getM xs k = some x) : V T cf b₀ (.sub a i) env S (e x) := by
  unfold V at *; rw [evE]; dsimp only; rw [ha]
  have h : atI xs k = some x := h
  simp only [bnd, hi, hd, atI_map, h, Option.map, ofO]
theorem v_subT {a i : E} {d : D} {ds : List D} {k : Int} {x : D} (ha : V T cf b₀ a env S d) (hi : V T cf b₀ i env S (.int k)) (hd : items? (dr S d) = some ds) (h : atI ds k = some x) : V T cf b₀ (.sub a i) env S x := by
  unfold V at *; rw [evE]; dsimp only; rw [ha]
  simp only [bnd, hi, hd, h, ofO]
theorem vp_none : VP T cf b₀ .none env S none := by unfold VP; rw [evP]
theorem vp_some {e : E} {i : Int} (h : V T cf b₀ e env S (.int i)) : VP T cf b₀ (.some e) env S (some i) := by unfold VP; rw [evP]; dsimp only; rw [h]
theorem cut_map {α : Type} (e : α → D) (xs : List α) (lo hi : Option Int) : Ev.cut (xs.map e) lo hi = (cutT xs lo hi).map e := by
  unfold Ev.cut cutT
  rw [List.length_map, List.map_take, List.map_drop]
theorem v_slcL {α : Type} {e : α → D} {a : E} {lo hi : O} {d : D} {xs : List α} {l h : Option Int} (ha : V T cf b₀ a env S d) (hl : VP T cf b₀ lo env S l) (hh : VP T cf b₀ hi env S h) (hd : dr S d = .lst (xs.map e)) : V T cf b₀ (.slc a lo hi) env S (.lst ((cutT xs l h).map e)) := by
  unfold V at *; rw [evE]; dsimp only; rw [ha]
  simp only [bnd, hl, hh, hd, cut_map]
theorem v_slcT {α : Type} {e : α → D} {a : E} {lo hi : O} {d : D} {xs : List α} {l h : Option Int} (ha : V T cf b₀ a env S d) (hl : VP T cf b₀ lo env S l) (hh : VP T cf b₀ hi env S h) (hd : dr S d = .tup (xs.map e)) : V T cf b₀ (.slc a lo hi) env S (.tup ((cutT xs l h).map e)) := by
  unfold V at *; rw [evE]; dsimp only; rw [ha]
  simp only [bnd, hl, hh, hd, cut_map]
theorem v_slcZ {a : E} {lo hi : O} {d : D} {ns : List Int} {l h : Option Int} (ha : V T cf b₀ a env S d) (hl : VP T cf b₀ lo env S l) (hh : VP T cf b₀ hi env S h) (hd : dr S d = .scr ns) : V T cf b₀ (.slc a lo hi) env S (.lst ((cutT ns l h).map eI)) := by
  unfold V at *; rw [evE]; dsimp only; rw [ha]
  simp only [bnd, hl, hh, hd]
  rw [← cut_map]
theorem v_fld {a : E} {f c : Nat} {d x : D} {fs : List Nat} {vs : List D} (ha : V T cf b₀ a env S d) (hd : dr S d = .obj c fs vs) (hf : T.fld c f = true) (h : lookF f fs vs = some x) : V T cf b₀ (.fld a f) env S x := by
  unfold V at *; rw [evE]; dsimp only; rw [ha]
  simp only [bnd, hd, hf, if_true, h, ofO]
theorem v_call {f : Nat} {es : Es} {ds : List D} {d : D} (h : Vs T cf b₀ es env S ds) (hr : cf f ds S = .ok d S) : V T cf b₀ (.call f es) env S d := E_call h hr
theorem v_mk {c : Nat} {es : Es} {ds : List D} {d : D} (h : Vs T cf b₀ es env S ds) (hr : make T cf c ds S = .ok d S) : V T cf b₀ (.mk c es) env S d := by
  unfold V; rw [evE]; dsimp only; rw [h]; exact hr
theorem v_mkl {i c : Nat} {es : Es} {ds : List D} {d : D} (hi : env[i]? = some (some (.cls c))) (h : Vs T cf b₀ es env S ds) (hr : make T cf c ds S = .ok d S) : V T cf b₀ (.mkl i c es) env S d := by
  unfold V; rw [evE]; dsimp only; rw [hi]; simp only [if_true]; rw [h]; exact hr
theorem v_mth {m c f : Nat} {o : E} {es : Es} {x d : D} {ds : List D} {fs : List Nat} {vs : List D} (ho : V T cf b₀ o env S x) (hx : dr S x = .obj c fs vs) (hm : T.mth c m = some f) (hf : fs.contains m = false) (h : Vs T cf b₀ es env S ds) (hr : cf f (x :: ds) S = .ok d S) : V T cf b₀ (.mth m o es) env S d := by
  unfold V at *; rw [evE]; dsimp only; rw [ho]
  simp only [bnd, hx, hm, hf]; rw [h]; exact hr
theorem v_cmt {m c f : Nat} {es : Es} {d : D} {ds : List D} (hm : T.cms c m = some f) (h : Vs T cf b₀ es env S ds) (hr : cf f (.cls c :: ds) S = .ok d S) : V T cf b₀ (.cmt c m es) env S d := by
  unfold V; rw [evE]; dsimp only; simp only [hm]; rw [h]; exact hr
theorem v_ist {a : E} {ts : List Ty} {x : D} {v : Bool} (ha : V T cf b₀ a env S x) (h : isTys T.cok (dr S x) ts = some v) : V T cf b₀ (.ist a ts) env S (.bl v) := by
  unfold V at *; rw [evE]; dsimp only; rw [ha]
  simp only [bnd, h, Option.map, ofO]
theorem v_bi {b : Bi} {es : Es} {ds : List D} {d : D} (h : Vs T cf b₀ es env S ds) (hd : vbi b (ds.map (dr S)) = some d) : V T cf b₀ (.bi b es) env S d := E_bi h hd
theorem v_bi1 {b : Bi} {a : E} {x d : D} (h : V T cf b₀ a env S x) (hd : vbi b [dr S x] = some d) : V T cf b₀ (.bi b (.cons a .nil)) env S d := v_bi (vs_cons h vs_nil) hd
theorem v_len {α : Type} {e : α → D} {a : E} {d : D} {xs : List α} (ha : V T cf b₀ a env S d) (hd : items? (dr S d) = some (xs.map e)) : V T cf b₀ (.bi .len (.cons a .nil)) env S (.int xs.length) :=
  v_bi1 ha (by simp only [vbi, hd, Option.map, List.length_map])
theorem v_abs {a : E} {i : Int} (ha : V T cf b₀ a env S (.int i)) : V T cf b₀ (.bi .abs (.cons a .nil)) env S (.int (absT i)) := v_bi1 ha rfl
theorem v_intI {a : E} {i : Int} (ha : V T cf b₀ a env S (.int i)) : V T cf b₀ (.bi .int (.cons a .nil)) env S (.int i) := v_bi1 ha rfl
theorem v_intB {a : E} {v : Bool} (ha : V T cf b₀ a env S (.bl v)) : V T cf b₀ (.bi .int (.cons a .nil)) env S (.int (if v then 1 else 0)) := v_bi1 ha rfl
theorem v_gcd {a b : E} {i j : Int} (ha : V T cf b₀ a env S (.int i)) (hb : V T cf b₀ b env S (.int j)) : V T cf b₀ (.bi .gcd (.cons a (.cons b .nil))) env S (.int (gcdT i j)) := v_bi (vs_cons ha (vs_cons hb vs_nil)) rfl
theorem v_max2 {a b : E} {i j : Int} (ha : V T cf b₀ a env S (.int i)) (hb : V T cf b₀ b env S (.int j)) : V T cf b₀ (.bi .max2 (.cons a (.cons b .nil))) env S (.int (max2T i j)) := v_bi (vs_cons ha (vs_cons hb vs_nil)) rfl
theorem v_min2 {a b : E} {i j : Int} (ha : V T cf b₀ a env S (.int i)) (hb : V T cf b₀ b env S (.int j)) : V T cf b₀ (.bi .min2 (.cons a (.cons b .nil))) env S (.int (min2T i j)) := v_bi (vs_cons ha (vs_cons hb vs_nil)) rfl
theorem v_tupL {a : E} {d : D} {ds : List D} (ha : V T cf b₀ a env S d) (hd : dr S d = .lst ds) : V T cf b₀ (.bi .tuple (.cons a .nil)) env S (.tup ds) := v_bi1 ha (by rw [hd]; rfl)
theorem v_tupT {a : E} {d : D} {ds : List D} (ha : V T cf b₀ a env S d) (hd : dr S d = .tup ds) : V T cf b₀ (.bi .tuple (.cons a .nil)) env S (.tup ds) := v_bi1 ha (by rw [hd]; rfl)
theorem dInts_i (ns : List Int) : dInts (ns.map eI) = some ns := by
  induction ns with
  | nil => rfl
  | cons n r ih => rw [List.map_cons, dInts, ih]; rfl
theorem dBls_b (ns : List Bool) : dBls (ns.map eB) = some ns := by
  induction ns with
  | nil => rfl
  | cons n r ih => rw [List.map_cons, dBls, ih]; rfl
theorem v_sum {a : E} {d : D} {ns : List Int} (ha : V T cf b₀ a env S d) (hd : dr S d = .lst (ns.map eI)) : V T cf b₀ (.bi .sum (.cons a .nil)) env S (.int ns.sum) := v_bi1 ha (by rw [hd]; simp only [vbi, vagg, dInts_i])
theorem v_max {a : E} {d : D} {ns : List Int} {z : Int} (ha : V T cf b₀ a env S d) (hd : dr S d = .lst (ns.map eI)) (h : maxM ns = some z) : V T cf b₀ (.bi .max (.cons a .nil)) env S (.int z) := v_bi1 ha (by
  rw [hd]; simp only [vbi, vagg, dInts_i]
  unfold maxM at h
  split at h
  · rename_i hn; rw [if_pos hn]; injection h with h; rw [h]
  · cases h)
theorem v_min {a : E} {d : D} {ns : List Int} {z : Int} (ha : V T cf b₀ a env S d) (hd : dr S d = .lst (ns.map eI)) (h : minM ns = some z) : V T cf b₀ (.bi .min (.cons a .nil)) env S (.int z) := v_bi1 ha (by
  rw [hd]; simp only [vbi, vagg, dInts_i]
  unfold minM at h
  split at h
  · rename_i hn; rw [if_pos hn]; injection h with h; rw [h]
  · cases h)
theorem v_all {a : E} {d : D} {bs : List Bool} (ha : V T cf b₀ a env S d) (hd : dr S d = .lst (bs.map eB)) : V T cf b₀ (.bi .all (.cons a .nil)) env S (.bl (bs.all id)) := v_bi1 ha (by rw [hd]; simp only [vbi, vagg, dBls_b])
theorem v_any {a : E} {d : D} {bs : List Bool} (ha : V T cf b₀ a env S d) (hd : dr S d = .lst (bs.map eB)) : V T cf b₀ (.bi .any (.cons a .nil)) env S (.bl (bs.any id)) := v_bi1 ha (by rw [hd]; simp only [vbi, vagg, dBls_b])
theorem v_maxd {a : E} {x : D} {d : Int} {ns : List Int} (ha : V T cf b₀ a env S x) (hd : dr S x = .lst (ns.map eI)) : V T cf b₀ (.maxd a d) env S (.int (maxdT ns d)) := by
  unfold V at *; rw [evE]; dsimp only; rw [ha]
  simp only [bnd, hd]
  cases ns with
  | nil => rfl
  | cons n r =>
    have h := dInts_i (n :: r)
    simp only [List.map_cons] at h ⊢
    simp only [vagg, h, maxdT]
    rfl
/-! new lists -/
theorem va_disp {es : Es} {ds : List D} (h : Vs T cf b₀ es env S ds) : VA T cf b₀ (.disp es) env S ds := by
  unfold VA; rw [evA]; dsimp only; rw [h]
theorem va_ofs {α : Type} {e : α → D} {a : E} {d : D} {xs : List α} (ha : V T cf b₀ a env S d) (hd : items? (dr S d) = some (xs.map e)) : VA T cf b₀ (.ofs a) env S (xs.map e) := by
  unfold VA; rw [evA]; dsimp only; rw [ha]; simp only [bnd, hd]
theorem va_lrv {α : Type} {e : α → D} {a : E} {d : D} {xs : List α} (ha : V T cf b₀ a env S d) (hd : dr S d = .lst (xs.map e)) : VA T cf b₀ (.lrv a) env S (xs.reverse.map e) := by
  unfold VA; rw [evA]; dsimp only; rw [ha]; simp only [bnd, hd, List.map_reverse]
theorem va_srt {a : E} {d : D} {ns : List Int} (ha : V T cf b₀ a env S d) (hd : dr S d = .lst (ns.map eI)) : VA T cf b₀ (.srt a) env S ((srtI ns).map eI) := by
  unfold VA; rw [evA]; dsimp only; rw [ha]; simp only [bnd, hd, dInts_i]
theorem va_cat {α : Type} {e : α → D} {a b : E} {x y : D} {xs ys zs : List α} (ha : V T cf b₀ a env S x) (hb : V T cf b₀ b env S y) (hx : dr S x = .lst (xs.map e)) (hy : dr S y = .lst (ys.map e)) (h : catM xs ys = some zs) : VA T cf b₀ (.cat a b) env S (zs.map e) := by
  unfold VA; rw [evA]; dsimp only; rw [ha]
  simp only [bnd, hb, hx, hy]
  unfold catM at h
  split at h
  · rename_i hl; injection h with h; subst h
    simp only [vop, List.length_map, hl, if_true, List.map_append]
  · cases h
theorem va_rep {α : Type} {e : α → D} {a b : E} {x : D} {xs zs : List α} {k : Int} (ha : V T cf b₀ a env S x) (hb : V T cf b₀ b env S (.int k)) (hx : dr S x = .lst (xs.map e)) (h : repM xs k = some zs) : VA T cf b₀ (.rep a b) env S (zs.map e) := by
  unfold VA; rw [evA]; dsimp only; rw [ha]
  simp only [bnd, hb, hx]
  unfold repM at h
  split at h
  · rename_i hl; injection h with h; subst h
    simp only [dr, vop, List.length_map, hl, and_self, if_true, rpt, flat_map]
  · cases h
theorem v_frz {a : A} {ds : List D} (h : VA T cf b₀ a env S ds) (hS : D.pures S = true) (hd : D.pures ds = true) : V T cf b₀ (.frz a) env S (.lst ds) := by
  unfold V; rw [evE]; dsimp only; rw [h]
  have hb : D.blws S.length (S ++ [.lst ds]) = true := bl_of (pures_snoc hS (by rw [D.pure]; exact hd))
  simp only [bnd, if_true, closed]
  simp [hb]
/-! what is walked -/
theorem vi_val {α : Type} {e : α → D} {a : E} {d : D} {xs : List α} {ck : Option Nat} (h : V T cf b₀ a env S d) (hd : itsOf S d = some (xs.map e, ck)) : VI T cf b₀ (.val a) env S (xs.map e) ck := by
  unfold VI; rw [evI]; dsimp only; rw [h]; simp only [bnd, hd, ofO]
theorem rng_map (lo : Int) (n : Nat) : rng lo n = (rngT lo n).map eI := by
  unfold rng rngT; rw [List.map_map]; rfl
theorem vi_rng1 {a : E} {n : Int} {xs : List Int} (h : V T cf b₀ a env S (.int n)) (hx : rng1M n = some xs) : VI T cf b₀ (.rng1 a) env S (xs.map eI) none := by
  unfold VI; rw [evI]; dsimp only; rw [h]
  unfold rng1M at hx
  split at hx
  · rename_i hs; injection hx with hx; subst hx
    simp only [bnd, hs, if_true, rng_map]
  · cases hx
theorem vi_rng2 {a b : E} {m n : Int} {xs : List Int} (h : V T cf b₀ a env S (.int m)) (h' : V T cf b₀ b env S (.int n)) (hx : rng2M m n = some xs) : VI T cf b₀ (.rng2 a b) env S (xs.map eI) none := by
  unfold VI; rw [evI]; dsimp only; rw [h]
  unfold rng2M at hx
  split at hx
  · rename_i hs; injection hx with hx; subst hx
    simp only [bnd, h', hs, and_self, if_true, rng_map]
  · cases hx
theorem vi_revL {α : Type} {e : α → D} {a : E} {xs : List α} (h : V T cf b₀ a env S (.lst (xs.map e))) : VI T cf b₀ (.rev a) env S (xs.reverse.map e) none := by
  unfold VI; rw [evI]; dsimp only; rw [h]; simp only [bnd, List.map_reverse]
theorem vi_revT {α : Type} {e : α → D} {a : E} {xs : List α} (h : V T cf b₀ a env S (.tup (xs.map e))) : VI T cf b₀ (.rev a) env S (xs.reverse.map e) none := by
  unfold VI; rw [evI]; dsimp only; rw [h]; simp only [bnd, List.map_reverse]
theorem vi_revr {a : E} {n : Int} {xs : List Int} (h : V T cf b₀ a env S (.int n)) (hx : rng1M n = some xs) : VI T cf b₀ (.revr a) env S (xs.reverse.map eI) none := by
  unfold VI; rw [evI]; dsimp only; rw [h]
  unfold rng1M at hx
  split at hx
  · rename_i hs; injection hx with hx; subst hx
    simp only [bnd, hs, if_true, rng_map, List.map_reverse]
  · cases hx
theorem zipL_map {α β : Type} {e : α → D} {f : β → D} : ∀ (xs : List α) (ys : List β), zipL (xs.map e) (ys.map f) = (xs.zip ys).map (eP2 e f)
  | [], [] => rfl
  | [], _ :: _ => rfl
  | _ :: _, [] => rfl
  | x :: r, y :: t => by simp [zipL, zipL_map r t]
theorem vi_zipL {α β : Type} {e : α → D} {f : β → D} {a b : E} {xs : List α} {ys : List β} (h : V T cf b₀ a env S (.lst (xs.map e))) (h' : V T cf b₀ b env S (.lst (ys.map f))) : VI T cf b₀ (.zip a b) env S ((xs.zip ys).map (eP2 e f)) none := by
  unfold VI; rw [evI]; dsimp only; rw [h]; simp only [bnd, h', zipL_map]
theorem vi_zipT {α β : Type} {e : α → D} {f : β → D} {a b : E} {xs : List α} {ys : List β} (h : V T cf b₀ a env S (.tup (xs.map e))) (h' : V T cf b₀ b env S (.tup (ys.map f))) : VI T cf b₀ (.zip a b) env S ((xs.zip ys).map (eP2 e f)) none := by
  unfold VI; rw [evI]; dsimp only; rw [h]; simp only [bnd, h', zipL_map]
theorem enuL_map {α : Type} {e : α → D} : ∀ (k : Nat) (xs : List α), enuL k (xs.map e) = (enuT (k : Int) xs).map (eP2 eI e)
  | _, [] => rfl
  | k, x :: r => by
    have := enuL_map (e := e) (k + 1) r
    simp only [List.map_cons, enuL, enuT, this]
    rfl
theorem vi_enu {α : Type} {e : α → D} {a : E} {xs : List α} (h : V T cf b₀ a env S (.lst (xs.map e))) : VI T cf b₀ (.enu a) env S ((enuT 0 xs).map (eP2 eI e)) none := by
  unfold VI; rw [evI]; dsimp only; rw [h]; simp only [bnd]
  rw [enuL_map]; rfl
theorem vc_none : VC T cf b₀ .none env S true := by unfold VC; rw [evC]
theorem vc_some {e : E} {v : Bool} (h : V T cf b₀ e env S (.bl v)) : VC T cf b₀ (.some e) env S v := by unfold VC; rw [evC]; dsimp only; rw [h]
/-! comprehensions -/
theorem compG_len {α β : Type} {c : α → Option Bool} {f : α → Option β} : ∀ {xs : List α} {ys : List β}, compG c f xs = some ys → ys.length ≤ xs.length
  | [], ys, h => by simp only [compG] at h; injection h with h; subst h; exact Nat.le_refl _
  | x :: r, ys, h => by
    simp only [compG] at h
    split at h
    · split at h
      · rw [Option.map_eq_some_iff] at h
        obtain ⟨zs, h1, h2⟩ := h
        have := compG_len h1
        subst h2
        simp only [List.length_cons]; omega
      · cases h
    · have := compG_len h
      simp only [List.length_cons]; omega
    · cases h
theorem compL_val2 {α β : Type} {f : EF} {c : CF} {t : Tg} {n : Nat} {all : List D} {ck : Option Nat} {e : α → D} {e' : β → D} {cM : α → Option Bool} {fM : α → Option β} {g : α → Env} (hn : S.length = n) (hst : ∀ ac, still ck all (S ++ [.lst ac]) = true) (hg : ∀ x, setT t (e x) env = some (g x)) (hc : ∀ x ac b, cM x = some b → c (g x) (S ++ [.lst ac]) = .ok b (S ++ [.lst ac])) (hf : ∀ x ac y, fM x = some y → f (g x) (S ++ [.lst ac]) = .ok (e' y) (S ++ [.lst ac])) : ∀ (xs : List α) (acc : List D) (ys : List β), compG cM fM xs = some ys → acc.length + xs.length ≤ lim → compL ck all f c t n env (xs.map e) (S ++ [.lst acc]) = .ok () (S ++ [.lst (acc ++ ys.map e')])
  | [], acc, ys, h, hl => by
    simp only [compG] at h; injection h with h; subst h
    simp [compL]
  | x :: r, acc, ys, h, hl => by
    simp only [compG] at h
    rw [List.length_cons] at hl
    rw [List.map_cons, compL, hg]
    simp only
    split at h
    · rename_i hcx
      rw [hc x acc true hcx]
      split at h
      · rename_i y hfy
        rw [Option.map_eq_some_iff] at h
        obtain ⟨zs, h1, h2⟩ := h
        subst h2
        simp only [ne, bnd, hf x acc y hfy]
        have hg' : (S ++ [D.lst acc])[n]? = some (.lst acc) := by rw [← hn]; simp
        have hs : (S ++ [D.lst acc]).set n (.lst (acc ++ [e' y])) = S ++ [.lst (acc ++ [e' y])] := by rw [← hn]; simp
        simp only [hg', hs, hst]
        rw [if_pos ⟨by omega, trivial⟩, compL_val2 hn hst hg hc hf r (acc ++ [e' y]) zs h1 (by simp; omega)]
        simp
      · cases h
    · rename_i hcx
      rw [hc x acc false hcx]
      simp only [ne, bnd, hst, if_true]
      exact compL_val2 hn hst hg hc hf r acc ys h (by omega)
    · cases h
theorem va_comp {α β : Type} {t : Tg} {it : I} {c : O} {e : E} {xs : List α} {ex : α → D} {ey : β → D} {ck : Option Nat} {cM : α → Option Bool} {fM : α → Option β} {ys : List β} (g : α → Env) (hi : VI T cf b₀ it env S (xs.map ex) ck) (h : compM cM fM xs = some ys) (hst : ∀ ac, still ck (xs.map ex) (S ++ [.lst ac]) = true) (hg : ∀ x, setT t (ex x) env = some (g x)) (hc : ∀ x ac b, cM x = some b → VC T cf b₀ c (g x) (S ++ [.lst ac]) b) (hf : ∀ x ac y, fM x = some y → V T cf b₀ e (g x) (S ++ [.lst ac]) (ey y)) : VA T cf b₀ (.comp t it c e) env S (ys.map ey) := by
  unfold VA; rw [evA]; dsimp only; rw [hi]
  unfold compM at h
  split at h
  · rename_i hl
    simp only [bnd]
    rw [compL_val2 rfl hst hg hc hf xs [] ys h (by simpa using hl)]
    simp
  · cases h
end
end Ev


set_option maxHeartbeats 200000
set_option Elab.async false
set_option maxRecDepth 100000
/-! Rules for statements, loops and calls. -/
namespace Ev
open PySem PySem.Spec L2

theorem eraseIdx_mapT {α β : Type} (f : α → β) : ∀ (xs : List α) (j : Nat), (xs.map f).eraseIdx j = (xs.eraseIdx j).map f
  | [], _ => rfl
  | _ :: _, 0 => rfl
  | x :: r, j + 1 => by simp [eraseIdx_mapT f r j]
def Zp (Z : Out → Prop) (o : Out) : Prop := Z o
def thn (T : Tb) (cf : Nat → List D → Sto → R D) (b₀ : Nat) (r : Ss) (p : Nat) (o : Out) : Out := match o with
  | .nx e S => evSs T cf b₀ r p e S
  | o => o
section
variable {T : Tb} {cf : Nat → List D → Sto → R D} {b₀ p : Nat} {env e1 : Env} {S S1 S2 : Sto} {Z : Out → Prop} {r : Ss}
theorem z_step {s : St} (h : evS T cf b₀ s p env S = .nx e1 S1) (hr : Zp Z (evSs T cf b₀ r p e1 S1)) : Zp Z (evSs T cf b₀ (.cons s r) p env S) := by
  rw [evSs]; dsimp only; rw [h]; exact hr
theorem z_nil (h : Z (.nx env S)) : Zp Z (evSs T cf b₀ .nil p env S) := by unfold Zp; rw [evSs]; exact h
theorem z_thn {q : Nat} (h : Zp Z (evSs T cf b₀ r q env S)) : Zp (fun o => Zp Z (thn T cf b₀ r q o)) (evSs T cf b₀ .nil p env S) := by
  unfold Zp at *; rw [evSs]; exact h
theorem z_set {i : Nat} {e : E} {d : D} (h : evE T cf b₀ e env S = .ok d S1) (he : env.set i (some d) = e1) (hr : Zp Z (evSs T cf b₀ r p e1 S1)) : Zp Z (evSs T cf b₀ (.cons (.set i e) r) p env S) :=
  z_step (by rw [S_set h, he]) hr
theorem z_setc {i : Nat} {t : Tg} {it : I} {c : O} {e : E} {d : D} (h : evE T cf b₀ (.frz (.comp t it c e)) env S = .ok d S1) (he : env.set i (some d) = e1) (hr : Zp Z (evSs T cf b₀ r p e1 S1)) : Zp Z (evSs T cf b₀ (.cons (.setc i t it c e) r) p env S) := by
  refine z_step ?_ hr
  rw [evS]; dsimp only; rw [h]; simp only [bndS, he]
theorem z_new {i n : Nat} {a : A} {ds : List D} (h : VA T cf b₀ a env S ds) (hn : S.length = n) (he : env.set i (some (.ref n)) = e1) (hS : S ++ [.lst ds] = S1) (hr : Zp Z (evSs T cf b₀ r p e1 S1)) : Zp Z (evSs T cf b₀ (.cons (.new i a) r) p env S) := by
  refine z_step ?_ hr
  rw [evS]; dsimp only; rw [h]; simp only [bndS, hn, he, hS]
theorem z_newc {i n : Nat} {t : Tg} {it : I} {c : O} {e : E} {ds : List D} (h : VA T cf b₀ (.comp t it c e) env S ds) (hn : S.length = n) (he : env.set i (some (.ref n)) = e1) (hS : S ++ [.lst ds] = S1) (hr : Zp Z (evSs T cf b₀ r p e1 S1)) : Zp Z (evSs T cf b₀ (.cons (.newc i t it c e) r) p env S) := by
  refine z_step ?_ hr
  rw [evS]; dsimp only; rw [h]; simp only [bndS, hn, he, hS]
theorem z_exp {e : E} {d : D} (h : evE T cf b₀ e env S = .ok d S1) (hr : Zp Z (evSs T cf b₀ r p env S1)) : Zp Z (evSs T cf b₀ (.cons (.exp e) r) p env S) :=
  z_step (S_exp h) hr
theorem z_tpl {is : List Nat} {e : E} {d : D} (h : evE T cf b₀ e env S = .ok d S1) (he : setT (.tp is) d env = some e1) (hr : Zp Z (evSs T cf b₀ r p e1 S1)) : Zp Z (evSs T cf b₀ (.cons (.tpl is e) r) p env S) := by
  refine z_step ?_ hr
  rw [evS]; dsimp only; rw [h]; simp only [bndS, he]
theorem s_app {α : Type} {ex : α → D} [PU ex] {a e : E} {n : Nat} {xs zs : List α} {y : α} (ha : V T cf b₀ a env S (.ref n)) (hg : S[n]? = some (.lst (xs.map ex))) (he : V T cf b₀ e env S (ex y)) (h : appM xs y = some zs) (hS : S.set n (.lst (zs.map ex)) = S1) : evE T cf b₀ (.app a e) env S = .ok .non S1 := by
  rw [evE]; dsimp only; rw [ha]
  simp only [bnd, hg, he]
  unfold appM at h
  split at h
  · rename_i hl; injection h with h; subst h
    rw [if_pos ⟨by rw [List.length_map]; exact hl, .inl (PU.p y)⟩, ← hS]
    simp
  · cases h
theorem s_pop {α : Type} {ex : α → D} {a : E} {n : Nat} {xs zs : List α} {y : α} (ha : V T cf b₀ a env S (.ref n)) (hg : S[n]? = some (.lst (xs.map ex))) (h : popM xs = some (y, zs)) (hS : S.set n (.lst (zs.map ex)) = S1) : evE T cf b₀ (.pop a) env S = .ok (ex y) S1 := by
  rw [evE]; dsimp only; rw [ha]
  unfold popM at h
  rw [Option.map_eq_some_iff] at h
  obtain ⟨y', h1, h2⟩ := h
  injection h2 with h2 h3
  subst h2; subst h3
  simp only [bnd, hg, List.length_map, List.getElem?_map, h1, Option.map, ← hS, List.map_dropLast]
theorem s_popi {α : Type} {ex : α → D} {a i : E} {n : Nat} {k : Int} {xs zs : List α} {y : α} (ha : V T cf b₀ a env S (.ref n)) (hg : S[n]? = some (.lst (xs.map ex))) (hi : V T cf b₀ i env S (.int k)) (h : popiM xs k = some (y, zs)) (hS : S.set n (.lst (zs.map ex)) = S1) : evE T cf b₀ (.popi a i) env S = .ok (ex y) S1 := by
  rw [evE]; dsimp only; rw [ha]
  unfold popiM at h
  simp only [bnd, hg, hi, List.length_map]
  cases hj : ixN xs.length k with
  | none => rw [hj] at h; cases h
  | some j =>
    rw [hj] at h
    simp only [Option.bind] at h
    cases hx : xs[j]? with
    | none => rw [hx] at h; cases h
    | some x =>
      rw [hx] at h
      simp only at h
      split at h
      · rename_i hb
        injection h with h; injection h with h1 h2
        subst h1; subst h2
        simp only [List.getElem?_map, hx, Option.map]
        rw [if_pos hb, ← hS, eraseIdx_mapT]
      · cases h
theorem z_sets {α : Type} {ex : α → D} [PU ex] {o i e : E} {n : Nat} {k : Int} {xs zs : List α} {y : α} (he : V T cf b₀ e env S (ex y)) (ho : V T cf b₀ o env S (.ref n)) (hi : V T cf b₀ i env S (.int k)) (hg : S[n]? = some (.lst (xs.map ex))) (h : setM xs k y = some zs) (hS : S.set n (.lst (zs.map ex)) = S1) (hr : Zp Z (evSs T cf b₀ r p env S1)) : Zp Z (evSs T cf b₀ (.cons (.sets o i e) r) p env S) := by
  refine z_step ?_ hr
  unfold setM at h
  rw [Option.map_eq_some_iff] at h
  obtain ⟨j, h1, h2⟩ := h
  subst h2
  rw [evS]; dsimp only; rw [he]
  simp only [bndS, ho, hi, hg, List.length_map, h1]
  rw [if_pos (.inl (PU.p y)), ← hS, List.map_set]
theorem z_setf {o e : E} {f n c : Nat} {d : D} {fs : List Nat} {vs : List D} (he : V T cf b₀ e env S d) (ho : V T cf b₀ o env S (.ref n)) (hg : S[n]? = some (.obj c fs vs)) (hf : T.fld c f = true) (hl : fs.length < 100) (hp : d.pure = true) (hS : S.set n (.obj c (putF f d fs vs).1 (putF f d fs vs).2) = S1) (hr : Zp Z (evSs T cf b₀ r p env S1)) : Zp Z (evSs T cf b₀ (.cons (.setf o f e) r) p env S) := by
  refine z_step ?_ hr
  rw [evS]; dsimp only; rw [he]
  simp only [bndS, ho, hg]
  rw [if_pos ⟨hf, hl, .inl hp⟩, hS]
theorem z_aug {i : Nat} {o : Bop} {e : E} {k j z : Int} (hi : env[i]? = some (some (.int k))) (h : V T cf b₀ e env S (.int j)) (hz : iop o k j = some z) (he : env.set i (some (.int z)) = e1) (hr : Zp Z (evSs T cf b₀ r p e1 S)) : Zp Z (evSs T cf b₀ (.cons (.aug i o e) r) p env S) := by
  refine z_step ?_ hr
  rw [evS]; dsimp only; rw [hi]; simp only; rw [h]; simp only [bndS, hz, he]
theorem z_ret {e : E} {d : D} (h : evE T cf b₀ e env S = .ok d S1) (hZ : Z (.rt d S1)) : Zp Z (evSs T cf b₀ (.cons (.ret e) r) p env S) := by
  unfold Zp; rw [C_rt (S_ret h)]; exact hZ
theorem z_retn (hZ : Z (.rt .non S)) : Zp Z (evSs T cf b₀ (.cons .retn r) p env S) := by
  unfold Zp; rw [evSs]; dsimp only; rw [evS]; exact hZ
theorem z_brk (hZ : Z (.bk env S)) : Zp Z (evSs T cf b₀ (.cons .brk r) p env S) := by
  unfold Zp; rw [evSs]; dsimp only; rw [evS]; exact hZ
theorem z_cnt (hZ : Z (.ct env S)) : Zp Z (evSs T cf b₀ (.cons .cnt r) p env S) := by
  unfold Zp; rw [evSs]; dsimp only; rw [evS]; exact hZ
theorem z_pss (hr : Zp Z (evSs T cf b₀ r p env S)) : Zp Z (evSs T cf b₀ (.cons .pss r) p env S) := by
  refine z_step ?_ hr
  rw [evS]
theorem z_ifs {a b : Ss} {c : E} {u : Bool} (hc : V T cf b₀ c env S (.bl u)) (ht : u = true → Zp (fun o => Zp Z (thn T cf b₀ r p o)) (evSs T cf b₀ a p env S)) (hf : u = false → Zp (fun o => Zp Z (thn T cf b₀ r p o)) (evSs T cf b₀ b p env S)) : Zp Z (evSs T cf b₀ (.cons (.ifs c a b) r) p env S) := by
  unfold Zp at *
  rw [evSs]; dsimp only
  cases u with
  | true => rw [S_ifs hc (fun _ => rfl) fun h => by cases h]; exact ht rfl
  | false => rw [S_ifs hc (fun h => by cases h) fun _ => rfl]; exact hf rfl
theorem z_key {α : Type} {s : St} {E : α → Env} {St : α → Sto} {P : α → Prop} (hk : ∀ a, P a → Zp Z (evSs T cf b₀ r p (E a) (St a))) (h : (∀ a, P a → Zp Z (evSs T cf b₀ r p (E a) (St a))) → Zp Z (evSs T cf b₀ (.cons s r) p env S)) : Zp Z (evSs T cf b₀ (.cons s r) p env S) := h hk
/-- both parts meet again -/
theorem z_join {a b : Ss} {c : E} {u : Bool} (hc : V T cf b₀ c env S (.bl u)) {Zj : Out → Prop} (ht : u = true → Zp Zj (evSs T cf b₀ a p env S)) (hf : u = false → Zp Zj (evSs T cf b₀ b p env S)) (hk : ∀ o, Zj o → Zp Z (thn T cf b₀ r p o)) : Zp Z (evSs T cf b₀ (.cons (.ifs c a b) r) p env S) :=
  z_ifs hc (fun h => hk _ (ht h)) fun h => hk _ (hf h)
theorem z_seal {i n : Nat} {xs : List D} {S0 : Sto} (hi : env[i]? = some (some (.ref n))) (hS : S0 ++ [.lst xs] = S) (hn : S0.length = n) (hp : p ≤ n) (hb : envB n i env = true) (hpu : D.pures S = true) (he : env.set i (some (.lst xs)) = e1) (hr : Zp Z (evSs T cf b₀ r p e1 S0)) : Zp Z (evSs T cf b₀ (.cons (.shut i) r) p env S) := by
  refine z_step ?_ hr
  subst hS
  have h1 : (S0 ++ [D.lst xs]).getLast? = some (.lst xs) := by simp
  have h2 : n + 1 = (S0 ++ [D.lst xs]).length := by simp [hn]
  have h3 : D.blws n (S0 ++ [D.lst xs]) = true := bl_of hpu
  have h4 : (S0 ++ [D.lst xs]).dropLast = S0 := by simp
  rw [evS]; dsimp only; rw [hi]
  simp only [h1, h4]
  rw [if_pos ⟨h2, hp, hb, h3⟩, he]
end
/-- what stands in a slot that nobody reads any more -/
structure J where
  v : Option D
  h : ∀ d, v = some d → d.pure = true
def jN : J := ⟨none, fun _ h => by cases h⟩
def jV {d : D} (h : d.pure = true) : J := ⟨some d, fun _ e => by injection e with e; rw [← e]; exact h⟩
theorem ob_none {n : Nat} : oB n none = true := rfl
theorem ob_ref {m n : Nat} (h : m < n) : oB n (some (.ref m)) = true := decide_eq_true h
theorem ob_pure {n : Nat} {d : D} (h : d.pure = true) : oB n (some d) = true := D.blw_pure n d h
theorem ob_junk {n : Nat} (j : J) : oB n j.v = true := by
  obtain ⟨v, h⟩ := j
  cases v with
  | none => rfl
  | some d => exact D.blw_pure n d (h d rfl)
theorem eb_skip {n : Nat} {o : Option D} {r : Env} (h : r.all (oB n) = true) : envB n 0 (o :: r) = true := h
theorem eb_cons {n i : Nat} {o : Option D} {r : Env} (h : oB n o = true) (hr : envB n i r = true) : envB n (i + 1) (o :: r) = true := by rw [envB, h, hr]; rfl
theorem al_nil {n : Nat} : ([] : Env).all (oB n) = true := rfl
theorem al_cons {n : Nat} {o : Option D} {r : Env} (h : oB n o = true) (hr : r.all (oB n) = true) : (o :: r).all (oB n) = true := by rw [List.all_cons, h, hr]; rfl
section
variable {T : Tb} {cf : Nat → List D → Sto → R D} {b₀ p : Nat} {env e1 : Env} {S S1 S2 : Sto} {Z : Out → Prop} {r : Ss}
theorem v_castC {c : O} {b b' : Bool} (h : VC T cf b₀ c env S b) (e : b = b') : VC T cf b₀ c env S b' := e ▸ h
/-! ### loops -/
@[irreducible] def FlR {σ ρ : Type} (E : σ → Env → Prop) (St : σ → Sto) (er : ρ → D) (Pr : ρ → Sto → Prop) (f : Fl σ ρ) (o : Out) : Prop := match f with
  | .nx s => ∃ e, E s e ∧ (o = .nx e (St s) ∨ o = .ct e (St s))
  | .bk s => ∃ e, E s e ∧ o = .bk e (St s)
  | .rt v => ∃ S', o = .rt (er v) S' ∧ Pr v S'
def FlQ {σ ρ : Type} (E : σ → Env → Prop) (St : σ → Sto) (er : ρ → D) (Pr : ρ → Sto → Prop) (f : Fl σ ρ) (o : Out) : Prop := match f with
  | .nx s => ∃ e, E s e ∧ o = .nx e (St s)
  | .bk _ => False
  | .rt v => ∃ S', o = .rt (er v) S' ∧ Pr v S'
theorem forR_ok {σ ρ α : Type} {E : σ → Env → Prop} {St : σ → Sto} {er : ρ → D} {Pr : ρ → Sto → Prop} {ex : α → D} {t : Tg} {body : BF} {ck : Option Nat} {all : List D} {step : σ → α → Option (Fl σ ρ)} (hck : ∀ s, still ck all (St s) = true) (hstep : ∀ s x f env, E s env → step s x = some f → ∃ env1, setT t (ex x) env = some env1 ∧ FlR E St er Pr f (body env1 (St s))) : ∀ (xs : List α) (s : σ) (env : Env) (f : Fl σ ρ), E s env → forR step xs s = some f → FlQ E St er Pr f (forL ck all t body (xs.map ex) env (St s))
  | [], s, env, f, hE, h => by
    simp only [forR] at h; injection h with h; subst h
    exact ⟨env, hE, rfl⟩
  | x :: r, s, env, f, hE, h => by
    simp only [forR] at h
    split at h
    · rename_i s' hs
      have hq := hstep s x _ env hE hs; unfold FlR at hq; obtain ⟨env1, h1, e', hE', h2⟩ := hq
      rw [List.map_cons, forL, h1]
      rcases h2 with h2 | h2 <;> (simp only [h2, hck, if_true]; exact forR_ok hck hstep r s' e' f hE' h)
    · rename_i s' hs
      injection h with h; subst h
      have hq := hstep s x _ env hE hs; unfold FlR at hq; obtain ⟨env1, h1, e', hE', h2⟩ := hq
      rw [List.map_cons, forL, h1]
      simp only [h2]
      exact ⟨e', hE', rfl⟩
    · rename_i v hs
      injection h with h; subst h
      have hq := hstep s x _ env hE hs; unfold FlR at hq; obtain ⟨env1, h1, S', h2, h3⟩ := hq
      rw [List.map_cons, forL, h1]
      simp only [h2]
      exact ⟨S', rfl, h3⟩
    · cases h
theorem whlM_ok {σ ρ : Type} {E : σ → Env → Prop} {St : σ → Sto} {er : ρ → D} {Pr : ρ → Sto → Prop} {c : EF} {body : BF} {cM : σ → Option Bool} {step : σ → Option (Fl σ ρ)} (hc : ∀ s b env, E s env → cM s = some b → c env (St s) = .ok (.bl b) (St s)) (hstep : ∀ s f env, E s env → step s = some f → FlR E St er Pr f (body env (St s))) : ∀ (n : Nat) (s : σ) (env : Env) (f : Fl σ ρ), E s env → whlM cM step n s = some f → FlQ E St er Pr f (whlL c body n env (St s))
  | 0, s, env, f, hE, h => by simp only [whlM] at h; cases h
  | n + 1, s, env, f, hE, h => by
    simp only [whlM] at h
    split at h
    · rename_i hb
      rw [whlL]; simp only [hc s true env hE hb, bndS]
      split at h
      · rename_i s' hs
        have hq := hstep s _ env hE hs; unfold FlR at hq; obtain ⟨e', hE', h2⟩ := hq
        rcases h2 with h2 | h2 <;> (simp only [h2]; exact whlM_ok hc hstep n s' e' f hE' h)
      · rename_i s' hs
        injection h with h; subst h
        have hq := hstep s _ env hE hs; unfold FlR at hq; obtain ⟨e', hE', h2⟩ := hq
        simp only [h2]
        exact ⟨e', hE', rfl⟩
      · rename_i v hs
        injection h with h; subst h
        have hq := hstep s _ env hE hs; unfold FlR at hq; obtain ⟨S', h2, h3⟩ := hq
        simp only [h2]
        exact ⟨S', rfl, h3⟩
      · cases h
    · rename_i hb
      injection h with h; subst h
      rw [whlL]; simp only [hc s false env hE hb, bndS]
      exact ⟨env, hE, rfl⟩
    · cases h
theorem z_for {σ ρ α : Type} {E : σ → Env → Prop} {St : σ → Sto} {er : ρ → D} {Pr : ρ → Sto → Prop} {ex : α → D} {t : Tg} {it : I} {b : Ss} {ck : Option Nat} {step : σ → α → Option (Fl σ ρ)} {xs : List α} {s0 : σ} {f : Fl σ ρ} (hi : VI T cf b₀ it env S (xs.map ex) ck) (hm : forR step xs s0 = some f) (h0 : E s0 env) (hS : St s0 = S) (hck : ∀ s, still ck (xs.map ex) (St s) = true) (hstep : ∀ s x f env, E s env → step s x = some f → ∃ env1, setT t (ex x) env = some env1 ∧ FlR E St er Pr f (evSs T cf b₀ b S.length env1 (St s))) (hk : ∀ o, FlQ E St er Pr f o → Zp Z (thn T cf b₀ r p o)) : Zp Z (evSs T cf b₀ (.cons (.for t it b) r) p env S) := by
  have h := forR_ok hck hstep xs s0 env f h0 hm
  have := hk _ h
  unfold Zp at *
  rw [evSs]; dsimp only
  rw [S_for hi rfl]
  rw [hS] at this
  exact this
theorem z_whl {σ ρ : Type} {E : σ → Env → Prop} {St : σ → Sto} {er : ρ → D} {Pr : ρ → Sto → Prop} {c : Ev.E} {b : Ss} {n : Nat} {cM : σ → Option Bool} {step : σ → Option (Fl σ ρ)} {s0 : σ} {f : Fl σ ρ} (hm : whlM cM step n s0 = some f) (h0 : E s0 env) (hS : St s0 = S) (hc : ∀ s v env, E s env → cM s = some v → V T cf b₀ c env (St s) (.bl v)) (hstep : ∀ s f env, E s env → step s = some f → FlR E St er Pr f (evSs T cf b₀ b p env (St s))) (hk : ∀ o, FlQ E St er Pr f o → Zp Z (thn T cf b₀ r p o)) : Zp Z (evSs T cf b₀ (.cons (.whl n c b) r) p env S) := by
  have h := whlM_ok (c := evE T cf b₀ c) (body := evSs T cf b₀ b p) hc hstep n s0 env f h0 hm
  have := hk _ h
  unfold Zp at *
  rw [evSs]; dsimp only
  rw [evS]; dsimp only
  rw [hS] at this
  exact this
/-! ### calls -/
end
def Zf (d : D) (o : Out) : Prop := (∃ d0 S', o = .rt d0 S' ∧ fz 0 S' d0 = some d) ∨ (d = .non ∧ ∃ e S', o = .nx e S')
theorem zf_rt {d : D} {S : Sto} (h : d.pure = true) : Zf d (.rt d S) := .inl ⟨_, _, rfl, fz_pure h⟩
theorem zf_ref {α : Type} {k m : Nat} {e : α → D} [FZ k e] {S : Sto} {a : α} (hk : k < 7) (hg : S[m]? = some (e a)) : Zf (e a) (.rt (.ref m) S) := .inl ⟨_, _, rfl, fz_ref hk hg (by omega)⟩
theorem zf_nx {e : Env} {S : Sto} : Zf .non (.nx e S) := .inr ⟨rfl, e, S, rfl⟩
theorem flr_nx {σ ρ : Type} {E : σ → Env → Prop} {St : σ → Sto} {er : ρ → D} {Pr : ρ → Sto → Prop} {s : σ} {e : Env} (h : E s e) : FlR E St er Pr (.nx s) (.nx e (St s)) := by unfold FlR; exact ⟨e, h, .inl rfl⟩
theorem flr_ct {σ ρ : Type} {E : σ → Env → Prop} {St : σ → Sto} {er : ρ → D} {Pr : ρ → Sto → Prop} {s : σ} {e : Env} (h : E s e) : FlR E St er Pr (.nx s) (.ct e (St s)) := by unfold FlR; exact ⟨e, h, .inr rfl⟩
theorem flr_bk {σ ρ : Type} {E : σ → Env → Prop} {St : σ → Sto} {er : ρ → D} {Pr : ρ → Sto → Prop} {s : σ} {e : Env} (h : E s e) : FlR E St er Pr (.bk s) (.bk e (St s)) := by unfold FlR; exact ⟨e, h, rfl⟩
theorem flr_rt {σ ρ : Type} {E : σ → Env → Prop} {St : σ → Sto} {er : ρ → D} {Pr : ρ → Sto → Prop} {v : ρ} {S : Sto} (h : Pr v S) : FlR E St er Pr (.rt v) (.rt (er v) S) := by unfold FlR; exact ⟨S, rfl, h⟩
theorem fnc_ok {T : Tb} {k f np nl : Nat} {b : Ss} {ds : List D} {S : Sto} {d : D} {env0 : Env} (hf : T.fns f = some ⟨np, nl, b⟩) (hp : D.pures ds = true) (hl : ds.length = np) (he : ds.map some ++ List.replicate (nl - np) none = env0) (h : Zp (Zf d) (evSs T (lv T k).1 0 b 0 env0 [])) : (lv T (k + 1)).1 f ds S = .ok d S := by
  subst he
  rcases h with ⟨d0, S', h, hz⟩ | ⟨h1, e, S', h⟩
  · exact call_rt hf hp hl h hz
  · subst h1; exact call_nx hf hp hl h
theorem ini_ok {T : Tb} {k f c np nl : Nat} {b : Ss} {ds : List D} {S : Sto} {d : D} {env0 : Env} (hi : T.ini c = some f) (hm : T.imm c = true) (hf : T.fns f = some ⟨np, nl, b⟩) (hp : D.pures ds = true) (hl : ds.length + 1 = np) (hd : d.pure = true) (he : some (.ref 0) :: ds.map some ++ List.replicate (nl - np) none = env0) (h : Zp (fun o => ∃ e, o = .nx e [d]) (evSs T (lv T k).1 1 b 1 env0 [.obj c [] []])) : make T (lv T (k + 1)).1 c ds S = .ok d S := by
  subst he
  obtain ⟨e, h⟩ := h
  have hq : D.pures (.ref 0 :: ds) = false := by rw [D.pures, D.pure]; rfl
  unfold make
  rw [hi, hm]
  simp only [hp, if_true]
  have : (lv T (k + 1)).1 f (.ref 0 :: ds) [.obj c [] []] = .ok .non [d] := by
    rw [lv]; dsimp only
    rw [hf]
    simp only [hq]
    unfold runF
    simp only [List.length_cons, hl, if_true, List.length_nil, List.map_cons]
    simp only [Nat.zero_add]
    rw [show (some (D.ref 0) :: List.map some ds ++ List.replicate (nl - np) none : Env) = some (D.ref 0) :: (List.map some ds ++ List.replicate (nl - np) none) from rfl] at h
    simp only [List.cons_append, h]
    rfl
  simp only [this, hd, if_true]
end Ev


set_option maxHeartbeats 200000
set_option Elab.async false
set_option maxRecDepth 100000
set_option maxHeartbeats 1000000
/-! Rules: generator expressions. -/
namespace Ev
open PySem PySem.Spec L2
def foldG {γ : Type} (fin : γ → Option D) (stp : γ → D → Option (Sum γ D)) : List D → γ → Sto → R D
  | [], a, S => (match fin a with
    | some d => .ok d S
    | none => .bad)
  | y :: r, a, S => (match stp a y with
    | none => .bad
    | some (.inr d) => .ok d S
    | some (.inl a') => foldG fin stp r a' S)
def gsumG : List Int → Int → Option Int
  | [], a => some a
  | j :: r, a => if in64 j = true ∧ in64 (a + j) = true then gsumG r (a + j) else none
def gsumM (xs : List Int) : Option Int := gsumG xs 0
section
variable {T : Tb} {cf : Nat → List D → Sto → R D} {b₀ : Nat} {env : Env} {S : Sto}
theorem genF_val {α β γ : Type} {fin : γ → Option D} {stp : γ → D → Option (Sum γ D)} {t : Tg} {c : O} {e : E} {ex : α → D} {ey : β → D} {ck : Option Nat} {all : List D} {cM : α → Option Bool} {fM : α → Option β} {g : α → Env} (hst : still ck all S = true) (hg : ∀ x, setT t (ex x) env = some (g x))
    (hc : ∀ x b, cM x = some b → VC T cf b₀ c (g x) S b) (hf : ∀ x y, fM x = some y → V T cf b₀ e (g x) S (ey y)) :
    ∀ (xs : List α) (ys : List β) (a : γ), compG cM fM xs = some ys → genF fin stp ck all (evE T cf b₀ e) (evC T cf b₀ c) t env (xs.map ex) a S = foldG fin stp (ys.map ey) a S
  | [], ys, a, h => by
    simp only [compG, Option.some.injEq] at h
    subst h
    rfl
  | x :: r, ys, a, h => by
    rw [List.map_cons]
    simp only [genF, hg x]
    simp only [compG] at h
    cases ec : cM x with
    | none => rw [ec] at h; cases h
    | some b =>
      rw [ec] at h
      have h1 : evC T cf b₀ c (g x) S = .ok b S := hc x b ec
      rw [h1]
      simp only [ne, bnd]
      cases b with
      | false =>
        simp only [hst, if_true]
        exact genF_val hst hg hc hf r ys a h
      | true =>
        dsimp only at h
        cases ef : fM x with
        | none => rw [ef] at h; cases h
        | some y =>
          rw [ef] at h
          dsimp only at h
          cases er : compG cM fM r with
          | none => rw [er] at h; cases h
          | some zs =>
            rw [er] at h
            simp only [Option.map, Option.some.injEq] at h
            subst h
            have h2 : evE T cf b₀ e (g x) S = .ok (ey y) S := hf x y ef
            simp only [h2, List.map_cons, foldG]
            cases es : stp a (ey y) with
            | none => rfl
            | some u =>
              cases u with
              | inr d => rfl
              | inl a' =>
                simp only [hst, if_true]
                exact genF_val hst hg hc hf r zs a' er
theorem foldG_all : ∀ (bs : List Bool), foldG (fun _ => some (.bl true)) (stpB false) (bs.map eB) () S = .ok (.bl (bs.all id)) S
  | [] => rfl
  | b :: r => by
    cases b with
    | false => rfl
    | true => exact foldG_all r
theorem foldG_any : ∀ (bs : List Bool), foldG (fun _ => some (.bl false)) (stpB true) (bs.map eB) () S = .ok (.bl (bs.any id)) S
  | [] => rfl
  | b :: r => by
    cases b with
    | true => rfl
    | false => exact foldG_any r
theorem foldG_sum : ∀ (ns : List Int) (a r : Int), gsumG ns a = some r → foldG (fun a => some (.int a)) stpS (ns.map eI) a S = .ok (.int r) S
  | [], a, r, h => by
    simp only [gsumG, Option.some.injEq] at h
    subst h
    rfl
  | j :: ns, a, r, h => by
    simp only [gsumG] at h
    split at h
    · rename_i hj
      rw [List.map_cons]
      have : stpS a (eI j) = some (.inl (a + j)) := by
        show (if in64 j = true ∧ in64 (a + j) = true then some (Sum.inl (a + j)) else none) = _
        rw [if_pos hj]
      simp only [foldG, this]
      exact foldG_sum ns (a + j) r h
    · cases h
theorem foldG_tup : ∀ (ds acc : List D), acc.length + ds.length ≤ lim → foldG (fun a => some (.tup a)) stpT ds acc S = .ok (.tup (acc ++ ds)) S
  | [], acc, _ => by simp [foldG]
  | d :: r, acc, h => by
    rw [List.length_cons] at h
    have : stpT acc d = some (.inl (acc ++ [d])) := by
      unfold stpT
      rw [if_pos (by omega)]
    simp only [foldG, this]
    rw [foldG_tup r (acc ++ [d]) (by simp; omega)]
    simp
theorem foldG_max : ∀ (ns : List Int) (a : Option Int) (r : Int), (match a with
    | none => maxM ns
    | some b => some (ns.foldl (fun a b => if b > a then b else a) b)) = some r → foldG (fun a => a.map .int) stpM (ns.map eI) a S = .ok (.int r) S
  | [], none, r, h => by simp [maxM] at h
  | [], some b, r, h => by
    simp only [List.foldl_nil, Option.some.injEq] at h
    subst h
    rfl
  | j :: ns, none, r, h => by
    have h1 : some (ns.foldl (fun a b => if b > a then b else a) j) = some r := by
      rw [← h]
      simp [maxM, maxI]
    exact foldG_max ns (some j) r h1
  | j :: ns, some b, r, h => by
    have h1 : some (ns.foldl (fun a b => if b > a then b else a) (mxI (some b) j)) = some r := h
    exact foldG_max ns (some (mxI (some b) j)) r h1
theorem compG_lenL {α β : Type} {cM : α → Option Bool} {fM : α → Option β} : ∀ {xs : List α} {ys : List β}, compG cM fM xs = some ys → ys.length ≤ xs.length
  | [], ys, h => by
    simp only [compG, Option.some.injEq] at h
    subst h
    simp
  | x :: r, ys, h => by
    simp only [compG] at h
    split at h
    · split at h
      · cases er : compG cM fM r with
        | none => rw [er] at h; cases h
        | some zs =>
          rw [er] at h
          simp only [Option.map, Option.some.injEq] at h
          subst h
          have := compG_lenL er
          simp only [List.length_cons]
          omega
      · cases h
    · have := compG_lenL h
      simp only [List.length_cons]
      omega
    · cases h
theorem compM_parts {α β : Type} {cM : α → Option Bool} {fM : α → Option β} {xs : List α} {ys : List β} (h : compM cM fM xs = some ys) : xs.length ≤ lim ∧ compG cM fM xs = some ys := by
  unfold compM at h
  split at h
  · exact ⟨by assumption, h⟩
  · cases h
/-- x is None or .. -/
theorem v_orN {α : Type} {e : α → D} {a b : E} {o : Option α} {v : Bool} {m : α → Option Bool} (ha : V T cf b₀ a env S (eO e o)) (hn : ∀ x, isNon (e x) = false) (h : optM o m (some true) = some v) (hb : ∀ x, o = some x → m x = some v → V T cf b₀ b env S (.bl v)) : V T cf b₀ (.or (.isn a) b) env S (.bl v) := by
  cases o with
  | none =>
    have : v = true := (Option.some.inj h).symm
    subst this
    refine E_or (u := true) (v := true) ?_ fun h => by cases h
    rw [evE]; dsimp only; rw [ha]; rfl
  | some x =>
    refine E_or (u := false) (v := v) ?_ fun _ => hb x rfl h
    rw [evE]; dsimp only; rw [ha]
    simp only [bnd, eO, hn x]
theorem va_rgl {a : E} {i : Int} {xs : List Int} (ha : V T cf b₀ a env S (.int i)) (h : rng1M i = some xs) : VA T cf b₀ (.rgl a) env S (xs.map eI) := by
  unfold rng1M at h
  split at h
  · rename_i hs
    simp only [Option.some.injEq] at h
    subst h
    unfold VA; rw [evA]; dsimp only; rw [ha]
    simp only [bnd, hs, if_true]
    unfold rng rngT
    rw [List.map_map]
    rfl
  · cases h
variable {α β : Type} {t : Tg} {it : I} {c : O} {e : E} {xs : List α} {ex : α → D} {cM : α → Option Bool} {ck : Option Nat}
theorem v_genAll {fM : α → Option Bool} {ys : List Bool} (g : α → Env) (hi : VI T cf b₀ it env S (xs.map ex) ck) (h : compM cM fM xs = some ys) (hst : still ck (xs.map ex) S = true) (hg : ∀ x, setT t (ex x) env = some (g x)) (hc : ∀ x b, cM x = some b → VC T cf b₀ c (g x) S b) (hf : ∀ x y, fM x = some y → V T cf b₀ e (g x) S (eB y)) :
    V T cf b₀ (.gen .all t it c e) env S (eB (ys.all id)) := by
  unfold V; rw [evE]; dsimp only; rw [hi]
  simp only [bnd, genV]
  rw [genF_val hst hg hc hf xs ys () (compM_parts h).2]
  exact foldG_all ys
theorem v_genAny {fM : α → Option Bool} {ys : List Bool} (g : α → Env) (hi : VI T cf b₀ it env S (xs.map ex) ck) (h : compM cM fM xs = some ys) (hst : still ck (xs.map ex) S = true) (hg : ∀ x, setT t (ex x) env = some (g x)) (hc : ∀ x b, cM x = some b → VC T cf b₀ c (g x) S b) (hf : ∀ x y, fM x = some y → V T cf b₀ e (g x) S (eB y)) :
    V T cf b₀ (.gen .any t it c e) env S (eB (ys.any id)) := by
  unfold V; rw [evE]; dsimp only; rw [hi]
  simp only [bnd, genV]
  rw [genF_val hst hg hc hf xs ys () (compM_parts h).2]
  exact foldG_any ys
theorem v_genSum {fM : α → Option Int} {ys : List Int} {r : Int} (g : α → Env) (hi : VI T cf b₀ it env S (xs.map ex) ck) (h : compM cM fM xs = some ys) (hr : gsumM ys = some r) (hst : still ck (xs.map ex) S = true) (hg : ∀ x, setT t (ex x) env = some (g x)) (hc : ∀ x b, cM x = some b → VC T cf b₀ c (g x) S b) (hf : ∀ x y, fM x = some y → V T cf b₀ e (g x) S (eI y)) :
    V T cf b₀ (.gen .sum t it c e) env S (eI r) := by
  unfold V; rw [evE]; dsimp only; rw [hi]
  simp only [bnd, genV]
  rw [genF_val hst hg hc hf xs ys 0 (compM_parts h).2]
  exact foldG_sum ys 0 r hr
theorem v_genMax {fM : α → Option Int} {ys : List Int} {r : Int} (g : α → Env) (hi : VI T cf b₀ it env S (xs.map ex) ck) (h : compM cM fM xs = some ys) (hr : maxM ys = some r) (hst : still ck (xs.map ex) S = true) (hg : ∀ x, setT t (ex x) env = some (g x)) (hc : ∀ x b, cM x = some b → VC T cf b₀ c (g x) S b) (hf : ∀ x y, fM x = some y → V T cf b₀ e (g x) S (eI y)) :
    V T cf b₀ (.gen .max t it c e) env S (eI r) := by
  unfold V; rw [evE]; dsimp only; rw [hi]
  simp only [bnd, genV]
  rw [genF_val hst hg hc hf xs ys none (compM_parts h).2]
  exact foldG_max ys none r hr
theorem v_genTup {ey : β → D} {fM : α → Option β} {ys : List β} (g : α → Env) (hi : VI T cf b₀ it env S (xs.map ex) ck) (h : compM cM fM xs = some ys) (hst : still ck (xs.map ex) S = true) (hg : ∀ x, setT t (ex x) env = some (g x)) (hc : ∀ x b, cM x = some b → VC T cf b₀ c (g x) S b) (hf : ∀ x y, fM x = some y → V T cf b₀ e (g x) S (ey y)) :
    V T cf b₀ (.gen .tuple t it c e) env S (.tup (ys.map ey)) := by
  unfold V; rw [evE]; dsimp only; rw [hi]
  obtain ⟨h1, h2⟩ := compM_parts h
  have h3 := compG_lenL h2
  simp only [bnd, genV]
  rw [genF_val hst hg hc hf xs ys [] h2, foldG_tup _ _ (by simp; omega)]
  simp
end
end Ev


set_option maxHeartbeats 200000
set_option Elab.async false
set_option maxRecDepth 100000
/-! Rules for what is raised and caught, for told pairs (0, x) | (1, y), for != of objects. -/
namespace Ev
open PySem PySem.Spec L2
/-! ### (0, x) or (1, y) -/
def eW {α β : Type} (a : α → D) (b : β → D) : α ⊕ β → D
  | .inl x => .tup [.int 0, a x]
  | .inr y => .tup [.int 1, b y]
def tagW {α β : Type} : α ⊕ β → Int
  | .inl _ => 0
  | .inr _ => 1
def inlM {α β : Type} : α ⊕ β → Option α
  | .inl x => some x
  | .inr _ => none
def inrM {α β : Type} : α ⊕ β → Option β
  | .inl _ => none
  | .inr y => some y
/-- told == (1, s) -/
def isrM {α : Type} (t : α ⊕ Str) (s : Str) : Option Bool := match t with
  | .inl _ => none
  | .inr y => if PyData.strOk y = true ∧ PyData.strOk s = true then some (y == s) else none
instance {α β : Type} {a : α → D} {b : β → D} [PU a] [PU b] : PU (eW a b) := ⟨fun x => by
  cases x with
  | inl x => show D.pure (.tup [.int 0, a x]) = true; rw [D.pure]; exact pures_cons rfl (pures_cons (PU.p _) pures_nil)
  | inr y => show D.pure (.tup [.int 1, b y]) = true; rw [D.pure]; exact pures_cons rfl (pures_cons (PU.p _) pures_nil)⟩
section
variable {T : Tb} {cf : Nat → List D → Sto → R D} {b₀ p : Nat} {env e1 : Env} {S S1 S2 : Sto} {Z : Out → Prop} {r : Ss}
theorem v_tagW {α β : Type} {ea : α → D} {eb : β → D} {a : E} {t : α ⊕ β} (h : V T cf b₀ a env S (eW ea eb t)) : V T cf b₀ (.sub a (.int 0)) env S (.int (tagW t)) := by
  cases t with
  | inl x => exact v_subT (ds := [.int 0, ea x]) h (v_int _) rfl rfl
  | inr y => exact v_subT (ds := [.int 1, eb y]) h (v_int _) rfl rfl
theorem v_inlW {α β : Type} {ea : α → D} {eb : β → D} {a : E} {t : α ⊕ β} {x : α} (h : V T cf b₀ a env S (eW ea eb t)) (hx : inlM t = some x) : V T cf b₀ (.sub a (.int 1)) env S (ea x) := by
  cases t with
  | inl z => injection hx with hx; subst hx; exact v_subT (ds := [.int 0, ea z]) h (v_int _) rfl rfl
  | inr y => cases hx
theorem v_inrW {α β : Type} {ea : α → D} {eb : β → D} {a : E} {t : α ⊕ β} {x : β} (h : V T cf b₀ a env S (eW ea eb t)) (hx : inrM t = some x) : V T cf b₀ (.sub a (.int 1)) env S (eb x) := by
  cases t with
  | inr z => injection hx with hx; subst hx; exact v_subT (ds := [.int 1, eb z]) h (v_int _) rfl rfl
  | inl y => cases hx
theorem v_isrW {α : Type} {ea : α → D} {a b : E} {t : α ⊕ Str} {s : Str} {u : Bool} (ha : V T cf b₀ a env S (eW ea eS t)) (hb : V T cf b₀ b env S (.tup [.int 1, .str s])) (h : isrM t s = some u) : V T cf b₀ (.cmp .eq a b) env S (.bl u) := by
  cases t with
  | inl z => cases h
  | inr y =>
    have h : (if PyData.strOk y = true ∧ PyData.strOk s = true then some (y == s) else none) = some u := h
    split at h
    · rename_i hk
      injection h with h; subst h
      refine v_vcmp ha hb (by intro c fs vs e; cases e) ?_
      show (if D.dat 8 (.tup [.int 1, .str y]) = true ∧ D.dat 8 (.tup [.int 1, .str s]) = true then some (D.eqv (.tup [.int 1, .str y]) (.tup [.int 1, .str s])) else none) = _
      rw [if_pos ⟨by simp [D.dat, D.dats, hk.1], by simp [D.dat, D.dats, hk.2]⟩]
      simp [D.eqv, D.eqvs]
    · cases h
/-! ### raise, try -/
theorem z_rais {c g : Nat} {e : E} {d : D} (he : V T cf b₀ e env S d) (hx : T.exc c = some g) (hZ : Z (.err c [g] [d] env S)) : Zp Z (evSs T cf b₀ (.cons (.rais c (.cons e .nil)) r) p env S) := by
  unfold Zp
  rw [evSs]; dsimp only; rw [evS]; dsimp only; rw [hx]; dsimp only; rw [he]
  exact hZ
theorem x_call {f c : Nat} {es : Es} {ds : List D} {fs : List Nat} {vs : List D} (h : Vs T cf b₀ es env S ds) (hr : cf f ds S = .err c fs vs S) : evE T cf b₀ (.call f es) env S = .err c fs vs S := by
  rw [evE]; dsimp only; rw [h]; simp only [bnd, hr]
theorem x_set {i c : Nat} {e : E} {fs : List Nat} {vs : List D} (h : evE T cf b₀ e env S = .err c fs vs S1) : evSs T cf b₀ (.cons (.set i e) r) p env S = .err c fs vs env S1 := by
  rw [evSs]; dsimp only; rw [evS]; dsimp only; rw [h]
theorem z_tryn {b h : Ss} {c i : Nat} (hb : Zp (fun o => o = .nx e1 S1) (evSs T cf b₀ b p env S)) (hr : Zp Z (evSs T cf b₀ r p e1 S1)) : Zp Z (evSs T cf b₀ (.cons (.tryx b c i h) r) p env S) := by
  refine z_step ?_ hr
  rw [evS]; dsimp only
  rw [show evSs T cf b₀ b p env S = .nx e1 S1 from hb]
theorem z_tryx {b h : Ss} {c i : Nat} {fs : List Nat} {vs : List D} {d : D} (hb : evSs T cf b₀ b p env S = .err c fs vs e1 S1) (hc : (T.exc c).isSome = true) (hi : i < e1.length) (hv : hvS i fs vs h = some d) (hZ : Z (.rt d S1)) : Zp Z (evSs T cf b₀ (.cons (.tryx b c i h) r) p env S) := by
  unfold Zp
  rw [evSs]; dsimp only; rw [evS]; dsimp only; rw [hb]; dsimp only
  rw [if_pos ⟨hc, hc, hi⟩, if_pos rfl, hv]
  exact hZ
/-- a def's error -/
def Zx (c g : Nat) (d : D) : Out → Prop := fun o => ∃ e S, o = .err c [g] [d] e S
end
theorem fnx_ok {T : Tb} {k f np nl c g : Nat} {b : Ss} {ds : List D} {S : Sto} {d : D} {env0 : Env} (hf : T.fns f = some ⟨np, nl, b⟩) (hp : D.pures ds = true) (hl : ds.length = np) (he : ds.map some ++ List.replicate (nl - np) none = env0) (hd : d.pure = true) (h : Zp (Zx c g d) (evSs T (lv T k).1 0 b 0 env0 [])) : (lv T (k + 1)).1 f ds S = .err c [g] [d] S := by
  obtain ⟨e, S1, h⟩ := h
  have hd' : D.pures [d] = true := pures_cons hd pures_nil
  have h1 : runF T (lv T k).1 ⟨np, nl, b⟩ ds [] = .err c [g] [d] [] := by
    unfold runF
    rw [if_pos hl]
    simp only [he, List.length_nil]
    rw [h]
    simp only [hd', if_true, List.take_zero]
  simp only [lv, hf, hp, if_true, h1, hd']
end Ev


set_option maxHeartbeats 200000
set_option Elab.async false
set_option maxRecDepth 100000
/-! Models: how they are worked out. -/
namespace Ev
open PySem PySem.Spec L2

def rg (n : Nat) : List Int := (List.range n).map fun (k : Nat) => (k : Int)
theorem rngT_rg (n : Nat) : rngT 0 n = rg n := by
  unfold rngT rg
  exact List.map_congr_left fun a _ => by omega
@[simp] theorem rg_len (n : Nat) : (rg n).length = n := by simp [rg]
theorem mem_rg {n : Nat} {x : Int} : x ∈ rg n ↔ 0 ≤ x ∧ x < n := by
  simp only [rg, List.mem_map, List.mem_range]
  constructor
  · rintro ⟨k, h, rfl⟩; omega
  · rintro ⟨h1, h2⟩; exact ⟨x.toNat, by omega, by omega⟩
theorem rg_succ (n : Nat) : rg (n + 1) = rg n ++ [(n : Int)] := by simp [rg, List.range_succ]
theorem rng1M_nat {n : Nat} (h : n ≤ 1000000) : rng1M (n : Int) = some (rg n) := by
  unfold rng1M
  rw [if_pos (by unfold small; exact decide_eq_true (by omega)), Int.toNat_natCast, rngT_rg]
theorem rng1M_of {i : Int} {n : Nat} (e : i = n) (h : n ≤ 1000000) : rng1M i = some (rg n) := by rw [e]; exact rng1M_nat h
theorem getM_nat {α : Type} {xs : List α} {k : Nat} (h : k < xs.length) : getM xs (k : Int) = some xs[k] := by
  unfold getM atI ixN
  rw [if_pos (by omega), if_pos (by omega)]
  simp [h]
theorem getM_int {α : Type} {xs : List α} {i : Int} {k : Nat} (e : i = k) (h : k < xs.length) : getM xs i = some xs[k] := by rw [e]; exact getM_nat h
theorem getM_ok {α : Type} {xs : List α} {i : Int} (h0 : 0 ≤ i) (h1 : i < xs.length) : getM xs i = some (xs[i.toNat]'(by omega)) := getM_int (by omega) (by omega)
theorem setM_nat {α : Type} {xs : List α} {k : Nat} {x : α} (h : k < xs.length) : setM xs (k : Int) x = some (xs.set k x) := by
  unfold setM ixN
  rw [if_pos (by omega), if_pos (by omega)]
  simp
theorem setM_int {α : Type} {xs : List α} {i : Int} {k : Nat} {x : α} (e : i = k) (h : k < xs.length) : setM xs i x = some (xs.set k x) := by rw [e]; exact setM_nat h
theorem appM_ok {α : Type} {xs : List α} {x : α} (h : xs.length < 100000) : appM xs x = some (xs ++ [x]) := by unfold appM lim; rw [if_pos h]
theorem catM_ok {α : Type} {xs ys : List α} (h : xs.length + ys.length ≤ 100000) : catM xs ys = some (xs ++ ys) := by unfold catM lim; rw [if_pos h]
theorem popM_snoc {α : Type} (xs : List α) (x : α) : popM (xs ++ [x]) = some (x, xs) := by
  unfold popM; simp
theorem mulM_ok {x y : Int} (hx : x.natAbs < 2 ^ 200) (hy : y.natAbs < 2 ^ 200) : mulM x y = some (x * y) := by
  unfold mulM; rw [if_pos ⟨lt20000 hx, lt20000 hy⟩]
theorem fdivM_ok {x y : Int} (h : 0 < y) (hy : y.natAbs < 2 ^ 200) : fdivM x y = some (x / y) := by
  unfold fdivM; rw [if_pos ⟨h, lt8000 hy⟩]
theorem modM_ok {x y : Int} (h : 0 < y) : modM x y = some (x % y) := by unfold modM; rw [if_pos h]
theorem compG_some {α β : Type} {cM : α → Option Bool} {fM : α → Option β} (c : α → Bool) (f : α → β) : ∀ xs : List α, (∀ x ∈ xs, cM x = some (c x)) → (∀ x ∈ xs, c x = true → fM x = some (f x)) → compG cM fM xs = some ((xs.filter c).map f)
  | [], _, _ => rfl
  | x :: r, hc, hf => by
    have ih := compG_some c f r (fun y h => hc y (List.mem_cons_of_mem _ h)) (fun y h => hf y (List.mem_cons_of_mem _ h))
    rw [compG, hc x List.mem_cons_self]
    cases h : c x with
    | true => simp only [hf x List.mem_cons_self h, ih, Option.map, List.filter_cons, h, if_true, List.map_cons]
    | false => simp only [ih, List.filter_cons, h]; rfl
theorem compM_some {α β : Type} {cM : α → Option Bool} {fM : α → Option β} {xs : List α} (c : α → Bool) (f : α → β) (hl : xs.length ≤ 100000) (hc : ∀ x ∈ xs, cM x = some (c x)) (hf : ∀ x ∈ xs, c x = true → fM x = some (f x)) : compM cM fM xs = some ((xs.filter c).map f) := by
  unfold compM lim; rw [if_pos hl]; exact compG_some c f xs hc hf
theorem compM_map {α β : Type} {fM : α → Option β} {xs : List α} (f : α → β) (hl : xs.length ≤ 100000) (hf : ∀ x ∈ xs, fM x = some (f x)) : compM (fun _ => some true) fM xs = some (xs.map f) := by
  rw [compM_some (fun _ => true) f hl (fun _ _ => rfl) fun x h _ => hf x h, List.filter_eq_self.2 (fun _ _ => rfl)]
theorem compM_filter {α : Type} {cM : α → Option Bool} {xs : List α} (c : α → Bool) (hl : xs.length ≤ 100000) (hc : ∀ x ∈ xs, cM x = some (c x)) : compM cM (fun x => some x) xs = some (xs.filter c) := by
  have h := compM_some (fM := fun x => some x) c id hl hc fun x _ _ => rfl
  rw [h, List.map_id]
theorem forS_inv {σ α : Type} {step : σ → α → Option σ} (I : σ → Prop) : ∀ (xs : List α) (s : σ), (∀ s x, x ∈ xs → I s → ∃ s', step s x = some s' ∧ I s') → I s → ∃ s', forS step xs s = some s' ∧ I s'
  | [], s, _, h => ⟨s, rfl, h⟩
  | x :: r, s, hs, h => by
    obtain ⟨s1, h1, h2⟩ := hs s x List.mem_cons_self h
    obtain ⟨s2, h3, h4⟩ := forS_inv I r s1 (fun s x hx => hs s x (List.mem_cons_of_mem _ hx)) h2
    exact ⟨s2, by rw [forS, h1]; exact h3, h4⟩
theorem forS_app {σ α : Type} {step : σ → α → Option σ} : ∀ (xs ys : List α) (s : σ), forS step (xs ++ ys) s = bd (forS step xs s) (forS step ys)
  | [], ys, s => rfl
  | x :: r, ys, s => by
    rw [List.cons_append, forS, forS]
    cases step s x with
    | none => rfl
    | some s1 => exact forS_app r ys s1
/-- a loop over range(n), told by its count -/
theorem forS_rg {σ : Type} {step : σ → Int → Option σ} (I : Nat → σ → Prop) (n : Nat) (s : σ) (hs : ∀ k s, k < n → I k s → ∃ s', step s (k : Int) = some s' ∧ I (k + 1) s') (h : I 0 s) : ∃ s', forS step (rg n) s = some s' ∧ I n s' := by
  induction n with
  | zero => exact ⟨s, rfl, h⟩
  | succ n ih =>
    obtain ⟨s1, h1, h2⟩ := ih fun k s hk => hs k s (by omega)
    obtain ⟨s2, h3, h4⟩ := hs n s1 (by omega) h2
    refine ⟨s2, ?_, h4⟩
    rw [rg_succ, forS_app, h1, bd_some, forS, h3]; rfl
/-- a loop over a list, told by what is behind -/
theorem forS_list {σ α : Type} {step : σ → α → Option σ} (I : List α → σ → Prop) (xs : List α) (s : σ) (hs : ∀ done x s, (∃ r, xs = done ++ x :: r) → I done s → ∃ s', step s x = some s' ∧ I (done ++ [x]) s') (h : I [] s) : ∃ s', forS step xs s = some s' ∧ I xs s' := by
  suffices H : ∀ (r done : List α) (s : σ), xs = done ++ r → I done s → ∃ s', forS step r s = some s' ∧ I xs s' from H xs [] s rfl h
  intro r
  induction r with
  | nil => intro done s e h; rw [List.append_nil] at e; subst e; exact ⟨s, rfl, h⟩
  | cons x r ih =>
    intro done s e h
    obtain ⟨s1, h1, h2⟩ := hs done x s ⟨r, e⟩ h
    obtain ⟨s2, h3, h4⟩ := ih (done ++ [x]) s1 (by rw [e]; simp) h2
    exact ⟨s2, by rw [forS, h1]; exact h3, h4⟩
/-- a loop whose turns all go on -/
theorem forR_all {σ ρ α : Type} {step : σ → α → Option (Fl σ ρ)} (I : σ → Prop) : ∀ (xs : List α) (s : σ), (∀ s x, x ∈ xs → I s → ∃ s', step s x = some (.nx s') ∧ I s') → I s → ∃ s', forR step xs s = some (.nx s') ∧ I s'
  | [], s, _, h => ⟨s, rfl, h⟩
  | x :: r, s, hs, h => by
    obtain ⟨s1, h1, h2⟩ := hs s x List.mem_cons_self h
    obtain ⟨s2, h3, h4⟩ := forR_all I r s1 (fun s x hx => hs s x (List.mem_cons_of_mem _ hx)) h2
    exact ⟨s2, by rw [forR, h1]; exact h3, h4⟩
/-- .. that keeps nothing -/
theorem forR_unit {ρ α : Type} {step : Unit → α → Option (Fl Unit ρ)} {xs : List α} (h : ∀ x ∈ xs, step () x = some (.nx ())) : forR step xs () = some (.nx ()) := by
  obtain ⟨_, h1, _⟩ := forR_all (fun _ => True) xs () (fun _ x hx _ => ⟨(), h x hx, trivial⟩) trivial
  exact h1
/-- the first turn that returns -/
theorem forR_find {ρ α : Type} {step : Unit → α → Option (Fl Unit ρ)} (v : ρ) (c : α → Bool) : ∀ {xs : List α}, (∀ x ∈ xs, step () x = some (if c x = true then .rt v else .nx ())) → forR step xs () = some (if xs.any c = true then .rt v else .nx ())
  | [], _ => rfl
  | x :: r, h => by
    have ih := forR_find v c (xs := r) fun y hy => h y (List.mem_cons_of_mem _ hy)
    rw [forR, h x List.mem_cons_self, List.any_cons]
    cases hc : c x with
    | true => rfl
    | false => simp only [Bool.false_or]; exact ih
theorem forS_unit {α : Type} {step : Unit → α → Option Unit} {xs : List α} (h : ∀ x ∈ xs, step () x = some ()) : forS step xs () = some () := by
  obtain ⟨_, h1, _⟩ := forS_inv (fun _ => True) xs () (fun _ x hx _ => ⟨(), h x hx, trivial⟩) trivial
  exact h1
theorem whlM_nx {σ ρ : Type} {c : σ → Option Bool} {step : σ → Option (Fl σ ρ)} {n : Nat} {s s' : σ} (h : c s = some true) (h' : step s = some (.nx s')) : whlM c step (n + 1) s = whlM c step n s' := by rw [whlM, h]; simp only [h']
theorem maxI_cons {x : Int} {r : List Int} : maxI (x :: r) = r.foldl (fun a b => if b > a then b else a) x := rfl
theorem fmaxW (r : List Int) : ∀ x, (∀ y ∈ x :: r, y ≤ r.foldl (fun a b => if b > a then b else a) x) ∧ r.foldl (fun a b => if b > a then b else a) x ∈ x :: r := by
  induction r with
  | nil => intro x; simp
  | cons y t ih =>
    intro x
    rw [List.foldl_cons]
    obtain ⟨h1, h2⟩ := ih (if y > x then y else x)
    have h0 := h1 _ List.mem_cons_self
    refine ⟨fun z hz => ?_, ?_⟩
    · rcases List.mem_cons.1 hz with hz | hz
      · subst hz; refine Int.le_trans ?_ h0; split <;> omega
      · rcases List.mem_cons.1 hz with hz | hz
        · subst hz; refine Int.le_trans ?_ h0; split <;> omega
        · exact h1 z (List.mem_cons_of_mem _ hz)
    · rcases List.mem_cons.1 h2 with h2 | h2
      · rw [h2]; split <;> simp
      · exact List.mem_cons_of_mem _ (List.mem_cons_of_mem _ h2)
theorem maxI_ge {xs : List Int} {y : Int} (h : y ∈ xs) : y ≤ maxI xs := by
  cases xs with
  | nil => cases h
  | cons x r => exact (fmaxW r x).1 y h
theorem maxI_mem {xs : List Int} (h : xs ≠ []) : maxI xs ∈ xs := by
  cases xs with
  | nil => exact absurd rfl h
  | cons x r => exact (fmaxW r x).2
theorem fminW (r : List Int) : ∀ x, (∀ y ∈ x :: r, r.foldl (fun a b => if b < a then b else a) x ≤ y) ∧ r.foldl (fun a b => if b < a then b else a) x ∈ x :: r := by
  induction r with
  | nil => intro x; simp
  | cons y t ih =>
    intro x
    rw [List.foldl_cons]
    obtain ⟨h1, h2⟩ := ih (if y < x then y else x)
    have h0 := h1 _ List.mem_cons_self
    refine ⟨fun z hz => ?_, ?_⟩
    · rcases List.mem_cons.1 hz with hz | hz
      · subst hz; refine Int.le_trans h0 ?_; split <;> omega
      · rcases List.mem_cons.1 hz with hz | hz
        · subst hz; refine Int.le_trans h0 ?_; split <;> omega
        · exact h1 z (List.mem_cons_of_mem _ hz)
    · rcases List.mem_cons.1 h2 with h2 | h2
      · rw [h2]; split <;> simp
      · exact List.mem_cons_of_mem _ (List.mem_cons_of_mem _ h2)
theorem minI_le {xs : List Int} {y : Int} (h : y ∈ xs) : minI xs ≤ y := by
  cases xs with
  | nil => cases h
  | cons x r => exact (fminW r x).1 y h
theorem minI_mem {xs : List Int} (h : xs ≠ []) : minI xs ∈ xs := by
  cases xs with
  | nil => exact absurd rfl h
  | cons x r => exact (fminW r x).2
theorem maxM_ok {xs : List Int} (h : xs ≠ []) : maxM xs = some (maxI xs) := by unfold maxM; rw [if_pos h]
theorem minM_ok {xs : List Int} (h : xs ≠ []) : minM xs = some (minI xs) := by unfold minM; rw [if_pos h]
theorem maxI_eq {xs : List Int} {m : Int} (h : m ∈ xs) (hm : ∀ y ∈ xs, y ≤ m) : maxI xs = m := by
  have h1 := hm _ (maxI_mem (xs := xs) (fun e => by rw [e] at h; cases h))
  have h2 := maxI_ge h
  omega
/-! ascending -/
theorem insW_perm (x : Int) : ∀ xs : List Int, (insI x xs).Perm (x :: xs)
  | [] => List.Perm.refl _
  | y :: r => by
    rw [insI]
    split
    · exact List.Perm.refl _
    · exact ((insW_perm x r).cons y).trans (List.Perm.swap x y r)
theorem insI_sorted (x : Int) : ∀ xs : List Int, xs.Pairwise (· ≤ ·) → (insI x xs).Pairwise (· ≤ ·)
  | [], _ => by simp [insI]
  | y :: r, h => by
    rw [insI]
    rw [List.pairwise_cons] at h
    split
    · rename_i hxy
      rw [List.pairwise_cons, List.pairwise_cons]
      refine ⟨fun z hz => ?_, h⟩
      rcases List.mem_cons.1 hz with hz | hz
      · rw [hz]; exact hxy
      · exact Int.le_trans hxy (h.1 z hz)
    · rename_i hxy
      rw [List.pairwise_cons]
      refine ⟨fun z hz => ?_, insI_sorted x r h.2⟩
      rcases List.mem_cons.1 ((insW_perm x r).mem_iff.1 hz) with hz | hz
      · omega
      · exact h.1 z hz
theorem srtW_perm (xs : List Int) : (srtI xs).Perm xs := by
  induction xs with
  | nil => exact List.Perm.refl _
  | cons x r ih => exact (insW_perm x (srtI r)).trans (ih.cons x)
theorem srtI_sorted (xs : List Int) : (srtI xs).Pairwise (· ≤ ·) := by
  induction xs with
  | nil => exact List.Pairwise.nil
  | cons x r ih => exact insI_sorted x _ ih
theorem insI_head {x : Int} {r : List Int} (h : ∀ y ∈ r, x ≤ y) : insI x r = x :: r := by
  cases r with
  | nil => rfl
  | cons y t => rw [insI, if_pos (h y List.mem_cons_self)]
theorem srtI_of_sorted : ∀ {xs : List Int}, xs.Pairwise (· ≤ ·) → srtI xs = xs
  | [], _ => rfl
  | x :: r, h => by
    rw [List.pairwise_cons] at h
    show insI x (srtI r) = x :: r
    rw [srtI_of_sorted h.2, insI_head h.1]
theorem sorted_perm_eq : ∀ {xs ys : List Int}, xs.Pairwise (· ≤ ·) → ys.Pairwise (· ≤ ·) → xs.Perm ys → xs = ys
  | [], ys, _, _, h => by rw [List.nil_perm] at h; exact h.symm
  | x :: r, [], _, _, h => by rw [List.perm_nil] at h; exact h
  | x :: r, y :: t, hx, hy, h => by
    rw [List.pairwise_cons] at hx hy
    have e : x = y := by
      have h1 : x ∈ y :: t := h.mem_iff.1 List.mem_cons_self
      have h2 : y ∈ x :: r := h.mem_iff.2 List.mem_cons_self
      rcases List.mem_cons.1 h1 with h1 | h1
      · exact h1
      · rcases List.mem_cons.1 h2 with h2 | h2
        · exact h2.symm
        · have a := hx.1 y h2
          have b := hy.1 x h1
          omega
    subst e
    rw [sorted_perm_eq hx.2 hy.2 (List.Perm.cons_inv h)]
theorem srtI_perm_eq {xs ys : List Int} (h : xs.Perm ys) (hy : ys.Pairwise (· ≤ ·)) : srtI xs = ys := sorted_perm_eq (srtI_sorted xs) hy ((srtW_perm xs).trans h)
end Ev
namespace Ev
theorem getM_D {α : Type} {xs : List α} {k : Nat} (d : α) (h : k < xs.length) : getM xs (k : Int) = some (xs.getD k d) := by
  rw [getM_nat h]; simp [List.getD, h]
theorem getM_D' {α : Type} {xs : List α} {i : Int} (d : α) (h0 : 0 ≤ i) (h : i < xs.length) : getM xs i = some (xs.getD i.toNat d) := by
  have := getM_D (k := i.toNat) d (xs := xs) (by omega)
  rwa [Int.toNat_of_nonneg h0] at this
end Ev
namespace Ev
open PySem PySem.Spec L2
theorem cut_to {α : Type} {xs : List α} {k : Int} (h0 : 0 ≤ k) (h1 : k ≤ xs.length) : cutT xs none (some k) = xs.take k.toNat := by
  unfold cutT HT.sIx
  simp only [if_neg (show ¬ k < 0 by omega)]
  rw [Nat.min_eq_left (by omega)]; simp
theorem cut_from {α : Type} {xs : List α} {k : Int} (h0 : 0 ≤ k) (h1 : k ≤ xs.length) : cutT xs (some k) none = xs.drop k.toNat := by
  unfold cutT HT.sIx
  simp only [if_neg (show ¬ k < 0 by omega)]
  rw [Nat.min_eq_left (by omega)]
  exact List.take_of_length_le (by simp)
end Ev
namespace Ev
open PySem PySem.Spec L2
theorem cut_len_le {α : Type} (xs : List α) (k : Nat) : (cutT xs none (some (k : Int))).length ≤ k := by
  unfold cutT HT.sIx
  simp only [if_neg (show ¬ (k : Int) < 0 by omega)]
  simp; omega
theorem cut_len_le' {α : Type} (xs : List α) : (cutT xs none (some 63)).length ≤ 63 := cut_len_le xs 63
theorem ediv_ge {a b : Int} (hb : 0 < b) (h : b ≤ a) : 0 < a / b := by
  have := (Int.le_ediv_iff_mul_le hb).2 (show 1 * b ≤ a by omega)
  omega
end Ev


set_option maxHeartbeats 200000
set_option Elab.async false
set_option maxRecDepth 100000
set_option maxHeartbeats 0
/-! The texts of law k40, printed by gentext.py. -/
namespace Tk40
open PySem PySem.Spec PyProof.Rows L2 Ev
def top (i : Nat) : Stmt := PySem.Challenge.pw_fourread_k40_whole_two_tables_by_product.main.body.getD i (.Pass ⟨0, 0, 0, 0⟩)
def x0 : Ss := .cons (.set 1 (.call 9 (.cons (.loc 0) (.cons (.int 50) (.nil))))) (.cons (.set 2 (.sub (.tup (.cons (.int 1) (.cons (.int 2) (.cons (.int 3) (.cons (.int 4) (.cons (.int 2) (.cons (.int 3) (.cons (.int 4) (.cons (.int 3) (.nil)))))))))) (.bin .mod (.sub (.loc 1) (.int 0)) (.int 8)))) (.cons (.set 3 (.bin .shl (.int 1) (.loc 2))) (.cons (.set 4 (.call 10 (.cons (.loc 3) (.nil)))) (.cons (.set 5 (.call 11 (.cons (.loc 1) (.cons (.int 1) (.cons (.loc 3) (.cons (.loc 4) (.nil))))))) (.cons (.set 6 (.call 11 (.cons (.loc 1) (.cons (.int 10) (.cons (.loc 3) (.cons (.loc 4) (.nil))))))) (.cons (.ifs (.cmp .eq (.bin .mod (.sub (.loc 1) (.int 20)) (.int 6)) (.int 0)) (.cons (.set 6 (.frz (.ofs (.loc 5)))) (.nil)) (.nil)) (.cons (.set 7 (.mk 0 (.cons (.loc 2) (.cons (.frz (.ofs (.loc 5))) (.nil))))) (.cons (.set 8 (.mk 0 (.cons (.loc 2) (.cons (.bi .tuple (.cons (.loc 6) (.nil))) (.nil))))) (.cons (.set 9 (.bin .add (.loc 7) (.loc 8))) (.cons (.setc 10 (.nm 23) (.rng1 (.loc 3)) (.none) (.bin .bxor (.sub (.loc 5) (.loc 23)) (.sub (.loc 6) (.loc 23)))) (.cons (.for (.tp [22, 16]) (.val (.frz (.disp (.cons (.tup (.cons (.loc 7) (.cons (.loc 5) (.nil)))) (.cons (.tup (.cons (.loc 8) (.cons (.loc 6) (.nil)))) (.cons (.tup (.cons (.loc 9) (.cons (.loc 10) (.nil)))) (.nil))))))) (.cons (.ifs (.not (.call 12 (.cons (.loc 22) (.cons (.loc 2) (.cons (.loc 16) (.nil)))))) (.cons (.ret (.bl false)) (.nil)) (.nil)) (.nil))) (.cons (.setc 11 (.nm 18) (.rng1 (.loc 3)) (.none) (.call 13 (.cons (.loc 5) (.cons (.loc 18) (.cons (.loc 4) (.nil)))))) (.cons (.setc 12 (.nm 18) (.rng1 (.loc 3)) (.none) (.call 13 (.cons (.loc 6) (.cons (.loc 18) (.cons (.loc 4) (.nil)))))) (.cons (.ifs (.not (.call 14 (.cons (.loc 9) (.cons (.loc 7) (.cons (.loc 8) (.cons (.loc 11) (.cons (.loc 12) (.cons (.loc 10) (.nil))))))))) (.cons (.ret (.bl false)) (.nil)) (.nil)) (.cons (.for (.nm 13) (.val (.frz (.disp (.cons (.bin .mod (.sub (.loc 1) (.int 21)) (.loc 3)) (.cons (.bin .mod (.sub (.loc 1) (.int 22)) (.loc 3)) (.cons (.int 0) (.nil))))))) (.cons (.ifs (.not (.call 15 (.cons (.loc 7) (.cons (.loc 8) (.cons (.loc 11) (.cons (.loc 12) (.cons (.loc 13) (.cons (.loc 4) (.nil))))))))) (.cons (.ret (.bl false)) (.nil)) (.nil)) (.nil))) (.cons (.set 14 (.bin .mod (.sub (.loc 1) (.int 23)) (.loc 3))) (.cons (.new 15 (.ofs (.loc 5))) (.cons (.sets (.loc 15) (.loc 14) (.bin .sub (.int 1) (.sub (.loc 5) (.loc 14)))) (.cons (.shut 15) (.cons (.setc 16 (.nm 18) (.rng1 (.loc 3)) (.none) (.bin .sub (.sub (.loc 11) (.loc 18)) (.bin .mul (.int 2) (.bin .sub (.int 1) (.bin .mul (.int 2) (.bin .bxor (.sub (.loc 5) (.loc 14)) (.sub (.loc 4) (.bin .band (.loc 18) (.loc 14))))))))) (.cons (.ifs (.not (.call 16 (.cons (.call 17 (.cons (.mk 0 (.cons (.loc 2) (.cons (.loc 15) (.nil)))) (.nil))) (.cons (.loc 16) (.nil))))) (.cons (.ret (.bl false)) (.nil)) (.nil)) (.cons (.new 17 (.ofs (.loc 11))) (.cons (.set 18 (.bin .mod (.sub (.loc 1) (.int 24)) (.loc 3))) (.cons (.set 19 (.bin .mod (.sub (.loc 1) (.int 25)) (.loc 3))) (.cons (.sets (.loc 17) (.loc 18) (.sub (.loc 11) (.loc 19))) (.cons (.sets (.loc 17) (.loc 19) (.sub (.loc 11) (.loc 18))) (.cons (.shut 17) (.cons (.setc 20 (.nm 24) (.rng1 (.loc 3)) (.none) (.bin .mul (.sub (.loc 11) (.loc 24)) (.bin .sub (.int 1) (.bin .mul (.int 2) (.bi .int (.cons (.cmp .eq (.loc 24) (.loc 18)) (.nil))))))) (.cons (.for (.nm 21) (.val (.frz (.disp (.cons (.loc 11) (.cons (.loc 17) (.cons (.loc 20) (.cons (.call 18 (.cons (.slc (.loc 1) (.some (.int 26)) (.none)) (.cons (.loc 2) (.nil)))) (.cons (.frz (.comp (.nm 24) (.rng1 (.loc 3)) (.none) (.sub (.loc 11) (.loc 18)))) (.nil))))))))) (.cons (.ifs (.not (.call 19 (.cons (.loc 2) (.cons (.loc 21) (.cons (.loc 4) (.nil)))))) (.cons (.ret (.bl false)) (.nil)) (.nil)) (.nil))) (.cons (.ret (.bl true)) (.nil)))))))))))))))))))))))))))))))
def x1 : Ss := .cons (.ifs (.not (.call 20 (.cons (.loc 1) (.cons (.int 1) (.cons (.kint "LARGEST" 10) (.nil)))))) (.cons (.rais 0 .nil) (.nil)) (.nil)) (.cons (.ifs (.or (.not (.ist (.loc 2) [.list, .tuple])) (.or (.cmp .ne (.bi .len (.cons (.loc 2) (.nil))) (.bin .shl (.int 1) (.loc 1))) (.not (.gen .all (.nm 3) (.val (.loc 2)) (.none) (.call 21 (.cons (.loc 3) (.nil))))))) (.cons (.rais 0 .nil) (.nil)) (.nil)) (.cons (.setf (.loc 0) 7 (.loc 1)) (.cons (.setf (.loc 0) 8 (.bi .tuple (.cons (.loc 2) (.nil)))) (.nil))))
def x2 : Ss := .cons (.ret (.and (.ist (.loc 1) [.cls 0]) (.and (.cmp .eq (.fld (.loc 0) 7) (.fld (.loc 1) 7)) (.cmp .eq (.fld (.loc 0) 8) (.fld (.loc 1) 8))))) (.nil)
def x3 : Ss := .cons (.ifs (.or (.not (.ist (.loc 1) [.cls 0])) (.cmp .ne (.fld (.loc 1) 7) (.fld (.loc 0) 7))) (.cons (.rais 0 .nil) (.nil)) (.nil)) (.cons (.ret (.mk 0 (.cons (.fld (.loc 0) 7) (.cons (.frz (.comp (.tp [2, 3]) (.zip (.fld (.loc 0) 8) (.fld (.loc 1) 8)) (.none) (.bin .bxor (.loc 2) (.loc 3)))) (.nil))))) (.nil))
def x4 : Ss := .cons (.ifs (.not (.call 22 (.cons (.loc 1) (.nil)))) (.cons (.rais 0 .nil) (.nil)) (.nil)) (.cons (.ifs (.or (.not (.call 22 (.cons (.loc 2) (.nil)))) (.cmp .eq (.loc 2) (.int 0))) (.cons (.rais 0 .nil) (.nil)) (.nil)) (.cons (.set 3 (.bi .gcd (.cons (.loc 1) (.cons (.loc 2) (.nil))))) (.cons (.ifs (.cmp .lt (.loc 2) (.int 0)) (.cons (.set 3 (.neg (.loc 3))) (.nil)) (.nil)) (.cons (.setf (.loc 0) 9 (.bin .fdiv (.loc 1) (.loc 3))) (.cons (.setf (.loc 0) 10 (.bin .fdiv (.loc 2) (.loc 3))) (.nil))))))
def x5 : Ss := .cons (.ret (.and (.ist (.loc 1) [.cls 1]) (.and (.cmp .eq (.fld (.loc 0) 9) (.fld (.loc 1) 9)) (.cmp .eq (.fld (.loc 0) 10) (.fld (.loc 1) 10))))) (.nil)
def x6 : Ss := .cons (.ret (.mk 1 (.cons (.bin .add (.bin .mul (.fld (.loc 0) 9) (.fld (.loc 1) 10)) (.bin .mul (.fld (.loc 1) 9) (.fld (.loc 0) 10))) (.cons (.bin .mul (.fld (.loc 0) 10) (.fld (.loc 1) 10)) (.nil))))) (.nil)
def x7 : Ss := .cons (.ret (.mk 1 (.cons (.bin .sub (.bin .mul (.fld (.loc 0) 9) (.fld (.loc 1) 10)) (.bin .mul (.fld (.loc 1) 9) (.fld (.loc 0) 10))) (.cons (.bin .mul (.fld (.loc 0) 10) (.fld (.loc 1) 10)) (.nil))))) (.nil)
def x8 : Ss := .cons (.ret (.mk 1 (.cons (.bin .mul (.fld (.loc 0) 9) (.fld (.loc 1) 9)) (.cons (.bin .mul (.fld (.loc 0) 10) (.fld (.loc 1) 10)) (.nil))))) (.nil)
def x9 : Ss := .cons (.new 2 (.disp (.nil))) (.cons (.set 3 (.int 11)) (.cons (.for (.nm 4) (.val (.slc (.loc 0) (.none) (.some (.int 63)))) (.cons (.set 6 (.bi .abs (.cons (.bi .int (.cons (.loc 4) (.nil))) (.nil)))) (.cons (.set 3 (.bin .mod (.bin .add (.bi .int (.cons (.bin .add (.bin .mul (.loc 3) (.int 48271)) (.int 7)) (.nil))) (.bin .mod (.bi .int (.cons (.loc 4) (.nil))) (.int 2147483647))) (.int 2147483647))) (.cons (.ifs (.cmp .lt (.loc 6) (.int 1000000000000000000)) (.cons (.exp (.app (.loc 2) (.call 23 (.cons (.loc 3) (.nil))))) (.nil)) (.cons (.for (.nm 5) (.rng1 (.int 60)) (.cons (.ifs (.or (.cmp .eq (.loc 6) (.int 0)) (.cmp .ge (.bi .len (.cons (.loc 2) (.nil))) (.loc 1))) (.cons (.brk) (.nil)) (.nil)) (.cons (.exp (.app (.loc 2) (.bin .mod (.loc 6) (.int 720720)))) (.cons (.set 6 (.bin .fdiv (.loc 6) (.int 720720))) (.nil))))) (.nil))) (.nil))))) (.cons (.for (.nm 5) (.rng1 (.loc 1)) (.cons (.set 3 (.bin .mod (.bi .int (.cons (.bin .add (.bin .add (.bin .mul (.loc 3) (.int 48271)) (.int 12345)) (.loc 5)) (.nil))) (.int 2147483647))) (.cons (.exp (.app (.loc 2) (.call 23 (.cons (.loc 3) (.nil))))) (.nil)))) (.cons (.shut 2) (.cons (.ret (.loc 2)) (.nil))))))
def x10 : Ss := .cons (.set 1 (.frz (.disp (.cons (.int 0) (.nil))))) (.cons (.for (.nm 2) (.rng1 (.int 6)) (.cons (.ifs (.cmp .lt (.bi .len (.cons (.loc 1) (.nil))) (.loc 0)) (.cons (.set 1 (.bin .add (.loc 1) (.frz (.comp (.nm 3) (.val (.loc 1)) (.none) (.bin .sub (.int 1) (.loc 3)))))) (.nil)) (.nil)) (.nil))) (.cons (.ret (.loc 1)) (.nil)))
def x11 : Ss := .cons (.set 4 (.bin .mod (.sub (.loc 0) (.loc 1)) (.int 6))) (.cons (.set 5 (.bin .mod (.sub (.loc 0) (.bin .add (.loc 1) (.int 1))) (.loc 2))) (.cons (.set 6 (.slc (.frz (.disp (.cons (.bin .mod (.sub (.loc 0) (.bin .add (.loc 1) (.int 2))) (.loc 2)) (.cons (.bin .mod (.sub (.loc 0) (.bin .add (.loc 1) (.int 3))) (.loc 2)) (.cons (.bin .mod (.sub (.loc 0) (.bin .add (.loc 1) (.int 4))) (.loc 2)) (.nil)))))) (.none) (.some (.bin .add (.int 1) (.bin .mod (.sub (.loc 0) (.bin .add (.loc 1) (.int 5))) (.int 3)))))) (.cons (.ifs (.cmp .eq (.loc 4) (.int 0)) (.cons (.ret (.frz (.comp (.nm 7) (.rng1 (.loc 2)) (.none) (.sub (.loc 3) (.bin .band (.loc 7) (.loc 5)))))) (.nil)) (.nil)) (.cons (.ifs (.cmp .eq (.loc 4) (.int 1)) (.cons (.ret (.frz (.comp (.nm 7) (.rng1 (.loc 2)) (.none) (.bin .bxor (.sub (.loc 3) (.bin .band (.loc 7) (.loc 5))) (.bi .int (.cons (.cmp .inn (.loc 7) (.loc 6)) (.nil))))))) (.nil)) (.nil)) (.cons (.ifs (.cmp .eq (.loc 4) (.int 2)) (.cons (.ret (.frz (.comp (.nm 7) (.rng1 (.loc 2)) (.none) (.bin .mod (.loc 5) (.int 2))))) (.nil)) (.nil)) (.cons (.ifs (.cmp .eq (.loc 4) (.int 3)) (.cons (.ret (.frz (.comp (.nm 7) (.rng1 (.loc 2)) (.none) (.bi .int (.cons (.cmp .inn (.loc 7) (.loc 6)) (.nil)))))) (.nil)) (.nil)) (.cons (.ret (.frz (.comp (.nm 7) (.rng1 (.loc 2)) (.none) (.bin .mod (.bin .shr (.sub (.loc 0) (.bin .add (.bin .add (.loc 1) (.int 6)) (.bin .fdiv (.loc 7) (.int 16)))) (.bin .mod (.loc 7) (.int 16))) (.int 2))))) (.nil))))))))
def x12 : Ss := .cons (.ret (.and (.ist (.loc 0) [.cls 0]) (.and (.call 24 (.cons (.fld (.loc 0) 7) (.nil))) (.and (.cmp .eq (.fld (.loc 0) 7) (.loc 1)) (.call 16 (.cons (.fld (.loc 0) 8) (.cons (.loc 2) (.nil)))))))) (.nil)
def x13 : Ss := .cons (.ret (.bin .sub (.bi .len (.cons (.loc 0) (.nil))) (.bin .mul (.int 2) (.bi .sum (.cons (.frz (.comp (.nm 3) (.rng1 (.bi .len (.cons (.loc 0) (.nil)))) (.none) (.bin .bxor (.sub (.loc 0) (.loc 3)) (.sub (.loc 2) (.bin .band (.loc 3) (.loc 1)))))) (.nil)))))) (.nil)
def x14 : Ss := .cons (.set 6 (.fld (.loc 0) 7)) (.cons (.set 7 (.bi .len (.cons (.loc 5) (.nil)))) (.cons (.set 8 (.call 25 (.cons (.loc 3) (.cons (.loc 4) (.nil))))) (.cons (.setc 9 (.nm 14) (.val (.loc 8)) (.none) (.bin .fdiv (.loc 14) (.loc 7))) (.cons (.ifs (.or (.cmp .ne (.frz (.comp (.nm 14) (.val (.loc 9)) (.none) (.bin .mul (.loc 14) (.loc 7)))) (.loc 8)) (.not (.call 16 (.cons (.call 17 (.cons (.loc 0) (.nil))) (.cons (.loc 9) (.nil)))))) (.cons (.ret (.bl false)) (.nil)) (.nil)) (.cons (.set 10 (.call 26 (.cons (.loc 0) (.nil)))) (.cons (.ifs (.or (.not (.call 24 (.cons (.loc 10) (.nil)))) (.cmp .ne (.bin .sub (.loc 7) (.bin .mul (.int 2) (.loc 10))) (.bi .max (.cons (.loc 9) (.nil))))) (.cons (.ret (.bl false)) (.nil)) (.nil)) (.cons (.setc 11 (.nm 15) (.rng1 (.loc 7)) (.some (.cmp .eq (.sub (.loc 9) (.loc 15)) (.bi .max (.cons (.loc 9) (.nil))))) (.call 27 (.cons (.loc 15) (.cons (.loc 6) (.nil))))) (.cons (.ifs (.not (.call 28 (.cons (.call 29 (.cons (.loc 0) (.nil))) (.cons (.loc 11) (.nil))))) (.cons (.ret (.bl false)) (.nil)) (.nil)) (.cons (.set 12 (.call 30 (.cons (.loc 6) (.cons (.frz (.ofs (.loc 9))) (.nil))))) (.cons (.ifs (.or (.cmp .ne (.sub (.loc 12) (.int 0)) (.int 0)) (.or (.not (.call 12 (.cons (.sub (.loc 12) (.int 1)) (.cons (.loc 6) (.cons (.loc 5) (.nil)))))) (.cmp .ne (.sub (.loc 12) (.int 1)) (.loc 0)))) (.cons (.ret (.bl false)) (.nil)) (.nil)) (.cons (.set 13 (.cmp .eq (.loc 1) (.loc 2))) (.cons (.ifs (.or (.not (.ist (.loc 13) [.bool])) (.cmp .ne (.loc 13) (.cmp .eq (.loc 3) (.loc 4)))) (.cons (.ret (.bl false)) (.nil)) (.nil)) (.cons (.ret (.cmp .eq (.cmp .eq (.call 17 (.cons (.loc 1) (.nil))) (.call 17 (.cons (.loc 2) (.nil)))) (.loc 13))) (.nil))))))))))))))
def x15 : Ss := .cons (.set 6 (.bi .len (.cons (.loc 2) (.nil)))) (.cons (.set 7 (.fld (.loc 0) 7)) (.cons (.set 8 (.call 27 (.cons (.loc 4) (.cons (.loc 7) (.nil))))) (.cons (.set 9 (.bi .sum (.cons (.frz (.comp (.nm 12) (.rng1 (.loc 6)) (.none) (.bin .mul (.sub (.loc 2) (.loc 12)) (.sub (.loc 3) (.bin .bxor (.loc 12) (.loc 4)))))) (.nil)))) (.cons (.set 10 (.call 31 (.cons (.loc 0) (.cons (.bin .add (.call 32 (.cons (.loc 8) (.nil))) (.loc 1)) (.nil))))) (.cons (.ifs (.or (.not (.call 24 (.cons (.loc 10) (.nil)))) (.cmp .ne (.bin .mul (.bin .mul (.int 2) (.loc 6)) (.loc 10)) (.bin .sub (.bin .mul (.loc 6) (.loc 6)) (.loc 9)))) (.cons (.ret (.bl false)) (.nil)) (.nil)) (.cons (.set 9 (.bi .sum (.cons (.frz (.comp (.nm 12) (.rng1 (.loc 6)) (.none) (.bin .mul (.bin .mul (.sub (.loc 2) (.loc 12)) (.sub (.loc 3) (.loc 12))) (.bin .sub (.int 1) (.bin .mul (.int 2) (.sub (.loc 5) (.bin .band (.loc 12) (.loc 4)))))))) (.nil)))) (.cons (.set 10 (.call 31 (.cons (.call 33 (.cons (.loc 1) (.cons (.loc 8) (.nil)))) (.cons (.loc 0) (.nil))))) (.cons (.ifs (.or (.not (.call 24 (.cons (.loc 10) (.nil)))) (.cmp .ne (.bin .mul (.bin .mul (.int 2) (.loc 6)) (.loc 10)) (.bin .sub (.bin .mul (.loc 6) (.loc 6)) (.loc 9)))) (.cons (.ret (.bl false)) (.nil)) (.nil)) (.cons (.set 10 (.call 31 (.cons (.loc 0) (.cons (.call 33 (.cons (.loc 0) (.cons (.loc 8) (.nil)))) (.nil))))) (.cons (.set 9 (.bi .sum (.cons (.frz (.comp (.nm 12) (.rng1 (.loc 6)) (.none) (.bin .mul (.bin .mul (.sub (.loc 2) (.loc 12)) (.sub (.loc 2) (.loc 12))) (.bin .sub (.int 1) (.bin .mul (.int 2) (.sub (.loc 5) (.bin .band (.loc 12) (.loc 4)))))))) (.nil)))) (.cons (.ifs (.or (.not (.call 24 (.cons (.loc 10) (.nil)))) (.cmp .ne (.bin .mul (.bin .mul (.int 2) (.loc 6)) (.loc 10)) (.bin .sub (.bin .mul (.loc 6) (.loc 6)) (.loc 9)))) (.cons (.ret (.bl false)) (.nil)) (.nil)) (.cons (.set 11 (.call 34 (.cons (.loc 0) (.cons (.loc 8) (.nil))))) (.cons (.ret (.and (.call 35 (.cons (.loc 11) (.cons (.loc 10) (.cons (.loc 6) (.nil))))) (.cmp .eq (.loc 11) (.mk 1 (.cons (.loc 10) (.cons (.loc 6) (.nil))))))) (.nil))))))))))))))
def x16 : Ss := .cons (.ifs (.or (.not (.ist (.loc 0) [.tuple])) (.cmp .ne (.bi .len (.cons (.loc 0) (.nil))) (.bi .len (.cons (.loc 1) (.nil))))) (.cons (.ret (.bl false)) (.nil)) (.nil)) (.cons (.ret (.bi .all (.cons (.frz (.comp (.nm 2) (.rng1 (.bi .len (.cons (.loc 1) (.nil)))) (.none) (.and (.call 24 (.cons (.sub (.loc 0) (.loc 2)) (.nil))) (.cmp .eq (.sub (.loc 0) (.loc 2)) (.sub (.loc 1) (.loc 2)))))) (.nil)))) (.nil))
def x17 : Ss := .cons (.ret (.bi .tuple (.cons (.call 36 (.cons (.frz (.comp (.nm 1) (.val (.fld (.loc 0) 8)) (.none) (.bin .sub (.int 1) (.bin .mul (.int 2) (.loc 1))))) (.nil))) (.nil)))) (.nil)
def x18 : Ss := .cons (.set 2 (.bin .shl (.int 1) (.loc 1))) (.cons (.setc 3 (.nm 7) (.rng1 (.loc 2)) (.none) (.bin .sub (.int 1) (.bin .mul (.int 2) (.bin .mod (.bin .shr (.sub (.loc 0) (.int 0)) (.loc 7)) (.int 2))))) (.cons (.set 4 (.bin .mod (.sub (.loc 0) (.int 1)) (.int 3))) (.cons (.new 5 (.rep (.frz (.disp (.cons (.int 0) (.nil)))) (.loc 2))) (.cons (.ifs (.or (.cmp .eq (.loc 4) (.int 0)) (.or (.cmp .eq (.loc 1) (.int 1)) (.cmp .gt (.loc 1) (.int 3)))) (.cons (.sets (.loc 5) (.bin .mod (.sub (.loc 0) (.int 2)) (.loc 2)) (.bin .mul (.loc 2) (.sub (.loc 3) (.int 0)))) (.cons (.ret (.loc 5)) (.nil))) (.nil)) (.cons (.ifs (.or (.cmp .eq (.loc 4) (.int 1)) (.cmp .eq (.loc 1) (.int 2))) (.cons (.new 6 (.rgl (.loc 2))) (.cons (.for (.nm 7) (.rng1 (.int 4)) (.cons (.set 8 (.popi (.loc 6) (.bin .mod (.sub (.loc 0) (.bin .add (.int 3) (.loc 7))) (.bi .len (.cons (.loc 6) (.nil)))))) (.cons (.sets (.loc 5) (.loc 8) (.bin .mul (.sub (.loc 3) (.loc 8)) (.bin .fdiv (.loc 2) (.int 2)))) (.nil)))) (.cons (.shut 6) (.cons (.ret (.loc 5)) (.nil))))) (.nil)) (.cons (.shut 5) (.cons (.newc 5 (.nm 9) (.val (.loc 3)) (.none) (.bin .mul (.int 2) (.loc 9))) (.cons (.sets (.loc 5) (.bin .mod (.sub (.loc 0) (.int 2)) (.int 8)) (.bin .mul (.sub (.loc 5) (.bin .mod (.sub (.loc 0) (.int 2)) (.int 8))) (.int 3))) (.cons (.shut 5) (.cons (.ret (.loc 5)) (.nil)))))))))))
def x19 : Ss := .cons (.set 3 (.call 37 (.cons (.loc 1) (.cons (.loc 2) (.nil))))) (.cons (.set 4 (.call 30 (.cons (.loc 0) (.cons (.bi .tuple (.cons (.loc 1) (.nil))) (.nil))))) (.cons (.ifs (.isn (.loc 3)) (.cons (.ret (.cmp .eq (.loc 4) (.tup (.cons (.int 1) (.cons (.str "table") (.nil)))))) (.nil)) (.nil)) (.cons (.ret (.and (.cmp .eq (.sub (.loc 4) (.int 0)) (.int 0)) (.and (.call 12 (.cons (.sub (.loc 4) (.int 1)) (.cons (.loc 0) (.cons (.loc 3) (.nil))))) (.call 16 (.cons (.call 17 (.cons (.sub (.loc 4) (.int 1)) (.nil))) (.cons (.loc 1) (.nil))))))) (.nil))))
def x20 : Ss := .cons (.ret (.and (.call 22 (.cons (.loc 0) (.nil))) (.chn .le .le (.loc 1) (.loc 0) (.loc 2)))) (.nil)
def x21 : Ss := .cons (.ret (.call 20 (.cons (.loc 0) (.cons (.int 0) (.cons (.int 1) (.nil)))))) (.nil)
def x22 : Ss := .cons (.ret (.and (.ist (.loc 0) [.int]) (.not (.ist (.loc 0) [.bool])))) (.nil)
def x23 : Ss := .cons (.ret (.bin .mod (.bin .fdiv (.bin .mod (.bi .int (.cons (.bin .add (.bin .mul (.loc 0) (.bin .add (.bin .fdiv (.loc 0) (.int 4096)) (.int 69621))) (.bin .fdiv (.loc 0) (.int 7))) (.nil))) (.int 2147483629)) (.int 5)) (.int 720720))) (.nil)
def x24 : Ss := .cons (.ret (.and (.ist (.loc 0) [.int]) (.not (.ist (.loc 0) [.bool])))) (.nil)
def x25 : Ss := .cons (.set 2 (.bi .len (.cons (.loc 0) (.nil)))) (.cons (.new 3 (.disp (.nil))) (.cons (.for (.nm 4) (.rng1 (.loc 2)) (.cons (.exp (.app (.loc 3) (.bi .sum (.cons (.frz (.comp (.nm 5) (.rng1 (.loc 2)) (.none) (.bin .mul (.sub (.loc 0) (.loc 5)) (.sub (.loc 1) (.bin .bxor (.loc 4) (.loc 5)))))) (.nil))))) (.nil))) (.cons (.shut 3) (.cons (.ret (.loc 3)) (.nil)))))
def x26 : Ss := .cons (.ret (.bin .fdiv (.bin .sub (.bi .len (.cons (.fld (.loc 0) 8) (.nil))) (.call 38 (.cons (.call 17 (.cons (.loc 0) (.nil))) (.nil)))) (.int 2))) (.nil)
def x27 : Ss := .cons (.ret (.bi .tuple (.cons (.frz (.comp (.nm 2) (.rng1 (.loc 1)) (.none) (.bin .mod (.bin .shr (.loc 0) (.bin .sub (.bin .sub (.loc 1) (.int 1)) (.loc 2))) (.int 2)))) (.nil)))) (.nil)
def x28 : Ss := .cons (.ifs (.or (.not (.ist (.loc 0) [.tuple])) (.cmp .ne (.bi .len (.cons (.loc 0) (.nil))) (.bi .len (.cons (.loc 1) (.nil))))) (.cons (.ret (.bl false)) (.nil)) (.nil)) (.cons (.ret (.bi .all (.cons (.frz (.comp (.nm 2) (.rng1 (.bi .len (.cons (.loc 1) (.nil)))) (.none) (.call 16 (.cons (.sub (.loc 0) (.loc 2)) (.cons (.sub (.loc 1) (.loc 2)) (.nil)))))) (.nil)))) (.nil))
def x29 : Ss := .cons (.set 1 (.call 17 (.cons (.loc 0) (.nil)))) (.cons (.set 2 (.call 38 (.cons (.loc 1) (.nil)))) (.cons (.ret (.gen .tuple (.nm 3) (.rng1 (.bi .len (.cons (.loc 1) (.nil)))) (.some (.cmp .eq (.sub (.loc 1) (.loc 3)) (.loc 2))) (.call 39 (.cons (.fld (.loc 0) 7) (.cons (.loc 3) (.nil)))))) (.nil)))
def x30 : Ss := .cons (.tryx (.cons (.set 3 (.call 40 (.cons (.loc 0) (.cons (.loc 1) (.nil))))) (.nil)) 2 2 (.cons (.ret (.tup (.cons (.int 1) (.cons (.fld (.loc 2) 11) (.nil))))) .nil)) (.cons (.ret (.tup (.cons (.int 0) (.cons (.loc 3) (.nil))))) (.nil))
def x31 : Ss := .cons (.ifs (.or (.not (.ist (.loc 1) [.cls 0])) (.cmp .ne (.fld (.loc 1) 7) (.fld (.loc 0) 7))) (.cons (.rais 0 .nil) (.nil)) (.nil)) (.cons (.ret (.gen .sum (.tp [2, 3]) (.zip (.fld (.loc 0) 8) (.fld (.loc 1) 8)) (.none) (.bin .bxor (.loc 2) (.loc 3)))) (.nil))
def x32 : Ss := .cons (.ifs (.or (.not (.call 41 (.cons (.loc 0) (.nil)))) (.cmp .gt (.bi .len (.cons (.loc 0) (.nil))) (.kint "LARGEST" 10))) (.cons (.rais 0 .nil) (.nil)) (.nil)) (.cons (.set 1 (.bi .len (.cons (.loc 0) (.nil)))) (.cons (.ret (.mk 0 (.cons (.loc 1) (.cons (.frz (.comp (.nm 2) (.rng1 (.bin .shl (.int 1) (.loc 1))) (.none) (.call 42 (.cons (.loc 0) (.cons (.call 39 (.cons (.loc 1) (.cons (.loc 2) (.nil)))) (.nil)))))) (.nil))))) (.nil)))
def x33 : Ss := .cons (.ret (.mk 0 (.cons (.bi .len (.cons (.loc 1) (.nil))) (.cons (.frz (.comp (.nm 2) (.val (.call 43 (.cons (.bi .len (.cons (.loc 1) (.nil))) (.nil)))) (.none) (.mth 12 (.loc 0) (.cons (.call 45 (.cons (.loc 2) (.cons (.loc 1) (.nil)))) (.nil))))) (.nil))))) (.nil)
def x34 : Ss := .cons (.ret (.mk 1 (.cons (.call 46 (.cons (.loc 0) (.cons (.loc 1) (.nil)))) (.cons (.bi .len (.cons (.fld (.loc 0) 8) (.nil))) (.nil))))) (.nil)
def x35 : Ss := .cons (.ifs (.or (.not (.ist (.loc 0) [.cls 1])) (.or (.not (.call 24 (.cons (.fld (.loc 0) 9) (.nil)))) (.not (.call 24 (.cons (.fld (.loc 0) 10) (.nil)))))) (.cons (.ret (.bl false)) (.nil)) (.nil)) (.cons (.set 3 (.bi .abs (.cons (.loc 1) (.nil)))) (.cons (.set 4 (.loc 2)) (.cons (.for (.nm 5) (.rng1 (.int 400)) (.cons (.ifs (.cmp .eq (.loc 4) (.int 0)) (.cons (.brk) (.nil)) (.nil)) (.cons (.set 6 (.bin .mod (.loc 3) (.loc 4))) (.cons (.set 3 (.loc 4)) (.cons (.set 4 (.loc 6)) (.nil)))))) (.cons (.ret (.and (.cmp .eq (.fld (.loc 0) 9) (.bin .fdiv (.loc 1) (.loc 3))) (.cmp .eq (.fld (.loc 0) 10) (.bin .fdiv (.loc 2) (.loc 3))))) (.nil)))))
def x36 : Ss := .cons (.new 1 (.ofs (.loc 0))) (.cons (.set 2 (.int 1)) (.cons (.whl 100000 (.cmp .lt (.loc 2) (.bi .len (.cons (.loc 1) (.nil)))) (.cons (.for (.nm 3) (.rng1 (.bi .len (.cons (.loc 1) (.nil)))) (.cons (.ifs (.cmp .eq (.bin .band (.loc 3) (.loc 2)) (.int 0)) (.cons (.set 4 (.sub (.loc 1) (.loc 3))) (.cons (.set 5 (.sub (.loc 1) (.bin .add (.loc 3) (.loc 2)))) (.cons (.sets (.loc 1) (.loc 3) (.bin .add (.loc 4) (.loc 5))) (.cons (.sets (.loc 1) (.bin .add (.loc 3) (.loc 2)) (.bin .sub (.loc 4) (.loc 5))) (.nil))))) (.nil)) (.nil))) (.cons (.set 2 (.bin .mul (.int 2) (.loc 2))) (.nil)))) (.cons (.shut 1) (.cons (.ret (.loc 1)) (.nil)))))
def x37 : Ss := .cons (.set 2 (.bi .len (.cons (.loc 0) (.nil)))) (.cons (.new 3 (.disp (.nil))) (.cons (.for (.nm 4) (.rng1 (.loc 2)) (.cons (.set 5 (.bi .sum (.cons (.frz (.comp (.nm 6) (.rng1 (.loc 2)) (.none) (.bin .mul (.sub (.loc 0) (.loc 6)) (.bin .sub (.int 1) (.bin .mul (.int 2) (.sub (.loc 1) (.bin .band (.loc 6) (.loc 4)))))))) (.nil)))) (.cons (.ifs (.cmp .eq (.loc 5) (.loc 2)) (.cons (.exp (.app (.loc 3) (.int 0))) (.nil)) (.nil)) (.cons (.ifs (.cmp .eq (.loc 5) (.neg (.loc 2))) (.cons (.exp (.app (.loc 3) (.int 1))) (.nil)) (.nil)) (.nil))))) (.cons (.shut 3) (.cons (.ifs (.cmp .lt (.bi .len (.cons (.loc 3) (.nil))) (.loc 2)) (.cons (.ret (.non)) (.nil)) (.nil)) (.cons (.ret (.loc 3)) (.nil))))))
def x38 : Ss := .cons (.ret (.gen .max (.nm 1) (.val (.loc 0)) (.none) (.bi .int (.cons (.loc 1) (.nil))))) (.nil)
def x39 : Ss := .cons (.ret (.gen .tuple (.nm 2) (.rng1 (.loc 0)) (.none) (.bin .band (.bin .shr (.loc 1) (.bin .sub (.bin .sub (.loc 0) (.int 1)) (.loc 2))) (.int 1)))) (.nil)
def x40 : Ss := .cons (.ifs (.not (.call 20 (.cons (.loc 0) (.cons (.int 1) (.cons (.kint "LARGEST" 10) (.nil)))))) (.cons (.rais 0 .nil) (.nil)) (.nil)) (.cons (.set 2 (.bin .shl (.int 1) (.loc 0))) (.cons (.ifs (.or (.not (.ist (.loc 1) [.list, .tuple])) (.cmp .ne (.bi .len (.cons (.loc 1) (.nil))) (.loc 2))) (.cons (.rais 2 (.cons (.str "table") .nil)) (.nil)) (.nil)) (.cons (.ifs (.not (.gen .all (.nm 5) (.val (.loc 1)) (.none) (.call 22 (.cons (.loc 5) (.nil))))) (.cons (.rais 2 (.cons (.str "table") .nil)) (.nil)) (.nil)) (.cons (.set 3 (.call 36 (.cons (.loc 1) (.nil)))) (.cons (.ifs (.not (.gen .all (.nm 4) (.val (.loc 3)) (.none) (.or (.cmp .eq (.loc 4) (.loc 2)) (.cmp .eq (.loc 4) (.neg (.loc 2)))))) (.cons (.rais 2 (.cons (.str "table") .nil)) (.nil)) (.nil)) (.cons (.ret (.mk 0 (.cons (.loc 0) (.cons (.frz (.comp (.nm 4) (.val (.loc 3)) (.none) (.bi .int (.cons (.cmp .lt (.loc 4) (.int 0)) (.nil))))) (.nil))))) (.nil)))))))
def x41 : Ss := .cons (.ret (.and (.call 47 (.cons (.loc 0) (.nil))) (.chn .le .le (.int 1) (.bi .len (.cons (.loc 0) (.nil))) (.kint "LONGEST" 12)))) (.nil)
def x42 : Ss := .cons (.ret (.bin .mod (.gen .sum (.tp [2, 3]) (.zip (.loc 0) (.loc 1)) (.none) (.bin .band (.loc 2) (.loc 3))) (.int 2))) (.nil)
def x43 : Ss := .cons (.ifs (.not (.call 20 (.cons (.loc 0) (.cons (.int 1) (.cons (.kint "LONGEST" 12) (.nil)))))) (.cons (.rais 0 .nil) (.nil)) (.nil)) (.cons (.ret (.gen .tuple (.nm 1) (.rng1 (.bin .shl (.int 1) (.loc 0))) (.none) (.call 39 (.cons (.loc 0) (.cons (.loc 1) (.nil)))))) (.nil))
def x44 : Ss := .cons (.ifs (.not (.call 48 (.cons (.loc 1) (.cons (.fld (.loc 0) 7) (.nil))))) (.cons (.rais 0 .nil) (.nil)) (.nil)) (.cons (.ret (.sub (.fld (.loc 0) 8) (.call 49 (.cons (.loc 1) (.nil))))) (.nil))
def x45 : Ss := .cons (.exp (.call 50 (.cons (.loc 0) (.cons (.loc 1) (.nil))))) (.cons (.ret (.call 51 (.cons (.loc 0) (.cons (.loc 1) (.nil))))) (.nil))
def x46 : Ss := .cons (.ifs (.not (.call 48 (.cons (.loc 1) (.cons (.fld (.loc 0) 7) (.nil))))) (.cons (.rais 0 .nil) (.nil)) (.nil)) (.cons (.set 2 (.call 49 (.cons (.loc 1) (.nil)))) (.cons (.ret (.gen .sum (.nm 3) (.rng1 (.bi .len (.cons (.fld (.loc 0) 8) (.nil)))) (.none) (.bin .bxor (.sub (.fld (.loc 0) 8) (.bin .bxor (.loc 2) (.loc 3))) (.sub (.fld (.loc 0) 8) (.loc 3))))) (.nil)))
def x47 : Ss := .cons (.ret (.and (.ist (.loc 0) [.tuple]) (.gen .all (.nm 1) (.val (.loc 0)) (.none) (.call 21 (.cons (.loc 1) (.nil)))))) (.nil)
def x48 : Ss := .cons (.ret (.and (.call 41 (.cons (.loc 0) (.nil))) (.cmp .eq (.bi .len (.cons (.loc 0) (.nil))) (.loc 1)))) (.nil)
def x49 : Ss := .cons (.set 1 (.int 0)) (.cons (.for (.nm 2) (.val (.loc 0)) (.cons (.set 1 (.bin .add (.bin .mul (.int 2) (.loc 1)) (.loc 2))) (.nil))) (.cons (.ret (.loc 1)) (.nil)))
def x50 : Ss := .cons (.ifs (.not (.call 41 (.cons (.loc 0) (.nil)))) (.cons (.rais 0 .nil) (.nil)) (.nil)) (.cons (.ifs (.or (.not (.call 41 (.cons (.loc 1) (.nil)))) (.cmp .ne (.bi .len (.cons (.loc 0) (.nil))) (.bi .len (.cons (.loc 1) (.nil))))) (.cons (.rais 0 .nil) (.nil)) (.nil)) (.nil))
def x51 : Ss := .cons (.ret (.gen .tuple (.tp [2, 3]) (.zip (.loc 0) (.loc 1)) (.none) (.bin .bxor (.loc 2) (.loc 3)))) (.nil)
def d0 : Dd := ⟨.glo "law", "law", "law", defArgs (top 61), defBody (top 61), defScope (top 61), ["script"], ["script", "d", "wide", "size", "odd", "first", "second", "one", "other", "both", "row", "sums", "others", "w", "z", "turned", "due", "swapped", "a", "b", "sign", "numbers", "table", "x", "k"], ⟨1, 25, x0⟩, false⟩
theorem b0 : BindOk d0 := fun kV doc pm an cdv ct us hl => by
  have hl : us.length = 1 := hl
  match us, hl with
  | [_], _ => rfl
/-! 0: ('g', 'law') -/
def d1 : Dd := ⟨.meth "Table" "__init__", "__init__", "Table.__init__", defArgs (inClass (top 25) 0), defBody (inClass (top 25) 0), defScope (inClass (top 25) 0), ["self", "n", "bits"], ["self", "n", "bits", "bit"], ⟨3, 4, x1⟩, true⟩
theorem b1 : BindOk d1 := fun kV doc pm an cdv ct us hl => by
  have hl : us.length = 3 := hl
  match us, hl with
  | [_, _, _], _ => rfl
/-! 1: ('m', 'Table', '__init__') -/
def d2 : Dd := ⟨.meth "Table" "__eq__", "__eq__", "Table.__eq__", defArgs (inClass (top 25) 3), defBody (inClass (top 25) 3), defScope (inClass (top 25) 3), ["self", "other"], ["self", "other"], ⟨2, 2, x2⟩, false⟩
theorem b2 : BindOk d2 := fun kV doc pm an cdv ct us hl => by
  have hl : us.length = 2 := hl
  match us, hl with
  | [_, _], _ => rfl
/-! 2: ('m', 'Table', '__eq__') -/
def d3 : Dd := ⟨.meth "Table" "__add__", "__add__", "Table.__add__", defArgs (inClass (top 25) 4), defBody (inClass (top 25) 4), defScope (inClass (top 25) 4), ["self", "other"], ["self", "other", "one", "two"], ⟨2, 4, x3⟩, false⟩
theorem b3 : BindOk d3 := fun kV doc pm an cdv ct us hl => by
  have hl : us.length = 2 := hl
  match us, hl with
  | [_, _], _ => rfl
/-! 3: ('m', 'Table', '__add__') -/
def d4 : Dd := ⟨.meth "Share" "__init__", "__init__", "Share.__init__", defArgs (inClass (top 33) 0), defBody (inClass (top 33) 0), defScope (inClass (top 33) 0), ["self", "over", "under"], ["self", "over", "under", "common"], ⟨3, 4, x4⟩, false⟩
theorem b4 : BindOk d4 := fun kV doc pm an cdv ct us hl => by
  have hl : us.length = 3 := hl
  match us, hl with
  | [_, _, _], _ => rfl
/-! 4: ('m', 'Share', '__init__') -/
def d5 : Dd := ⟨.meth "Share" "__eq__", "__eq__", "Share.__eq__", defArgs (inClass (top 33) 5), defBody (inClass (top 33) 5), defScope (inClass (top 33) 5), ["self", "other"], ["self", "other"], ⟨2, 2, x5⟩, false⟩
theorem b5 : BindOk d5 := fun kV doc pm an cdv ct us hl => by
  have hl : us.length = 2 := hl
  match us, hl with
  | [_, _], _ => rfl
/-! 5: ('m', 'Share', '__eq__') -/
def d6 : Dd := ⟨.meth "Share" "__add__", "__add__", "Share.__add__", defArgs (inClass (top 33) 2), defBody (inClass (top 33) 2), defScope (inClass (top 33) 2), ["self", "other"], ["self", "other"], ⟨2, 2, x6⟩, false⟩
theorem b6 : BindOk d6 := fun kV doc pm an cdv ct us hl => by
  have hl : us.length = 2 := hl
  match us, hl with
  | [_, _], _ => rfl
/-! 6: ('m', 'Share', '__add__') -/
def d7 : Dd := ⟨.meth "Share" "__sub__", "__sub__", "Share.__sub__", defArgs (inClass (top 33) 3), defBody (inClass (top 33) 3), defScope (inClass (top 33) 3), ["self", "other"], ["self", "other"], ⟨2, 2, x7⟩, false⟩
theorem b7 : BindOk d7 := fun kV doc pm an cdv ct us hl => by
  have hl : us.length = 2 := hl
  match us, hl with
  | [_, _], _ => rfl
/-! 7: ('m', 'Share', '__sub__') -/
def d8 : Dd := ⟨.meth "Share" "__mul__", "__mul__", "Share.__mul__", defArgs (inClass (top 33) 4), defBody (inClass (top 33) 4), defScope (inClass (top 33) 4), ["self", "other"], ["self", "other"], ⟨2, 2, x8⟩, false⟩
theorem b8 : BindOk d8 := fun kV doc pm an cdv ct us hl => by
  have hl : us.length = 2 := hl
  match us, hl with
  | [_, _], _ => rfl
/-! 8: ('m', 'Share', '__mul__') -/
def d9 : Dd := ⟨.glo "_law_draws", "_law_draws", "_law_draws", defArgs (top 43), defBody (top 43), defScope (top 43), ["script", "least"], ["script", "least", "found", "jar", "cell", "k", "left"], ⟨2, 7, x9⟩, false⟩
theorem b9 : BindOk d9 := fun kV doc pm an cdv ct us hl => by
  have hl : us.length = 2 := hl
  match us, hl with
  | [_, _], _ => rfl
/-! 9: ('g', '_law_draws') -/
def d10 : Dd := ⟨.glo "_law_parities", "_law_parities", "_law_parities", defArgs (top 50), defBody (top 50), defScope (top 50), ["size"], ["size", "odd", "k", "x"], ⟨1, 4, x10⟩, false⟩
theorem b10 : BindOk d10 := fun kV doc pm an cdv ct us hl => by
  have hl : us.length = 1 := hl
  match us, hl with
  | [_], _ => rfl
/-! 10: ('g', '_law_parities') -/
def d11 : Dd := ⟨.glo "_law_start", "_law_start", "_law_start", defArgs (top 52), defBody (top 52), defScope (top 52), ["d", "at", "size", "odd"], ["d", "at", "size", "odd", "kind", "word", "few", "x"], ⟨4, 8, x11⟩, false⟩
theorem b11 : BindOk d11 := fun kV doc pm an cdv ct us hl => by
  have hl : us.length = 4 := hl
  match us, hl with
  | [_, _, _, _], _ => rfl
/-! 11: ('g', '_law_start') -/
def d12 : Dd := ⟨.glo "_law_table_is", "_law_table_is", "_law_table_is", defArgs (top 49), defBody (top 49), defScope (top 49), ["x", "wide", "due"], ["x", "wide", "due"], ⟨3, 3, x12⟩, false⟩
theorem b12 : BindOk d12 := fun kV doc pm an cdv ct us hl => by
  have hl : us.length = 3 := hl
  match us, hl with
  | [_, _, _], _ => rfl
/-! 12: ('g', '_law_table_is') -/
def d13 : Dd := ⟨.glo "_law_sum_at", "_law_sum_at", "_law_sum_at", defArgs (top 51), defBody (top 51), defScope (top 51), ["row", "a", "odd"], ["row", "a", "odd", "x"], ⟨3, 4, x13⟩, false⟩
theorem b13 : BindOk d13 := fun kV doc pm an cdv ct us hl => by
  have hl : us.length = 3 := hl
  match us, hl with
  | [_, _, _], _ => rfl
/-! 13: ('g', '_law_sum_at') -/
def d14 : Dd := ⟨.glo "_law_sums_fit", "_law_sums_fit", "_law_sums_fit", defArgs (top 58), defBody (top 58), defScope (top 58), ["both", "one", "other", "sums", "others", "row"], ["both", "one", "other", "sums", "others", "row", "wide", "size", "joined", "due", "least", "near", "told", "same", "x", "a"], ⟨6, 16, x14⟩, false⟩
theorem b14 : BindOk d14 := fun kV doc pm an cdv ct us hl => by
  have hl : us.length = 6 := hl
  match us, hl with
  | [_, _, _, _, _, _], _ => rfl
/-! 14: ('g', '_law_sums_fit') -/
def d15 : Dd := ⟨.glo "_law_far_fits", "_law_far_fits", "_law_far_fits", defArgs (top 60), defBody (top 60), defScope (top 60), ["one", "other", "sums", "others", "w", "odd"], ["one", "other", "sums", "others", "w", "odd", "size", "wide", "word", "total", "far", "told", "a"], ⟨6, 13, x15⟩, false⟩
theorem b15 : BindOk d15 := fun kV doc pm an cdv ct us hl => by
  have hl : us.length = 6 := hl
  match us, hl with
  | [_, _, _, _, _, _], _ => rfl
/-! 15: ('g', '_law_far_fits') -/
def d16 : Dd := ⟨.glo "_law_row_is", "_law_row_is", "_law_row_is", defArgs (top 45), defBody (top 45), defScope (top 45), ["x", "due"], ["x", "due", "k"], ⟨2, 3, x16⟩, false⟩
theorem b16 : BindOk d16 := fun kV doc pm an cdv ct us hl => by
  have hl : us.length = 2 := hl
  match us, hl with
  | [_, _], _ => rfl
/-! 16: ('g', '_law_row_is') -/
def d17 : Dd := ⟨.glo "signed_sums", "signed_sums", "signed_sums", defArgs (top 30), defBody (top 30), defScope (top 30), ["table"], ["table", "bit"], ⟨1, 2, x17⟩, false⟩
theorem b17 : BindOk d17 := fun kV doc pm an cdv ct us hl => by
  have hl : us.length = 1 := hl
  match us, hl with
  | [_], _ => rfl
/-! 17: ('g', 'signed_sums') -/
def d18 : Dd := ⟨.glo "_law_row_drawn", "_law_row_drawn", "_law_row_drawn", defArgs (top 57), defBody (top 57), defScope (top 57), ["d", "wide"], ["d", "wide", "size", "signs", "kind", "row", "left", "k", "a", "x"], ⟨2, 10, x18⟩, false⟩
theorem b18 : BindOk d18 := fun kV doc pm an cdv ct us hl => by
  have hl : us.length = 2 := hl
  match us, hl with
  | [_, _], _ => rfl
/-! 18: ('g', '_law_row_drawn') -/
def d19 : Dd := ⟨.glo "_law_row_fits", "_law_row_fits", "_law_row_fits", defArgs (top 56), defBody (top 56), defScope (top 56), ["wide", "numbers", "odd"], ["wide", "numbers", "odd", "due", "told"], ⟨3, 5, x19⟩, false⟩
theorem b19 : BindOk d19 := fun kV doc pm an cdv ct us hl => by
  have hl : us.length = 3 := hl
  match us, hl with
  | [_, _, _], _ => rfl
/-! 19: ('g', '_law_row_fits') -/
def d20 : Dd := ⟨.glo "is_between", "is_between", "is_between", defArgs (top 11), defBody (top 11), defScope (top 11), ["value", "low", "high"], ["value", "low", "high"], ⟨3, 3, x20⟩, false⟩
theorem b20 : BindOk d20 := fun kV doc pm an cdv ct us hl => by
  have hl : us.length = 3 := hl
  match us, hl with
  | [_, _, _], _ => rfl
/-! 20: ('g', 'is_between') -/
def d21 : Dd := ⟨.glo "is_bit", "is_bit", "is_bit", defArgs (top 12), defBody (top 12), defScope (top 12), ["value"], ["value"], ⟨1, 1, x21⟩, false⟩
theorem b21 : BindOk d21 := fun kV doc pm an cdv ct us hl => by
  have hl : us.length = 1 := hl
  match us, hl with
  | [_], _ => rfl
/-! 21: ('g', 'is_bit') -/
def d22 : Dd := ⟨.glo "is_integer", "is_integer", "is_integer", defArgs (top 10), defBody (top 10), defScope (top 10), ["value"], ["value"], ⟨1, 1, x22⟩, false⟩
theorem b22 : BindOk d22 := fun kV doc pm an cdv ct us hl => by
  have hl : us.length = 1 := hl
  match us, hl with
  | [_], _ => rfl
/-! 22: ('g', 'is_integer') -/
def d23 : Dd := ⟨.glo "_law_mixed", "_law_mixed", "_law_mixed", defArgs (top 42), defBody (top 42), defScope (top 42), ["jar"], ["jar"], ⟨1, 1, x23⟩, false⟩
theorem b23 : BindOk d23 := fun kV doc pm an cdv ct us hl => by
  have hl : us.length = 1 := hl
  match us, hl with
  | [_], _ => rfl
/-! 23: ('g', '_law_mixed') -/
def d24 : Dd := ⟨.glo "_law_whole", "_law_whole", "_law_whole", defArgs (top 44), defBody (top 44), defScope (top 44), ["x"], ["x"], ⟨1, 1, x24⟩, false⟩
theorem b24 : BindOk d24 := fun kV doc pm an cdv ct us hl => by
  have hl : us.length = 1 := hl
  match us, hl with
  | [_], _ => rfl
/-! 24: ('g', '_law_whole') -/
def d25 : Dd := ⟨.glo "_law_joined", "_law_joined", "_law_joined", defArgs (top 53), defBody (top 53), defScope (top 53), ["one", "other"], ["one", "other", "size", "found", "a", "b"], ⟨2, 6, x25⟩, false⟩
theorem b25 : BindOk d25 := fun kV doc pm an cdv ct us hl => by
  have hl : us.length = 2 := hl
  match us, hl with
  | [_, _], _ => rfl
/-! 25: ('g', '_law_joined') -/
def d26 : Dd := ⟨.glo "least_distance", "least_distance", "least_distance", defArgs (top 39), defBody (top 39), defScope (top 39), ["table"], ["table"], ⟨1, 1, x26⟩, false⟩
theorem b26 : BindOk d26 := fun kV doc pm an cdv ct us hl => by
  have hl : us.length = 1 := hl
  match us, hl with
  | [_], _ => rfl
/-! 26: ('g', 'least_distance') -/
def d27 : Dd := ⟨.glo "_law_word", "_law_word", "_law_word", defArgs (top 47), defBody (top 47), defScope (top 47), ["number", "wide"], ["number", "wide", "k"], ⟨2, 3, x27⟩, false⟩
theorem b27 : BindOk d27 := fun kV doc pm an cdv ct us hl => by
  have hl : us.length = 2 := hl
  match us, hl with
  | [_, _], _ => rfl
/-! 27: ('g', '_law_word') -/
def d28 : Dd := ⟨.glo "_law_rows_are", "_law_rows_are", "_law_rows_are", defArgs (top 46), defBody (top 46), defScope (top 46), ["x", "due"], ["x", "due", "k"], ⟨2, 3, x28⟩, false⟩
theorem b28 : BindOk d28 := fun kV doc pm an cdv ct us hl => by
  have hl : us.length = 2 := hl
  match us, hl with
  | [_, _], _ => rfl
/-! 28: ('g', '_law_rows_are') -/
def d29 : Dd := ⟨.glo "nearest_sums", "nearest_sums", "nearest_sums", defArgs (top 40), defBody (top 40), defScope (top 40), ["table"], ["table", "sums", "greatest", "number"], ⟨1, 4, x29⟩, true⟩
theorem b29 : BindOk d29 := fun kV doc pm an cdv ct us hl => by
  have hl : us.length = 1 := hl
  match us, hl with
  | [_], _ => rfl
/-! 29: ('g', 'nearest_sums') -/
def d30 : Dd := ⟨.glo "_law_told", "_law_told", "_law_told", defArgs (top 55), defBody (top 55), defScope (top 55), ["wide", "numbers"], ["wide", "numbers", "e", "table"], ⟨2, 4, x30⟩, false⟩
theorem b30 : BindOk d30 := fun kV doc pm an cdv ct us hl => by
  have hl : us.length = 2 := hl
  match us, hl with
  | [_, _], _ => rfl
/-! 30: ('g', '_law_told') -/
def d31 : Dd := ⟨.glo "distance", "distance", "distance", defArgs (top 27), defBody (top 27), defScope (top 27), ["one", "other"], ["one", "other", "first", "second"], ⟨2, 4, x31⟩, true⟩
theorem b31 : BindOk d31 := fun kV doc pm an cdv ct us hl => by
  have hl : us.length = 2 := hl
  match us, hl with
  | [_, _], _ => rfl
/-! 31: ('g', 'distance') -/
def d32 : Dd := ⟨.glo "sum_table", "sum_table", "sum_table", defArgs (top 26), defBody (top 26), defScope (top 26), ["word"], ["word", "n", "number"], ⟨1, 3, x32⟩, false⟩
theorem b32 : BindOk d32 := fun kV doc pm an cdv ct us hl => by
  have hl : us.length = 1 := hl
  match us, hl with
  | [_], _ => rfl
/-! 32: ('g', 'sum_table') -/
def d33 : Dd := ⟨.glo "_law_shifted", "_law_shifted", "_law_shifted", defArgs (top 59), defBody (top 59), defScope (top 59), ["table", "word"], ["table", "word", "x"], ⟨2, 3, x33⟩, false⟩
theorem b33 : BindOk d33 := fun kV doc pm an cdv ct us hl => by
  have hl : us.length = 2 := hl
  match us, hl with
  | [_, _], _ => rfl
/-! 33: ('g', '_law_shifted') -/
def d34 : Dd := ⟨.glo "one_share", "one_share", "one_share", defArgs (top 36), defBody (top 36), defScope (top 36), ["table", "word"], ["table", "word"], ⟨2, 2, x34⟩, false⟩
theorem b34 : BindOk d34 := fun kV doc pm an cdv ct us hl => by
  have hl : us.length = 2 := hl
  match us, hl with
  | [_, _], _ => rfl
/-! 34: ('g', 'one_share') -/
def d35 : Dd := ⟨.glo "_law_share_is", "_law_share_is", "_law_share_is", defArgs (top 48), defBody (top 48), defScope (top 48), ["x", "over", "under"], ["x", "over", "under", "a", "b", "k", "c"], ⟨3, 7, x35⟩, false⟩
theorem b35 : BindOk d35 := fun kV doc pm an cdv ct us hl => by
  have hl : us.length = 3 := hl
  match us, hl with
  | [_, _, _], _ => rfl
/-! 35: ('g', '_law_share_is') -/
def d36 : Dd := ⟨.glo "sums_and_differences", "sums_and_differences", "sums_and_differences", defArgs (top 29), defBody (top 29), defScope (top 29), ["numbers"], ["numbers", "found", "step", "place", "first", "second"], ⟨1, 6, x36⟩, false⟩
theorem b36 : BindOk d36 := fun kV doc pm an cdv ct us hl => by
  have hl : us.length = 1 := hl
  match us, hl with
  | [_], _ => rfl
/-! 36: ('g', 'sums_and_differences') -/
def d37 : Dd := ⟨.glo "_law_back", "_law_back", "_law_back", defArgs (top 54), defBody (top 54), defScope (top 54), ["numbers", "odd"], ["numbers", "odd", "size", "found", "x", "total", "a"], ⟨2, 7, x37⟩, false⟩
theorem b37 : BindOk d37 := fun kV doc pm an cdv ct us hl => by
  have hl : us.length = 2 := hl
  match us, hl with
  | [_, _], _ => rfl
/-! 37: ('g', '_law_back') -/
def d38 : Dd := ⟨.glo "greatest_of", "greatest_of", "greatest_of", defArgs (top 38), defBody (top 38), defScope (top 38), ["numbers"], ["numbers", "number"], ⟨1, 2, x38⟩, true⟩
theorem b38 : BindOk d38 := fun kV doc pm an cdv ct us hl => by
  have hl : us.length = 1 := hl
  match us, hl with
  | [_], _ => rfl
/-! 38: ('g', 'greatest_of') -/
def d39 : Dd := ⟨.glo "word_at", "word_at", "word_at", defArgs (top 16), defBody (top 16), defScope (top 16), ["n", "number"], ["n", "number", "place"], ⟨2, 3, x39⟩, true⟩
theorem b39 : BindOk d39 := fun kV doc pm an cdv ct us hl => by
  have hl : us.length = 2 := hl
  match us, hl with
  | [_, _], _ => rfl
/-! 39: ('g', 'word_at') -/
def d40 : Dd := ⟨.glo "table_from", "table_from", "table_from", defArgs (top 31), defBody (top 31), defScope (top 31), ["n", "numbers"], ["n", "numbers", "many", "signs", "sign", "number"], ⟨2, 6, x40⟩, true⟩
theorem b40 : BindOk d40 := fun kV doc pm an cdv ct us hl => by
  have hl : us.length = 2 := hl
  match us, hl with
  | [_, _], _ => rfl
/-! 40: ('g', 'table_from') -/
def d41 : Dd := ⟨.glo "is_some_word", "is_some_word", "is_some_word", defArgs (top 14), defBody (top 14), defScope (top 14), ["value"], ["value"], ⟨1, 1, x41⟩, false⟩
theorem b41 : BindOk d41 := fun kV doc pm an cdv ct us hl => by
  have hl : us.length = 1 := hl
  match us, hl with
  | [_], _ => rfl
/-! 41: ('g', 'is_some_word') -/
def d42 : Dd := ⟨.glo "parity_of", "parity_of", "parity_of", defArgs (top 21), defBody (top 21), defScope (top 21), ["one", "other"], ["one", "other", "first", "second"], ⟨2, 4, x42⟩, true⟩
theorem b42 : BindOk d42 := fun kV doc pm an cdv ct us hl => by
  have hl : us.length = 2 := hl
  match us, hl with
  | [_, _], _ => rfl
/-! 42: ('g', 'parity_of') -/
def d43 : Dd := ⟨.glo "all_words", "all_words", "all_words", defArgs (top 18), defBody (top 18), defScope (top 18), ["n"], ["n", "number"], ⟨1, 2, x43⟩, true⟩
theorem b43 : BindOk d43 := fun kV doc pm an cdv ct us hl => by
  have hl : us.length = 1 := hl
  match us, hl with
  | [_], _ => rfl
/-! 43: ('g', 'all_words') -/
def d44 : Dd := ⟨.meth "Table" "bit", "bit", "Table.bit", defArgs (inClass (top 25) 5), defBody (inClass (top 25) 5), defScope (inClass (top 25) 5), ["self", "word"], ["self", "word"], ⟨2, 2, x44⟩, false⟩
theorem b44 : BindOk d44 := fun kV doc pm an cdv ct us hl => by
  have hl : us.length = 2 := hl
  match us, hl with
  | [_, _], _ => rfl
/-! 44: ('m', 'Table', 'bit') -/
def d45 : Dd := ⟨.glo "added", "added", "added", defArgs (top 22), defBody (top 22), defScope (top 22), ["one", "other"], ["one", "other"], ⟨2, 2, x45⟩, false⟩
theorem b45 : BindOk d45 := fun kV doc pm an cdv ct us hl => by
  have hl : us.length = 2 := hl
  match us, hl with
  | [_, _], _ => rfl
/-! 45: ('g', 'added') -/
def d46 : Dd := ⟨.glo "ones_of", "ones_of", "ones_of", defArgs (top 35), defBody (top 35), defScope (top 35), ["table", "word"], ["table", "word", "place", "other"], ⟨2, 4, x46⟩, true⟩
theorem b46 : BindOk d46 := fun kV doc pm an cdv ct us hl => by
  have hl : us.length = 2 := hl
  match us, hl with
  | [_, _], _ => rfl
/-! 46: ('g', 'ones_of') -/
def d47 : Dd := ⟨.glo "is_bits", "is_bits", "is_bits", defArgs (top 13), defBody (top 13), defScope (top 13), ["value"], ["value", "one"], ⟨1, 2, x47⟩, true⟩
theorem b47 : BindOk d47 := fun kV doc pm an cdv ct us hl => by
  have hl : us.length = 1 := hl
  match us, hl with
  | [_], _ => rfl
/-! 47: ('g', 'is_bits') -/
def d48 : Dd := ⟨.glo "is_word", "is_word", "is_word", defArgs (top 15), defBody (top 15), defScope (top 15), ["value", "n"], ["value", "n"], ⟨2, 2, x48⟩, false⟩
theorem b48 : BindOk d48 := fun kV doc pm an cdv ct us hl => by
  have hl : us.length = 2 := hl
  match us, hl with
  | [_, _], _ => rfl
/-! 48: ('g', 'is_word') -/
def d49 : Dd := ⟨.glo "bits_number", "bits_number", "bits_number", defArgs (top 17), defBody (top 17), defScope (top 17), ["bits"], ["bits", "number", "bit"], ⟨1, 3, x49⟩, false⟩
theorem b49 : BindOk d49 := fun kV doc pm an cdv ct us hl => by
  have hl : us.length = 1 := hl
  match us, hl with
  | [_], _ => rfl
/-! 49: ('g', 'bits_number') -/
def d50 : Dd := ⟨.glo "check_words", "check_words", "check_words", defArgs (top 19), defBody (top 19), defScope (top 19), ["one", "other"], ["one", "other"], ⟨2, 2, x50⟩, false⟩
theorem b50 : BindOk d50 := fun kV doc pm an cdv ct us hl => by
  have hl : us.length = 2 := hl
  match us, hl with
  | [_, _], _ => rfl
/-! 50: ('g', 'check_words') -/
def d51 : Dd := ⟨.glo "sum_of", "sum_of", "sum_of", defArgs (top 20), defBody (top 20), defScope (top 20), ["one", "other"], ["one", "other", "first", "second"], ⟨2, 4, x51⟩, true⟩
theorem b51 : BindOk d51 := fun kV doc pm an cdv ct us hl => by
  have hl : us.length = 2 := hl
  match us, hl with
  | [_, _], _ => rfl
/-! 51: ('g', 'sum_of') -/
def z0 : Dd := ⟨.meth "Undefined" "__init__", "__init__", "Undefined.__init__", defArgs (inClass (top 7) 0), defBody (inClass (top 7) 0), defScope (inClass (top 7) 0), ["self", "what"], ["self", "what"], ⟨0, 0, .nil⟩, false⟩
theorem bz0 : BindOk z0 := fun kV doc pm an cdv ct us hl => by
  have hl : us.length = 2 := hl
  match us, hl with
  | [_, _], _ => rfl
def P : Pd := ⟨[d0, d1, d2, d3, d4, d5, d6, d7, d8, d9, d10, d11, d12, d13, d14, d15, d16, d17, d18, d19, d20, d21, d22, d23, d24, d25, d26, d27, d28, d29, d30, d31, d32, d33, d34, d35, d36, d37, d38, d39, d40, d41, d42, d43, d44, d45, d46, d47, d48, d49, d50, d51], [⟨"Table", true, some 1, [(1, 2), (2, 3), (12, 44)], [], [8, 7]⟩,
  ⟨"Share", true, some 4, [(1, 5), (2, 6), (3, 7), (4, 8)], [], [9, 10]⟩], ["", "__eq__", "__add__", "__sub__", "__mul__", "__len__", "__contains__", "n", "bits", "over", "under", "what", "bit"], [("LARGEST", 10), ("LONGEST", 12)], true, [⟨"Undefined", 11, z0⟩]⟩
theorem hb : ∀ D ∈ P.all, BindOk D := by
  intro D h
  have h : D ∈ ([d0, d1, d2, d3, d4, d5, d6, d7, d8, d9, d10, d11, d12, d13, d14, d15, d16, d17, d18, d19, d20, d21, d22, d23, d24, d25, d26, d27, d28, d29, d30, d31, d32, d33, d34, d35, d36, d37, d38, d39, d40, d41, d42, d43, d44, d45, d46, d47, d48, d49, d50, d51, z0] : List Dd) := h
  simp only [List.mem_cons, List.not_mem_nil, or_false] at h
  rcases h with rfl | rfl | rfl | rfl | rfl | rfl | rfl | rfl | rfl | rfl | rfl | rfl | rfl | rfl | rfl | rfl | rfl | rfl | rfl | rfl | rfl | rfl | rfl | rfl | rfl | rfl | rfl | rfl | rfl | rfl | rfl | rfl | rfl | rfl | rfl | rfl | rfl | rfl | rfl | rfl | rfl | rfl | rfl | rfl | rfl | rfl | rfl | rfl | rfl | rfl | rfl | rfl | rfl
  · exact b0
  · exact b1
  · exact b2
  · exact b3
  · exact b4
  · exact b5
  · exact b6
  · exact b7
  · exact b8
  · exact b9
  · exact b10
  · exact b11
  · exact b12
  · exact b13
  · exact b14
  · exact b15
  · exact b16
  · exact b17
  · exact b18
  · exact b19
  · exact b20
  · exact b21
  · exact b22
  · exact b23
  · exact b24
  · exact b25
  · exact b26
  · exact b27
  · exact b28
  · exact b29
  · exact b30
  · exact b31
  · exact b32
  · exact b33
  · exact b34
  · exact b35
  · exact b36
  · exact b37
  · exact b38
  · exact b39
  · exact b40
  · exact b41
  · exact b42
  · exact b43
  · exact b44
  · exact b45
  · exact b46
  · exact b47
  · exact b48
  · exact b49
  · exact b50
  · exact b51
  · exact bz0
theorem hn : P.nmsB = true := by kernel_rfl
theorem ck : P.ds.all (Dd.ok P.T P.gn) = true := by kernel_rfl
theorem ckx : P.xs.all (fun x => P.iniB x && scB x.d.N x.d.ps x.d.scope) = true := by kernel_rfl
end Tk40


set_option maxHeartbeats 200000
set_option Elab.async false
set_option maxRecDepth 100000
set_option maxHeartbeats 0
/-! Models of law k40, printed by genm.py. -/
namespace M40
open PySem PySem.Spec Ev
def m__law_mixed (jar0 : Int) : Option Int :=
bd (mulM jar0 ((jar0 / 4096) + 69621)) fun t0 =>
some ((((t0 + (jar0 / 7)) % 2147483629) / 5) % 720720)
theorem r__law_mixed (k : Nat) (jar0 : Int) (S : Sto) (r : Int) (h : m__law_mixed jar0 = some r) : (lv Tk40.P.T (k + 1)).1 23 [eI jar0] S = .ok (eI r) S := by
  unfold m__law_mixed at h
  refine fnc_ok (np := 1) (nl := 1) (env0 := [some (eI jar0)]) rfl (pures_cons (pu eI jar0) pures_nil) rfl rfl ?_
  obtain ⟨t0, ht0, h⟩ := bdE h
  refine z_ret (v_modc (v_fdivc (v_modc (v_intI (v_add (v_mul (v_loc rfl) (v_add (v_fdivc (v_loc rfl) (v_int _) (by decide)) (v_int _)) ht0) (v_fdivc (v_loc rfl) (v_int _) (by decide)))) (v_int _) (by decide)) (v_int _) (by decide)) (v_int _) (by decide)) ?_
  cases h
  exact zf_rt (pu eI _)
def m__law_draws_l1 (least0 : Int) (left1 : Int) (found3 : List Int) (x1 : Int) : Option (Fl (Int × (List Int)) Unit) :=
if ((decide (left1 = 0)) || (decide (least0 ≤ (found3.length : Int)))) = true then
some (.bk (left1, found3))
else
bd (appM found3 (left1 % 720720)) fun found4 =>
bd (some (left1 / 720720)) fun left2 =>
some (.nx (left2, found4))
def m__law_draws_l2 (least0 : Int) (jar0 : Int) (found1 : List Int) (x0 : Int) : Option (Int × (List Int)) :=
bd (some (absT x0)) fun left0 =>
bd (mulM jar0 48271) fun t0 =>
bd (some (((t0 + 7) + (x0 % 2147483647)) % 2147483647)) fun jar1 =>
if (decide (left0 < 1000000000000000000)) = true then
bd (m__law_mixed jar1) fun t1 =>
bd (appM found1 t1) fun found2 =>
some (jar1, found2)
else
bd (rng1M 60) fun xs0 =>
bd (forB (fun s x => m__law_draws_l1 least0 s.1 s.2 x) xs0 (left0, found1)) fun s0 =>
(match s0 with
| (left3, found5) =>
some (jar1, found5))
def m__law_draws_l3 (jar3 : Int) (found7 : List Int) (x2 : Int) : Option (Int × (List Int)) :=
bd (mulM jar3 48271) fun t2 =>
bd (some (((t2 + 12345) + x2) % 2147483647)) fun jar4 =>
bd (m__law_mixed jar4) fun t3 =>
bd (appM found7 t3) fun found8 =>
some (jar4, found8)
def m__law_draws (script0 : List Int) (least0 : Int) : Option (List Int) :=
bd (some ([] : List Int)) fun found0 =>
bd (forS (fun s x => m__law_draws_l2 least0 s.1 s.2 x) (cutT script0 none (some 63)) (11, found0)) fun s1 =>
(match s1 with
| (jar2, found6) =>
bd (rng1M least0) fun xs1 =>
bd (forS (fun s x => m__law_draws_l3 s.1 s.2 x) xs1 (jar2, found6)) fun s2 =>
(match s2 with
| (jar5, found9) =>
some found9))
theorem r__law_draws (k : Nat) (script0 : List Int) (least0 : Int) (S : Sto) (r : List Int) (h : m__law_draws script0 least0 = some r) : (lv Tk40.P.T (k + 2)).1 9 [eZ script0, eI least0] S = .ok ((eL eI) r) S := by
  unfold m__law_draws at h
  refine fnc_ok (np := 2) (nl := 7) (env0 := [some (eZ script0), some (eI least0), none, none, none, none, none]) rfl (pures_cons (pu eZ script0) (pures_cons (pu eI least0) pures_nil)) rfl rfl ?_
  obtain ⟨found0, hfound0, h⟩ := bdE h
  refine z_new (n := 0) (e1 := [some (eZ script0), some (eI least0), some (.ref 0), none, none, none, none]) (S1 := [eL eI found0]) (va_cast (va_cast (va_disp vs_nil) (show _ = List.map eI ([] : List Int) from rfl)) (congrArg (List.map eI) (Option.some.inj hfound0))) rfl rfl rfl ?_
  refine z_set (e1 := [some (eZ script0), some (eI least0), some (.ref 0), some (eI 11), none, none, none]) (v_int _) rfl ?_
  obtain ⟨s1, hs1, h⟩ := bdE h
  refine z_for (ex := eI) (xs := (cutT script0 none (some 63))) (ck := none) (E := (fun (s : Int × (List Int)) (e : Ev.Env) => ∃ j0 j1 j2 : J, e = [some (eZ script0), some (eI least0), some (.ref 0), some (eI s.1), j0.v, j1.v, j2.v])) (St := (fun (s : Int × (List Int)) => [eL eI s.2])) (er := eN) (Pr := fun _ _ => True) (vi_val (e := eI) (xs := (cutT script0 none (some 63))) (ck := none) (v_slcZ (v_loc rfl) vp_none (vp_some (v_int _)) rfl) rfl) (forS_ok hs1) ⟨jN, jN, jN, rfl⟩ rfl (fun _ => rfl) ?hstep2 ?hk2
  case hstep2 =>
    intro s x0 f env hE h
    obtain ⟨jar0, found1⟩ := s
    obtain ⟨j0, j1, j2, rfl⟩ := hE
    rw [Option.map_eq_some_iff] at h
    obtain ⟨f, h, rfl⟩ := h
    try dsimp only at h ⊢
    unfold m__law_draws_l2 at h
    refine ⟨[some (eZ script0), some (eI least0), some (.ref 0), some (eI jar0), some (eI x0), j1.v, j2.v], rfl, ?_⟩
    show Zp (FlR _ _ _ _ _) (evSs _ _ _ _ _ _ _)
    obtain ⟨left0, hleft0, h⟩ := bdE h
    refine z_set (e1 := [some (eZ script0), some (eI least0), some (.ref 0), some (eI jar0), some (eI x0), j1.v, some (eI left0)]) (v_cast (v_abs (v_intI (v_loc rfl))) (congrArg eI (Option.some.inj hleft0))) rfl ?_
    obtain ⟨t0, ht0, h⟩ := bdE h
    obtain ⟨jar1, hjar1, h⟩ := bdE h
    refine z_set (e1 := [some (eZ script0), some (eI least0), some (.ref 0), some (eI jar1), some (eI x0), j1.v, some (eI left0)]) (v_cast (v_modc (v_add (v_intI (v_add (v_mul (v_loc rfl) (v_int _) ht0) (v_int _))) (v_modc (v_intI (v_loc rfl)) (v_int _) (by decide))) (v_int _) (by decide)) (congrArg eI (Option.some.inj hjar1))) rfl ?_
    refine z_ifs (u := (decide (left0 < 1000000000000000000))) (v_lt (v_loc rfl) (v_int _)) (fun hu => ?_) (fun hu => ?_)
    · rw [if_pos hu] at h
      obtain ⟨t1, ht1, h⟩ := bdE h
      obtain ⟨found2, hfound2, h⟩ := bdE h
      refine z_exp (s_app (ex := eI) (xs := found1) (y := t1) (n := 0) (S1 := [eL eI found2]) (v_loc rfl) rfl (v_call (vs_cons (v_loc rfl) vs_nil) (r__law_mixed (k + 0) jar1 _ t1 ht1)) hfound2 rfl) ?_
      refine z_thn ?_
      cases h
      exact z_nil (flr_nx ⟨jV (pu eI x0), j1, jV (pu eI left0), rfl⟩)
    · rw [if_neg (by rw [hu]; decide)] at h
      obtain ⟨xs0, hxs0, h⟩ := bdE h
      obtain ⟨s0, hs0, h⟩ := bdE h
      refine z_for (ex := eI) (xs := xs0) (ck := none) (E := (fun (s : Int × (List Int)) (e : Ev.Env) => ∃ j3 : J, e = [some (eZ script0), some (eI least0), some (.ref 0), some (eI jar1), some (eI x0), j3.v, some (eI s.1)])) (St := (fun (s : Int × (List Int)) => [eL eI s.2])) (er := eN) (Pr := fun _ _ => True) (vi_rng1 (v_int _) hxs0) (forB_ok hs0) ⟨j1, rfl⟩ rfl (fun _ => rfl) ?hstep1 ?hk1
      case hstep1 =>
        intro s x1 f env hE h
        obtain ⟨left1, found3⟩ := s
        obtain ⟨j3, rfl⟩ := hE
        try dsimp only at h ⊢
        unfold m__law_draws_l1 at h
        refine ⟨[some (eZ script0), some (eI least0), some (.ref 0), some (eI jar1), some (eI x0), some (eI x1), some (eI left1)], rfl, ?_⟩
        show Zp (FlR _ _ _ _ _) (evSs _ _ _ _ _ _ _)
        refine z_ifs (u := ((decide (left1 = 0)) || (decide (least0 ≤ (found3.length : Int))))) (v_or (u := (decide (left1 = 0))) (v := (decide (least0 ≤ (found3.length : Int)))) (v_eq eI (by decide) (u := left1) (w := 0) (v_loc rfl) (v_int _) rfl rfl) (fun _ => (v_ge (v_len (e := eI) (xs := found3) (v_loc rfl) rfl) (v_loc rfl)))) (fun hu => ?_) (fun hu => ?_)
        · rw [if_pos hu] at h
          refine z_brk ?_
          cases h
          exact flr_bk ⟨jV (pu eI x1), rfl⟩
        · rw [if_neg (by rw [hu]; decide)] at h
          refine z_thn ?_
          obtain ⟨found4, hfound4, h⟩ := bdE h
          refine z_exp (s_app (ex := eI) (xs := found3) (y := (left1 % 720720)) (n := 0) (S1 := [eL eI found4]) (v_loc rfl) rfl (v_modc (v_loc rfl) (v_int _) (by decide)) hfound4 rfl) ?_
          obtain ⟨left2, hleft2, h⟩ := bdE h
          refine z_set (e1 := [some (eZ script0), some (eI least0), some (.ref 0), some (eI jar1), some (eI x0), some (eI x1), some (eI left2)]) (v_cast (v_fdivc (v_loc rfl) (v_int _) (by decide)) (congrArg eI (Option.some.inj hleft2))) rfl ?_
          cases h
          exact z_nil (flr_nx ⟨jV (pu eI x1), rfl⟩)
      case hk1 =>
        intro o ho
        obtain ⟨_, ⟨j4, rfl⟩, rfl⟩ := ho
        obtain ⟨left3, found5⟩ := s0
        show Zp _ (evSs _ _ _ _ _ _ _)
        try dsimp only at h
        refine z_thn ?_
        cases h
        exact z_nil (flr_nx ⟨jV (pu eI x0), j4, jV (pu eI left3), rfl⟩)
  case hk2 =>
    intro o ho
    obtain ⟨_, ⟨j5, j6, j7, rfl⟩, rfl⟩ := ho
    obtain ⟨jar2, found6⟩ := s1
    show Zp _ (evSs _ _ _ _ _ _ _)
    try dsimp only at h
    obtain ⟨xs1, hxs1, h⟩ := bdE h
    obtain ⟨s2, hs2, h⟩ := bdE h
    refine z_for (ex := eI) (xs := xs1) (ck := none) (E := (fun (s : Int × (List Int)) (e : Ev.Env) => ∃ j8 : J, e = [some (eZ script0), some (eI least0), some (.ref 0), some (eI s.1), j5.v, j8.v, j7.v])) (St := (fun (s : Int × (List Int)) => [eL eI s.2])) (er := eN) (Pr := fun _ _ => True) (vi_rng1 (v_loc rfl) hxs1) (forS_ok hs2) ⟨j6, rfl⟩ rfl (fun _ => rfl) ?hstep3 ?hk3
    case hstep3 =>
      intro s x2 f env hE h
      obtain ⟨jar3, found7⟩ := s
      obtain ⟨j8, rfl⟩ := hE
      rw [Option.map_eq_some_iff] at h
      obtain ⟨f, h, rfl⟩ := h
      try dsimp only at h ⊢
      unfold m__law_draws_l3 at h
      refine ⟨[some (eZ script0), some (eI least0), some (.ref 0), some (eI jar3), j5.v, some (eI x2), j7.v], rfl, ?_⟩
      show Zp (FlR _ _ _ _ _) (evSs _ _ _ _ _ _ _)
      obtain ⟨t2, ht2, h⟩ := bdE h
      obtain ⟨jar4, hjar4, h⟩ := bdE h
      refine z_set (e1 := [some (eZ script0), some (eI least0), some (.ref 0), some (eI jar4), j5.v, some (eI x2), j7.v]) (v_cast (v_modc (v_intI (v_add (v_add (v_mul (v_loc rfl) (v_int _) ht2) (v_int _)) (v_loc rfl))) (v_int _) (by decide)) (congrArg eI (Option.some.inj hjar4))) rfl ?_
      obtain ⟨t3, ht3, h⟩ := bdE h
      obtain ⟨found8, hfound8, h⟩ := bdE h
      refine z_exp (s_app (ex := eI) (xs := found7) (y := t3) (n := 0) (S1 := [eL eI found8]) (v_loc rfl) rfl (v_call (vs_cons (v_loc rfl) vs_nil) (r__law_mixed (k + 0) jar4 _ t3 ht3)) hfound8 rfl) ?_
      cases h
      exact z_nil (flr_nx ⟨jV (pu eI x2), rfl⟩)
    case hk3 =>
      intro o ho
      obtain ⟨_, ⟨j9, rfl⟩, rfl⟩ := ho
      obtain ⟨jar5, found9⟩ := s2
      show Zp _ (evSs _ _ _ _ _ _ _)
      try dsimp only at h
      refine z_seal (n := 0) (S0 := []) (e1 := [some (eZ script0), some (eI least0), some ((eL eI) found9), some (eI jar5), j5.v, j9.v, j7.v]) rfl rfl rfl (by decide) (eb_cons (ob_pure (pu eZ script0)) (eb_cons (ob_pure (pu eI least0)) (eb_skip (al_cons (ob_pure (pu eI jar5)) (al_cons (ob_junk j5) (al_cons (ob_junk j9) (al_cons (ob_junk j7) al_nil))))))) (pures_cons (pu (eL eI) found9) pures_nil) rfl ?_
      refine z_ret (v_loc rfl) ?_
      cases h
      exact zf_rt (pu (eL eI) _)
def m__law_parities_l1 (size0 : Int) (odd1 : List Int) (x0 : Int) : Option ((List Int)) :=
if (decide ((odd1.length : Int) < size0)) = true then
bd (compM (fun _ => some true) (fun x1 => some (1 - x1)) odd1) fun ys0 =>
bd (catM odd1 ys0) fun t0 =>
some (t0)
else
some (odd1)
def m__law_parities (size0 : Int) : Option (List Int) :=
bd (some [0]) fun odd0 =>
bd (rng1M 6) fun xs0 =>
bd (forS (fun s x => m__law_parities_l1 size0 s x) xs0 (odd0)) fun odd2 =>
some odd2
theorem r__law_parities (k : Nat) (size0 : Int) (S : Sto) (r : List Int) (h : m__law_parities size0 = some r) : (lv Tk40.P.T (k + 1)).1 10 [eI size0] S = .ok ((eL eI) r) S := by
  unfold m__law_parities at h
  refine fnc_ok (np := 1) (nl := 4) (env0 := [some (eI size0), none, none, none]) rfl (pures_cons (pu eI size0) pures_nil) rfl rfl ?_
  obtain ⟨odd0, hodd0, h⟩ := bdE h
  refine z_set (e1 := [some (eI size0), some ((eL eI) odd0), none, none]) (v_cast (v_frz (va_cast (va_disp (vs_cons (v_int _) vs_nil)) (show _ = List.map eI [0] from rfl)) pures_nil (pures_map (e := eI) [0])) (congrArg (eL eI) (Option.some.inj hodd0))) rfl ?_
  obtain ⟨xs0, hxs0, h⟩ := bdE h
  obtain ⟨odd2, hodd2, h⟩ := bdE h
  refine z_for (ex := eI) (xs := xs0) (ck := none) (E := (fun (s : (List Int)) (e : Ev.Env) => ∃ j0 j1 : J, e = [some (eI size0), some ((eL eI) s), j0.v, j1.v])) (St := (fun (s : (List Int)) => [])) (er := eN) (Pr := fun _ _ => True) (vi_rng1 (v_int _) hxs0) (forS_ok hodd2) ⟨jN, jN, rfl⟩ rfl (fun _ => rfl) ?hstep1 ?hk1
  case hstep1 =>
    intro odd1 x0 f env hE h
    obtain ⟨j0, j1, rfl⟩ := hE
    rw [Option.map_eq_some_iff] at h
    obtain ⟨f, h, rfl⟩ := h
    skip
    unfold m__law_parities_l1 at h
    refine ⟨[some (eI size0), some ((eL eI) odd1), some (eI x0), j1.v], rfl, ?_⟩
    show Zp (FlR _ _ _ _ _) (evSs _ _ _ _ _ _ _)
    refine z_ifs (u := (decide ((odd1.length : Int) < size0))) (v_lt (v_len (e := eI) (xs := odd1) (v_loc rfl) rfl) (v_loc rfl)) (fun hu => ?_) (fun hu => ?_)
    · rw [if_pos hu] at h
      obtain ⟨ys0, hys0, h⟩ := bdE h
      obtain ⟨t0, ht0, h⟩ := bdE h
      refine z_set (e1 := [some (eI size0), some ((eL eI) t0), some (eI x0), j1.v]) (v_catL (e := eI) (xs := odd1) (ys := ys0) (v_loc rfl) (v_frz (va_comp (ex := eI) (ey := eI) (xs := odd1) (fun x1 => [some (eI size0), some ((eL eI) odd1), some (eI x0), some (eI x1)]) (vi_val (e := eI) (xs := odd1) (ck := none) (v_loc rfl) rfl) hys0 (fun _ => rfl) (fun _ => rfl) (fun x1 ac b hm => v_castC vc_none (Option.some.inj hm)) (fun x1 ac y hm => by
       skip
       exact v_cast (v_subt (v_int _) (v_loc rfl)) (congrArg eI (Option.some.inj hm)))) pures_nil (pures_map (e := eI) ys0)) rfl rfl ht0) rfl ?_
      refine z_thn ?_
      cases h
      exact z_nil (flr_nx ⟨jV (pu eI x0), j1, rfl⟩)
    · rw [if_neg (by rw [hu]; decide)] at h
      refine z_thn ?_
      cases h
      exact z_nil (flr_nx ⟨jV (pu eI x0), j1, rfl⟩)
  case hk1 =>
    intro o ho
    obtain ⟨_, ⟨j2, j3, rfl⟩, rfl⟩ := ho
    show Zp _ (evSs _ _ _ _ _ _ _)
    skip
    refine z_ret (v_loc rfl) ?_
    cases h
    exact zf_rt (pu (eL eI) _)
def m__law_start (d0 : List Int) (at0 : Int) (size0 : Int) (odd0 : List Int) : Option (List Int) :=
bd (getM d0 at0) fun t0 =>
bd (some (t0 % 6)) fun kind0 =>
bd (getM d0 (at0 + 1)) fun t1 =>
bd (modM t1 size0) fun t2 =>
bd (getM d0 (at0 + 2)) fun t3 =>
bd (modM t3 size0) fun t4 =>
bd (getM d0 (at0 + 3)) fun t5 =>
bd (modM t5 size0) fun t6 =>
bd (getM d0 (at0 + 4)) fun t7 =>
bd (modM t7 size0) fun t8 =>
bd (getM d0 (at0 + 5)) fun t9 =>
bd (some (cutT [t4, t6, t8] none (some (1 + (t9 % 3))))) fun few0 =>
if (decide (kind0 = 0)) = true then
bd (rng1M size0) fun xs0 =>
bd (compM (fun _ => some true) (fun x0 => bd (getM odd0 (PySem.Builtin.bitAnd x0 t2)) fun t10 =>
some t10) xs0) fun ys0 =>
some ys0
else
if (decide (kind0 = 1)) = true then
bd (rng1M size0) fun xs1 =>
bd (compM (fun _ => some true) (fun x1 => bd (getM odd0 (PySem.Builtin.bitAnd x1 t2)) fun t11 =>
some (PySem.Builtin.bitXor t11 (if (decide (x1 ∈ few0)) = true then 1 else 0))) xs1) fun ys1 =>
some ys1
else
if (decide (kind0 = 2)) = true then
bd (rng1M size0) fun xs2 =>
bd (compM (fun _ => some true) (fun x2 => some (t2 % 2)) xs2) fun ys2 =>
some ys2
else
if (decide (kind0 = 3)) = true then
bd (rng1M size0) fun xs3 =>
bd (compM (fun _ => some true) (fun x3 => some (if (decide (x3 ∈ few0)) = true then 1 else 0)) xs3) fun ys3 =>
some ys3
else
bd (rng1M size0) fun xs4 =>
bd (compM (fun _ => some true) (fun x4 => bd (getM d0 ((at0 + 6) + (x4 / 16))) fun t12 =>
bd (shrM t12 (x4 % 16)) fun t13 =>
some (t13 % 2)) xs4) fun ys4 =>
some ys4
theorem r__law_start (k : Nat) (d0 : List Int) (at0 : Int) (size0 : Int) (odd0 : List Int) (S : Sto) (r : List Int) (h : m__law_start d0 at0 size0 odd0 = some r) : (lv Tk40.P.T (k + 1)).1 11 [(eL eI) d0, eI at0, eI size0, (eL eI) odd0] S = .ok ((eL eI) r) S := by
  unfold m__law_start at h
  refine fnc_ok (np := 4) (nl := 8) (env0 := [some ((eL eI) d0), some (eI at0), some (eI size0), some ((eL eI) odd0), none, none, none, none]) rfl (pures_cons (pu (eL eI) d0) (pures_cons (pu eI at0) (pures_cons (pu eI size0) (pures_cons (pu (eL eI) odd0) pures_nil)))) rfl rfl ?_
  obtain ⟨t0, ht0, h⟩ := bdE h
  obtain ⟨kind0, hkind0, h⟩ := bdE h
  refine z_set (e1 := [some ((eL eI) d0), some (eI at0), some (eI size0), some ((eL eI) odd0), some (eI kind0), none, none, none]) (v_cast (v_modc (v_sub (e := eI) (xs := d0) (v_loc rfl) (v_loc rfl) rfl ht0) (v_int _) (by decide)) (congrArg eI (Option.some.inj hkind0))) rfl ?_
  obtain ⟨t1, ht1, h⟩ := bdE h
  obtain ⟨t2, ht2, h⟩ := bdE h
  refine z_set (e1 := [some ((eL eI) d0), some (eI at0), some (eI size0), some ((eL eI) odd0), some (eI kind0), some (eI t2), none, none]) (v_mod (v_sub (e := eI) (xs := d0) (v_loc rfl) (v_add (v_loc rfl) (v_int _)) rfl ht1) (v_loc rfl) ht2) rfl ?_
  obtain ⟨t3, ht3, h⟩ := bdE h
  obtain ⟨t4, ht4, h⟩ := bdE h
  obtain ⟨t5, ht5, h⟩ := bdE h
  obtain ⟨t6, ht6, h⟩ := bdE h
  obtain ⟨t7, ht7, h⟩ := bdE h
  obtain ⟨t8, ht8, h⟩ := bdE h
  obtain ⟨t9, ht9, h⟩ := bdE h
  obtain ⟨few0, hfew0, h⟩ := bdE h
  refine z_set (e1 := [some ((eL eI) d0), some (eI at0), some (eI size0), some ((eL eI) odd0), some (eI kind0), some (eI t2), some ((eL eI) few0), none]) (v_cast (v_slcL (e := eI) (xs := [t4, t6, t8]) (v_frz (va_cast (va_disp (vs_cons (v_mod (v_sub (e := eI) (xs := d0) (v_loc rfl) (v_add (v_loc rfl) (v_int _)) rfl ht3) (v_loc rfl) ht4) (vs_cons (v_mod (v_sub (e := eI) (xs := d0) (v_loc rfl) (v_add (v_loc rfl) (v_int _)) rfl ht5) (v_loc rfl) ht6) (vs_cons (v_mod (v_sub (e := eI) (xs := d0) (v_loc rfl) (v_add (v_loc rfl) (v_int _)) rfl ht7) (v_loc rfl) ht8) vs_nil)))) (show _ = List.map eI [t4, t6, t8] from rfl)) pures_nil (pures_map (e := eI) [t4, t6, t8])) vp_none (vp_some (v_add (v_int _) (v_modc (v_sub (e := eI) (xs := d0) (v_loc rfl) (v_add (v_loc rfl) (v_int _)) rfl ht9) (v_int _) (by decide)))) rfl) (congrArg (eL eI) (Option.some.inj hfew0))) rfl ?_
  refine z_ifs (u := (decide (kind0 = 0))) (v_eq eI (by decide) (u := kind0) (w := 0) (v_loc rfl) (v_int _) rfl rfl) (fun hu => ?_) (fun hu => ?_)
  · rw [if_pos hu] at h
    obtain ⟨xs0, hxs0, h⟩ := bdE h
    obtain ⟨ys0, hys0, h⟩ := bdE h
    refine z_ret (v_frz (va_comp (ex := eI) (ey := eI) (xs := xs0) (fun x0 => [some ((eL eI) d0), some (eI at0), some (eI size0), some ((eL eI) odd0), some (eI kind0), some (eI t2), some ((eL eI) few0), some (eI x0)]) (vi_rng1 (v_loc rfl) hxs0) hys0 (fun _ => rfl) (fun _ => rfl) (fun x0 ac b hm => v_castC vc_none (Option.some.inj hm)) (fun x0 ac y hm => by
     obtain ⟨t10, ht10, hm⟩ := bdE hm
     exact v_cast (v_sub (e := eI) (xs := odd0) (v_loc rfl) (v_band (v_loc rfl) (v_loc rfl)) rfl ht10) (congrArg eI (Option.some.inj hm)))) pures_nil (pures_map (e := eI) ys0)) ?_
    cases h
    exact zf_rt (pu (eL eI) _)
  · rw [if_neg (by rw [hu]; decide)] at h
    refine z_thn ?_
    refine z_ifs (u := (decide (kind0 = 1))) (v_eq eI (by decide) (u := kind0) (w := 1) (v_loc rfl) (v_int _) rfl rfl) (fun hu => ?_) (fun hu => ?_)
    · rw [if_pos hu] at h
      obtain ⟨xs1, hxs1, h⟩ := bdE h
      obtain ⟨ys1, hys1, h⟩ := bdE h
      refine z_ret (v_frz (va_comp (ex := eI) (ey := eI) (xs := xs1) (fun x1 => [some ((eL eI) d0), some (eI at0), some (eI size0), some ((eL eI) odd0), some (eI kind0), some (eI t2), some ((eL eI) few0), some (eI x1)]) (vi_rng1 (v_loc rfl) hxs1) hys1 (fun _ => rfl) (fun _ => rfl) (fun x1 ac b hm => v_castC vc_none (Option.some.inj hm)) (fun x1 ac y hm => by
       obtain ⟨t11, ht11, hm⟩ := bdE hm
       exact v_cast (v_bxor (v_sub (e := eI) (xs := odd0) (v_loc rfl) (v_band (v_loc rfl) (v_loc rfl)) rfl ht11) (v_intB (v_inL eI (by decide) (u := x1) (ws := few0) (v_loc rfl) (v_loc rfl) rfl rfl))) (congrArg eI (Option.some.inj hm)))) pures_nil (pures_map (e := eI) ys1)) ?_
      cases h
      exact zf_rt (pu (eL eI) _)
    · rw [if_neg (by rw [hu]; decide)] at h
      refine z_thn ?_
      refine z_ifs (u := (decide (kind0 = 2))) (v_eq eI (by decide) (u := kind0) (w := 2) (v_loc rfl) (v_int _) rfl rfl) (fun hu => ?_) (fun hu => ?_)
      · rw [if_pos hu] at h
        obtain ⟨xs2, hxs2, h⟩ := bdE h
        obtain ⟨ys2, hys2, h⟩ := bdE h
        refine z_ret (v_frz (va_comp (ex := eI) (ey := eI) (xs := xs2) (fun x2 => [some ((eL eI) d0), some (eI at0), some (eI size0), some ((eL eI) odd0), some (eI kind0), some (eI t2), some ((eL eI) few0), some (eI x2)]) (vi_rng1 (v_loc rfl) hxs2) hys2 (fun _ => rfl) (fun _ => rfl) (fun x2 ac b hm => v_castC vc_none (Option.some.inj hm)) (fun x2 ac y hm => by
         skip
         exact v_cast (v_modc (v_loc rfl) (v_int _) (by decide)) (congrArg eI (Option.some.inj hm)))) pures_nil (pures_map (e := eI) ys2)) ?_
        cases h
        exact zf_rt (pu (eL eI) _)
      · rw [if_neg (by rw [hu]; decide)] at h
        refine z_thn ?_
        refine z_ifs (u := (decide (kind0 = 3))) (v_eq eI (by decide) (u := kind0) (w := 3) (v_loc rfl) (v_int _) rfl rfl) (fun hu => ?_) (fun hu => ?_)
        · rw [if_pos hu] at h
          obtain ⟨xs3, hxs3, h⟩ := bdE h
          obtain ⟨ys3, hys3, h⟩ := bdE h
          refine z_ret (v_frz (va_comp (ex := eI) (ey := eI) (xs := xs3) (fun x3 => [some ((eL eI) d0), some (eI at0), some (eI size0), some ((eL eI) odd0), some (eI kind0), some (eI t2), some ((eL eI) few0), some (eI x3)]) (vi_rng1 (v_loc rfl) hxs3) hys3 (fun _ => rfl) (fun _ => rfl) (fun x3 ac b hm => v_castC vc_none (Option.some.inj hm)) (fun x3 ac y hm => by
           skip
           exact v_cast (v_intB (v_inL eI (by decide) (u := x3) (ws := few0) (v_loc rfl) (v_loc rfl) rfl rfl)) (congrArg eI (Option.some.inj hm)))) pures_nil (pures_map (e := eI) ys3)) ?_
          cases h
          exact zf_rt (pu (eL eI) _)
        · rw [if_neg (by rw [hu]; decide)] at h
          refine z_thn ?_
          obtain ⟨xs4, hxs4, h⟩ := bdE h
          obtain ⟨ys4, hys4, h⟩ := bdE h
          refine z_ret (v_frz (va_comp (ex := eI) (ey := eI) (xs := xs4) (fun x4 => [some ((eL eI) d0), some (eI at0), some (eI size0), some ((eL eI) odd0), some (eI kind0), some (eI t2), some ((eL eI) few0), some (eI x4)]) (vi_rng1 (v_loc rfl) hxs4) hys4 (fun _ => rfl) (fun _ => rfl) (fun x4 ac b hm => v_castC vc_none (Option.some.inj hm)) (fun x4 ac y hm => by
           obtain ⟨t12, ht12, hm⟩ := bdE hm
           obtain ⟨t13, ht13, hm⟩ := bdE hm
           exact v_cast (v_modc (v_shr (v_sub (e := eI) (xs := d0) (v_loc rfl) (v_add (v_add (v_loc rfl) (v_int _)) (v_fdivc (v_loc rfl) (v_int _) (by decide))) rfl ht12) (v_modc (v_loc rfl) (v_int _) (by decide)) ht13) (v_int _) (by decide)) (congrArg eI (Option.some.inj hm)))) pures_nil (pures_map (e := eI) ys4)) ?_
          cases h
          exact zf_rt (pu (eL eI) _)
def m_is_integer (value0 : Int) : Bool := true
theorem r_is_integer (k : Nat) (value0 : Int) (S : Sto) : (lv Tk40.P.T (k + 1)).1 22 [eI value0] S = .ok (eB true) S := by
  refine fnc_ok (np := 1) (nl := 1) (env0 := [some (eI value0)]) rfl (pures_cons (pu eI value0) pures_nil) rfl rfl ?_
  refine z_ret (v_and (u := true) (v := true) (v_ist (v := true) (v_loc rfl) rfl) (fun _ => (v_not (u := false) (v_ist (v := false) (v_loc rfl) rfl)))) ?_
  exact zf_rt (pu eB _)
def m_is_between (value0 : Int) (low0 : Int) (high0 : Int) : Bool := ((decide (low0 ≤ value0)) && (decide (value0 ≤ high0)))
theorem r_is_between (k : Nat) (value0 : Int) (low0 : Int) (high0 : Int) (S : Sto) : (lv Tk40.P.T (k + 2)).1 20 [eI value0, eI low0, eI high0] S = .ok (eB (m_is_between value0 low0 high0)) S := by
  refine fnc_ok (np := 3) (nl := 3) (env0 := [some (eI value0), some (eI low0), some (eI high0)]) rfl (pures_cons (pu eI value0) (pures_cons (pu eI low0) (pures_cons (pu eI high0) pures_nil))) rfl rfl ?_
  refine z_ret (v_and (u := true) (v := ((decide (low0 ≤ value0)) && (decide (value0 ≤ high0)))) (v_call (vs_cons (v_loc rfl) vs_nil) (r_is_integer (k + 0) value0 _)) (fun _ => (v_chnI (u := (decide (low0 ≤ value0))) (v := (decide (value0 ≤ high0))) (v_loc rfl) (v_loc rfl) rfl (v_loc rfl) rfl))) ?_
  exact zf_rt (pu eB _)
def m_is_bit (value0 : Int) : Bool := (m_is_between value0 0 1)
theorem r_is_bit (k : Nat) (value0 : Int) (S : Sto) : (lv Tk40.P.T (k + 3)).1 21 [eI value0] S = .ok (eB (m_is_bit value0)) S := by
  refine fnc_ok (np := 1) (nl := 1) (env0 := [some (eI value0)]) rfl (pures_cons (pu eI value0) pures_nil) rfl rfl ?_
  refine z_ret (v_call (vs_cons (v_loc rfl) (vs_cons (v_int _) (vs_cons (v_int _) vs_nil))) (r_is_between (k + 0) value0 0 1 _)) ?_
  exact zf_rt (pu eB _)
structure C_Table where
  n : Int
  bits : List Int
deriving DecidableEq
def e_Table : C_Table → D := fun s => .obj 0 [7, 8] [eI s.n, (eT eI) s.bits]
instance : PU e_Table := ⟨fun s => by unfold e_Table; rw [D.pure]; exact (pures_cons (pu eI _) (pures_cons (pu (eT eI) _) pures_nil))⟩
def m_Table___init__ (n0 : Int) (bits0 : List Int) : Option C_Table :=
if (!(m_is_between n0 1 10)) = true then
none
else
bd (if false = true then some true else (bd (shlM 1 n0) fun t0 =>
bd (if (!decide ((bits0.length : Int) = t0)) = true then some true else (bd (compM (fun _ => some true) (fun x0 => some (m_is_bit x0)) bits0) fun ys0 =>
some (!(ys0.all id)))) fun b0 =>
some b0)) fun b1 =>
if b1 = true then
none
else
some (C_Table.mk n0 bits0)
theorem r_Table___init__ (k : Nat) (n0 : Int) (bits0 : List Int) (S : Sto) (r : C_Table) (h : m_Table___init__ n0 bits0 = some r) : make Tk40.P.T (lv Tk40.P.T (k + 4)).1 0 [eI n0, (eL eI) bits0] S = .ok (e_Table r) S := by
  unfold m_Table___init__ at h
  refine ini_ok (np := 3) (nl := 4) (env0 := [some (.ref 0), some (eI n0), some ((eL eI) bits0), none]) rfl rfl rfl (pures_cons (pu eI n0) (pures_cons (pu (eL eI) bits0) pures_nil)) rfl (pu e_Table _) rfl ?_
  refine z_ifs (u := (!(m_is_between n0 1 10))) (v_not (u := (m_is_between n0 1 10)) (v_call (vs_cons (v_loc rfl) (vs_cons (v_int _) (vs_cons (v_kint _ _) vs_nil))) (r_is_between (k + 1) n0 1 10 _))) (fun hu => ?_) (fun hu => ?_)
  · rw [if_pos hu] at h
    cases h
  · rw [if_neg (by rw [hu]; decide)] at h
    refine z_thn ?_
    obtain ⟨b1, hb1, h⟩ := bdE h
    refine z_ifs (u := b1) (v_orP (u := false) (v_not (u := true) (v_ist (v := true) (v_loc rfl) rfl)) hb1 (fun hu hm => by
     obtain ⟨t0, ht0, hm⟩ := bdE hm
     obtain ⟨b0, hb0, hm⟩ := bdE hm
     exact v_cast (v_orP (u := (!decide ((bits0.length : Int) = t0))) (v_ne eI (by decide) (u := (bits0.length : Int)) (w := t0) (v_len (e := eI) (xs := bits0) (v_loc rfl) rfl) (v_shl (v_int _) (v_loc rfl) ht0) rfl rfl) hb0 (fun hu hm => by
     obtain ⟨ys0, hys0, hm⟩ := bdE hm
     exact v_cast (v_not (u := (ys0.all id)) (v_genAll (ex := eI) (xs := bits0) (fun x0 => [some (.ref 0), some (eI n0), some ((eL eI) bits0), some (eI x0)]) (vi_val (e := eI) (xs := bits0) (ck := none) (v_loc rfl) rfl) hys0 rfl (fun _ => rfl) (fun x0 b hm => v_castC vc_none (Option.some.inj hm)) (fun x0 y hm => by
     skip
     exact v_cast (v_call (vs_cons (v_loc rfl) vs_nil) (r_is_bit (k + 0) x0 _)) (congrArg eB (Option.some.inj hm))))) (congrArg eB (Option.some.inj hm)))) (congrArg eB (Option.some.inj hm)))) (fun hu => ?_) (fun hu => ?_)
    · rw [if_pos hu] at h
      cases h
    · rw [if_neg (by rw [hu]; decide)] at h
      refine z_thn ?_
      refine z_setf (n := 0) (S1 := [.obj 0 [7] [eI n0]]) (v_loc rfl) (v_loc rfl) rfl rfl (by decide) (pu eI n0) rfl ?_
      refine z_setf (n := 0) (S1 := [.obj 0 [7, 8] [eI n0, (eT eI) bits0]]) (v_tupL (v_loc rfl) rfl) (v_loc rfl) rfl rfl (by decide) (pu (eT eI) bits0) rfl ?_
      cases h
      exact z_nil ⟨_, rfl⟩
theorem r_Table___init__' (k : Nat) (n0 : Int) (bits0 : List Int) (S : Sto) (r : C_Table) (h : m_Table___init__ n0 bits0 = some r) : make Tk40.P.T (lv Tk40.P.T (k + 4)).1 0 [eI n0, (eT eI) bits0] S = .ok (e_Table r) S := by
  unfold m_Table___init__ at h
  refine ini_ok (np := 3) (nl := 4) (env0 := [some (.ref 0), some (eI n0), some ((eT eI) bits0), none]) rfl rfl rfl (pures_cons (pu eI n0) (pures_cons (pu (eT eI) bits0) pures_nil)) rfl (pu e_Table _) rfl ?_
  refine z_ifs (u := (!(m_is_between n0 1 10))) (v_not (u := (m_is_between n0 1 10)) (v_call (vs_cons (v_loc rfl) (vs_cons (v_int _) (vs_cons (v_kint _ _) vs_nil))) (r_is_between (k + 1) n0 1 10 _))) (fun hu => ?_) (fun hu => ?_)
  · rw [if_pos hu] at h
    cases h
  · rw [if_neg (by rw [hu]; decide)] at h
    refine z_thn ?_
    obtain ⟨b1, hb1, h⟩ := bdE h
    refine z_ifs (u := b1) (v_orP (u := false) (v_not (u := true) (v_ist (v := true) (v_loc rfl) rfl)) hb1 (fun hu hm => by
     obtain ⟨t0, ht0, hm⟩ := bdE hm
     obtain ⟨b0, hb0, hm⟩ := bdE hm
     exact v_cast (v_orP (u := (!decide ((bits0.length : Int) = t0))) (v_ne eI (by decide) (u := (bits0.length : Int)) (w := t0) (v_len (e := eI) (xs := bits0) (v_loc rfl) rfl) (v_shl (v_int _) (v_loc rfl) ht0) rfl rfl) hb0 (fun hu hm => by
     obtain ⟨ys0, hys0, hm⟩ := bdE hm
     exact v_cast (v_not (u := (ys0.all id)) (v_genAll (ex := eI) (xs := bits0) (fun x0 => [some (.ref 0), some (eI n0), some ((eT eI) bits0), some (eI x0)]) (vi_val (e := eI) (xs := bits0) (ck := none) (v_loc rfl) rfl) hys0 rfl (fun _ => rfl) (fun x0 b hm => v_castC vc_none (Option.some.inj hm)) (fun x0 y hm => by
     skip
     exact v_cast (v_call (vs_cons (v_loc rfl) vs_nil) (r_is_bit (k + 0) x0 _)) (congrArg eB (Option.some.inj hm))))) (congrArg eB (Option.some.inj hm)))) (congrArg eB (Option.some.inj hm)))) (fun hu => ?_) (fun hu => ?_)
    · rw [if_pos hu] at h
      cases h
    · rw [if_neg (by rw [hu]; decide)] at h
      refine z_thn ?_
      refine z_setf (n := 0) (S1 := [.obj 0 [7] [eI n0]]) (v_loc rfl) (v_loc rfl) rfl rfl (by decide) (pu eI n0) rfl ?_
      refine z_setf (n := 0) (S1 := [.obj 0 [7, 8] [eI n0, (eT eI) bits0]]) (v_tupT (v_loc rfl) rfl) (v_loc rfl) rfl rfl (by decide) (pu (eT eI) bits0) rfl ?_
      cases h
      exact z_nil ⟨_, rfl⟩
def m_Table___add__ (self0 : C_Table) (other0 : C_Table) : Option C_Table :=
if (!decide (other0.n = self0.n)) = true then
none
else
bd (compM (fun _ => some true) (fun x0 => some (PySem.Builtin.bitXor (x0.1) (x0.2))) ((self0.bits).zip (other0.bits))) fun ys0 =>
bd (m_Table___init__ (self0.n) ys0) fun t0 =>
some t0
theorem r_Table___add__ (k : Nat) (self0 : C_Table) (other0 : C_Table) (S : Sto) (r : C_Table) (h : m_Table___add__ self0 other0 = some r) : (lv Tk40.P.T (k + 5)).1 3 [e_Table self0, e_Table other0] S = .ok (e_Table r) S := by
  unfold m_Table___add__ at h
  refine fnc_ok (np := 2) (nl := 4) (env0 := [some (e_Table self0), some (e_Table other0), none, none]) rfl (pures_cons (pu e_Table self0) (pures_cons (pu e_Table other0) pures_nil)) rfl rfl ?_
  refine z_ifs (u := (!decide (other0.n = self0.n))) (v_or (u := false) (v := (!decide (other0.n = self0.n))) (v_not (u := true) (v_ist (v := true) (v_loc rfl) rfl)) (fun _ => (v_ne eI (by decide) (u := other0.n) (w := self0.n) (v_fld (v_loc rfl) rfl rfl rfl) (v_fld (v_loc rfl) rfl rfl rfl) rfl rfl))) (fun hu => ?_) (fun hu => ?_)
  · rw [if_pos hu] at h
    cases h
  · rw [if_neg (by rw [hu]; decide)] at h
    refine z_thn ?_
    obtain ⟨ys0, hys0, h⟩ := bdE h
    obtain ⟨t0, ht0, h⟩ := bdE h
    refine z_ret (v_mk (vs_cons (v_fld (v_loc rfl) rfl rfl rfl) (vs_cons (v_frz (va_comp (ex := (eP2 eI eI)) (ey := eI) (xs := ((self0.bits).zip (other0.bits))) (fun x0 => [some (e_Table self0), some (e_Table other0), some (eI (x0.1)), some (eI (x0.2))]) (vi_zipT (e := eI) (f := eI) (xs := self0.bits) (ys := other0.bits) (v_fld (v_loc rfl) rfl rfl rfl) (v_fld (v_loc rfl) rfl rfl rfl)) hys0 (fun _ => rfl) (fun _ => rfl) (fun x0 ac b hm => v_castC vc_none (Option.some.inj hm)) (fun x0 ac y hm => by
     skip
     exact v_cast (v_bxor (v_loc rfl) (v_loc rfl)) (congrArg eI (Option.some.inj hm)))) pures_nil (pures_map (e := eI) ys0)) vs_nil)) (r_Table___init__ (k + 0) (self0.n) ys0 _ t0 ht0)) ?_
    cases h
    exact zf_rt (pu e_Table _)
def m__law_whole (x0 : Int) : Bool := true
theorem r__law_whole (k : Nat) (x0 : Int) (S : Sto) : (lv Tk40.P.T (k + 1)).1 24 [eI x0] S = .ok (eB true) S := by
  refine fnc_ok (np := 1) (nl := 1) (env0 := [some (eI x0)]) rfl (pures_cons (pu eI x0) pures_nil) rfl rfl ?_
  refine z_ret (v_and (u := true) (v := true) (v_ist (v := true) (v_loc rfl) rfl) (fun _ => (v_not (u := false) (v_ist (v := false) (v_loc rfl) rfl)))) ?_
  exact zf_rt (pu eB _)
def m__law_row_is (x0 : List Int) (due0 : List Int) : Option Bool :=
if (!decide ((x0.length : Int) = (due0.length : Int))) = true then
some false
else
bd (rng1M (due0.length : Int)) fun xs0 =>
bd (compM (fun _ => some true) (fun x1 => bd (getM x0 x1) fun t0 =>
bd (if true = true then (bd (getM x0 x1) fun t1 =>
bd (getM due0 x1) fun t2 =>
some (decide (t1 = t2))) else some false) fun b0 =>
some b0) xs0) fun ys0 =>
some (ys0.all id)
theorem r__law_row_is (k : Nat) (x0 : List Int) (due0 : List Int) (S : Sto) (r : Bool) (h : m__law_row_is x0 due0 = some r) : (lv Tk40.P.T (k + 2)).1 16 [(eT eI) x0, (eL eI) due0] S = .ok (eB r) S := by
  unfold m__law_row_is at h
  refine fnc_ok (np := 2) (nl := 3) (env0 := [some ((eT eI) x0), some ((eL eI) due0), none]) rfl (pures_cons (pu (eT eI) x0) (pures_cons (pu (eL eI) due0) pures_nil)) rfl rfl ?_
  refine z_ifs (u := (!decide ((x0.length : Int) = (due0.length : Int)))) (v_or (u := false) (v := (!decide ((x0.length : Int) = (due0.length : Int)))) (v_not (u := true) (v_ist (v := true) (v_loc rfl) rfl)) (fun _ => (v_ne eI (by decide) (u := (x0.length : Int)) (w := (due0.length : Int)) (v_len (e := eI) (xs := x0) (v_loc rfl) rfl) (v_len (e := eI) (xs := due0) (v_loc rfl) rfl) rfl rfl))) (fun hu => ?_) (fun hu => ?_)
  · rw [if_pos hu] at h
    refine z_ret (v_bl _) ?_
    cases h
    exact zf_rt (pu eB _)
  · rw [if_neg (by rw [hu]; decide)] at h
    refine z_thn ?_
    obtain ⟨xs0, hxs0, h⟩ := bdE h
    obtain ⟨ys0, hys0, h⟩ := bdE h
    refine z_ret (v_all (bs := ys0) (v_frz (va_comp (ex := eI) (ey := eB) (xs := xs0) (fun x1 => [some ((eT eI) x0), some ((eL eI) due0), some (eI x1)]) (vi_rng1 (v_len (e := eI) (xs := due0) (v_loc rfl) rfl) hxs0) hys0 (fun _ => rfl) (fun _ => rfl) (fun x1 ac b hm => v_castC vc_none (Option.some.inj hm)) (fun x1 ac y hm => by
     obtain ⟨t0, ht0, hm⟩ := bdE hm
     obtain ⟨b0, hb0, hm⟩ := bdE hm
     exact v_cast (v_andP (u := true) (v_call (vs_cons (v_sub (e := eI) (xs := x0) (v_loc rfl) (v_loc rfl) rfl ht0) vs_nil) (r__law_whole (k + 0) t0 _)) hb0 (fun hu hm => by
     obtain ⟨t1, ht1, hm⟩ := bdE hm
     obtain ⟨t2, ht2, hm⟩ := bdE hm
     exact v_cast (v_eq eI (by decide) (u := t1) (w := t2) (v_sub (e := eI) (xs := x0) (v_loc rfl) (v_loc rfl) rfl ht1) (v_sub (e := eI) (xs := due0) (v_loc rfl) (v_loc rfl) rfl ht2) rfl rfl) (congrArg eB (Option.some.inj hm)))) (congrArg eB (Option.some.inj hm)))) pures_nil (pures_map (e := eB) ys0)) rfl) ?_
    cases h
    exact zf_rt (pu eB _)
def m__law_table_is (x0 : C_Table) (wide0 : Int) (due0 : List Int) : Option Bool :=
bd (if true = true then (bd (if true = true then (bd (if (decide (x0.n = wide0)) = true then (bd (m__law_row_is (x0.bits) due0) fun t0 =>
some t0) else some false) fun b0 =>
some b0) else some false) fun b1 =>
some b1) else some false) fun b2 =>
some b2
theorem r__law_table_is (k : Nat) (x0 : C_Table) (wide0 : Int) (due0 : List Int) (S : Sto) (r : Bool) (h : m__law_table_is x0 wide0 due0 = some r) : (lv Tk40.P.T (k + 3)).1 12 [e_Table x0, eI wide0, (eL eI) due0] S = .ok (eB r) S := by
  unfold m__law_table_is at h
  refine fnc_ok (np := 3) (nl := 3) (env0 := [some (e_Table x0), some (eI wide0), some ((eL eI) due0)]) rfl (pures_cons (pu e_Table x0) (pures_cons (pu eI wide0) (pures_cons (pu (eL eI) due0) pures_nil))) rfl rfl ?_
  obtain ⟨b2, hb2, h⟩ := bdE h
  refine z_ret (v_andP (u := true) (v_ist (v := true) (v_loc rfl) rfl) hb2 (fun hu hm => by
   obtain ⟨b1, hb1, hm⟩ := bdE hm
   exact v_cast (v_andP (u := true) (v_call (vs_cons (v_fld (v_loc rfl) rfl rfl rfl) vs_nil) (r__law_whole (k + 1) (x0.n) _)) hb1 (fun hu hm => by
   obtain ⟨b0, hb0, hm⟩ := bdE hm
   exact v_cast (v_andP (u := (decide (x0.n = wide0))) (v_eq eI (by decide) (u := x0.n) (w := wide0) (v_fld (v_loc rfl) rfl rfl rfl) (v_loc rfl) rfl rfl) hb0 (fun hu hm => by
   obtain ⟨t0, ht0, hm⟩ := bdE hm
   exact v_cast (v_call (vs_cons (v_fld (v_loc rfl) rfl rfl rfl) (vs_cons (v_loc rfl) vs_nil)) (r__law_row_is (k + 0) (x0.bits) due0 _ t0 ht0)) (congrArg eB (Option.some.inj hm)))) (congrArg eB (Option.some.inj hm)))) (congrArg eB (Option.some.inj hm)))) ?_
  cases h
  exact zf_rt (pu eB _)
def m__law_sum_at (row0 : List Int) (a0 : Int) (odd0 : List Int) : Option Int :=
bd (rng1M (row0.length : Int)) fun xs0 =>
bd (compM (fun _ => some true) (fun x0 => bd (getM row0 x0) fun t0 =>
bd (getM odd0 (PySem.Builtin.bitAnd x0 a0)) fun t1 =>
some (PySem.Builtin.bitXor t0 t1)) xs0) fun ys0 =>
bd (mulM 2 (ys0.sum)) fun t2 =>
some ((row0.length : Int) - t2)
theorem r__law_sum_at (k : Nat) (row0 : List Int) (a0 : Int) (odd0 : List Int) (S : Sto) (r : Int) (h : m__law_sum_at row0 a0 odd0 = some r) : (lv Tk40.P.T (k + 1)).1 13 [(eL eI) row0, eI a0, (eL eI) odd0] S = .ok (eI r) S := by
  unfold m__law_sum_at at h
  refine fnc_ok (np := 3) (nl := 4) (env0 := [some ((eL eI) row0), some (eI a0), some ((eL eI) odd0), none]) rfl (pures_cons (pu (eL eI) row0) (pures_cons (pu eI a0) (pures_cons (pu (eL eI) odd0) pures_nil))) rfl rfl ?_
  obtain ⟨xs0, hxs0, h⟩ := bdE h
  obtain ⟨ys0, hys0, h⟩ := bdE h
  obtain ⟨t2, ht2, h⟩ := bdE h
  refine z_ret (v_subt (v_len (e := eI) (xs := row0) (v_loc rfl) rfl) (v_mul (v_int _) (v_sum (ns := ys0) (v_frz (va_comp (ex := eI) (ey := eI) (xs := xs0) (fun x0 => [some ((eL eI) row0), some (eI a0), some ((eL eI) odd0), some (eI x0)]) (vi_rng1 (v_len (e := eI) (xs := row0) (v_loc rfl) rfl) hxs0) hys0 (fun _ => rfl) (fun _ => rfl) (fun x0 ac b hm => v_castC vc_none (Option.some.inj hm)) (fun x0 ac y hm => by
   obtain ⟨t0, ht0, hm⟩ := bdE hm
   obtain ⟨t1, ht1, hm⟩ := bdE hm
   exact v_cast (v_bxor (v_sub (e := eI) (xs := row0) (v_loc rfl) (v_loc rfl) rfl ht0) (v_sub (e := eI) (xs := odd0) (v_loc rfl) (v_band (v_loc rfl) (v_loc rfl)) rfl ht1)) (congrArg eI (Option.some.inj hm)))) pures_nil (pures_map (e := eI) ys0)) rfl) ht2)) ?_
  cases h
  exact zf_rt (pu eI _)
def m__law_joined_l1 (one0 : List Int) (other0 : List Int) (size0 : Int) (found1 : List Int) (x0 : Int) : Option ((List Int)) :=
bd (rng1M size0) fun xs1 =>
bd (compM (fun _ => some true) (fun x1 => bd (getM one0 x1) fun t0 =>
bd (getM other0 (PySem.Builtin.bitXor x0 x1)) fun t1 =>
bd (mulM t0 t1) fun t2 =>
some t2) xs1) fun ys0 =>
bd (appM found1 (ys0.sum)) fun found2 =>
some (found2)
def m__law_joined (one0 : List Int) (other0 : List Int) : Option (List Int) :=
bd (some (one0.length : Int)) fun size0 =>
bd (some ([] : List Int)) fun found0 =>
bd (rng1M size0) fun xs0 =>
bd (forS (fun s x => m__law_joined_l1 one0 other0 size0 s x) xs0 (found0)) fun found3 =>
some found3
theorem r__law_joined (k : Nat) (one0 : List Int) (other0 : List Int) (S : Sto) (r : List Int) (h : m__law_joined one0 other0 = some r) : (lv Tk40.P.T (k + 1)).1 25 [(eL eI) one0, (eL eI) other0] S = .ok ((eL eI) r) S := by
  unfold m__law_joined at h
  refine fnc_ok (np := 2) (nl := 6) (env0 := [some ((eL eI) one0), some ((eL eI) other0), none, none, none, none]) rfl (pures_cons (pu (eL eI) one0) (pures_cons (pu (eL eI) other0) pures_nil)) rfl rfl ?_
  obtain ⟨size0, hsize0, h⟩ := bdE h
  refine z_set (e1 := [some ((eL eI) one0), some ((eL eI) other0), some (eI size0), none, none, none]) (v_cast (v_len (e := eI) (xs := one0) (v_loc rfl) rfl) (congrArg eI (Option.some.inj hsize0))) rfl ?_
  obtain ⟨found0, hfound0, h⟩ := bdE h
  refine z_new (n := 0) (e1 := [some ((eL eI) one0), some ((eL eI) other0), some (eI size0), some (.ref 0), none, none]) (S1 := [eL eI found0]) (va_cast (va_cast (va_disp vs_nil) (show _ = List.map eI ([] : List Int) from rfl)) (congrArg (List.map eI) (Option.some.inj hfound0))) rfl rfl rfl ?_
  obtain ⟨xs0, hxs0, h⟩ := bdE h
  obtain ⟨found3, hfound3, h⟩ := bdE h
  refine z_for (ex := eI) (xs := xs0) (ck := none) (E := (fun (s : (List Int)) (e : Ev.Env) => ∃ j0 j1 : J, e = [some ((eL eI) one0), some ((eL eI) other0), some (eI size0), some (.ref 0), j0.v, j1.v])) (St := (fun (s : (List Int)) => [eL eI s])) (er := eN) (Pr := fun _ _ => True) (vi_rng1 (v_loc rfl) hxs0) (forS_ok hfound3) ⟨jN, jN, rfl⟩ rfl (fun _ => rfl) ?hstep1 ?hk1
  case hstep1 =>
    intro found1 x0 f env hE h
    obtain ⟨j0, j1, rfl⟩ := hE
    rw [Option.map_eq_some_iff] at h
    obtain ⟨f, h, rfl⟩ := h
    skip
    unfold m__law_joined_l1 at h
    refine ⟨[some ((eL eI) one0), some ((eL eI) other0), some (eI size0), some (.ref 0), some (eI x0), j1.v], rfl, ?_⟩
    show Zp (FlR _ _ _ _ _) (evSs _ _ _ _ _ _ _)
    obtain ⟨xs1, hxs1, h⟩ := bdE h
    obtain ⟨ys0, hys0, h⟩ := bdE h
    obtain ⟨found2, hfound2, h⟩ := bdE h
    refine z_exp (s_app (ex := eI) (xs := found1) (y := ys0.sum) (n := 0) (S1 := [eL eI found2]) (v_loc rfl) rfl (v_sum (ns := ys0) (v_frz (va_comp (ex := eI) (ey := eI) (xs := xs1) (fun x1 => [some ((eL eI) one0), some ((eL eI) other0), some (eI size0), some (.ref 0), some (eI x0), some (eI x1)]) (vi_rng1 (v_loc rfl) hxs1) hys0 (fun _ => rfl) (fun _ => rfl) (fun x1 ac b hm => v_castC vc_none (Option.some.inj hm)) (fun x1 ac y hm => by
     obtain ⟨t0, ht0, hm⟩ := bdE hm
     obtain ⟨t1, ht1, hm⟩ := bdE hm
     obtain ⟨t2, ht2, hm⟩ := bdE hm
     exact v_cast (v_mul (v_sub (e := eI) (xs := one0) (v_loc rfl) (v_loc rfl) rfl ht0) (v_sub (e := eI) (xs := other0) (v_loc rfl) (v_bxor (v_loc rfl) (v_loc rfl)) rfl ht1) ht2) (congrArg eI (Option.some.inj hm)))) (pures_cons (pu (eL eI) found1) pures_nil) (pures_map (e := eI) ys0)) rfl) hfound2 rfl) ?_
    cases h
    exact z_nil (flr_nx ⟨jV (pu eI x0), j1, rfl⟩)
  case hk1 =>
    intro o ho
    obtain ⟨_, ⟨j2, j3, rfl⟩, rfl⟩ := ho
    show Zp _ (evSs _ _ _ _ _ _ _)
    skip
    refine z_seal (n := 0) (S0 := []) (e1 := [some ((eL eI) one0), some ((eL eI) other0), some (eI size0), some ((eL eI) found3), j2.v, j3.v]) rfl rfl rfl (by decide) (eb_cons (ob_pure (pu (eL eI) one0)) (eb_cons (ob_pure (pu (eL eI) other0)) (eb_cons (ob_pure (pu eI size0)) (eb_skip (al_cons (ob_junk j2) (al_cons (ob_junk j3) al_nil)))))) (pures_cons (pu (eL eI) found3) pures_nil) rfl ?_
    refine z_ret (v_loc rfl) ?_
    cases h
    exact zf_rt (pu (eL eI) _)
def m_sums_and_differences_l1 (step0 : Int) (found1 : List Int) (x0 : Int) : Option ((List Int)) :=
if (decide ((PySem.Builtin.bitAnd x0 step0) = 0)) = true then
bd (getM found1 x0) fun t0 =>
bd (getM found1 (x0 + step0)) fun t1 =>
bd (setM found1 x0 (t0 + t1)) fun found2 =>
bd (setM found2 (x0 + step0) (t0 - t1)) fun found3 =>
some (found3)
else
some (found1)
def m_sums_and_differences_l2 (step0 : Int) (found0 : List Int) : Option (Fl (Int × (List Int)) Unit) :=
bd (rng1M (found0.length : Int)) fun xs0 =>
bd (forS (fun s x => m_sums_and_differences_l1 step0 s x) xs0 (found0)) fun found4 =>
bd (mulM 2 step0) fun t2 =>
some (.nx (t2, found4))
def m_sums_and_differences_l2c (step0 : Int) (found0 : List Int) : Option Bool :=
some (decide (step0 < (found0.length : Int)))
def m_sums_and_differences (numbers0 : List Int) : Option (List Int) :=
bd (whlB (fun s => m_sums_and_differences_l2c s.1 s.2) (fun s => m_sums_and_differences_l2 s.1 s.2) 100000 (1, numbers0)) fun s0 =>
(match s0 with
| (step1, found5) =>
some found5)
theorem r_sums_and_differences (k : Nat) (numbers0 : List Int) (S : Sto) (r : List Int) (h : m_sums_and_differences numbers0 = some r) : (lv Tk40.P.T (k + 1)).1 36 [(eL eI) numbers0] S = .ok ((eL eI) r) S := by
  unfold m_sums_and_differences at h
  refine fnc_ok (np := 1) (nl := 6) (env0 := [some ((eL eI) numbers0), none, none, none, none, none]) rfl (pures_cons (pu (eL eI) numbers0) pures_nil) rfl rfl ?_
  refine z_new (n := 0) (e1 := [some ((eL eI) numbers0), some (.ref 0), none, none, none, none]) (S1 := [eL eI numbers0]) (va_ofs (e := eI) (xs := numbers0) (v_loc rfl) rfl) rfl rfl rfl ?_
  refine z_set (e1 := [some ((eL eI) numbers0), some (.ref 0), some (eI 1), none, none, none]) (v_int _) rfl ?_
  obtain ⟨s0, hs0, h⟩ := bdE h
  refine z_whl (E := (fun (s : Int × (List Int)) (e : Ev.Env) => ∃ j0 j1 j2 : J, e = [some ((eL eI) numbers0), some (.ref 0), some (eI s.1), j0.v, j1.v, j2.v])) (St := (fun (s : Int × (List Int)) => [eL eI s.2])) (er := eN) (Pr := fun _ _ => True) (whlB_ok hs0) ⟨jN, jN, jN, rfl⟩ rfl ?hc2 ?hstep2 ?hk2
  case hc2 =>
    intro s v env hE h
    obtain ⟨step0, found0⟩ := s
    obtain ⟨j0, j1, j2, rfl⟩ := hE
    try dsimp only at h ⊢
    unfold m_sums_and_differences_l2c at h
    exact v_cast (v_lt (v_loc rfl) (v_len (e := eI) (xs := found0) (v_loc rfl) rfl)) (congrArg eB (Option.some.inj h))
  case hstep2 =>
    intro s f env hE h
    obtain ⟨step0, found0⟩ := s
    obtain ⟨j0, j1, j2, rfl⟩ := hE
    try dsimp only at h ⊢
    unfold m_sums_and_differences_l2 at h
    show Zp (FlR _ _ _ _ _) (evSs _ _ _ _ _ _ _)
    obtain ⟨xs0, hxs0, h⟩ := bdE h
    obtain ⟨found4, hfound4, h⟩ := bdE h
    refine z_for (ex := eI) (xs := xs0) (ck := none) (E := (fun (s : (List Int)) (e : Ev.Env) => ∃ j3 j4 j5 : J, e = [some ((eL eI) numbers0), some (.ref 0), some (eI step0), j3.v, j4.v, j5.v])) (St := (fun (s : (List Int)) => [eL eI s])) (er := eN) (Pr := fun _ _ => True) (vi_rng1 (v_len (e := eI) (xs := found0) (v_loc rfl) rfl) hxs0) (forS_ok hfound4) ⟨j0, j1, j2, rfl⟩ rfl (fun _ => rfl) ?hstep1 ?hk1
    case hstep1 =>
      intro found1 x0 f env hE h
      obtain ⟨j3, j4, j5, rfl⟩ := hE
      rw [Option.map_eq_some_iff] at h
      obtain ⟨f, h, rfl⟩ := h
      skip
      unfold m_sums_and_differences_l1 at h
      refine ⟨[some ((eL eI) numbers0), some (.ref 0), some (eI step0), some (eI x0), j4.v, j5.v], rfl, ?_⟩
      show Zp (FlR _ _ _ _ _) (evSs _ _ _ _ _ _ _)
      refine z_ifs (u := (decide ((PySem.Builtin.bitAnd x0 step0) = 0))) (v_eq eI (by decide) (u := (PySem.Builtin.bitAnd x0 step0)) (w := 0) (v_band (v_loc rfl) (v_loc rfl)) (v_int _) rfl rfl) (fun hu => ?_) (fun hu => ?_)
      · rw [if_pos hu] at h
        obtain ⟨t0, ht0, h⟩ := bdE h
        refine z_set (e1 := [some ((eL eI) numbers0), some (.ref 0), some (eI step0), some (eI x0), some (eI t0), j5.v]) (v_sub (e := eI) (xs := found1) (v_loc rfl) (v_loc rfl) rfl ht0) rfl ?_
        obtain ⟨t1, ht1, h⟩ := bdE h
        refine z_set (e1 := [some ((eL eI) numbers0), some (.ref 0), some (eI step0), some (eI x0), some (eI t0), some (eI t1)]) (v_sub (e := eI) (xs := found1) (v_loc rfl) (v_add (v_loc rfl) (v_loc rfl)) rfl ht1) rfl ?_
        obtain ⟨found2, hfound2, h⟩ := bdE h
        refine z_sets (ex := eI) (xs := found1) (y := (t0 + t1)) (n := 0) (S1 := [eL eI found2]) (v_add (v_loc rfl) (v_loc rfl)) (v_loc rfl) (v_loc rfl) rfl hfound2 rfl ?_
        obtain ⟨found3, hfound3, h⟩ := bdE h
        refine z_sets (ex := eI) (xs := found2) (y := (t0 - t1)) (n := 0) (S1 := [eL eI found3]) (v_subt (v_loc rfl) (v_loc rfl)) (v_loc rfl) (v_add (v_loc rfl) (v_loc rfl)) rfl hfound3 rfl ?_
        refine z_thn ?_
        cases h
        exact z_nil (flr_nx ⟨jV (pu eI x0), jV (pu eI t0), jV (pu eI t1), rfl⟩)
      · rw [if_neg (by rw [hu]; decide)] at h
        refine z_thn ?_
        cases h
        exact z_nil (flr_nx ⟨jV (pu eI x0), j4, j5, rfl⟩)
    case hk1 =>
      intro o ho
      obtain ⟨_, ⟨j6, j7, j8, rfl⟩, rfl⟩ := ho
      show Zp _ (evSs _ _ _ _ _ _ _)
      skip
      obtain ⟨t2, ht2, h⟩ := bdE h
      refine z_set (e1 := [some ((eL eI) numbers0), some (.ref 0), some (eI t2), j6.v, j7.v, j8.v]) (v_mul (v_int _) (v_loc rfl) ht2) rfl ?_
      cases h
      exact z_nil (flr_nx ⟨j6, j7, j8, rfl⟩)
  case hk2 =>
    intro o ho
    obtain ⟨_, ⟨j9, j10, j11, rfl⟩, rfl⟩ := ho
    obtain ⟨step1, found5⟩ := s0
    show Zp _ (evSs _ _ _ _ _ _ _)
    try dsimp only at h
    refine z_seal (n := 0) (S0 := []) (e1 := [some ((eL eI) numbers0), some ((eL eI) found5), some (eI step1), j9.v, j10.v, j11.v]) rfl rfl rfl (by decide) (eb_cons (ob_pure (pu (eL eI) numbers0)) (eb_skip (al_cons (ob_pure (pu eI step1)) (al_cons (ob_junk j9) (al_cons (ob_junk j10) (al_cons (ob_junk j11) al_nil)))))) (pures_cons (pu (eL eI) found5) pures_nil) rfl ?_
    refine z_ret (v_loc rfl) ?_
    cases h
    exact zf_rt (pu (eL eI) _)
def m_signed_sums (table0 : C_Table) : Option (List Int) :=
bd (compM (fun _ => some true) (fun x0 => bd (mulM 2 x0) fun t0 =>
some (1 - t0)) (table0.bits)) fun ys0 =>
bd (m_sums_and_differences ys0) fun t1 =>
some t1
theorem r_signed_sums (k : Nat) (table0 : C_Table) (S : Sto) (r : List Int) (h : m_signed_sums table0 = some r) : (lv Tk40.P.T (k + 2)).1 17 [e_Table table0] S = .ok ((eT eI) r) S := by
  unfold m_signed_sums at h
  refine fnc_ok (np := 1) (nl := 2) (env0 := [some (e_Table table0), none]) rfl (pures_cons (pu e_Table table0) pures_nil) rfl rfl ?_
  obtain ⟨ys0, hys0, h⟩ := bdE h
  obtain ⟨t1, ht1, h⟩ := bdE h
  refine z_ret (v_tupL (v_call (vs_cons (v_frz (va_comp (ex := eI) (ey := eI) (xs := (table0.bits)) (fun x0 => [some (e_Table table0), some (eI x0)]) (vi_val (e := eI) (xs := table0.bits) (ck := none) (v_fld (v_loc rfl) rfl rfl rfl) rfl) hys0 (fun _ => rfl) (fun _ => rfl) (fun x0 ac b hm => v_castC vc_none (Option.some.inj hm)) (fun x0 ac y hm => by
   obtain ⟨t0, ht0, hm⟩ := bdE hm
   exact v_cast (v_subt (v_int _) (v_mul (v_int _) (v_loc rfl) ht0)) (congrArg eI (Option.some.inj hm)))) pures_nil (pures_map (e := eI) ys0)) vs_nil) (r_sums_and_differences (k + 0) ys0 _ t1 ht1)) rfl) ?_
  cases h
  exact zf_rt (pu (eT eI) _)
def m_greatest_of (numbers0 : List Int) : Option Int :=
bd (compM (fun _ => some true) (fun x0 => some x0) numbers0) fun ys0 =>
bd (maxM ys0) fun t0 =>
some t0
theorem r_greatest_of (k : Nat) (numbers0 : List Int) (S : Sto) (r : Int) (h : m_greatest_of numbers0 = some r) : (lv Tk40.P.T (k + 1)).1 38 [(eT eI) numbers0] S = .ok (eI r) S := by
  unfold m_greatest_of at h
  refine fnc_ok (np := 1) (nl := 2) (env0 := [some ((eT eI) numbers0), none]) rfl (pures_cons (pu (eT eI) numbers0) pures_nil) rfl rfl ?_
  obtain ⟨ys0, hys0, h⟩ := bdE h
  obtain ⟨t0, ht0, h⟩ := bdE h
  refine z_ret (v_genMax (ex := eI) (xs := numbers0) (fun x0 => [some ((eT eI) numbers0), some (eI x0)]) (vi_val (e := eI) (xs := numbers0) (ck := none) (v_loc rfl) rfl) hys0 ht0 rfl (fun _ => rfl) (fun x0 b hm => v_castC vc_none (Option.some.inj hm)) (fun x0 y hm => by
   skip
   exact v_cast (v_intI (v_loc rfl)) (congrArg eI (Option.some.inj hm)))) ?_
  cases h
  exact zf_rt (pu eI _)
def m_least_distance (table0 : C_Table) : Option Int :=
bd (m_signed_sums table0) fun t0 =>
bd (m_greatest_of t0) fun t1 =>
some ((((table0.bits).length : Int) - t1) / 2)
theorem r_least_distance (k : Nat) (table0 : C_Table) (S : Sto) (r : Int) (h : m_least_distance table0 = some r) : (lv Tk40.P.T (k + 3)).1 26 [e_Table table0] S = .ok (eI r) S := by
  unfold m_least_distance at h
  refine fnc_ok (np := 1) (nl := 1) (env0 := [some (e_Table table0)]) rfl (pures_cons (pu e_Table table0) pures_nil) rfl rfl ?_
  obtain ⟨t0, ht0, h⟩ := bdE h
  obtain ⟨t1, ht1, h⟩ := bdE h
  refine z_ret (v_fdivc (v_subt (v_len (e := eI) (xs := table0.bits) (v_fld (v_loc rfl) rfl rfl rfl) rfl) (v_call (vs_cons (v_call (vs_cons (v_loc rfl) vs_nil) (r_signed_sums (k + 0) table0 _ t0 ht0)) vs_nil) (r_greatest_of (k + 1) t0 _ t1 ht1))) (v_int _) (by decide)) ?_
  cases h
  exact zf_rt (pu eI _)
def m__law_word (number0 : Int) (wide0 : Int) : Option (List Int) :=
bd (rng1M wide0) fun xs0 =>
bd (compM (fun _ => some true) (fun x0 => bd (shrM number0 ((wide0 - 1) - x0)) fun t0 =>
some (t0 % 2)) xs0) fun ys0 =>
some ys0
theorem r__law_word (k : Nat) (number0 : Int) (wide0 : Int) (S : Sto) (r : List Int) (h : m__law_word number0 wide0 = some r) : (lv Tk40.P.T (k + 1)).1 27 [eI number0, eI wide0] S = .ok ((eT eI) r) S := by
  unfold m__law_word at h
  refine fnc_ok (np := 2) (nl := 3) (env0 := [some (eI number0), some (eI wide0), none]) rfl (pures_cons (pu eI number0) (pures_cons (pu eI wide0) pures_nil)) rfl rfl ?_
  obtain ⟨xs0, hxs0, h⟩ := bdE h
  obtain ⟨ys0, hys0, h⟩ := bdE h
  refine z_ret (v_tupL (v_frz (va_comp (ex := eI) (ey := eI) (xs := xs0) (fun x0 => [some (eI number0), some (eI wide0), some (eI x0)]) (vi_rng1 (v_loc rfl) hxs0) hys0 (fun _ => rfl) (fun _ => rfl) (fun x0 ac b hm => v_castC vc_none (Option.some.inj hm)) (fun x0 ac y hm => by
   obtain ⟨t0, ht0, hm⟩ := bdE hm
   exact v_cast (v_modc (v_shr (v_loc rfl) (v_subt (v_subt (v_loc rfl) (v_int _)) (v_loc rfl)) ht0) (v_int _) (by decide)) (congrArg eI (Option.some.inj hm)))) pures_nil (pures_map (e := eI) ys0)) rfl) ?_
  cases h
  exact zf_rt (pu (eT eI) _)
def m_word_at (n0 : Int) (number0 : Int) : Option (List Int) :=
bd (rng1M n0) fun xs0 =>
bd (compM (fun _ => some true) (fun x0 => bd (shrM number0 ((n0 - 1) - x0)) fun t0 =>
some (PySem.Builtin.bitAnd t0 1)) xs0) fun ys0 =>
some ys0
theorem r_word_at (k : Nat) (n0 : Int) (number0 : Int) (S : Sto) (r : List Int) (h : m_word_at n0 number0 = some r) : (lv Tk40.P.T (k + 1)).1 39 [eI n0, eI number0] S = .ok ((eT eI) r) S := by
  unfold m_word_at at h
  refine fnc_ok (np := 2) (nl := 3) (env0 := [some (eI n0), some (eI number0), none]) rfl (pures_cons (pu eI n0) (pures_cons (pu eI number0) pures_nil)) rfl rfl ?_
  obtain ⟨xs0, hxs0, h⟩ := bdE h
  obtain ⟨ys0, hys0, h⟩ := bdE h
  refine z_ret (v_genTup (ex := eI) (ey := eI) (xs := xs0) (fun x0 => [some (eI n0), some (eI number0), some (eI x0)]) (vi_rng1 (v_loc rfl) hxs0) hys0 rfl (fun _ => rfl) (fun x0 b hm => v_castC vc_none (Option.some.inj hm)) (fun x0 y hm => by
   obtain ⟨t0, ht0, hm⟩ := bdE hm
   exact v_cast (v_band (v_shr (v_loc rfl) (v_subt (v_subt (v_loc rfl) (v_int _)) (v_loc rfl)) ht0) (v_int _)) (congrArg eI (Option.some.inj hm)))) ?_
  cases h
  exact zf_rt (pu (eT eI) _)
def m_nearest_sums (table0 : C_Table) : Option (List (List Int)) :=
bd (m_signed_sums table0) fun t0 =>
bd (m_greatest_of t0) fun t1 =>
bd (rng1M (t0.length : Int)) fun xs0 =>
bd (compM (fun x0 => bd (getM t0 x0) fun t2 =>
some (decide (t2 = t1))) (fun x0 => bd (m_word_at (table0.n) x0) fun t3 =>
some t3) xs0) fun ys0 =>
some ys0
theorem r_nearest_sums (k : Nat) (table0 : C_Table) (S : Sto) (r : List (List Int)) (h : m_nearest_sums table0 = some r) : (lv Tk40.P.T (k + 3)).1 29 [e_Table table0] S = .ok ((eT (eT eI)) r) S := by
  unfold m_nearest_sums at h
  refine fnc_ok (np := 1) (nl := 4) (env0 := [some (e_Table table0), none, none, none]) rfl (pures_cons (pu e_Table table0) pures_nil) rfl rfl ?_
  obtain ⟨t0, ht0, h⟩ := bdE h
  refine z_set (e1 := [some (e_Table table0), some ((eT eI) t0), none, none]) (v_call (vs_cons (v_loc rfl) vs_nil) (r_signed_sums (k + 0) table0 _ t0 ht0)) rfl ?_
  obtain ⟨t1, ht1, h⟩ := bdE h
  refine z_set (e1 := [some (e_Table table0), some ((eT eI) t0), some (eI t1), none]) (v_call (vs_cons (v_loc rfl) vs_nil) (r_greatest_of (k + 1) t0 _ t1 ht1)) rfl ?_
  obtain ⟨xs0, hxs0, h⟩ := bdE h
  obtain ⟨ys0, hys0, h⟩ := bdE h
  refine z_ret (v_genTup (ex := eI) (ey := (eT eI)) (xs := xs0) (fun x0 => [some (e_Table table0), some ((eT eI) t0), some (eI t1), some (eI x0)]) (vi_rng1 (v_len (e := eI) (xs := t0) (v_loc rfl) rfl) hxs0) hys0 rfl (fun _ => rfl) (fun x0 b hm => by
   obtain ⟨t2, ht2, hm⟩ := bdE hm
   exact v_castC (vc_some (v_eq eI (by decide) (u := t2) (w := t1) (v_sub (e := eI) (xs := t0) (v_loc rfl) (v_loc rfl) rfl ht2) (v_loc rfl) rfl rfl)) (Option.some.inj hm)) (fun x0 y hm => by
   obtain ⟨t3, ht3, hm⟩ := bdE hm
   exact v_cast (v_call (vs_cons (v_fld (v_loc rfl) rfl rfl rfl) (vs_cons (v_loc rfl) vs_nil)) (r_word_at (k + 1) (table0.n) x0 _ t3 ht3)) (congrArg (eT eI) (Option.some.inj hm)))) ?_
  cases h
  exact zf_rt (pu (eT (eT eI)) _)
theorem r__law_row_is' (k : Nat) (x0 : List Int) (due0 : List Int) (S : Sto) (r : Bool) (h : m__law_row_is x0 due0 = some r) : (lv Tk40.P.T (k + 2)).1 16 [(eT eI) x0, (eT eI) due0] S = .ok (eB r) S := by
  unfold m__law_row_is at h
  refine fnc_ok (np := 2) (nl := 3) (env0 := [some ((eT eI) x0), some ((eT eI) due0), none]) rfl (pures_cons (pu (eT eI) x0) (pures_cons (pu (eT eI) due0) pures_nil)) rfl rfl ?_
  refine z_ifs (u := (!decide ((x0.length : Int) = (due0.length : Int)))) (v_or (u := false) (v := (!decide ((x0.length : Int) = (due0.length : Int)))) (v_not (u := true) (v_ist (v := true) (v_loc rfl) rfl)) (fun _ => (v_ne eI (by decide) (u := (x0.length : Int)) (w := (due0.length : Int)) (v_len (e := eI) (xs := x0) (v_loc rfl) rfl) (v_len (e := eI) (xs := due0) (v_loc rfl) rfl) rfl rfl))) (fun hu => ?_) (fun hu => ?_)
  · rw [if_pos hu] at h
    refine z_ret (v_bl _) ?_
    cases h
    exact zf_rt (pu eB _)
  · rw [if_neg (by rw [hu]; decide)] at h
    refine z_thn ?_
    obtain ⟨xs0, hxs0, h⟩ := bdE h
    obtain ⟨ys0, hys0, h⟩ := bdE h
    refine z_ret (v_all (bs := ys0) (v_frz (va_comp (ex := eI) (ey := eB) (xs := xs0) (fun x1 => [some ((eT eI) x0), some ((eT eI) due0), some (eI x1)]) (vi_rng1 (v_len (e := eI) (xs := due0) (v_loc rfl) rfl) hxs0) hys0 (fun _ => rfl) (fun _ => rfl) (fun x1 ac b hm => v_castC vc_none (Option.some.inj hm)) (fun x1 ac y hm => by
     obtain ⟨t0, ht0, hm⟩ := bdE hm
     obtain ⟨b0, hb0, hm⟩ := bdE hm
     exact v_cast (v_andP (u := true) (v_call (vs_cons (v_sub (e := eI) (xs := x0) (v_loc rfl) (v_loc rfl) rfl ht0) vs_nil) (r__law_whole (k + 0) t0 _)) hb0 (fun hu hm => by
     obtain ⟨t1, ht1, hm⟩ := bdE hm
     obtain ⟨t2, ht2, hm⟩ := bdE hm
     exact v_cast (v_eq eI (by decide) (u := t1) (w := t2) (v_sub (e := eI) (xs := x0) (v_loc rfl) (v_loc rfl) rfl ht1) (v_sub (e := eI) (xs := due0) (v_loc rfl) (v_loc rfl) rfl ht2) rfl rfl) (congrArg eB (Option.some.inj hm)))) (congrArg eB (Option.some.inj hm)))) pures_nil (pures_map (e := eB) ys0)) rfl) ?_
    cases h
    exact zf_rt (pu eB _)
def m__law_rows_are (x0 : List (List Int)) (due0 : List (List Int)) : Option Bool :=
if (!decide ((x0.length : Int) = (due0.length : Int))) = true then
some false
else
bd (rng1M (due0.length : Int)) fun xs0 =>
bd (compM (fun _ => some true) (fun x1 => bd (getM x0 x1) fun t0 =>
bd (getM due0 x1) fun t1 =>
bd (m__law_row_is t0 t1) fun t2 =>
some t2) xs0) fun ys0 =>
some (ys0.all id)
theorem r__law_rows_are (k : Nat) (x0 : List (List Int)) (due0 : List (List Int)) (S : Sto) (r : Bool) (h : m__law_rows_are x0 due0 = some r) : (lv Tk40.P.T (k + 3)).1 28 [(eT (eT eI)) x0, (eL (eT eI)) due0] S = .ok (eB r) S := by
  unfold m__law_rows_are at h
  refine fnc_ok (np := 2) (nl := 3) (env0 := [some ((eT (eT eI)) x0), some ((eL (eT eI)) due0), none]) rfl (pures_cons (pu (eT (eT eI)) x0) (pures_cons (pu (eL (eT eI)) due0) pures_nil)) rfl rfl ?_
  refine z_ifs (u := (!decide ((x0.length : Int) = (due0.length : Int)))) (v_or (u := false) (v := (!decide ((x0.length : Int) = (due0.length : Int)))) (v_not (u := true) (v_ist (v := true) (v_loc rfl) rfl)) (fun _ => (v_ne eI (by decide) (u := (x0.length : Int)) (w := (due0.length : Int)) (v_len (e := (eT eI)) (xs := x0) (v_loc rfl) rfl) (v_len (e := (eT eI)) (xs := due0) (v_loc rfl) rfl) rfl rfl))) (fun hu => ?_) (fun hu => ?_)
  · rw [if_pos hu] at h
    refine z_ret (v_bl _) ?_
    cases h
    exact zf_rt (pu eB _)
  · rw [if_neg (by rw [hu]; decide)] at h
    refine z_thn ?_
    obtain ⟨xs0, hxs0, h⟩ := bdE h
    obtain ⟨ys0, hys0, h⟩ := bdE h
    refine z_ret (v_all (bs := ys0) (v_frz (va_comp (ex := eI) (ey := eB) (xs := xs0) (fun x1 => [some ((eT (eT eI)) x0), some ((eL (eT eI)) due0), some (eI x1)]) (vi_rng1 (v_len (e := (eT eI)) (xs := due0) (v_loc rfl) rfl) hxs0) hys0 (fun _ => rfl) (fun _ => rfl) (fun x1 ac b hm => v_castC vc_none (Option.some.inj hm)) (fun x1 ac y hm => by
     obtain ⟨t0, ht0, hm⟩ := bdE hm
     obtain ⟨t1, ht1, hm⟩ := bdE hm
     obtain ⟨t2, ht2, hm⟩ := bdE hm
     exact v_cast (v_call (vs_cons (v_sub (e := (eT eI)) (xs := x0) (v_loc rfl) (v_loc rfl) rfl ht0) (vs_cons (v_sub (e := (eT eI)) (xs := due0) (v_loc rfl) (v_loc rfl) rfl ht1) vs_nil)) (r__law_row_is' (k + 0) t0 t1 _ t2 ht2)) (congrArg eB (Option.some.inj hm)))) pures_nil (pures_map (e := eB) ys0)) rfl) ?_
    cases h
    exact zf_rt (pu eB _)
def m_table_from (n0 : Int) (numbers0 : List Int) : Option C_Table :=
if (!(m_is_between n0 1 10)) = true then
none
else
bd (shlM 1 n0) fun t0 =>
if (!decide ((numbers0.length : Int) = t0)) = true then
none
else
bd (compM (fun _ => some true) (fun x0 => some true) numbers0) fun ys0 =>
if (!(ys0.all id)) = true then
none
else
bd (m_sums_and_differences numbers0) fun t1 =>
bd (compM (fun _ => some true) (fun x1 => some ((decide (x1 = t0)) || (decide (x1 = (-t0))))) t1) fun ys1 =>
if (!(ys1.all id)) = true then
none
else
bd (compM (fun _ => some true) (fun x2 => some (if (decide (x2 < 0)) = true then 1 else 0)) t1) fun ys2 =>
bd (m_Table___init__ n0 ys2) fun t2 =>
some t2
theorem r_table_from (k : Nat) (n0 : Int) (numbers0 : List Int) (S : Sto) (r : C_Table) (h : m_table_from n0 numbers0 = some r) : (lv Tk40.P.T (k + 5)).1 40 [eI n0, (eL eI) numbers0] S = .ok (e_Table r) S := by
  unfold m_table_from at h
  refine fnc_ok (np := 2) (nl := 6) (env0 := [some (eI n0), some ((eL eI) numbers0), none, none, none, none]) rfl (pures_cons (pu eI n0) (pures_cons (pu (eL eI) numbers0) pures_nil)) rfl rfl ?_
  refine z_ifs (u := (!(m_is_between n0 1 10))) (v_not (u := (m_is_between n0 1 10)) (v_call (vs_cons (v_loc rfl) (vs_cons (v_int _) (vs_cons (v_kint _ _) vs_nil))) (r_is_between (k + 2) n0 1 10 _))) (fun hu => ?_) (fun hu => ?_)
  · rw [if_pos hu] at h
    cases h
  · rw [if_neg (by rw [hu]; decide)] at h
    refine z_thn ?_
    obtain ⟨t0, ht0, h⟩ := bdE h
    refine z_set (e1 := [some (eI n0), some ((eL eI) numbers0), some (eI t0), none, none, none]) (v_shl (v_int _) (v_loc rfl) ht0) rfl ?_
    refine z_ifs (u := (!decide ((numbers0.length : Int) = t0))) (v_or (u := false) (v := (!decide ((numbers0.length : Int) = t0))) (v_not (u := true) (v_ist (v := true) (v_loc rfl) rfl)) (fun _ => (v_ne eI (by decide) (u := (numbers0.length : Int)) (w := t0) (v_len (e := eI) (xs := numbers0) (v_loc rfl) rfl) (v_loc rfl) rfl rfl))) (fun hu => ?_) (fun hu => ?_)
    · rw [if_pos hu] at h
      cases h
    · rw [if_neg (by rw [hu]; decide)] at h
      refine z_thn ?_
      obtain ⟨ys0, hys0, h⟩ := bdE h
      refine z_ifs (u := (!(ys0.all id))) (v_not (u := (ys0.all id)) (v_genAll (ex := eI) (xs := numbers0) (fun x0 => [some (eI n0), some ((eL eI) numbers0), some (eI t0), none, none, some (eI x0)]) (vi_val (e := eI) (xs := numbers0) (ck := none) (v_loc rfl) rfl) hys0 rfl (fun _ => rfl) (fun x0 b hm => v_castC vc_none (Option.some.inj hm)) (fun x0 y hm => by
       skip
       exact v_cast (v_call (vs_cons (v_loc rfl) vs_nil) (r_is_integer (k + 3) x0 _)) (congrArg eB (Option.some.inj hm))))) (fun hu => ?_) (fun hu => ?_)
      · rw [if_pos hu] at h
        cases h
      · rw [if_neg (by rw [hu]; decide)] at h
        refine z_thn ?_
        obtain ⟨t1, ht1, h⟩ := bdE h
        refine z_set (e1 := [some (eI n0), some ((eL eI) numbers0), some (eI t0), some ((eL eI) t1), none, none]) (v_call (vs_cons (v_loc rfl) vs_nil) (r_sums_and_differences (k + 3) numbers0 _ t1 ht1)) rfl ?_
        obtain ⟨ys1, hys1, h⟩ := bdE h
        refine z_ifs (u := (!(ys1.all id))) (v_not (u := (ys1.all id)) (v_genAll (ex := eI) (xs := t1) (fun x1 => [some (eI n0), some ((eL eI) numbers0), some (eI t0), some ((eL eI) t1), some (eI x1), none]) (vi_val (e := eI) (xs := t1) (ck := none) (v_loc rfl) rfl) hys1 rfl (fun _ => rfl) (fun x1 b hm => v_castC vc_none (Option.some.inj hm)) (fun x1 y hm => by
         skip
         exact v_cast (v_or (u := (decide (x1 = t0))) (v := (decide (x1 = (-t0)))) (v_eq eI (by decide) (u := x1) (w := t0) (v_loc rfl) (v_loc rfl) rfl rfl) (fun _ => (v_eq eI (by decide) (u := x1) (w := (-t0)) (v_loc rfl) (v_neg (v_loc rfl)) rfl rfl))) (congrArg eB (Option.some.inj hm))))) (fun hu => ?_) (fun hu => ?_)
        · rw [if_pos hu] at h
          cases h
        · rw [if_neg (by rw [hu]; decide)] at h
          refine z_thn ?_
          obtain ⟨ys2, hys2, h⟩ := bdE h
          obtain ⟨t2, ht2, h⟩ := bdE h
          refine z_ret (v_mk (vs_cons (v_loc rfl) (vs_cons (v_frz (va_comp (ex := eI) (ey := eI) (xs := t1) (fun x2 => [some (eI n0), some ((eL eI) numbers0), some (eI t0), some ((eL eI) t1), some (eI x2), none]) (vi_val (e := eI) (xs := t1) (ck := none) (v_loc rfl) rfl) hys2 (fun _ => rfl) (fun _ => rfl) (fun x2 ac b hm => v_castC vc_none (Option.some.inj hm)) (fun x2 ac y hm => by
           skip
           exact v_cast (v_intB (v_lt (v_loc rfl) (v_int _))) (congrArg eI (Option.some.inj hm)))) pures_nil (pures_map (e := eI) ys2)) vs_nil)) (r_Table___init__ (k + 0) n0 ys2 _ t2 ht2)) ?_
          cases h
          exact zf_rt (pu e_Table _)
def m_table_from_x (n0 : Int) (numbers0 : List Int) : Option PySem.Str :=
if (!(m_is_between n0 1 10)) = true then
none
else
bd (shlM 1 n0) fun t0 =>
if (!decide ((numbers0.length : Int) = t0)) = true then
some ("table")
else
bd (compM (fun _ => some true) (fun x0 => some true) numbers0) fun ys0 =>
if (!(ys0.all id)) = true then
some ("table")
else
bd (m_sums_and_differences numbers0) fun t1 =>
bd (compM (fun _ => some true) (fun x1 => some ((decide (x1 = t0)) || (decide (x1 = (-t0))))) t1) fun ys1 =>
if (!(ys1.all id)) = true then
some ("table")
else
none
theorem r_table_from_x (k : Nat) (n0 : Int) (numbers0 : List Int) (S : Sto) (r : PySem.Str) (h : m_table_from_x n0 numbers0 = some r) : (lv Tk40.P.T (k + 3)).1 40 [eI n0, (eL eI) numbers0] S = .err 2 [11] [eS r] S := by
  unfold m_table_from_x at h
  refine fnx_ok (np := 2) (nl := 6) (env0 := [some (eI n0), some ((eL eI) numbers0), none, none, none, none]) rfl (pures_cons (pu eI n0) (pures_cons (pu (eL eI) numbers0) pures_nil)) rfl rfl (pu eS _) ?_
  refine z_ifs (u := (!(m_is_between n0 1 10))) (v_not (u := (m_is_between n0 1 10)) (v_call (vs_cons (v_loc rfl) (vs_cons (v_int _) (vs_cons (v_kint _ _) vs_nil))) (r_is_between (k + 0) n0 1 10 _))) (fun hu => ?_) (fun hu => ?_)
  · rw [if_pos hu] at h
    cases h
  · rw [if_neg (by rw [hu]; decide)] at h
    refine z_thn ?_
    obtain ⟨t0, ht0, h⟩ := bdE h
    refine z_set (e1 := [some (eI n0), some ((eL eI) numbers0), some (eI t0), none, none, none]) (v_shl (v_int _) (v_loc rfl) ht0) rfl ?_
    refine z_ifs (u := (!decide ((numbers0.length : Int) = t0))) (v_or (u := false) (v := (!decide ((numbers0.length : Int) = t0))) (v_not (u := true) (v_ist (v := true) (v_loc rfl) rfl)) (fun _ => (v_ne eI (by decide) (u := (numbers0.length : Int)) (w := t0) (v_len (e := eI) (xs := numbers0) (v_loc rfl) rfl) (v_loc rfl) rfl rfl))) (fun hu => ?_) (fun hu => ?_)
    · rw [if_pos hu] at h
      refine z_rais (v_str _) rfl ?_
      cases h
      exact ⟨_, _, rfl⟩
    · rw [if_neg (by rw [hu]; decide)] at h
      refine z_thn ?_
      obtain ⟨ys0, hys0, h⟩ := bdE h
      refine z_ifs (u := (!(ys0.all id))) (v_not (u := (ys0.all id)) (v_genAll (ex := eI) (xs := numbers0) (fun x0 => [some (eI n0), some ((eL eI) numbers0), some (eI t0), none, none, some (eI x0)]) (vi_val (e := eI) (xs := numbers0) (ck := none) (v_loc rfl) rfl) hys0 rfl (fun _ => rfl) (fun x0 b hm => v_castC vc_none (Option.some.inj hm)) (fun x0 y hm => by
       skip
       exact v_cast (v_call (vs_cons (v_loc rfl) vs_nil) (r_is_integer (k + 1) x0 _)) (congrArg eB (Option.some.inj hm))))) (fun hu => ?_) (fun hu => ?_)
      · rw [if_pos hu] at h
        refine z_rais (v_str _) rfl ?_
        cases h
        exact ⟨_, _, rfl⟩
      · rw [if_neg (by rw [hu]; decide)] at h
        refine z_thn ?_
        obtain ⟨t1, ht1, h⟩ := bdE h
        refine z_set (e1 := [some (eI n0), some ((eL eI) numbers0), some (eI t0), some ((eL eI) t1), none, none]) (v_call (vs_cons (v_loc rfl) vs_nil) (r_sums_and_differences (k + 1) numbers0 _ t1 ht1)) rfl ?_
        obtain ⟨ys1, hys1, h⟩ := bdE h
        refine z_ifs (u := (!(ys1.all id))) (v_not (u := (ys1.all id)) (v_genAll (ex := eI) (xs := t1) (fun x1 => [some (eI n0), some ((eL eI) numbers0), some (eI t0), some ((eL eI) t1), some (eI x1), none]) (vi_val (e := eI) (xs := t1) (ck := none) (v_loc rfl) rfl) hys1 rfl (fun _ => rfl) (fun x1 b hm => v_castC vc_none (Option.some.inj hm)) (fun x1 y hm => by
         skip
         exact v_cast (v_or (u := (decide (x1 = t0))) (v := (decide (x1 = (-t0)))) (v_eq eI (by decide) (u := x1) (w := t0) (v_loc rfl) (v_loc rfl) rfl rfl) (fun _ => (v_eq eI (by decide) (u := x1) (w := (-t0)) (v_loc rfl) (v_neg (v_loc rfl)) rfl rfl))) (congrArg eB (Option.some.inj hm))))) (fun hu => ?_) (fun hu => ?_)
        · rw [if_pos hu] at h
          refine z_rais (v_str _) rfl ?_
          cases h
          exact ⟨_, _, rfl⟩
        · rw [if_neg (by rw [hu]; decide)] at h
          refine z_thn ?_
          cases h
def m__law_told (wide0 : Int) (numbers0 : List Int) : Option (C_Table ⊕ PySem.Str) :=
optM (m_table_from wide0 numbers0) (fun table0 =>
some (Sum.inl table0 : C_Table ⊕ PySem.Str)) (bd (m_table_from_x wide0 numbers0) fun v0 => some (Sum.inr v0 : C_Table ⊕ PySem.Str))
theorem r__law_told (k : Nat) (wide0 : Int) (numbers0 : List Int) (S : Sto) (r : C_Table ⊕ PySem.Str) (h : m__law_told wide0 numbers0 = some r) : (lv Tk40.P.T (k + 6)).1 30 [eI wide0, (eL eI) numbers0] S = .ok ((eW e_Table eS) r) S := by
  unfold m__law_told at h
  refine fnc_ok (np := 2) (nl := 4) (env0 := [some (eI wide0), some ((eL eI) numbers0), none, none]) rfl (pures_cons (pu eI wide0) (pures_cons (pu (eL eI) numbers0) pures_nil)) rfl rfl ?_
  cases htable0 : m_table_from wide0 numbers0 with
  | some table0 =>
    rw [optM_some htable0] at h
    refine z_tryn (e1 := [some (eI wide0), some ((eL eI) numbers0), none, some (e_Table table0)]) (S1 := []) (z_set (e1 := [some (eI wide0), some ((eL eI) numbers0), none, some (e_Table table0)]) (v_call (vs_cons (v_loc rfl) (vs_cons (v_loc rfl) vs_nil)) (r_table_from (k + 0) wide0 numbers0 _ table0 htable0)) rfl (z_nil rfl)) ?_
    refine z_ret (v_tup (vs_cons (v_int _) (vs_cons (v_loc rfl) vs_nil))) ?_
    cases h
    exact zf_rt (pu (eW e_Table eS) _)
  | none =>
    rw [optM_none htable0] at h
    obtain ⟨v0, hv0, h⟩ := bdE h
    refine z_tryx (d := (eW e_Table eS) (Sum.inr v0 : C_Table ⊕ PySem.Str)) (x_set (x_call (vs_cons (v_loc rfl) (vs_cons (v_loc rfl) vs_nil)) (r_table_from_x (k + 2) wide0 numbers0 _ v0 hv0))) rfl (Nat.le_of_ble_eq_true rfl) rfl ?_
    cases h
    exact zf_rt (pu (eW e_Table eS) _)
def m_Table___eq__ (self0 : C_Table) (other0 : C_Table) : Bool := ((decide (self0.n = other0.n)) && (decide (self0.bits = other0.bits)))
theorem r_Table___eq__ (k : Nat) (self0 : C_Table) (other0 : C_Table) (S : Sto) : (lv Tk40.P.T (k + 1)).1 2 [e_Table self0, e_Table other0] S = .ok (eB (m_Table___eq__ self0 other0)) S := by
  refine fnc_ok (np := 2) (nl := 2) (env0 := [some (e_Table self0), some (e_Table other0)]) rfl (pures_cons (pu e_Table self0) (pures_cons (pu e_Table other0) pures_nil)) rfl rfl ?_
  refine z_ret (v_and (u := true) (v := ((decide (self0.n = other0.n)) && (decide (self0.bits = other0.bits)))) (v_ist (v := true) (v_loc rfl) rfl) (fun _ => (v_and (u := (decide (self0.n = other0.n))) (v := (decide (self0.bits = other0.bits))) (v_eq eI (by decide) (u := self0.n) (w := other0.n) (v_fld (v_loc rfl) rfl rfl rfl) (v_fld (v_loc rfl) rfl rfl rfl) rfl rfl) (fun _ => (v_eq (eT eI) (by decide) (u := self0.bits) (w := other0.bits) (v_fld (v_loc rfl) rfl rfl rfl) (v_fld (v_loc rfl) rfl rfl rfl) rfl rfl))))) ?_
  exact zf_rt (pu eB _)
def m__law_sums_fit (both0 : C_Table) (one0 : C_Table) (other0 : C_Table) (sums0 : List Int) (others0 : List Int) (row0 : List Int) : Option Bool :=
bd (some (both0.n)) fun wide0 =>
bd (some (row0.length : Int)) fun size0 =>
bd (m__law_joined sums0 others0) fun t0 =>
bd (compM (fun _ => some true) (fun x0 => bd (fdivM x0 size0) fun t1 =>
some t1) t0) fun ys0 =>
bd (compM (fun _ => some true) (fun x1 => bd (mulM x1 size0) fun t2 =>
some t2) ys0) fun ys1 =>
bd (if (!decide (ys1 = t0)) = true then some true else (bd (m_signed_sums both0) fun t3 =>
bd (m__law_row_is t3 ys0) fun t4 =>
some (!t4))) fun b0 =>
if b0 = true then
some false
else
bd (m_least_distance both0) fun t5 =>
bd (if false = true then some true else (bd (mulM 2 t5) fun t6 =>
bd (maxM ys0) fun t7 =>
some (!decide ((size0 - t6) = t7)))) fun b1 =>
if b1 = true then
some false
else
bd (rng1M size0) fun xs0 =>
bd (compM (fun x2 => bd (getM ys0 x2) fun t8 =>
bd (maxM ys0) fun t9 =>
some (decide (t8 = t9))) (fun x2 => bd (m__law_word x2 wide0) fun t10 =>
some t10) xs0) fun ys2 =>
bd (m_nearest_sums both0) fun t11 =>
bd (m__law_rows_are t11 ys2) fun t12 =>
if (!t12) = true then
some false
else
bd (m__law_told wide0 ys0) fun t13 =>
bd (if (!decide ((tagW t13) = 0)) = true then some true else (bd (inlM t13) fun t14 =>
bd (m__law_table_is t14 wide0 row0) fun t15 =>
bd (if (!t15) = true then some true else (bd (inlM t13) fun t16 =>
some (!(m_Table___eq__ t16 both0)))) fun b2 =>
some b2)) fun b3 =>
if b3 = true then
some false
else
bd (some (m_Table___eq__ one0 other0)) fun same0 =>
if (!decide (same0 = (decide (sums0 = others0)))) = true then
some false
else
bd (m_signed_sums one0) fun t17 =>
bd (m_signed_sums other0) fun t18 =>
some (decide ((decide (t17 = t18)) = same0))
theorem r__law_sums_fit (k : Nat) (both0 : C_Table) (one0 : C_Table) (other0 : C_Table) (sums0 : List Int) (others0 : List Int) (row0 : List Int) (S : Sto) (r : Bool) (h : m__law_sums_fit both0 one0 other0 sums0 others0 row0 = some r) : (lv Tk40.P.T (k + 7)).1 14 [e_Table both0, e_Table one0, e_Table other0, (eL eI) sums0, (eL eI) others0, (eL eI) row0] S = .ok (eB r) S := by
  unfold m__law_sums_fit at h
  refine fnc_ok (np := 6) (nl := 16) (env0 := [some (e_Table both0), some (e_Table one0), some (e_Table other0), some ((eL eI) sums0), some ((eL eI) others0), some ((eL eI) row0), none, none, none, none, none, none, none, none, none, none]) rfl (pures_cons (pu e_Table both0) (pures_cons (pu e_Table one0) (pures_cons (pu e_Table other0) (pures_cons (pu (eL eI) sums0) (pures_cons (pu (eL eI) others0) (pures_cons (pu (eL eI) row0) pures_nil)))))) rfl rfl ?_
  obtain ⟨wide0, hwide0, h⟩ := bdE h
  refine z_set (e1 := [some (e_Table both0), some (e_Table one0), some (e_Table other0), some ((eL eI) sums0), some ((eL eI) others0), some ((eL eI) row0), some (eI wide0), none, none, none, none, none, none, none, none, none]) (v_cast (v_fld (v_loc rfl) rfl rfl rfl) (congrArg eI (Option.some.inj hwide0))) rfl ?_
  obtain ⟨size0, hsize0, h⟩ := bdE h
  refine z_set (e1 := [some (e_Table both0), some (e_Table one0), some (e_Table other0), some ((eL eI) sums0), some ((eL eI) others0), some ((eL eI) row0), some (eI wide0), some (eI size0), none, none, none, none, none, none, none, none]) (v_cast (v_len (e := eI) (xs := row0) (v_loc rfl) rfl) (congrArg eI (Option.some.inj hsize0))) rfl ?_
  obtain ⟨t0, ht0, h⟩ := bdE h
  refine z_set (e1 := [some (e_Table both0), some (e_Table one0), some (e_Table other0), some ((eL eI) sums0), some ((eL eI) others0), some ((eL eI) row0), some (eI wide0), some (eI size0), some ((eL eI) t0), none, none, none, none, none, none, none]) (v_call (vs_cons (v_loc rfl) (vs_cons (v_loc rfl) vs_nil)) (r__law_joined (k + 5) sums0 others0 _ t0 ht0)) rfl ?_
  obtain ⟨ys0, hys0, h⟩ := bdE h
  refine z_setc (e1 := [some (e_Table both0), some (e_Table one0), some (e_Table other0), some ((eL eI) sums0), some ((eL eI) others0), some ((eL eI) row0), some (eI wide0), some (eI size0), some ((eL eI) t0), some ((eL eI) ys0), none, none, none, none, none, none]) (v_frz (va_comp (ex := eI) (ey := eI) (xs := t0) (fun x0 => [some (e_Table both0), some (e_Table one0), some (e_Table other0), some ((eL eI) sums0), some ((eL eI) others0), some ((eL eI) row0), some (eI wide0), some (eI size0), some ((eL eI) t0), none, none, none, none, none, some (eI x0), none]) (vi_val (e := eI) (xs := t0) (ck := none) (v_loc rfl) rfl) hys0 (fun _ => rfl) (fun _ => rfl) (fun x0 ac b hm => v_castC vc_none (Option.some.inj hm)) (fun x0 ac y hm => by
   obtain ⟨t1, ht1, hm⟩ := bdE hm
   exact v_cast (v_fdiv (v_loc rfl) (v_loc rfl) ht1) (congrArg eI (Option.some.inj hm)))) pures_nil (pures_map (e := eI) ys0)) rfl ?_
  obtain ⟨ys1, hys1, h⟩ := bdE h
  obtain ⟨b0, hb0, h⟩ := bdE h
  refine z_ifs (u := b0) (v_orP (u := (!decide (ys1 = t0))) (v_ne (eL eI) (by decide) (u := ys1) (w := t0) (v_frz (va_comp (ex := eI) (ey := eI) (xs := ys0) (fun x1 => [some (e_Table both0), some (e_Table one0), some (e_Table other0), some ((eL eI) sums0), some ((eL eI) others0), some ((eL eI) row0), some (eI wide0), some (eI size0), some ((eL eI) t0), some ((eL eI) ys0), none, none, none, none, some (eI x1), none]) (vi_val (e := eI) (xs := ys0) (ck := none) (v_loc rfl) rfl) hys1 (fun _ => rfl) (fun _ => rfl) (fun x1 ac b hm => v_castC vc_none (Option.some.inj hm)) (fun x1 ac y hm => by
   obtain ⟨t2, ht2, hm⟩ := bdE hm
   exact v_cast (v_mul (v_loc rfl) (v_loc rfl) ht2) (congrArg eI (Option.some.inj hm)))) pures_nil (pures_map (e := eI) ys1)) (v_loc rfl) rfl rfl) hb0 (fun hu hm => by
   obtain ⟨t3, ht3, hm⟩ := bdE hm
   obtain ⟨t4, ht4, hm⟩ := bdE hm
   exact v_cast (v_not (u := t4) (v_call (vs_cons (v_call (vs_cons (v_loc rfl) vs_nil) (r_signed_sums (k + 4) both0 _ t3 ht3)) (vs_cons (v_loc rfl) vs_nil)) (r__law_row_is (k + 4) t3 ys0 _ t4 ht4))) (congrArg eB (Option.some.inj hm)))) (fun hu => ?_) (fun hu => ?_)
  · rw [if_pos hu] at h
    refine z_ret (v_bl _) ?_
    cases h
    exact zf_rt (pu eB _)
  · rw [if_neg (by rw [hu]; decide)] at h
    refine z_thn ?_
    obtain ⟨t5, ht5, h⟩ := bdE h
    refine z_set (e1 := [some (e_Table both0), some (e_Table one0), some (e_Table other0), some ((eL eI) sums0), some ((eL eI) others0), some ((eL eI) row0), some (eI wide0), some (eI size0), some ((eL eI) t0), some ((eL eI) ys0), some (eI t5), none, none, none, none, none]) (v_call (vs_cons (v_loc rfl) vs_nil) (r_least_distance (k + 3) both0 _ t5 ht5)) rfl ?_
    obtain ⟨b1, hb1, h⟩ := bdE h
    refine z_ifs (u := b1) (v_orP (u := false) (v_not (u := true) (v_call (vs_cons (v_loc rfl) vs_nil) (r__law_whole (k + 5) t5 _))) hb1 (fun hu hm => by
     obtain ⟨t6, ht6, hm⟩ := bdE hm
     obtain ⟨t7, ht7, hm⟩ := bdE hm
     exact v_cast (v_ne eI (by decide) (u := (size0 - t6)) (w := t7) (v_subt (v_loc rfl) (v_mul (v_int _) (v_loc rfl) ht6)) (v_max (ns := ys0) (v_loc rfl) rfl ht7) rfl rfl) (congrArg eB (Option.some.inj hm)))) (fun hu => ?_) (fun hu => ?_)
    · rw [if_pos hu] at h
      refine z_ret (v_bl _) ?_
      cases h
      exact zf_rt (pu eB _)
    · rw [if_neg (by rw [hu]; decide)] at h
      refine z_thn ?_
      obtain ⟨xs0, hxs0, h⟩ := bdE h
      obtain ⟨ys2, hys2, h⟩ := bdE h
      refine z_setc (e1 := [some (e_Table both0), some (e_Table one0), some (e_Table other0), some ((eL eI) sums0), some ((eL eI) others0), some ((eL eI) row0), some (eI wide0), some (eI size0), some ((eL eI) t0), some ((eL eI) ys0), some (eI t5), some ((eL (eT eI)) ys2), none, none, none, none]) (v_frz (va_comp (ex := eI) (ey := (eT eI)) (xs := xs0) (fun x2 => [some (e_Table both0), some (e_Table one0), some (e_Table other0), some ((eL eI) sums0), some ((eL eI) others0), some ((eL eI) row0), some (eI wide0), some (eI size0), some ((eL eI) t0), some ((eL eI) ys0), some (eI t5), none, none, none, none, some (eI x2)]) (vi_rng1 (v_loc rfl) hxs0) hys2 (fun _ => rfl) (fun _ => rfl) (fun x2 ac b hm => by
       obtain ⟨t8, ht8, hm⟩ := bdE hm
       obtain ⟨t9, ht9, hm⟩ := bdE hm
       exact v_castC (vc_some (v_eq eI (by decide) (u := t8) (w := t9) (v_sub (e := eI) (xs := ys0) (v_loc rfl) (v_loc rfl) rfl ht8) (v_max (ns := ys0) (v_loc rfl) rfl ht9) rfl rfl)) (Option.some.inj hm)) (fun x2 ac y hm => by
       obtain ⟨t10, ht10, hm⟩ := bdE hm
       exact v_cast (v_call (vs_cons (v_loc rfl) (vs_cons (v_loc rfl) vs_nil)) (r__law_word (k + 5) x2 wide0 _ t10 ht10)) (congrArg (eT eI) (Option.some.inj hm)))) pures_nil (pures_map (e := (eT eI)) ys2)) rfl ?_
      obtain ⟨t11, ht11, h⟩ := bdE h
      obtain ⟨t12, ht12, h⟩ := bdE h
      refine z_ifs (u := (!t12)) (v_not (u := t12) (v_call (vs_cons (v_call (vs_cons (v_loc rfl) vs_nil) (r_nearest_sums (k + 3) both0 _ t11 ht11)) (vs_cons (v_loc rfl) vs_nil)) (r__law_rows_are (k + 3) t11 ys2 _ t12 ht12))) (fun hu => ?_) (fun hu => ?_)
      · rw [if_pos hu] at h
        refine z_ret (v_bl _) ?_
        cases h
        exact zf_rt (pu eB _)
      · rw [if_neg (by rw [hu]; decide)] at h
        refine z_thn ?_
        obtain ⟨t13, ht13, h⟩ := bdE h
        refine z_set (e1 := [some (e_Table both0), some (e_Table one0), some (e_Table other0), some ((eL eI) sums0), some ((eL eI) others0), some ((eL eI) row0), some (eI wide0), some (eI size0), some ((eL eI) t0), some ((eL eI) ys0), some (eI t5), some ((eL (eT eI)) ys2), some ((eW e_Table eS) t13), none, none, none]) (v_call (vs_cons (v_loc rfl) (vs_cons (v_frz (va_ofs (e := eI) (xs := ys0) (v_loc rfl) rfl) pures_nil (pures_map (e := eI) ys0)) vs_nil)) (r__law_told (k + 0) wide0 ys0 _ t13 ht13)) rfl ?_
        obtain ⟨b3, hb3, h⟩ := bdE h
        refine z_ifs (u := b3) (v_orP (u := (!decide ((tagW t13) = 0))) (v_ne eI (by decide) (u := (tagW t13)) (w := 0) (v_tagW (ea := e_Table) (eb := eS) (v_loc rfl)) (v_int _) rfl rfl) hb3 (fun hu hm => by
         obtain ⟨t14, ht14, hm⟩ := bdE hm
         obtain ⟨t15, ht15, hm⟩ := bdE hm
         obtain ⟨b2, hb2, hm⟩ := bdE hm
         exact v_cast (v_orP (u := (!t15)) (v_not (u := t15) (v_call (vs_cons (v_inlW (ea := e_Table) (eb := eS) (v_loc rfl) ht14) (vs_cons (v_loc rfl) (vs_cons (v_loc rfl) vs_nil))) (r__law_table_is (k + 3) t14 wide0 row0 _ t15 ht15))) hb2 (fun hu hm => by
         obtain ⟨t16, ht16, hm⟩ := bdE hm
         exact v_cast (v_ownNe (v_inlW (ea := e_Table) (eb := eS) (v_loc rfl) ht16) (v_loc rfl) rfl rfl rfl (r_Table___eq__ (k + 5) t16 both0 _)) (congrArg eB (Option.some.inj hm)))) (congrArg eB (Option.some.inj hm)))) (fun hu => ?_) (fun hu => ?_)
        · rw [if_pos hu] at h
          refine z_ret (v_bl _) ?_
          cases h
          exact zf_rt (pu eB _)
        · rw [if_neg (by rw [hu]; decide)] at h
          refine z_thn ?_
          obtain ⟨same0, hsame0, h⟩ := bdE h
          refine z_set (e1 := [some (e_Table both0), some (e_Table one0), some (e_Table other0), some ((eL eI) sums0), some ((eL eI) others0), some ((eL eI) row0), some (eI wide0), some (eI size0), some ((eL eI) t0), some ((eL eI) ys0), some (eI t5), some ((eL (eT eI)) ys2), some ((eW e_Table eS) t13), some (eB same0), none, none]) (v_cast (v_ownEq (v_loc rfl) (v_loc rfl) rfl rfl rfl (r_Table___eq__ (k + 5) one0 other0 _)) (congrArg eB (Option.some.inj hsame0))) rfl ?_
          refine z_ifs (u := (!decide (same0 = (decide (sums0 = others0))))) (v_or (u := false) (v := (!decide (same0 = (decide (sums0 = others0))))) (v_not (u := true) (v_ist (v := true) (v_loc rfl) rfl)) (fun _ => (v_ne eB (by decide) (u := same0) (w := (decide (sums0 = others0))) (v_loc rfl) (v_eq (eL eI) (by decide) (u := sums0) (w := others0) (v_loc rfl) (v_loc rfl) rfl rfl) rfl rfl))) (fun hu => ?_) (fun hu => ?_)
          · rw [if_pos hu] at h
            refine z_ret (v_bl _) ?_
            cases h
            exact zf_rt (pu eB _)
          · rw [if_neg (by rw [hu]; decide)] at h
            refine z_thn ?_
            obtain ⟨t17, ht17, h⟩ := bdE h
            obtain ⟨t18, ht18, h⟩ := bdE h
            refine z_ret (v_eq eB (by decide) (u := (decide (t17 = t18))) (w := same0) (v_eq (eT eI) (by decide) (u := t17) (w := t18) (v_call (vs_cons (v_loc rfl) vs_nil) (r_signed_sums (k + 4) one0 _ t17 ht17)) (v_call (vs_cons (v_loc rfl) vs_nil) (r_signed_sums (k + 4) other0 _ t18 ht18)) rfl rfl) (v_loc rfl) rfl rfl) ?_
            cases h
            exact zf_rt (pu eB _)
def m_is_bits (value0 : List Int) : Option Bool :=
bd (if true = true then (bd (compM (fun _ => some true) (fun x0 => some (m_is_bit x0)) value0) fun ys0 =>
some (ys0.all id)) else some false) fun b0 =>
some b0
theorem r_is_bits (k : Nat) (value0 : List Int) (S : Sto) (r : Bool) (h : m_is_bits value0 = some r) : (lv Tk40.P.T (k + 4)).1 47 [(eT eI) value0] S = .ok (eB r) S := by
  unfold m_is_bits at h
  refine fnc_ok (np := 1) (nl := 2) (env0 := [some ((eT eI) value0), none]) rfl (pures_cons (pu (eT eI) value0) pures_nil) rfl rfl ?_
  obtain ⟨b0, hb0, h⟩ := bdE h
  refine z_ret (v_andP (u := true) (v_ist (v := true) (v_loc rfl) rfl) hb0 (fun hu hm => by
   obtain ⟨ys0, hys0, hm⟩ := bdE hm
   exact v_cast (v_genAll (ex := eI) (xs := value0) (fun x0 => [some ((eT eI) value0), some (eI x0)]) (vi_val (e := eI) (xs := value0) (ck := none) (v_loc rfl) rfl) hys0 rfl (fun _ => rfl) (fun x0 b hm => v_castC vc_none (Option.some.inj hm)) (fun x0 y hm => by
   skip
   exact v_cast (v_call (vs_cons (v_loc rfl) vs_nil) (r_is_bit (k + 0) x0 _)) (congrArg eB (Option.some.inj hm)))) (congrArg eB (Option.some.inj hm)))) ?_
  cases h
  exact zf_rt (pu eB _)
def m_is_some_word (value0 : List Int) : Option Bool :=
bd (m_is_bits value0) fun t0 =>
some (t0 && ((decide (1 ≤ (value0.length : Int))) && (decide ((value0.length : Int) ≤ 12))))
theorem r_is_some_word (k : Nat) (value0 : List Int) (S : Sto) (r : Bool) (h : m_is_some_word value0 = some r) : (lv Tk40.P.T (k + 5)).1 41 [(eT eI) value0] S = .ok (eB r) S := by
  unfold m_is_some_word at h
  refine fnc_ok (np := 1) (nl := 1) (env0 := [some ((eT eI) value0)]) rfl (pures_cons (pu (eT eI) value0) pures_nil) rfl rfl ?_
  obtain ⟨t0, ht0, h⟩ := bdE h
  refine z_ret (v_and (u := t0) (v := ((decide (1 ≤ (value0.length : Int))) && (decide ((value0.length : Int) ≤ 12)))) (v_call (vs_cons (v_loc rfl) vs_nil) (r_is_bits (k + 0) value0 _ t0 ht0)) (fun _ => (v_chnI (u := (decide (1 ≤ (value0.length : Int)))) (v := (decide ((value0.length : Int) ≤ 12))) (v_int _) (v_len (e := eI) (xs := value0) (v_loc rfl) rfl) rfl (v_kint _ _) rfl))) ?_
  cases h
  exact zf_rt (pu eB _)
def m_parity_of (one0 : List Int) (other0 : List Int) : Option Int :=
bd (compM (fun _ => some true) (fun x0 => some (PySem.Builtin.bitAnd (x0.1) (x0.2))) (one0.zip other0)) fun ys0 =>
bd (gsumM ys0) fun t0 =>
some (t0 % 2)
theorem r_parity_of (k : Nat) (one0 : List Int) (other0 : List Int) (S : Sto) (r : Int) (h : m_parity_of one0 other0 = some r) : (lv Tk40.P.T (k + 1)).1 42 [(eT eI) one0, (eT eI) other0] S = .ok (eI r) S := by
  unfold m_parity_of at h
  refine fnc_ok (np := 2) (nl := 4) (env0 := [some ((eT eI) one0), some ((eT eI) other0), none, none]) rfl (pures_cons (pu (eT eI) one0) (pures_cons (pu (eT eI) other0) pures_nil)) rfl rfl ?_
  obtain ⟨ys0, hys0, h⟩ := bdE h
  obtain ⟨t0, ht0, h⟩ := bdE h
  refine z_ret (v_modc (v_genSum (ex := (eP2 eI eI)) (xs := (one0.zip other0)) (fun x0 => [some ((eT eI) one0), some ((eT eI) other0), some (eI (x0.1)), some (eI (x0.2))]) (vi_zipT (e := eI) (f := eI) (xs := one0) (ys := other0) (v_loc rfl) (v_loc rfl)) hys0 ht0 rfl (fun _ => rfl) (fun x0 b hm => v_castC vc_none (Option.some.inj hm)) (fun x0 y hm => by
   skip
   exact v_cast (v_band (v_loc rfl) (v_loc rfl)) (congrArg eI (Option.some.inj hm)))) (v_int _) (by decide)) ?_
  cases h
  exact zf_rt (pu eI _)
def m_sum_table (word0 : List Int) : Option C_Table :=
bd (m_is_some_word word0) fun t0 =>
if ((!t0) || (decide (10 < (word0.length : Int)))) = true then
none
else
bd (some (word0.length : Int)) fun n0 =>
bd (shlM 1 n0) fun t1 =>
bd (rng1M t1) fun xs0 =>
bd (compM (fun _ => some true) (fun x0 => bd (m_word_at n0 x0) fun t2 =>
bd (m_parity_of word0 t2) fun t3 =>
some t3) xs0) fun ys0 =>
bd (m_Table___init__ n0 ys0) fun t4 =>
some t4
theorem r_sum_table (k : Nat) (word0 : List Int) (S : Sto) (r : C_Table) (h : m_sum_table word0 = some r) : (lv Tk40.P.T (k + 6)).1 32 [(eT eI) word0] S = .ok (e_Table r) S := by
  unfold m_sum_table at h
  refine fnc_ok (np := 1) (nl := 3) (env0 := [some ((eT eI) word0), none, none]) rfl (pures_cons (pu (eT eI) word0) pures_nil) rfl rfl ?_
  obtain ⟨t0, ht0, h⟩ := bdE h
  refine z_ifs (u := ((!t0) || (decide (10 < (word0.length : Int))))) (v_or (u := (!t0)) (v := (decide (10 < (word0.length : Int)))) (v_not (u := t0) (v_call (vs_cons (v_loc rfl) vs_nil) (r_is_some_word (k + 0) word0 _ t0 ht0))) (fun _ => (v_gt (v_len (e := eI) (xs := word0) (v_loc rfl) rfl) (v_kint _ _)))) (fun hu => ?_) (fun hu => ?_)
  · rw [if_pos hu] at h
    cases h
  · rw [if_neg (by rw [hu]; decide)] at h
    refine z_thn ?_
    obtain ⟨n0, hn0, h⟩ := bdE h
    refine z_set (e1 := [some ((eT eI) word0), some (eI n0), none]) (v_cast (v_len (e := eI) (xs := word0) (v_loc rfl) rfl) (congrArg eI (Option.some.inj hn0))) rfl ?_
    obtain ⟨t1, ht1, h⟩ := bdE h
    obtain ⟨xs0, hxs0, h⟩ := bdE h
    obtain ⟨ys0, hys0, h⟩ := bdE h
    obtain ⟨t4, ht4, h⟩ := bdE h
    refine z_ret (v_mk (vs_cons (v_loc rfl) (vs_cons (v_frz (va_comp (ex := eI) (ey := eI) (xs := xs0) (fun x0 => [some ((eT eI) word0), some (eI n0), some (eI x0)]) (vi_rng1 (v_shl (v_int _) (v_loc rfl) ht1) hxs0) hys0 (fun _ => rfl) (fun _ => rfl) (fun x0 ac b hm => v_castC vc_none (Option.some.inj hm)) (fun x0 ac y hm => by
     obtain ⟨t2, ht2, hm⟩ := bdE hm
     obtain ⟨t3, ht3, hm⟩ := bdE hm
     exact v_cast (v_call (vs_cons (v_loc rfl) (vs_cons (v_call (vs_cons (v_loc rfl) (vs_cons (v_loc rfl) vs_nil)) (r_word_at (k + 4) n0 x0 _ t2 ht2)) vs_nil)) (r_parity_of (k + 4) word0 t2 _ t3 ht3)) (congrArg eI (Option.some.inj hm)))) pures_nil (pures_map (e := eI) ys0)) vs_nil)) (r_Table___init__ (k + 1) n0 ys0 _ t4 ht4)) ?_
    cases h
    exact zf_rt (pu e_Table _)
def m_distance (one0 : C_Table) (other0 : C_Table) : Option Int :=
if (!decide (other0.n = one0.n)) = true then
none
else
bd (compM (fun _ => some true) (fun x0 => some (PySem.Builtin.bitXor (x0.1) (x0.2))) ((one0.bits).zip (other0.bits))) fun ys0 =>
bd (gsumM ys0) fun t0 =>
some t0
theorem r_distance (k : Nat) (one0 : C_Table) (other0 : C_Table) (S : Sto) (r : Int) (h : m_distance one0 other0 = some r) : (lv Tk40.P.T (k + 1)).1 31 [e_Table one0, e_Table other0] S = .ok (eI r) S := by
  unfold m_distance at h
  refine fnc_ok (np := 2) (nl := 4) (env0 := [some (e_Table one0), some (e_Table other0), none, none]) rfl (pures_cons (pu e_Table one0) (pures_cons (pu e_Table other0) pures_nil)) rfl rfl ?_
  refine z_ifs (u := (!decide (other0.n = one0.n))) (v_or (u := false) (v := (!decide (other0.n = one0.n))) (v_not (u := true) (v_ist (v := true) (v_loc rfl) rfl)) (fun _ => (v_ne eI (by decide) (u := other0.n) (w := one0.n) (v_fld (v_loc rfl) rfl rfl rfl) (v_fld (v_loc rfl) rfl rfl rfl) rfl rfl))) (fun hu => ?_) (fun hu => ?_)
  · rw [if_pos hu] at h
    cases h
  · rw [if_neg (by rw [hu]; decide)] at h
    refine z_thn ?_
    obtain ⟨ys0, hys0, h⟩ := bdE h
    obtain ⟨t0, ht0, h⟩ := bdE h
    refine z_ret (v_genSum (ex := (eP2 eI eI)) (xs := ((one0.bits).zip (other0.bits))) (fun x0 => [some (e_Table one0), some (e_Table other0), some (eI (x0.1)), some (eI (x0.2))]) (vi_zipT (e := eI) (f := eI) (xs := one0.bits) (ys := other0.bits) (v_fld (v_loc rfl) rfl rfl rfl) (v_fld (v_loc rfl) rfl rfl rfl)) hys0 ht0 rfl (fun _ => rfl) (fun x0 b hm => v_castC vc_none (Option.some.inj hm)) (fun x0 y hm => by
     skip
     exact v_cast (v_bxor (v_loc rfl) (v_loc rfl)) (congrArg eI (Option.some.inj hm)))) ?_
    cases h
    exact zf_rt (pu eI _)
def m_all_words (n0 : Int) : Option (List (List Int)) :=
if (!(m_is_between n0 1 12)) = true then
none
else
bd (shlM 1 n0) fun t0 =>
bd (rng1M t0) fun xs0 =>
bd (compM (fun _ => some true) (fun x0 => bd (m_word_at n0 x0) fun t1 =>
some t1) xs0) fun ys0 =>
some ys0
theorem r_all_words (k : Nat) (n0 : Int) (S : Sto) (r : List (List Int)) (h : m_all_words n0 = some r) : (lv Tk40.P.T (k + 3)).1 43 [eI n0] S = .ok ((eT (eT eI)) r) S := by
  unfold m_all_words at h
  refine fnc_ok (np := 1) (nl := 2) (env0 := [some (eI n0), none]) rfl (pures_cons (pu eI n0) pures_nil) rfl rfl ?_
  refine z_ifs (u := (!(m_is_between n0 1 12))) (v_not (u := (m_is_between n0 1 12)) (v_call (vs_cons (v_loc rfl) (vs_cons (v_int _) (vs_cons (v_kint _ _) vs_nil))) (r_is_between (k + 0) n0 1 12 _))) (fun hu => ?_) (fun hu => ?_)
  · rw [if_pos hu] at h
    cases h
  · rw [if_neg (by rw [hu]; decide)] at h
    refine z_thn ?_
    obtain ⟨t0, ht0, h⟩ := bdE h
    obtain ⟨xs0, hxs0, h⟩ := bdE h
    obtain ⟨ys0, hys0, h⟩ := bdE h
    refine z_ret (v_genTup (ex := eI) (ey := (eT eI)) (xs := xs0) (fun x0 => [some (eI n0), some (eI x0)]) (vi_rng1 (v_shl (v_int _) (v_loc rfl) ht0) hxs0) hys0 rfl (fun _ => rfl) (fun x0 b hm => v_castC vc_none (Option.some.inj hm)) (fun x0 y hm => by
     obtain ⟨t1, ht1, hm⟩ := bdE hm
     exact v_cast (v_call (vs_cons (v_loc rfl) (vs_cons (v_loc rfl) vs_nil)) (r_word_at (k + 1) n0 x0 _ t1 ht1)) (congrArg (eT eI) (Option.some.inj hm)))) ?_
    cases h
    exact zf_rt (pu (eT (eT eI)) _)
def m_check_words (one0 : List Int) (other0 : List Int) : Option Unit :=
bd (m_is_some_word one0) fun t0 =>
if (!t0) = true then
none
else
bd (m_is_some_word other0) fun t1 =>
if ((!t1) || (!decide ((one0.length : Int) = (other0.length : Int)))) = true then
none
else
some ()
theorem r_check_words (k : Nat) (one0 : List Int) (other0 : List Int) (S : Sto) (r : Unit) (h : m_check_words one0 other0 = some r) : (lv Tk40.P.T (k + 6)).1 50 [(eT eI) one0, (eT eI) other0] S = .ok (eN r) S := by
  unfold m_check_words at h
  refine fnc_ok (np := 2) (nl := 2) (env0 := [some ((eT eI) one0), some ((eT eI) other0)]) rfl (pures_cons (pu (eT eI) one0) (pures_cons (pu (eT eI) other0) pures_nil)) rfl rfl ?_
  obtain ⟨t0, ht0, h⟩ := bdE h
  refine z_ifs (u := (!t0)) (v_not (u := t0) (v_call (vs_cons (v_loc rfl) vs_nil) (r_is_some_word (k + 0) one0 _ t0 ht0))) (fun hu => ?_) (fun hu => ?_)
  · rw [if_pos hu] at h
    cases h
  · rw [if_neg (by rw [hu]; decide)] at h
    refine z_thn ?_
    obtain ⟨t1, ht1, h⟩ := bdE h
    refine z_ifs (u := ((!t1) || (!decide ((one0.length : Int) = (other0.length : Int))))) (v_or (u := (!t1)) (v := (!decide ((one0.length : Int) = (other0.length : Int)))) (v_not (u := t1) (v_call (vs_cons (v_loc rfl) vs_nil) (r_is_some_word (k + 0) other0 _ t1 ht1))) (fun _ => (v_ne eI (by decide) (u := (one0.length : Int)) (w := (other0.length : Int)) (v_len (e := eI) (xs := one0) (v_loc rfl) rfl) (v_len (e := eI) (xs := other0) (v_loc rfl) rfl) rfl rfl))) (fun hu => ?_) (fun hu => ?_)
    · rw [if_pos hu] at h
      cases h
    · rw [if_neg (by rw [hu]; decide)] at h
      refine z_thn ?_
      cases h
      exact z_nil zf_nx
def m_sum_of (one0 : List Int) (other0 : List Int) : Option (List Int) :=
bd (compM (fun _ => some true) (fun x0 => some (PySem.Builtin.bitXor (x0.1) (x0.2))) (one0.zip other0)) fun ys0 =>
some ys0
theorem r_sum_of (k : Nat) (one0 : List Int) (other0 : List Int) (S : Sto) (r : List Int) (h : m_sum_of one0 other0 = some r) : (lv Tk40.P.T (k + 1)).1 51 [(eT eI) one0, (eT eI) other0] S = .ok ((eT eI) r) S := by
  unfold m_sum_of at h
  refine fnc_ok (np := 2) (nl := 4) (env0 := [some ((eT eI) one0), some ((eT eI) other0), none, none]) rfl (pures_cons (pu (eT eI) one0) (pures_cons (pu (eT eI) other0) pures_nil)) rfl rfl ?_
  obtain ⟨ys0, hys0, h⟩ := bdE h
  refine z_ret (v_genTup (ex := (eP2 eI eI)) (ey := eI) (xs := (one0.zip other0)) (fun x0 => [some ((eT eI) one0), some ((eT eI) other0), some (eI (x0.1)), some (eI (x0.2))]) (vi_zipT (e := eI) (f := eI) (xs := one0) (ys := other0) (v_loc rfl) (v_loc rfl)) hys0 rfl (fun _ => rfl) (fun x0 b hm => v_castC vc_none (Option.some.inj hm)) (fun x0 y hm => by
   skip
   exact v_cast (v_bxor (v_loc rfl) (v_loc rfl)) (congrArg eI (Option.some.inj hm)))) ?_
  cases h
  exact zf_rt (pu (eT eI) _)
def m_added (one0 : List Int) (other0 : List Int) : Option (List Int) :=
bd (m_check_words one0 other0) fun t0 =>
bd (m_sum_of one0 other0) fun t1 =>
some t1
theorem r_added (k : Nat) (one0 : List Int) (other0 : List Int) (S : Sto) (r : List Int) (h : m_added one0 other0 = some r) : (lv Tk40.P.T (k + 7)).1 45 [(eT eI) one0, (eT eI) other0] S = .ok ((eT eI) r) S := by
  unfold m_added at h
  refine fnc_ok (np := 2) (nl := 2) (env0 := [some ((eT eI) one0), some ((eT eI) other0)]) rfl (pures_cons (pu (eT eI) one0) (pures_cons (pu (eT eI) other0) pures_nil)) rfl rfl ?_
  obtain ⟨t0, ht0, h⟩ := bdE h
  refine z_exp (v_call (vs_cons (v_loc rfl) (vs_cons (v_loc rfl) vs_nil)) (r_check_words (k + 0) one0 other0 _ t0 ht0)) ?_
  obtain ⟨t1, ht1, h⟩ := bdE h
  refine z_ret (v_call (vs_cons (v_loc rfl) (vs_cons (v_loc rfl) vs_nil)) (r_sum_of (k + 5) one0 other0 _ t1 ht1)) ?_
  cases h
  exact zf_rt (pu (eT eI) _)
def m_is_word (value0 : List Int) (n0 : Int) : Option Bool :=
bd (m_is_some_word value0) fun t0 =>
some (t0 && (decide ((value0.length : Int) = n0)))
theorem r_is_word (k : Nat) (value0 : List Int) (n0 : Int) (S : Sto) (r : Bool) (h : m_is_word value0 n0 = some r) : (lv Tk40.P.T (k + 6)).1 48 [(eT eI) value0, eI n0] S = .ok (eB r) S := by
  unfold m_is_word at h
  refine fnc_ok (np := 2) (nl := 2) (env0 := [some ((eT eI) value0), some (eI n0)]) rfl (pures_cons (pu (eT eI) value0) (pures_cons (pu eI n0) pures_nil)) rfl rfl ?_
  obtain ⟨t0, ht0, h⟩ := bdE h
  refine z_ret (v_and (u := t0) (v := (decide ((value0.length : Int) = n0))) (v_call (vs_cons (v_loc rfl) vs_nil) (r_is_some_word (k + 0) value0 _ t0 ht0)) (fun _ => (v_eq eI (by decide) (u := (value0.length : Int)) (w := n0) (v_len (e := eI) (xs := value0) (v_loc rfl) rfl) (v_loc rfl) rfl rfl))) ?_
  cases h
  exact zf_rt (pu eB _)
def m_bits_number_l1 (number0 : Int) (x0 : Int) : Option Int :=
bd (mulM 2 number0) fun t0 =>
bd (some (t0 + x0)) fun number1 =>
some (number1)
def m_bits_number (bits0 : List Int) : Option Int :=
bd (forS (fun s x => m_bits_number_l1 s x) bits0 (0)) fun number2 =>
some number2
theorem r_bits_number (k : Nat) (bits0 : List Int) (S : Sto) (r : Int) (h : m_bits_number bits0 = some r) : (lv Tk40.P.T (k + 1)).1 49 [(eT eI) bits0] S = .ok (eI r) S := by
  unfold m_bits_number at h
  refine fnc_ok (np := 1) (nl := 3) (env0 := [some ((eT eI) bits0), none, none]) rfl (pures_cons (pu (eT eI) bits0) pures_nil) rfl rfl ?_
  refine z_set (e1 := [some ((eT eI) bits0), some (eI 0), none]) (v_int _) rfl ?_
  obtain ⟨number2, hnumber2, h⟩ := bdE h
  refine z_for (ex := eI) (xs := bits0) (ck := none) (E := (fun (s : Int) (e : Ev.Env) => ∃ j0 : J, e = [some ((eT eI) bits0), some (eI s), j0.v])) (St := (fun (s : Int) => [])) (er := eN) (Pr := fun _ _ => True) (vi_val (e := eI) (xs := bits0) (ck := none) (v_loc rfl) rfl) (forS_ok hnumber2) ⟨jN, rfl⟩ rfl (fun _ => rfl) ?hstep1 ?hk1
  case hstep1 =>
    intro number0 x0 f env hE h
    obtain ⟨j0, rfl⟩ := hE
    rw [Option.map_eq_some_iff] at h
    obtain ⟨f, h, rfl⟩ := h
    skip
    unfold m_bits_number_l1 at h
    refine ⟨[some ((eT eI) bits0), some (eI number0), some (eI x0)], rfl, ?_⟩
    show Zp (FlR _ _ _ _ _) (evSs _ _ _ _ _ _ _)
    obtain ⟨t0, ht0, h⟩ := bdE h
    obtain ⟨number1, hnumber1, h⟩ := bdE h
    refine z_set (e1 := [some ((eT eI) bits0), some (eI number1), some (eI x0)]) (v_cast (v_add (v_mul (v_int _) (v_loc rfl) ht0) (v_loc rfl)) (congrArg eI (Option.some.inj hnumber1))) rfl ?_
    cases h
    exact z_nil (flr_nx ⟨jV (pu eI x0), rfl⟩)
  case hk1 =>
    intro o ho
    obtain ⟨_, ⟨j1, rfl⟩, rfl⟩ := ho
    show Zp _ (evSs _ _ _ _ _ _ _)
    skip
    refine z_ret (v_loc rfl) ?_
    cases h
    exact zf_rt (pu eI _)
def m_Table_bit (self0 : C_Table) (word0 : List Int) : Option Int :=
bd (m_is_word word0 (self0.n)) fun t0 =>
if (!t0) = true then
none
else
bd (m_bits_number word0) fun t1 =>
bd (getM (self0.bits) t1) fun t2 =>
some t2
theorem r_Table_bit (k : Nat) (self0 : C_Table) (word0 : List Int) (S : Sto) (r : Int) (h : m_Table_bit self0 word0 = some r) : (lv Tk40.P.T (k + 7)).1 44 [e_Table self0, (eT eI) word0] S = .ok (eI r) S := by
  unfold m_Table_bit at h
  refine fnc_ok (np := 2) (nl := 2) (env0 := [some (e_Table self0), some ((eT eI) word0)]) rfl (pures_cons (pu e_Table self0) (pures_cons (pu (eT eI) word0) pures_nil)) rfl rfl ?_
  obtain ⟨t0, ht0, h⟩ := bdE h
  refine z_ifs (u := (!t0)) (v_not (u := t0) (v_call (vs_cons (v_loc rfl) (vs_cons (v_fld (v_loc rfl) rfl rfl rfl) vs_nil)) (r_is_word (k + 0) word0 (self0.n) _ t0 ht0))) (fun hu => ?_) (fun hu => ?_)
  · rw [if_pos hu] at h
    cases h
  · rw [if_neg (by rw [hu]; decide)] at h
    refine z_thn ?_
    obtain ⟨t1, ht1, h⟩ := bdE h
    obtain ⟨t2, ht2, h⟩ := bdE h
    refine z_ret (v_sub (e := eI) (xs := self0.bits) (v_fld (v_loc rfl) rfl rfl rfl) (v_call (vs_cons (v_loc rfl) vs_nil) (r_bits_number (k + 5) word0 _ t1 ht1)) rfl ht2) ?_
    cases h
    exact zf_rt (pu eI _)
def m__law_shifted (table0 : C_Table) (word0 : List Int) : Option C_Table :=
bd (m_all_words (word0.length : Int)) fun t0 =>
bd (compM (fun _ => some true) (fun x0 => bd (m_added x0 word0) fun t1 =>
bd (m_Table_bit table0 t1) fun t2 =>
some t2) t0) fun ys0 =>
bd (m_Table___init__ (word0.length : Int) ys0) fun t3 =>
some t3
theorem r__law_shifted (k : Nat) (table0 : C_Table) (word0 : List Int) (S : Sto) (r : C_Table) (h : m__law_shifted table0 word0 = some r) : (lv Tk40.P.T (k + 8)).1 33 [e_Table table0, (eT eI) word0] S = .ok (e_Table r) S := by
  unfold m__law_shifted at h
  refine fnc_ok (np := 2) (nl := 3) (env0 := [some (e_Table table0), some ((eT eI) word0), none]) rfl (pures_cons (pu e_Table table0) (pures_cons (pu (eT eI) word0) pures_nil)) rfl rfl ?_
  obtain ⟨t0, ht0, h⟩ := bdE h
  obtain ⟨ys0, hys0, h⟩ := bdE h
  obtain ⟨t3, ht3, h⟩ := bdE h
  refine z_ret (v_mk (vs_cons (v_len (e := eI) (xs := word0) (v_loc rfl) rfl) (vs_cons (v_frz (va_comp (ex := (eT eI)) (ey := eI) (xs := t0) (fun x0 => [some (e_Table table0), some ((eT eI) word0), some ((eT eI) x0)]) (vi_val (e := (eT eI)) (xs := t0) (ck := none) (v_call (vs_cons (v_len (e := eI) (xs := word0) (v_loc rfl) rfl) vs_nil) (r_all_words (k + 4) (word0.length : Int) _ t0 ht0)) rfl) hys0 (fun _ => rfl) (fun _ => rfl) (fun x0 ac b hm => v_castC vc_none (Option.some.inj hm)) (fun x0 ac y hm => by
   obtain ⟨t1, ht1, hm⟩ := bdE hm
   obtain ⟨t2, ht2, hm⟩ := bdE hm
   exact v_cast (v_mth (v_loc rfl) rfl rfl rfl (vs_cons (v_call (vs_cons (v_loc rfl) (vs_cons (v_loc rfl) vs_nil)) (r_added (k + 0) x0 word0 _ t1 ht1)) vs_nil) (r_Table_bit (k + 0) table0 t1 _ t2 ht2)) (congrArg eI (Option.some.inj hm)))) pures_nil (pures_map (e := eI) ys0)) vs_nil)) (r_Table___init__ (k + 3) (word0.length : Int) ys0 _ t3 ht3)) ?_
  cases h
  exact zf_rt (pu e_Table _)
def m_ones_of (table0 : C_Table) (word0 : List Int) : Option Int :=
bd (m_is_word word0 (table0.n)) fun t0 =>
if (!t0) = true then
none
else
bd (m_bits_number word0) fun t1 =>
bd (rng1M ((table0.bits).length : Int)) fun xs0 =>
bd (compM (fun _ => some true) (fun x0 => bd (getM (table0.bits) (PySem.Builtin.bitXor t1 x0)) fun t2 =>
bd (getM (table0.bits) x0) fun t3 =>
some (PySem.Builtin.bitXor t2 t3)) xs0) fun ys0 =>
bd (gsumM ys0) fun t4 =>
some t4
theorem r_ones_of (k : Nat) (table0 : C_Table) (word0 : List Int) (S : Sto) (r : Int) (h : m_ones_of table0 word0 = some r) : (lv Tk40.P.T (k + 7)).1 46 [e_Table table0, (eT eI) word0] S = .ok (eI r) S := by
  unfold m_ones_of at h
  refine fnc_ok (np := 2) (nl := 4) (env0 := [some (e_Table table0), some ((eT eI) word0), none, none]) rfl (pures_cons (pu e_Table table0) (pures_cons (pu (eT eI) word0) pures_nil)) rfl rfl ?_
  obtain ⟨t0, ht0, h⟩ := bdE h
  refine z_ifs (u := (!t0)) (v_not (u := t0) (v_call (vs_cons (v_loc rfl) (vs_cons (v_fld (v_loc rfl) rfl rfl rfl) vs_nil)) (r_is_word (k + 0) word0 (table0.n) _ t0 ht0))) (fun hu => ?_) (fun hu => ?_)
  · rw [if_pos hu] at h
    cases h
  · rw [if_neg (by rw [hu]; decide)] at h
    refine z_thn ?_
    obtain ⟨t1, ht1, h⟩ := bdE h
    refine z_set (e1 := [some (e_Table table0), some ((eT eI) word0), some (eI t1), none]) (v_call (vs_cons (v_loc rfl) vs_nil) (r_bits_number (k + 5) word0 _ t1 ht1)) rfl ?_
    obtain ⟨xs0, hxs0, h⟩ := bdE h
    obtain ⟨ys0, hys0, h⟩ := bdE h
    obtain ⟨t4, ht4, h⟩ := bdE h
    refine z_ret (v_genSum (ex := eI) (xs := xs0) (fun x0 => [some (e_Table table0), some ((eT eI) word0), some (eI t1), some (eI x0)]) (vi_rng1 (v_len (e := eI) (xs := table0.bits) (v_fld (v_loc rfl) rfl rfl rfl) rfl) hxs0) hys0 ht4 rfl (fun _ => rfl) (fun x0 b hm => v_castC vc_none (Option.some.inj hm)) (fun x0 y hm => by
     obtain ⟨t2, ht2, hm⟩ := bdE hm
     obtain ⟨t3, ht3, hm⟩ := bdE hm
     exact v_cast (v_bxor (v_sub (e := eI) (xs := table0.bits) (v_fld (v_loc rfl) rfl rfl rfl) (v_bxor (v_loc rfl) (v_loc rfl)) rfl ht2) (v_sub (e := eI) (xs := table0.bits) (v_fld (v_loc rfl) rfl rfl rfl) (v_loc rfl) rfl ht3)) (congrArg eI (Option.some.inj hm)))) ?_
    cases h
    exact zf_rt (pu eI _)
structure C_Share where
  over : Int
  under : Int
deriving DecidableEq
def e_Share : C_Share → D := fun s => .obj 1 [9, 10] [eI s.over, eI s.under]
instance : PU e_Share := ⟨fun s => by unfold e_Share; rw [D.pure]; exact (pures_cons (pu eI _) (pures_cons (pu eI _) pures_nil))⟩
def m_Share___init__ (over0 : Int) (under0 : Int) : Option C_Share :=
if (decide (under0 = 0)) = true then
none
else
bd (some (gcdT over0 under0)) fun common0 =>
bd (if (decide (under0 < 0)) = true then
bd (some (-common0)) fun common2 =>
some (common2)
else
some (common0)) fun common1 =>
bd (fdivM over0 common1) fun t0 =>
bd (fdivM under0 common1) fun t1 =>
some (C_Share.mk t0 t1)
theorem r_Share___init__ (k : Nat) (over0 : Int) (under0 : Int) (S : Sto) (r : C_Share) (h : m_Share___init__ over0 under0 = some r) : make Tk40.P.T (lv Tk40.P.T (k + 2)).1 1 [eI over0, eI under0] S = .ok (e_Share r) S := by
  unfold m_Share___init__ at h
  refine ini_ok (np := 3) (nl := 4) (env0 := [some (.ref 0), some (eI over0), some (eI under0), none]) rfl rfl rfl (pures_cons (pu eI over0) (pures_cons (pu eI under0) pures_nil)) rfl (pu e_Share _) rfl ?_
  refine z_ifs (u := false) (v_not (u := true) (v_call (vs_cons (v_loc rfl) vs_nil) (r_is_integer (k + 0) over0 _))) (fun hu => ?_) (fun hu => ?_)
  · cases hu
  · refine z_thn ?_
    refine z_ifs (u := (decide (under0 = 0))) (v_or (u := false) (v := (decide (under0 = 0))) (v_not (u := true) (v_call (vs_cons (v_loc rfl) vs_nil) (r_is_integer (k + 0) under0 _))) (fun _ => (v_eq eI (by decide) (u := under0) (w := 0) (v_loc rfl) (v_int _) rfl rfl))) (fun hu => ?_) (fun hu => ?_)
    · rw [if_pos hu] at h
      cases h
    · rw [if_neg (by rw [hu]; decide)] at h
      refine z_thn ?_
      obtain ⟨common0, hcommon0, h⟩ := bdE h
      refine z_set (e1 := [some (.ref 0), some (eI over0), some (eI under0), some (eI common0)]) (v_cast (v_gcd (v_loc rfl) (v_loc rfl)) (congrArg eI (Option.some.inj hcommon0))) rfl ?_
      obtain ⟨common1, hcommon1, h⟩ := bdE h
      refine z_join (u := (decide (under0 < 0))) (v_lt (v_loc rfl) (v_int _)) (Zj := (fun o => o = .nx [some (.ref 0), some (eI over0), some (eI under0), some (eI common1)] [.obj 1 [] []])) (fun hu => ?_) (fun hu => ?_) (fun o ho => ?_)
      · clear h
        have h := hcommon1
        clear hcommon1
        rw [if_pos hu] at h
        obtain ⟨common2, hcommon2, h⟩ := bdE h
        refine z_set (e1 := [some (.ref 0), some (eI over0), some (eI under0), some (eI common2)]) (v_cast (v_neg (v_loc rfl)) (congrArg eI (Option.some.inj hcommon2))) rfl ?_
        cases h
        exact z_nil rfl
      · clear h
        have h := hcommon1
        clear hcommon1
        rw [if_neg (by rw [hu]; decide)] at h
        cases h
        exact z_nil rfl
      · subst ho
        try dsimp only at h
        show Zp _ (evSs _ _ _ _ _ _ _)
        obtain ⟨t0, ht0, h⟩ := bdE h
        refine z_setf (n := 0) (S1 := [.obj 1 [9] [eI t0]]) (v_fdiv (v_loc rfl) (v_loc rfl) ht0) (v_loc rfl) rfl rfl (by decide) (pu eI t0) rfl ?_
        obtain ⟨t1, ht1, h⟩ := bdE h
        refine z_setf (n := 0) (S1 := [.obj 1 [9, 10] [eI t0, eI t1]]) (v_fdiv (v_loc rfl) (v_loc rfl) ht1) (v_loc rfl) rfl rfl (by decide) (pu eI t1) rfl ?_
        cases h
        exact z_nil ⟨_, rfl⟩
def m_one_share (table0 : C_Table) (word0 : List Int) : Option C_Share :=
bd (m_ones_of table0 word0) fun t0 =>
bd (m_Share___init__ t0 ((table0.bits).length : Int)) fun t1 =>
some t1
theorem r_one_share (k : Nat) (table0 : C_Table) (word0 : List Int) (S : Sto) (r : C_Share) (h : m_one_share table0 word0 = some r) : (lv Tk40.P.T (k + 8)).1 34 [e_Table table0, (eT eI) word0] S = .ok (e_Share r) S := by
  unfold m_one_share at h
  refine fnc_ok (np := 2) (nl := 2) (env0 := [some (e_Table table0), some ((eT eI) word0)]) rfl (pures_cons (pu e_Table table0) (pures_cons (pu (eT eI) word0) pures_nil)) rfl rfl ?_
  obtain ⟨t0, ht0, h⟩ := bdE h
  obtain ⟨t1, ht1, h⟩ := bdE h
  refine z_ret (v_mk (vs_cons (v_call (vs_cons (v_loc rfl) (vs_cons (v_loc rfl) vs_nil)) (r_ones_of (k + 0) table0 word0 _ t0 ht0)) (vs_cons (v_len (e := eI) (xs := table0.bits) (v_fld (v_loc rfl) rfl rfl rfl) rfl) vs_nil)) (r_Share___init__ (k + 5) t0 ((table0.bits).length : Int) _ t1 ht1)) ?_
  cases h
  exact zf_rt (pu e_Share _)
def m__law_share_is_l1 (a1 : Int) (b0 : Int) (x1 : Int) : Option (Fl (Int × Int) Unit) :=
if (decide (b0 = 0)) = true then
some (.bk (a1, b0))
else
bd (modM a1 b0) fun t0 =>
some (.nx (b0, t0))
def m__law_share_is (x0 : C_Share) (over0 : Int) (under0 : Int) : Option Bool :=
bd (some (absT over0)) fun a0 =>
bd (rng1M 400) fun xs0 =>
bd (forB (fun s x => m__law_share_is_l1 s.1 s.2 x) xs0 (a0, under0)) fun s0 =>
(match s0 with
| (a2, b1) =>
bd (fdivM over0 a2) fun t1 =>
bd (if (decide (x0.over = t1)) = true then (bd (fdivM under0 a2) fun t2 =>
some (decide (x0.under = t2))) else some false) fun b2 =>
some b2)
theorem r__law_share_is (k : Nat) (x0 : C_Share) (over0 : Int) (under0 : Int) (S : Sto) (r : Bool) (h : m__law_share_is x0 over0 under0 = some r) : (lv Tk40.P.T (k + 2)).1 35 [e_Share x0, eI over0, eI under0] S = .ok (eB r) S := by
  unfold m__law_share_is at h
  refine fnc_ok (np := 3) (nl := 7) (env0 := [some (e_Share x0), some (eI over0), some (eI under0), none, none, none, none]) rfl (pures_cons (pu e_Share x0) (pures_cons (pu eI over0) (pures_cons (pu eI under0) pures_nil))) rfl rfl ?_
  refine z_ifs (u := false) (v_or (u := false) (v := false) (v_not (u := true) (v_ist (v := true) (v_loc rfl) rfl)) (fun _ => (v_or (u := false) (v := false) (v_not (u := true) (v_call (vs_cons (v_fld (v_loc rfl) rfl rfl rfl) vs_nil) (r__law_whole (k + 0) (x0.over) _))) (fun _ => (v_not (u := true) (v_call (vs_cons (v_fld (v_loc rfl) rfl rfl rfl) vs_nil) (r__law_whole (k + 0) (x0.under) _))))))) (fun hu => ?_) (fun hu => ?_)
  · cases hu
  · refine z_thn ?_
    obtain ⟨a0, ha0, h⟩ := bdE h
    refine z_set (e1 := [some (e_Share x0), some (eI over0), some (eI under0), some (eI a0), none, none, none]) (v_cast (v_abs (v_loc rfl)) (congrArg eI (Option.some.inj ha0))) rfl ?_
    refine z_set (e1 := [some (e_Share x0), some (eI over0), some (eI under0), some (eI a0), some (eI under0), none, none]) (v_loc rfl) rfl ?_
    obtain ⟨xs0, hxs0, h⟩ := bdE h
    obtain ⟨s0, hs0, h⟩ := bdE h
    refine z_for (ex := eI) (xs := xs0) (ck := none) (E := (fun (s : Int × Int) (e : Ev.Env) => ∃ j0 j1 : J, e = [some (e_Share x0), some (eI over0), some (eI under0), some (eI s.1), some (eI s.2), j0.v, j1.v])) (St := (fun (s : Int × Int) => [])) (er := eN) (Pr := fun _ _ => True) (vi_rng1 (v_int _) hxs0) (forB_ok hs0) ⟨jN, jN, rfl⟩ rfl (fun _ => rfl) ?hstep1 ?hk1
    case hstep1 =>
      intro s x1 f env hE h
      obtain ⟨a1, b0⟩ := s
      obtain ⟨j0, j1, rfl⟩ := hE
      try dsimp only at h ⊢
      unfold m__law_share_is_l1 at h
      refine ⟨[some (e_Share x0), some (eI over0), some (eI under0), some (eI a1), some (eI b0), some (eI x1), j1.v], rfl, ?_⟩
      show Zp (FlR _ _ _ _ _) (evSs _ _ _ _ _ _ _)
      refine z_ifs (u := (decide (b0 = 0))) (v_eq eI (by decide) (u := b0) (w := 0) (v_loc rfl) (v_int _) rfl rfl) (fun hu => ?_) (fun hu => ?_)
      · rw [if_pos hu] at h
        refine z_brk ?_
        cases h
        exact flr_bk ⟨jV (pu eI x1), j1, rfl⟩
      · rw [if_neg (by rw [hu]; decide)] at h
        refine z_thn ?_
        obtain ⟨t0, ht0, h⟩ := bdE h
        refine z_set (e1 := [some (e_Share x0), some (eI over0), some (eI under0), some (eI a1), some (eI b0), some (eI x1), some (eI t0)]) (v_mod (v_loc rfl) (v_loc rfl) ht0) rfl ?_
        refine z_set (e1 := [some (e_Share x0), some (eI over0), some (eI under0), some (eI b0), some (eI b0), some (eI x1), some (eI t0)]) (v_loc rfl) rfl ?_
        refine z_set (e1 := [some (e_Share x0), some (eI over0), some (eI under0), some (eI b0), some (eI t0), some (eI x1), some (eI t0)]) (v_loc rfl) rfl ?_
        cases h
        exact z_nil (flr_nx ⟨jV (pu eI x1), jV (pu eI t0), rfl⟩)
    case hk1 =>
      intro o ho
      obtain ⟨_, ⟨j2, j3, rfl⟩, rfl⟩ := ho
      obtain ⟨a2, b1⟩ := s0
      show Zp _ (evSs _ _ _ _ _ _ _)
      try dsimp only at h
      obtain ⟨t1, ht1, h⟩ := bdE h
      obtain ⟨b2, hb2, h⟩ := bdE h
      refine z_ret (v_andP (u := (decide (x0.over = t1))) (v_eq eI (by decide) (u := x0.over) (w := t1) (v_fld (v_loc rfl) rfl rfl rfl) (v_fdiv (v_loc rfl) (v_loc rfl) ht1) rfl rfl) hb2 (fun hu hm => by
       obtain ⟨t2, ht2, hm⟩ := bdE hm
       exact v_cast (v_eq eI (by decide) (u := x0.under) (w := t2) (v_fld (v_loc rfl) rfl rfl rfl) (v_fdiv (v_loc rfl) (v_loc rfl) ht2) rfl rfl) (congrArg eB (Option.some.inj hm)))) ?_
      cases h
      exact zf_rt (pu eB _)
def m_Share___eq__ (self0 : C_Share) (other0 : C_Share) : Bool := ((decide (self0.over = other0.over)) && (decide (self0.under = other0.under)))
theorem r_Share___eq__ (k : Nat) (self0 : C_Share) (other0 : C_Share) (S : Sto) : (lv Tk40.P.T (k + 1)).1 5 [e_Share self0, e_Share other0] S = .ok (eB (m_Share___eq__ self0 other0)) S := by
  refine fnc_ok (np := 2) (nl := 2) (env0 := [some (e_Share self0), some (e_Share other0)]) rfl (pures_cons (pu e_Share self0) (pures_cons (pu e_Share other0) pures_nil)) rfl rfl ?_
  refine z_ret (v_and (u := true) (v := ((decide (self0.over = other0.over)) && (decide (self0.under = other0.under)))) (v_ist (v := true) (v_loc rfl) rfl) (fun _ => (v_and (u := (decide (self0.over = other0.over))) (v := (decide (self0.under = other0.under))) (v_eq eI (by decide) (u := self0.over) (w := other0.over) (v_fld (v_loc rfl) rfl rfl rfl) (v_fld (v_loc rfl) rfl rfl rfl) rfl rfl) (fun _ => (v_eq eI (by decide) (u := self0.under) (w := other0.under) (v_fld (v_loc rfl) rfl rfl rfl) (v_fld (v_loc rfl) rfl rfl rfl) rfl rfl))))) ?_
  exact zf_rt (pu eB _)
def m__law_far_fits (one0 : C_Table) (other0 : C_Table) (sums0 : List Int) (others0 : List Int) (w0 : Int) (odd0 : List Int) : Option Bool :=
bd (some (sums0.length : Int)) fun size0 =>
bd (some (one0.n)) fun wide0 =>
bd (m__law_word w0 wide0) fun t0 =>
bd (rng1M size0) fun xs0 =>
bd (compM (fun _ => some true) (fun x0 => bd (getM sums0 x0) fun t1 =>
bd (getM others0 (PySem.Builtin.bitXor x0 w0)) fun t2 =>
bd (mulM t1 t2) fun t3 =>
some t3) xs0) fun ys0 =>
bd (some (ys0.sum)) fun total0 =>
bd (m_sum_table t0) fun t4 =>
bd (m_Table___add__ t4 other0) fun t5 =>
bd (m_distance one0 t5) fun t6 =>
bd (if false = true then some true else (bd (mulM 2 size0) fun t7 =>
bd (mulM t7 t6) fun t8 =>
bd (mulM size0 size0) fun t9 =>
some (!decide (t8 = (t9 - total0))))) fun b0 =>
if b0 = true then
some false
else
bd (rng1M size0) fun xs1 =>
bd (compM (fun _ => some true) (fun x1 => bd (getM sums0 x1) fun t10 =>
bd (getM others0 x1) fun t11 =>
bd (mulM t10 t11) fun t12 =>
bd (getM odd0 (PySem.Builtin.bitAnd x1 w0)) fun t13 =>
bd (mulM 2 t13) fun t14 =>
bd (mulM t12 (1 - t14)) fun t15 =>
some t15) xs1) fun ys1 =>
bd (some (ys1.sum)) fun total1 =>
bd (m__law_shifted other0 t0) fun t16 =>
bd (m_distance t16 one0) fun t17 =>
bd (if false = true then some true else (bd (mulM 2 size0) fun t18 =>
bd (mulM t18 t17) fun t19 =>
bd (mulM size0 size0) fun t20 =>
some (!decide (t19 = (t20 - total1))))) fun b1 =>
if b1 = true then
some false
else
bd (m__law_shifted one0 t0) fun t21 =>
bd (m_distance one0 t21) fun t22 =>
bd (rng1M size0) fun xs2 =>
bd (compM (fun _ => some true) (fun x2 => bd (getM sums0 x2) fun t23 =>
bd (getM sums0 x2) fun t24 =>
bd (mulM t23 t24) fun t25 =>
bd (getM odd0 (PySem.Builtin.bitAnd x2 w0)) fun t26 =>
bd (mulM 2 t26) fun t27 =>
bd (mulM t25 (1 - t27)) fun t28 =>
some t28) xs2) fun ys2 =>
bd (some (ys2.sum)) fun total2 =>
bd (if false = true then some true else (bd (mulM 2 size0) fun t29 =>
bd (mulM t29 t22) fun t30 =>
bd (mulM size0 size0) fun t31 =>
some (!decide (t30 = (t31 - total2))))) fun b2 =>
if b2 = true then
some false
else
bd (m_one_share one0 t0) fun t32 =>
bd (m__law_share_is t32 t22 size0) fun t33 =>
bd (if t33 = true then (bd (m_Share___init__ t22 size0) fun t34 =>
some (m_Share___eq__ t32 t34)) else some false) fun b3 =>
some b3
theorem r__law_far_fits (k : Nat) (one0 : C_Table) (other0 : C_Table) (sums0 : List Int) (others0 : List Int) (w0 : Int) (odd0 : List Int) (S : Sto) (r : Bool) (h : m__law_far_fits one0 other0 sums0 others0 w0 odd0 = some r) : (lv Tk40.P.T (k + 9)).1 15 [e_Table one0, e_Table other0, (eL eI) sums0, (eL eI) others0, eI w0, (eL eI) odd0] S = .ok (eB r) S := by
  unfold m__law_far_fits at h
  refine fnc_ok (np := 6) (nl := 13) (env0 := [some (e_Table one0), some (e_Table other0), some ((eL eI) sums0), some ((eL eI) others0), some (eI w0), some ((eL eI) odd0), none, none, none, none, none, none, none]) rfl (pures_cons (pu e_Table one0) (pures_cons (pu e_Table other0) (pures_cons (pu (eL eI) sums0) (pures_cons (pu (eL eI) others0) (pures_cons (pu eI w0) (pures_cons (pu (eL eI) odd0) pures_nil)))))) rfl rfl ?_
  obtain ⟨size0, hsize0, h⟩ := bdE h
  refine z_set (e1 := [some (e_Table one0), some (e_Table other0), some ((eL eI) sums0), some ((eL eI) others0), some (eI w0), some ((eL eI) odd0), some (eI size0), none, none, none, none, none, none]) (v_cast (v_len (e := eI) (xs := sums0) (v_loc rfl) rfl) (congrArg eI (Option.some.inj hsize0))) rfl ?_
  obtain ⟨wide0, hwide0, h⟩ := bdE h
  refine z_set (e1 := [some (e_Table one0), some (e_Table other0), some ((eL eI) sums0), some ((eL eI) others0), some (eI w0), some ((eL eI) odd0), some (eI size0), some (eI wide0), none, none, none, none, none]) (v_cast (v_fld (v_loc rfl) rfl rfl rfl) (congrArg eI (Option.some.inj hwide0))) rfl ?_
  obtain ⟨t0, ht0, h⟩ := bdE h
  refine z_set (e1 := [some (e_Table one0), some (e_Table other0), some ((eL eI) sums0), some ((eL eI) others0), some (eI w0), some ((eL eI) odd0), some (eI size0), some (eI wide0), some ((eT eI) t0), none, none, none, none]) (v_call (vs_cons (v_loc rfl) (vs_cons (v_loc rfl) vs_nil)) (r__law_word (k + 7) w0 wide0 _ t0 ht0)) rfl ?_
  obtain ⟨xs0, hxs0, h⟩ := bdE h
  obtain ⟨ys0, hys0, h⟩ := bdE h
  obtain ⟨total0, htotal0, h⟩ := bdE h
  refine z_set (e1 := [some (e_Table one0), some (e_Table other0), some ((eL eI) sums0), some ((eL eI) others0), some (eI w0), some ((eL eI) odd0), some (eI size0), some (eI wide0), some ((eT eI) t0), some (eI total0), none, none, none]) (v_cast (v_sum (ns := ys0) (v_frz (va_comp (ex := eI) (ey := eI) (xs := xs0) (fun x0 => [some (e_Table one0), some (e_Table other0), some ((eL eI) sums0), some ((eL eI) others0), some (eI w0), some ((eL eI) odd0), some (eI size0), some (eI wide0), some ((eT eI) t0), none, none, none, some (eI x0)]) (vi_rng1 (v_loc rfl) hxs0) hys0 (fun _ => rfl) (fun _ => rfl) (fun x0 ac b hm => v_castC vc_none (Option.some.inj hm)) (fun x0 ac y hm => by
   obtain ⟨t1, ht1, hm⟩ := bdE hm
   obtain ⟨t2, ht2, hm⟩ := bdE hm
   obtain ⟨t3, ht3, hm⟩ := bdE hm
   exact v_cast (v_mul (v_sub (e := eI) (xs := sums0) (v_loc rfl) (v_loc rfl) rfl ht1) (v_sub (e := eI) (xs := others0) (v_loc rfl) (v_bxor (v_loc rfl) (v_loc rfl)) rfl ht2) ht3) (congrArg eI (Option.some.inj hm)))) pures_nil (pures_map (e := eI) ys0)) rfl) (congrArg eI (Option.some.inj htotal0))) rfl ?_
  obtain ⟨t4, ht4, h⟩ := bdE h
  obtain ⟨t5, ht5, h⟩ := bdE h
  obtain ⟨t6, ht6, h⟩ := bdE h
  refine z_set (e1 := [some (e_Table one0), some (e_Table other0), some ((eL eI) sums0), some ((eL eI) others0), some (eI w0), some ((eL eI) odd0), some (eI size0), some (eI wide0), some ((eT eI) t0), some (eI total0), some (eI t6), none, none]) (v_call (vs_cons (v_loc rfl) (vs_cons (v_own (v_call (vs_cons (v_loc rfl) vs_nil) (r_sum_table (k + 2) t0 _ t4 ht4)) (v_loc rfl) rfl rfl rfl rfl (r_Table___add__ (k + 3) t4 other0 _ t5 ht5)) vs_nil)) (r_distance (k + 7) one0 t5 _ t6 ht6)) rfl ?_
  obtain ⟨b0, hb0, h⟩ := bdE h
  refine z_ifs (u := b0) (v_orP (u := false) (v_not (u := true) (v_call (vs_cons (v_loc rfl) vs_nil) (r__law_whole (k + 7) t6 _))) hb0 (fun hu hm => by
   obtain ⟨t7, ht7, hm⟩ := bdE hm
   obtain ⟨t8, ht8, hm⟩ := bdE hm
   obtain ⟨t9, ht9, hm⟩ := bdE hm
   exact v_cast (v_ne eI (by decide) (u := t8) (w := (t9 - total0)) (v_mul (v_mul (v_int _) (v_loc rfl) ht7) (v_loc rfl) ht8) (v_subt (v_mul (v_loc rfl) (v_loc rfl) ht9) (v_loc rfl)) rfl rfl) (congrArg eB (Option.some.inj hm)))) (fun hu => ?_) (fun hu => ?_)
  · rw [if_pos hu] at h
    refine z_ret (v_bl _) ?_
    cases h
    exact zf_rt (pu eB _)
  · rw [if_neg (by rw [hu]; decide)] at h
    refine z_thn ?_
    obtain ⟨xs1, hxs1, h⟩ := bdE h
    obtain ⟨ys1, hys1, h⟩ := bdE h
    obtain ⟨total1, htotal1, h⟩ := bdE h
    refine z_set (e1 := [some (e_Table one0), some (e_Table other0), some ((eL eI) sums0), some ((eL eI) others0), some (eI w0), some ((eL eI) odd0), some (eI size0), some (eI wide0), some ((eT eI) t0), some (eI total1), some (eI t6), none, none]) (v_cast (v_sum (ns := ys1) (v_frz (va_comp (ex := eI) (ey := eI) (xs := xs1) (fun x1 => [some (e_Table one0), some (e_Table other0), some ((eL eI) sums0), some ((eL eI) others0), some (eI w0), some ((eL eI) odd0), some (eI size0), some (eI wide0), some ((eT eI) t0), some (eI total0), some (eI t6), none, some (eI x1)]) (vi_rng1 (v_loc rfl) hxs1) hys1 (fun _ => rfl) (fun _ => rfl) (fun x1 ac b hm => v_castC vc_none (Option.some.inj hm)) (fun x1 ac y hm => by
     obtain ⟨t10, ht10, hm⟩ := bdE hm
     obtain ⟨t11, ht11, hm⟩ := bdE hm
     obtain ⟨t12, ht12, hm⟩ := bdE hm
     obtain ⟨t13, ht13, hm⟩ := bdE hm
     obtain ⟨t14, ht14, hm⟩ := bdE hm
     obtain ⟨t15, ht15, hm⟩ := bdE hm
     exact v_cast (v_mul (v_mul (v_sub (e := eI) (xs := sums0) (v_loc rfl) (v_loc rfl) rfl ht10) (v_sub (e := eI) (xs := others0) (v_loc rfl) (v_loc rfl) rfl ht11) ht12) (v_subt (v_int _) (v_mul (v_int _) (v_sub (e := eI) (xs := odd0) (v_loc rfl) (v_band (v_loc rfl) (v_loc rfl)) rfl ht13) ht14)) ht15) (congrArg eI (Option.some.inj hm)))) pures_nil (pures_map (e := eI) ys1)) rfl) (congrArg eI (Option.some.inj htotal1))) rfl ?_
    obtain ⟨t16, ht16, h⟩ := bdE h
    obtain ⟨t17, ht17, h⟩ := bdE h
    refine z_set (e1 := [some (e_Table one0), some (e_Table other0), some ((eL eI) sums0), some ((eL eI) others0), some (eI w0), some ((eL eI) odd0), some (eI size0), some (eI wide0), some ((eT eI) t0), some (eI total1), some (eI t17), none, none]) (v_call (vs_cons (v_call (vs_cons (v_loc rfl) (vs_cons (v_loc rfl) vs_nil)) (r__law_shifted (k + 0) other0 t0 _ t16 ht16)) (vs_cons (v_loc rfl) vs_nil)) (r_distance (k + 7) t16 one0 _ t17 ht17)) rfl ?_
    obtain ⟨b1, hb1, h⟩ := bdE h
    refine z_ifs (u := b1) (v_orP (u := false) (v_not (u := true) (v_call (vs_cons (v_loc rfl) vs_nil) (r__law_whole (k + 7) t17 _))) hb1 (fun hu hm => by
     obtain ⟨t18, ht18, hm⟩ := bdE hm
     obtain ⟨t19, ht19, hm⟩ := bdE hm
     obtain ⟨t20, ht20, hm⟩ := bdE hm
     exact v_cast (v_ne eI (by decide) (u := t19) (w := (t20 - total1)) (v_mul (v_mul (v_int _) (v_loc rfl) ht18) (v_loc rfl) ht19) (v_subt (v_mul (v_loc rfl) (v_loc rfl) ht20) (v_loc rfl)) rfl rfl) (congrArg eB (Option.some.inj hm)))) (fun hu => ?_) (fun hu => ?_)
    · rw [if_pos hu] at h
      refine z_ret (v_bl _) ?_
      cases h
      exact zf_rt (pu eB _)
    · rw [if_neg (by rw [hu]; decide)] at h
      refine z_thn ?_
      obtain ⟨t21, ht21, h⟩ := bdE h
      obtain ⟨t22, ht22, h⟩ := bdE h
      refine z_set (e1 := [some (e_Table one0), some (e_Table other0), some ((eL eI) sums0), some ((eL eI) others0), some (eI w0), some ((eL eI) odd0), some (eI size0), some (eI wide0), some ((eT eI) t0), some (eI total1), some (eI t22), none, none]) (v_call (vs_cons (v_loc rfl) (vs_cons (v_call (vs_cons (v_loc rfl) (vs_cons (v_loc rfl) vs_nil)) (r__law_shifted (k + 0) one0 t0 _ t21 ht21)) vs_nil)) (r_distance (k + 7) one0 t21 _ t22 ht22)) rfl ?_
      obtain ⟨xs2, hxs2, h⟩ := bdE h
      obtain ⟨ys2, hys2, h⟩ := bdE h
      obtain ⟨total2, htotal2, h⟩ := bdE h
      refine z_set (e1 := [some (e_Table one0), some (e_Table other0), some ((eL eI) sums0), some ((eL eI) others0), some (eI w0), some ((eL eI) odd0), some (eI size0), some (eI wide0), some ((eT eI) t0), some (eI total2), some (eI t22), none, none]) (v_cast (v_sum (ns := ys2) (v_frz (va_comp (ex := eI) (ey := eI) (xs := xs2) (fun x2 => [some (e_Table one0), some (e_Table other0), some ((eL eI) sums0), some ((eL eI) others0), some (eI w0), some ((eL eI) odd0), some (eI size0), some (eI wide0), some ((eT eI) t0), some (eI total1), some (eI t22), none, some (eI x2)]) (vi_rng1 (v_loc rfl) hxs2) hys2 (fun _ => rfl) (fun _ => rfl) (fun x2 ac b hm => v_castC vc_none (Option.some.inj hm)) (fun x2 ac y hm => by
       obtain ⟨t23, ht23, hm⟩ := bdE hm
       obtain ⟨t24, ht24, hm⟩ := bdE hm
       obtain ⟨t25, ht25, hm⟩ := bdE hm
       obtain ⟨t26, ht26, hm⟩ := bdE hm
       obtain ⟨t27, ht27, hm⟩ := bdE hm
       obtain ⟨t28, ht28, hm⟩ := bdE hm
       exact v_cast (v_mul (v_mul (v_sub (e := eI) (xs := sums0) (v_loc rfl) (v_loc rfl) rfl ht23) (v_sub (e := eI) (xs := sums0) (v_loc rfl) (v_loc rfl) rfl ht24) ht25) (v_subt (v_int _) (v_mul (v_int _) (v_sub (e := eI) (xs := odd0) (v_loc rfl) (v_band (v_loc rfl) (v_loc rfl)) rfl ht26) ht27)) ht28) (congrArg eI (Option.some.inj hm)))) pures_nil (pures_map (e := eI) ys2)) rfl) (congrArg eI (Option.some.inj htotal2))) rfl ?_
      obtain ⟨b2, hb2, h⟩ := bdE h
      refine z_ifs (u := b2) (v_orP (u := false) (v_not (u := true) (v_call (vs_cons (v_loc rfl) vs_nil) (r__law_whole (k + 7) t22 _))) hb2 (fun hu hm => by
       obtain ⟨t29, ht29, hm⟩ := bdE hm
       obtain ⟨t30, ht30, hm⟩ := bdE hm
       obtain ⟨t31, ht31, hm⟩ := bdE hm
       exact v_cast (v_ne eI (by decide) (u := t30) (w := (t31 - total2)) (v_mul (v_mul (v_int _) (v_loc rfl) ht29) (v_loc rfl) ht30) (v_subt (v_mul (v_loc rfl) (v_loc rfl) ht31) (v_loc rfl)) rfl rfl) (congrArg eB (Option.some.inj hm)))) (fun hu => ?_) (fun hu => ?_)
      · rw [if_pos hu] at h
        refine z_ret (v_bl _) ?_
        cases h
        exact zf_rt (pu eB _)
      · rw [if_neg (by rw [hu]; decide)] at h
        refine z_thn ?_
        obtain ⟨t32, ht32, h⟩ := bdE h
        refine z_set (e1 := [some (e_Table one0), some (e_Table other0), some ((eL eI) sums0), some ((eL eI) others0), some (eI w0), some ((eL eI) odd0), some (eI size0), some (eI wide0), some ((eT eI) t0), some (eI total2), some (eI t22), some (e_Share t32), none]) (v_call (vs_cons (v_loc rfl) (vs_cons (v_loc rfl) vs_nil)) (r_one_share (k + 0) one0 t0 _ t32 ht32)) rfl ?_
        obtain ⟨t33, ht33, h⟩ := bdE h
        obtain ⟨b3, hb3, h⟩ := bdE h
        refine z_ret (v_andP (u := t33) (v_call (vs_cons (v_loc rfl) (vs_cons (v_loc rfl) (vs_cons (v_loc rfl) vs_nil))) (r__law_share_is (k + 6) t32 t22 size0 _ t33 ht33)) hb3 (fun hu hm => by
         obtain ⟨t34, ht34, hm⟩ := bdE hm
         exact v_cast (v_ownEq (v_loc rfl) (v_mk (vs_cons (v_loc rfl) (vs_cons (v_loc rfl) vs_nil)) (r_Share___init__ (k + 6) t22 size0 _ t34 ht34)) rfl rfl rfl (r_Share___eq__ (k + 7) t32 t34 _)) (congrArg eB (Option.some.inj hm)))) ?_
        cases h
        exact zf_rt (pu eB _)
def m__law_row_drawn_l1 (d0 : List Int) (t0 : Int) (ys0 : List Int) (row1 : List Int) (left0 : List Int) (x1 : Int) : Option ((List Int) × (List Int)) :=
bd (getM d0 (3 + x1)) fun t10 =>
bd (modM t10 (left0.length : Int)) fun t11 =>
bd (popiM left0 t11) fun q0 =>
(match q0 with
| (a0, left1) =>
bd (getM ys0 a0) fun t12 =>
bd (mulM t12 (t0 / 2)) fun t13 =>
bd (setM row1 a0 t13) fun row2 =>
some (row2, left1))
def m__law_row_drawn (d0 : List Int) (wide0 : Int) : Option (List Int) :=
bd (shlM 1 wide0) fun t0 =>
bd (rng1M t0) fun xs0 =>
bd (compM (fun _ => some true) (fun x0 => bd (getM d0 0) fun t1 =>
bd (shrM t1 x0) fun t2 =>
bd (mulM 2 (t2 % 2)) fun t3 =>
some (1 - t3)) xs0) fun ys0 =>
bd (getM d0 1) fun t4 =>
bd (some (t4 % 3)) fun kind0 =>
bd (repM [0] t0) fun t5 =>
if ((decide (kind0 = 0)) || ((decide (wide0 = 1)) || (decide (3 < wide0)))) = true then
bd (getM ys0 0) fun t6 =>
bd (mulM t0 t6) fun t7 =>
bd (getM d0 2) fun t8 =>
bd (modM t8 t0) fun t9 =>
bd (setM t5 t9 t7) fun row0 =>
some row0
else
if ((decide (kind0 = 1)) || (decide (wide0 = 2))) = true then
bd (rng1M t0) fun xs1 =>
bd (rng1M 4) fun xs2 =>
bd (forS (fun s x => m__law_row_drawn_l1 d0 t0 ys0 s.1 s.2 x) xs2 (t5, xs1)) fun s0 =>
(match s0 with
| (row3, left2) =>
some row3)
else
bd (compM (fun _ => some true) (fun x2 => bd (mulM 2 x2) fun t14 =>
some t14) ys0) fun ys1 =>
bd (getM d0 2) fun t15 =>
bd (getM ys1 (t15 % 8)) fun t16 =>
bd (mulM t16 3) fun t17 =>
bd (getM d0 2) fun t18 =>
bd (setM ys1 (t18 % 8) t17) fun row4 =>
some row4
theorem r__law_row_drawn (k : Nat) (d0 : List Int) (wide0 : Int) (S : Sto) (r : List Int) (h : m__law_row_drawn d0 wide0 = some r) : (lv Tk40.P.T (k + 1)).1 18 [(eL eI) d0, eI wide0] S = .ok ((eL eI) r) S := by
  unfold m__law_row_drawn at h
  refine fnc_ok (np := 2) (nl := 10) (env0 := [some ((eL eI) d0), some (eI wide0), none, none, none, none, none, none, none, none]) rfl (pures_cons (pu (eL eI) d0) (pures_cons (pu eI wide0) pures_nil)) rfl rfl ?_
  obtain ⟨t0, ht0, h⟩ := bdE h
  refine z_set (e1 := [some ((eL eI) d0), some (eI wide0), some (eI t0), none, none, none, none, none, none, none]) (v_shl (v_int _) (v_loc rfl) ht0) rfl ?_
  obtain ⟨xs0, hxs0, h⟩ := bdE h
  obtain ⟨ys0, hys0, h⟩ := bdE h
  refine z_setc (e1 := [some ((eL eI) d0), some (eI wide0), some (eI t0), some ((eL eI) ys0), none, none, none, none, none, none]) (v_frz (va_comp (ex := eI) (ey := eI) (xs := xs0) (fun x0 => [some ((eL eI) d0), some (eI wide0), some (eI t0), none, none, none, none, some (eI x0), none, none]) (vi_rng1 (v_loc rfl) hxs0) hys0 (fun _ => rfl) (fun _ => rfl) (fun x0 ac b hm => v_castC vc_none (Option.some.inj hm)) (fun x0 ac y hm => by
   obtain ⟨t1, ht1, hm⟩ := bdE hm
   obtain ⟨t2, ht2, hm⟩ := bdE hm
   obtain ⟨t3, ht3, hm⟩ := bdE hm
   exact v_cast (v_subt (v_int _) (v_mul (v_int _) (v_modc (v_shr (v_sub (e := eI) (xs := d0) (v_loc rfl) (v_int _) rfl ht1) (v_loc rfl) ht2) (v_int _) (by decide)) ht3)) (congrArg eI (Option.some.inj hm)))) pures_nil (pures_map (e := eI) ys0)) rfl ?_
  obtain ⟨t4, ht4, h⟩ := bdE h
  obtain ⟨kind0, hkind0, h⟩ := bdE h
  refine z_set (e1 := [some ((eL eI) d0), some (eI wide0), some (eI t0), some ((eL eI) ys0), some (eI kind0), none, none, none, none, none]) (v_cast (v_modc (v_sub (e := eI) (xs := d0) (v_loc rfl) (v_int _) rfl ht4) (v_int _) (by decide)) (congrArg eI (Option.some.inj hkind0))) rfl ?_
  obtain ⟨t5, ht5, h⟩ := bdE h
  refine z_new (n := 0) (e1 := [some ((eL eI) d0), some (eI wide0), some (eI t0), some ((eL eI) ys0), some (eI kind0), some (.ref 0), none, none, none, none]) (S1 := [eL eI t5]) (va_rep (e := eI) (xs := [0]) (v_frz (va_cast (va_disp (vs_cons (v_int _) vs_nil)) (show _ = List.map eI [0] from rfl)) pures_nil (pures_map (e := eI) [0])) (v_loc rfl) rfl ht5) rfl rfl rfl ?_
  refine z_ifs (u := ((decide (kind0 = 0)) || ((decide (wide0 = 1)) || (decide (3 < wide0))))) (v_or (u := (decide (kind0 = 0))) (v := ((decide (wide0 = 1)) || (decide (3 < wide0)))) (v_eq eI (by decide) (u := kind0) (w := 0) (v_loc rfl) (v_int _) rfl rfl) (fun _ => (v_or (u := (decide (wide0 = 1))) (v := (decide (3 < wide0))) (v_eq eI (by decide) (u := wide0) (w := 1) (v_loc rfl) (v_int _) rfl rfl) (fun _ => (v_gt (v_loc rfl) (v_int _)))))) (fun hu => ?_) (fun hu => ?_)
  · rw [if_pos hu] at h
    obtain ⟨t6, ht6, h⟩ := bdE h
    obtain ⟨t7, ht7, h⟩ := bdE h
    obtain ⟨t8, ht8, h⟩ := bdE h
    obtain ⟨t9, ht9, h⟩ := bdE h
    obtain ⟨row0, hrow0, h⟩ := bdE h
    refine z_sets (ex := eI) (xs := t5) (y := t7) (n := 0) (S1 := [eL eI row0]) (v_mul (v_loc rfl) (v_sub (e := eI) (xs := ys0) (v_loc rfl) (v_int _) rfl ht6) ht7) (v_loc rfl) (v_mod (v_sub (e := eI) (xs := d0) (v_loc rfl) (v_int _) rfl ht8) (v_loc rfl) ht9) rfl hrow0 rfl ?_
    refine z_ret (v_loc rfl) ?_
    cases h
    exact zf_ref (e := (eL eI)) (by decide) rfl
  · rw [if_neg (by rw [hu]; decide)] at h
    refine z_thn ?_
    refine z_ifs (u := ((decide (kind0 = 1)) || (decide (wide0 = 2)))) (v_or (u := (decide (kind0 = 1))) (v := (decide (wide0 = 2))) (v_eq eI (by decide) (u := kind0) (w := 1) (v_loc rfl) (v_int _) rfl rfl) (fun _ => (v_eq eI (by decide) (u := wide0) (w := 2) (v_loc rfl) (v_int _) rfl rfl))) (fun hu => ?_) (fun hu => ?_)
    · rw [if_pos hu] at h
      obtain ⟨xs1, hxs1, h⟩ := bdE h
      refine z_new (n := 1) (e1 := [some ((eL eI) d0), some (eI wide0), some (eI t0), some ((eL eI) ys0), some (eI kind0), some (.ref 0), some (.ref 1), none, none, none]) (S1 := [eL eI t5, eL eI xs1]) (va_rgl (v_loc rfl) hxs1) rfl rfl rfl ?_
      obtain ⟨xs2, hxs2, h⟩ := bdE h
      obtain ⟨s0, hs0, h⟩ := bdE h
      refine z_for (ex := eI) (xs := xs2) (ck := none) (E := (fun (s : (List Int) × (List Int)) (e : Ev.Env) => ∃ j0 j1 : J, e = [some ((eL eI) d0), some (eI wide0), some (eI t0), some ((eL eI) ys0), some (eI kind0), some (.ref 0), some (.ref 1), j0.v, j1.v, none])) (St := (fun (s : (List Int) × (List Int)) => [eL eI s.1, eL eI s.2])) (er := eN) (Pr := fun _ _ => True) (vi_rng1 (v_int _) hxs2) (forS_ok hs0) ⟨jN, jN, rfl⟩ rfl (fun _ => rfl) ?hstep1 ?hk1
      case hstep1 =>
        intro s x1 f env hE h
        obtain ⟨row1, left0⟩ := s
        obtain ⟨j0, j1, rfl⟩ := hE
        rw [Option.map_eq_some_iff] at h
        obtain ⟨f, h, rfl⟩ := h
        try dsimp only at h ⊢
        unfold m__law_row_drawn_l1 at h
        refine ⟨[some ((eL eI) d0), some (eI wide0), some (eI t0), some ((eL eI) ys0), some (eI kind0), some (.ref 0), some (.ref 1), some (eI x1), j1.v, none], rfl, ?_⟩
        show Zp (FlR _ _ _ _ _) (evSs _ _ _ _ _ _ _)
        obtain ⟨t10, ht10, h⟩ := bdE h
        obtain ⟨t11, ht11, h⟩ := bdE h
        obtain ⟨q0, hq0, h⟩ := bdE h
        obtain ⟨a0, left1⟩ := q0
        refine z_set (e1 := [some ((eL eI) d0), some (eI wide0), some (eI t0), some ((eL eI) ys0), some (eI kind0), some (.ref 0), some (.ref 1), some (eI x1), some (eI a0), none]) (s_popi (ex := eI) (xs := left0) (n := 1) (S1 := [eL eI row1, eL eI left1]) (v_loc rfl) rfl (v_mod (v_sub (e := eI) (xs := d0) (v_loc rfl) (v_add (v_int _) (v_loc rfl)) rfl ht10) (v_len (e := eI) (xs := left0) (v_loc rfl) rfl) ht11) hq0 rfl) rfl ?_
        try dsimp only at h
        obtain ⟨t12, ht12, h⟩ := bdE h
        obtain ⟨t13, ht13, h⟩ := bdE h
        obtain ⟨row2, hrow2, h⟩ := bdE h
        refine z_sets (ex := eI) (xs := row1) (y := t13) (n := 0) (S1 := [eL eI row2, eL eI left1]) (v_mul (v_sub (e := eI) (xs := ys0) (v_loc rfl) (v_loc rfl) rfl ht12) (v_fdivc (v_loc rfl) (v_int _) (by decide)) ht13) (v_loc rfl) (v_loc rfl) rfl hrow2 rfl ?_
        cases h
        exact z_nil (flr_nx ⟨jV (pu eI x1), jV (pu eI a0), rfl⟩)
      case hk1 =>
        intro o ho
        obtain ⟨_, ⟨j2, j3, rfl⟩, rfl⟩ := ho
        obtain ⟨row3, left2⟩ := s0
        show Zp _ (evSs _ _ _ _ _ _ _)
        try dsimp only at h
        refine z_seal (n := 1) (S0 := [eL eI row3]) (e1 := [some ((eL eI) d0), some (eI wide0), some (eI t0), some ((eL eI) ys0), some (eI kind0), some (.ref 0), some ((eL eI) left2), j2.v, j3.v, none]) rfl rfl rfl (by decide) (eb_cons (ob_pure (pu (eL eI) d0)) (eb_cons (ob_pure (pu eI wide0)) (eb_cons (ob_pure (pu eI t0)) (eb_cons (ob_pure (pu (eL eI) ys0)) (eb_cons (ob_pure (pu eI kind0)) (eb_cons (ob_ref (by decide)) (eb_skip (al_cons (ob_junk j2) (al_cons (ob_junk j3) (al_cons ob_none al_nil)))))))))) (pures_cons (pu (eL eI) row3) (pures_cons (pu (eL eI) left2) pures_nil)) rfl ?_
        refine z_ret (v_loc rfl) ?_
        cases h
        exact zf_ref (e := (eL eI)) (by decide) rfl
    · rw [if_neg (by rw [hu]; decide)] at h
      refine z_thn ?_
      refine z_seal (n := 0) (S0 := []) (e1 := [some ((eL eI) d0), some (eI wide0), some (eI t0), some ((eL eI) ys0), some (eI kind0), some ((eL eI) t5), none, none, none, none]) rfl rfl rfl (by decide) (eb_cons (ob_pure (pu (eL eI) d0)) (eb_cons (ob_pure (pu eI wide0)) (eb_cons (ob_pure (pu eI t0)) (eb_cons (ob_pure (pu (eL eI) ys0)) (eb_cons (ob_pure (pu eI kind0)) (eb_skip (al_cons ob_none (al_cons ob_none (al_cons ob_none (al_cons ob_none al_nil)))))))))) (pures_cons (pu (eL eI) t5) pures_nil) rfl ?_
      obtain ⟨ys1, hys1, h⟩ := bdE h
      refine z_newc (n := 0) (e1 := [some ((eL eI) d0), some (eI wide0), some (eI t0), some ((eL eI) ys0), some (eI kind0), some (.ref 0), none, none, none, none]) (S1 := [eL eI ys1]) (va_comp (ex := eI) (ey := eI) (xs := ys0) (fun x2 => [some ((eL eI) d0), some (eI wide0), some (eI t0), some ((eL eI) ys0), some (eI kind0), some ((eL eI) t5), none, none, none, some (eI x2)]) (vi_val (e := eI) (xs := ys0) (ck := none) (v_loc rfl) rfl) hys1 (fun _ => rfl) (fun _ => rfl) (fun x2 ac b hm => v_castC vc_none (Option.some.inj hm)) (fun x2 ac y hm => by
       obtain ⟨t14, ht14, hm⟩ := bdE hm
       exact v_cast (v_mul (v_int _) (v_loc rfl) ht14) (congrArg eI (Option.some.inj hm)))) rfl rfl rfl ?_
      obtain ⟨t15, ht15, h⟩ := bdE h
      obtain ⟨t16, ht16, h⟩ := bdE h
      obtain ⟨t17, ht17, h⟩ := bdE h
      obtain ⟨t18, ht18, h⟩ := bdE h
      obtain ⟨row4, hrow4, h⟩ := bdE h
      refine z_sets (ex := eI) (xs := ys1) (y := t17) (n := 0) (S1 := [eL eI row4]) (v_mul (v_sub (e := eI) (xs := ys1) (v_loc rfl) (v_modc (v_sub (e := eI) (xs := d0) (v_loc rfl) (v_int _) rfl ht15) (v_int _) (by decide)) rfl ht16) (v_int _) ht17) (v_loc rfl) (v_modc (v_sub (e := eI) (xs := d0) (v_loc rfl) (v_int _) rfl ht18) (v_int _) (by decide)) rfl hrow4 rfl ?_
      refine z_seal (n := 0) (S0 := []) (e1 := [some ((eL eI) d0), some (eI wide0), some (eI t0), some ((eL eI) ys0), some (eI kind0), some ((eL eI) row4), none, none, none, none]) rfl rfl rfl (by decide) (eb_cons (ob_pure (pu (eL eI) d0)) (eb_cons (ob_pure (pu eI wide0)) (eb_cons (ob_pure (pu eI t0)) (eb_cons (ob_pure (pu (eL eI) ys0)) (eb_cons (ob_pure (pu eI kind0)) (eb_skip (al_cons ob_none (al_cons ob_none (al_cons ob_none (al_cons ob_none al_nil)))))))))) (pures_cons (pu (eL eI) row4) pures_nil) rfl ?_
      refine z_ret (v_loc rfl) ?_
      cases h
      exact zf_rt (pu (eL eI) _)
def m__law_back_l1 (numbers0 : List Int) (odd0 : List Int) (size0 : Int) (found1 : List Int) (x0 : Int) : Option ((List Int)) :=
bd (rng1M size0) fun xs1 =>
bd (compM (fun _ => some true) (fun x1 => bd (getM numbers0 x1) fun t0 =>
bd (getM odd0 (PySem.Builtin.bitAnd x1 x0)) fun t1 =>
bd (mulM 2 t1) fun t2 =>
bd (mulM t0 (1 - t2)) fun t3 =>
some t3) xs1) fun ys0 =>
bd (some (ys0.sum)) fun total0 =>
bd (if (decide (total0 = size0)) = true then
bd (appM found1 0) fun found3 =>
some (found3)
else
some (found1)) fun found2 =>
if (decide (total0 = (-size0))) = true then
bd (appM found2 1) fun found4 =>
some (found4)
else
some (found2)
def m__law_back (numbers0 : List Int) (odd0 : List Int) : Option (Option (List Int)) :=
bd (some (numbers0.length : Int)) fun size0 =>
bd (some ([] : List Int)) fun found0 =>
bd (rng1M size0) fun xs0 =>
bd (forS (fun s x => m__law_back_l1 numbers0 odd0 size0 s x) xs0 (found0)) fun found5 =>
if (decide ((found5.length : Int) < size0)) = true then
some (none : Option (List Int))
else
some (some found5)
theorem r__law_back (k : Nat) (numbers0 : List Int) (odd0 : List Int) (S : Sto) (r : Option (List Int)) (h : m__law_back numbers0 odd0 = some r) : (lv Tk40.P.T (k + 1)).1 37 [(eL eI) numbers0, (eL eI) odd0] S = .ok ((eO (eL eI)) r) S := by
  unfold m__law_back at h
  refine fnc_ok (np := 2) (nl := 7) (env0 := [some ((eL eI) numbers0), some ((eL eI) odd0), none, none, none, none, none]) rfl (pures_cons (pu (eL eI) numbers0) (pures_cons (pu (eL eI) odd0) pures_nil)) rfl rfl ?_
  obtain ⟨size0, hsize0, h⟩ := bdE h
  refine z_set (e1 := [some ((eL eI) numbers0), some ((eL eI) odd0), some (eI size0), none, none, none, none]) (v_cast (v_len (e := eI) (xs := numbers0) (v_loc rfl) rfl) (congrArg eI (Option.some.inj hsize0))) rfl ?_
  obtain ⟨found0, hfound0, h⟩ := bdE h
  refine z_new (n := 0) (e1 := [some ((eL eI) numbers0), some ((eL eI) odd0), some (eI size0), some (.ref 0), none, none, none]) (S1 := [eL eI found0]) (va_cast (va_cast (va_disp vs_nil) (show _ = List.map eI ([] : List Int) from rfl)) (congrArg (List.map eI) (Option.some.inj hfound0))) rfl rfl rfl ?_
  obtain ⟨xs0, hxs0, h⟩ := bdE h
  obtain ⟨found5, hfound5, h⟩ := bdE h
  refine z_for (ex := eI) (xs := xs0) (ck := none) (E := (fun (s : (List Int)) (e : Ev.Env) => ∃ j0 j1 j2 : J, e = [some ((eL eI) numbers0), some ((eL eI) odd0), some (eI size0), some (.ref 0), j0.v, j1.v, j2.v])) (St := (fun (s : (List Int)) => [eL eI s])) (er := eN) (Pr := fun _ _ => True) (vi_rng1 (v_loc rfl) hxs0) (forS_ok hfound5) ⟨jN, jN, jN, rfl⟩ rfl (fun _ => rfl) ?hstep1 ?hk1
  case hstep1 =>
    intro found1 x0 f env hE h
    obtain ⟨j0, j1, j2, rfl⟩ := hE
    rw [Option.map_eq_some_iff] at h
    obtain ⟨f, h, rfl⟩ := h
    skip
    unfold m__law_back_l1 at h
    refine ⟨[some ((eL eI) numbers0), some ((eL eI) odd0), some (eI size0), some (.ref 0), some (eI x0), j1.v, j2.v], rfl, ?_⟩
    show Zp (FlR _ _ _ _ _) (evSs _ _ _ _ _ _ _)
    obtain ⟨xs1, hxs1, h⟩ := bdE h
    obtain ⟨ys0, hys0, h⟩ := bdE h
    obtain ⟨total0, htotal0, h⟩ := bdE h
    refine z_set (e1 := [some ((eL eI) numbers0), some ((eL eI) odd0), some (eI size0), some (.ref 0), some (eI x0), some (eI total0), j2.v]) (v_cast (v_sum (ns := ys0) (v_frz (va_comp (ex := eI) (ey := eI) (xs := xs1) (fun x1 => [some ((eL eI) numbers0), some ((eL eI) odd0), some (eI size0), some (.ref 0), some (eI x0), j1.v, some (eI x1)]) (vi_rng1 (v_loc rfl) hxs1) hys0 (fun _ => rfl) (fun _ => rfl) (fun x1 ac b hm => v_castC vc_none (Option.some.inj hm)) (fun x1 ac y hm => by
     obtain ⟨t0, ht0, hm⟩ := bdE hm
     obtain ⟨t1, ht1, hm⟩ := bdE hm
     obtain ⟨t2, ht2, hm⟩ := bdE hm
     obtain ⟨t3, ht3, hm⟩ := bdE hm
     exact v_cast (v_mul (v_sub (e := eI) (xs := numbers0) (v_loc rfl) (v_loc rfl) rfl ht0) (v_subt (v_int _) (v_mul (v_int _) (v_sub (e := eI) (xs := odd0) (v_loc rfl) (v_band (v_loc rfl) (v_loc rfl)) rfl ht1) ht2)) ht3) (congrArg eI (Option.some.inj hm)))) (pures_cons (pu (eL eI) found1) pures_nil) (pures_map (e := eI) ys0)) rfl) (congrArg eI (Option.some.inj htotal0))) rfl ?_
    obtain ⟨found2, hfound2, h⟩ := bdE h
    refine z_join (u := (decide (total0 = size0))) (v_eq eI (by decide) (u := total0) (w := size0) (v_loc rfl) (v_loc rfl) rfl rfl) (Zj := (fun o => o = .nx [some ((eL eI) numbers0), some ((eL eI) odd0), some (eI size0), some (.ref 0), some (eI x0), some (eI total0), j2.v] [eL eI found2])) (fun hu => ?_) (fun hu => ?_) (fun o ho => ?_)
    · clear h
      have h := hfound2
      clear hfound2
      rw [if_pos hu] at h
      obtain ⟨found3, hfound3, h⟩ := bdE h
      refine z_exp (s_app (ex := eI) (xs := found1) (y := 0) (n := 0) (S1 := [eL eI found3]) (v_loc rfl) rfl (v_int _) hfound3 rfl) ?_
      cases h
      exact z_nil rfl
    · clear h
      have h := hfound2
      clear hfound2
      rw [if_neg (by rw [hu]; decide)] at h
      cases h
      exact z_nil rfl
    · subst ho
      try dsimp only at h
      show Zp _ (evSs _ _ _ _ _ _ _)
      refine z_ifs (u := (decide (total0 = (-size0)))) (v_eq eI (by decide) (u := total0) (w := (-size0)) (v_loc rfl) (v_neg (v_loc rfl)) rfl rfl) (fun hu => ?_) (fun hu => ?_)
      · rw [if_pos hu] at h
        obtain ⟨found4, hfound4, h⟩ := bdE h
        refine z_exp (s_app (ex := eI) (xs := found2) (y := 1) (n := 0) (S1 := [eL eI found4]) (v_loc rfl) rfl (v_int _) hfound4 rfl) ?_
        refine z_thn ?_
        cases h
        exact z_nil (flr_nx ⟨jV (pu eI x0), jV (pu eI total0), j2, rfl⟩)
      · rw [if_neg (by rw [hu]; decide)] at h
        refine z_thn ?_
        cases h
        exact z_nil (flr_nx ⟨jV (pu eI x0), jV (pu eI total0), j2, rfl⟩)
  case hk1 =>
    intro o ho
    obtain ⟨_, ⟨j3, j4, j5, rfl⟩, rfl⟩ := ho
    show Zp _ (evSs _ _ _ _ _ _ _)
    skip
    refine z_seal (n := 0) (S0 := []) (e1 := [some ((eL eI) numbers0), some ((eL eI) odd0), some (eI size0), some ((eL eI) found5), j3.v, j4.v, j5.v]) rfl rfl rfl (by decide) (eb_cons (ob_pure (pu (eL eI) numbers0)) (eb_cons (ob_pure (pu (eL eI) odd0)) (eb_cons (ob_pure (pu eI size0)) (eb_skip (al_cons (ob_junk j3) (al_cons (ob_junk j4) (al_cons (ob_junk j5) al_nil))))))) (pures_cons (pu (eL eI) found5) pures_nil) rfl ?_
    refine z_ifs (u := (decide ((found5.length : Int) < size0))) (v_lt (v_len (e := eI) (xs := found5) (v_loc rfl) rfl) (v_loc rfl)) (fun hu => ?_) (fun hu => ?_)
    · rw [if_pos hu] at h
      refine z_ret v_non ?_
      cases h
      exact zf_rt (pu (eO (eL eI)) _)
    · rw [if_neg (by rw [hu]; decide)] at h
      refine z_thn ?_
      refine z_ret (v_loc rfl) ?_
      cases h
      exact zf_rt (pu (eO (eL eI)) _)
theorem r_sums_and_differences' (k : Nat) (numbers0 : List Int) (S : Sto) (r : List Int) (h : m_sums_and_differences numbers0 = some r) : (lv Tk40.P.T (k + 1)).1 36 [(eT eI) numbers0] S = .ok ((eL eI) r) S := by
  unfold m_sums_and_differences at h
  refine fnc_ok (np := 1) (nl := 6) (env0 := [some ((eT eI) numbers0), none, none, none, none, none]) rfl (pures_cons (pu (eT eI) numbers0) pures_nil) rfl rfl ?_
  refine z_new (n := 0) (e1 := [some ((eT eI) numbers0), some (.ref 0), none, none, none, none]) (S1 := [eL eI numbers0]) (va_ofs (e := eI) (xs := numbers0) (v_loc rfl) rfl) rfl rfl rfl ?_
  refine z_set (e1 := [some ((eT eI) numbers0), some (.ref 0), some (eI 1), none, none, none]) (v_int _) rfl ?_
  obtain ⟨s0, hs0, h⟩ := bdE h
  refine z_whl (E := (fun (s : Int × (List Int)) (e : Ev.Env) => ∃ j0 j1 j2 : J, e = [some ((eT eI) numbers0), some (.ref 0), some (eI s.1), j0.v, j1.v, j2.v])) (St := (fun (s : Int × (List Int)) => [eL eI s.2])) (er := eN) (Pr := fun _ _ => True) (whlB_ok hs0) ⟨jN, jN, jN, rfl⟩ rfl ?hc2 ?hstep2 ?hk2
  case hc2 =>
    intro s v env hE h
    obtain ⟨step0, found0⟩ := s
    obtain ⟨j0, j1, j2, rfl⟩ := hE
    try dsimp only at h ⊢
    unfold m_sums_and_differences_l2c at h
    exact v_cast (v_lt (v_loc rfl) (v_len (e := eI) (xs := found0) (v_loc rfl) rfl)) (congrArg eB (Option.some.inj h))
  case hstep2 =>
    intro s f env hE h
    obtain ⟨step0, found0⟩ := s
    obtain ⟨j0, j1, j2, rfl⟩ := hE
    try dsimp only at h ⊢
    unfold m_sums_and_differences_l2 at h
    show Zp (FlR _ _ _ _ _) (evSs _ _ _ _ _ _ _)
    obtain ⟨xs0, hxs0, h⟩ := bdE h
    obtain ⟨found4, hfound4, h⟩ := bdE h
    refine z_for (ex := eI) (xs := xs0) (ck := none) (E := (fun (s : (List Int)) (e : Ev.Env) => ∃ j3 j4 j5 : J, e = [some ((eT eI) numbers0), some (.ref 0), some (eI step0), j3.v, j4.v, j5.v])) (St := (fun (s : (List Int)) => [eL eI s])) (er := eN) (Pr := fun _ _ => True) (vi_rng1 (v_len (e := eI) (xs := found0) (v_loc rfl) rfl) hxs0) (forS_ok hfound4) ⟨j0, j1, j2, rfl⟩ rfl (fun _ => rfl) ?hstep1 ?hk1
    case hstep1 =>
      intro found1 x0 f env hE h
      obtain ⟨j3, j4, j5, rfl⟩ := hE
      rw [Option.map_eq_some_iff] at h
      obtain ⟨f, h, rfl⟩ := h
      skip
      unfold m_sums_and_differences_l1 at h
      refine ⟨[some ((eT eI) numbers0), some (.ref 0), some (eI step0), some (eI x0), j4.v, j5.v], rfl, ?_⟩
      show Zp (FlR _ _ _ _ _) (evSs _ _ _ _ _ _ _)
      refine z_ifs (u := (decide ((PySem.Builtin.bitAnd x0 step0) = 0))) (v_eq eI (by decide) (u := (PySem.Builtin.bitAnd x0 step0)) (w := 0) (v_band (v_loc rfl) (v_loc rfl)) (v_int _) rfl rfl) (fun hu => ?_) (fun hu => ?_)
      · rw [if_pos hu] at h
        obtain ⟨t0, ht0, h⟩ := bdE h
        refine z_set (e1 := [some ((eT eI) numbers0), some (.ref 0), some (eI step0), some (eI x0), some (eI t0), j5.v]) (v_sub (e := eI) (xs := found1) (v_loc rfl) (v_loc rfl) rfl ht0) rfl ?_
        obtain ⟨t1, ht1, h⟩ := bdE h
        refine z_set (e1 := [some ((eT eI) numbers0), some (.ref 0), some (eI step0), some (eI x0), some (eI t0), some (eI t1)]) (v_sub (e := eI) (xs := found1) (v_loc rfl) (v_add (v_loc rfl) (v_loc rfl)) rfl ht1) rfl ?_
        obtain ⟨found2, hfound2, h⟩ := bdE h
        refine z_sets (ex := eI) (xs := found1) (y := (t0 + t1)) (n := 0) (S1 := [eL eI found2]) (v_add (v_loc rfl) (v_loc rfl)) (v_loc rfl) (v_loc rfl) rfl hfound2 rfl ?_
        obtain ⟨found3, hfound3, h⟩ := bdE h
        refine z_sets (ex := eI) (xs := found2) (y := (t0 - t1)) (n := 0) (S1 := [eL eI found3]) (v_subt (v_loc rfl) (v_loc rfl)) (v_loc rfl) (v_add (v_loc rfl) (v_loc rfl)) rfl hfound3 rfl ?_
        refine z_thn ?_
        cases h
        exact z_nil (flr_nx ⟨jV (pu eI x0), jV (pu eI t0), jV (pu eI t1), rfl⟩)
      · rw [if_neg (by rw [hu]; decide)] at h
        refine z_thn ?_
        cases h
        exact z_nil (flr_nx ⟨jV (pu eI x0), j4, j5, rfl⟩)
    case hk1 =>
      intro o ho
      obtain ⟨_, ⟨j6, j7, j8, rfl⟩, rfl⟩ := ho
      show Zp _ (evSs _ _ _ _ _ _ _)
      skip
      obtain ⟨t2, ht2, h⟩ := bdE h
      refine z_set (e1 := [some ((eT eI) numbers0), some (.ref 0), some (eI t2), j6.v, j7.v, j8.v]) (v_mul (v_int _) (v_loc rfl) ht2) rfl ?_
      cases h
      exact z_nil (flr_nx ⟨j6, j7, j8, rfl⟩)
  case hk2 =>
    intro o ho
    obtain ⟨_, ⟨j9, j10, j11, rfl⟩, rfl⟩ := ho
    obtain ⟨step1, found5⟩ := s0
    show Zp _ (evSs _ _ _ _ _ _ _)
    try dsimp only at h
    refine z_seal (n := 0) (S0 := []) (e1 := [some ((eT eI) numbers0), some ((eL eI) found5), some (eI step1), j9.v, j10.v, j11.v]) rfl rfl rfl (by decide) (eb_cons (ob_pure (pu (eT eI) numbers0)) (eb_skip (al_cons (ob_pure (pu eI step1)) (al_cons (ob_junk j9) (al_cons (ob_junk j10) (al_cons (ob_junk j11) al_nil)))))) (pures_cons (pu (eL eI) found5) pures_nil) rfl ?_
    refine z_ret (v_loc rfl) ?_
    cases h
    exact zf_rt (pu (eL eI) _)
theorem r_table_from' (k : Nat) (n0 : Int) (numbers0 : List Int) (S : Sto) (r : C_Table) (h : m_table_from n0 numbers0 = some r) : (lv Tk40.P.T (k + 5)).1 40 [eI n0, (eT eI) numbers0] S = .ok (e_Table r) S := by
  unfold m_table_from at h
  refine fnc_ok (np := 2) (nl := 6) (env0 := [some (eI n0), some ((eT eI) numbers0), none, none, none, none]) rfl (pures_cons (pu eI n0) (pures_cons (pu (eT eI) numbers0) pures_nil)) rfl rfl ?_
  refine z_ifs (u := (!(m_is_between n0 1 10))) (v_not (u := (m_is_between n0 1 10)) (v_call (vs_cons (v_loc rfl) (vs_cons (v_int _) (vs_cons (v_kint _ _) vs_nil))) (r_is_between (k + 2) n0 1 10 _))) (fun hu => ?_) (fun hu => ?_)
  · rw [if_pos hu] at h
    cases h
  · rw [if_neg (by rw [hu]; decide)] at h
    refine z_thn ?_
    obtain ⟨t0, ht0, h⟩ := bdE h
    refine z_set (e1 := [some (eI n0), some ((eT eI) numbers0), some (eI t0), none, none, none]) (v_shl (v_int _) (v_loc rfl) ht0) rfl ?_
    refine z_ifs (u := (!decide ((numbers0.length : Int) = t0))) (v_or (u := false) (v := (!decide ((numbers0.length : Int) = t0))) (v_not (u := true) (v_ist (v := true) (v_loc rfl) rfl)) (fun _ => (v_ne eI (by decide) (u := (numbers0.length : Int)) (w := t0) (v_len (e := eI) (xs := numbers0) (v_loc rfl) rfl) (v_loc rfl) rfl rfl))) (fun hu => ?_) (fun hu => ?_)
    · rw [if_pos hu] at h
      cases h
    · rw [if_neg (by rw [hu]; decide)] at h
      refine z_thn ?_
      obtain ⟨ys0, hys0, h⟩ := bdE h
      refine z_ifs (u := (!(ys0.all id))) (v_not (u := (ys0.all id)) (v_genAll (ex := eI) (xs := numbers0) (fun x0 => [some (eI n0), some ((eT eI) numbers0), some (eI t0), none, none, some (eI x0)]) (vi_val (e := eI) (xs := numbers0) (ck := none) (v_loc rfl) rfl) hys0 rfl (fun _ => rfl) (fun x0 b hm => v_castC vc_none (Option.some.inj hm)) (fun x0 y hm => by
       skip
       exact v_cast (v_call (vs_cons (v_loc rfl) vs_nil) (r_is_integer (k + 3) x0 _)) (congrArg eB (Option.some.inj hm))))) (fun hu => ?_) (fun hu => ?_)
      · rw [if_pos hu] at h
        cases h
      · rw [if_neg (by rw [hu]; decide)] at h
        refine z_thn ?_
        obtain ⟨t1, ht1, h⟩ := bdE h
        refine z_set (e1 := [some (eI n0), some ((eT eI) numbers0), some (eI t0), some ((eL eI) t1), none, none]) (v_call (vs_cons (v_loc rfl) vs_nil) (r_sums_and_differences' (k + 3) numbers0 _ t1 ht1)) rfl ?_
        obtain ⟨ys1, hys1, h⟩ := bdE h
        refine z_ifs (u := (!(ys1.all id))) (v_not (u := (ys1.all id)) (v_genAll (ex := eI) (xs := t1) (fun x1 => [some (eI n0), some ((eT eI) numbers0), some (eI t0), some ((eL eI) t1), some (eI x1), none]) (vi_val (e := eI) (xs := t1) (ck := none) (v_loc rfl) rfl) hys1 rfl (fun _ => rfl) (fun x1 b hm => v_castC vc_none (Option.some.inj hm)) (fun x1 y hm => by
         skip
         exact v_cast (v_or (u := (decide (x1 = t0))) (v := (decide (x1 = (-t0)))) (v_eq eI (by decide) (u := x1) (w := t0) (v_loc rfl) (v_loc rfl) rfl rfl) (fun _ => (v_eq eI (by decide) (u := x1) (w := (-t0)) (v_loc rfl) (v_neg (v_loc rfl)) rfl rfl))) (congrArg eB (Option.some.inj hm))))) (fun hu => ?_) (fun hu => ?_)
        · rw [if_pos hu] at h
          cases h
        · rw [if_neg (by rw [hu]; decide)] at h
          refine z_thn ?_
          obtain ⟨ys2, hys2, h⟩ := bdE h
          obtain ⟨t2, ht2, h⟩ := bdE h
          refine z_ret (v_mk (vs_cons (v_loc rfl) (vs_cons (v_frz (va_comp (ex := eI) (ey := eI) (xs := t1) (fun x2 => [some (eI n0), some ((eT eI) numbers0), some (eI t0), some ((eL eI) t1), some (eI x2), none]) (vi_val (e := eI) (xs := t1) (ck := none) (v_loc rfl) rfl) hys2 (fun _ => rfl) (fun _ => rfl) (fun x2 ac b hm => v_castC vc_none (Option.some.inj hm)) (fun x2 ac y hm => by
           skip
           exact v_cast (v_intB (v_lt (v_loc rfl) (v_int _))) (congrArg eI (Option.some.inj hm)))) pures_nil (pures_map (e := eI) ys2)) vs_nil)) (r_Table___init__ (k + 0) n0 ys2 _ t2 ht2)) ?_
          cases h
          exact zf_rt (pu e_Table _)
theorem r_table_from_x' (k : Nat) (n0 : Int) (numbers0 : List Int) (S : Sto) (r : PySem.Str) (h : m_table_from_x n0 numbers0 = some r) : (lv Tk40.P.T (k + 3)).1 40 [eI n0, (eT eI) numbers0] S = .err 2 [11] [eS r] S := by
  unfold m_table_from_x at h
  refine fnx_ok (np := 2) (nl := 6) (env0 := [some (eI n0), some ((eT eI) numbers0), none, none, none, none]) rfl (pures_cons (pu eI n0) (pures_cons (pu (eT eI) numbers0) pures_nil)) rfl rfl (pu eS _) ?_
  refine z_ifs (u := (!(m_is_between n0 1 10))) (v_not (u := (m_is_between n0 1 10)) (v_call (vs_cons (v_loc rfl) (vs_cons (v_int _) (vs_cons (v_kint _ _) vs_nil))) (r_is_between (k + 0) n0 1 10 _))) (fun hu => ?_) (fun hu => ?_)
  · rw [if_pos hu] at h
    cases h
  · rw [if_neg (by rw [hu]; decide)] at h
    refine z_thn ?_
    obtain ⟨t0, ht0, h⟩ := bdE h
    refine z_set (e1 := [some (eI n0), some ((eT eI) numbers0), some (eI t0), none, none, none]) (v_shl (v_int _) (v_loc rfl) ht0) rfl ?_
    refine z_ifs (u := (!decide ((numbers0.length : Int) = t0))) (v_or (u := false) (v := (!decide ((numbers0.length : Int) = t0))) (v_not (u := true) (v_ist (v := true) (v_loc rfl) rfl)) (fun _ => (v_ne eI (by decide) (u := (numbers0.length : Int)) (w := t0) (v_len (e := eI) (xs := numbers0) (v_loc rfl) rfl) (v_loc rfl) rfl rfl))) (fun hu => ?_) (fun hu => ?_)
    · rw [if_pos hu] at h
      refine z_rais (v_str _) rfl ?_
      cases h
      exact ⟨_, _, rfl⟩
    · rw [if_neg (by rw [hu]; decide)] at h
      refine z_thn ?_
      obtain ⟨ys0, hys0, h⟩ := bdE h
      refine z_ifs (u := (!(ys0.all id))) (v_not (u := (ys0.all id)) (v_genAll (ex := eI) (xs := numbers0) (fun x0 => [some (eI n0), some ((eT eI) numbers0), some (eI t0), none, none, some (eI x0)]) (vi_val (e := eI) (xs := numbers0) (ck := none) (v_loc rfl) rfl) hys0 rfl (fun _ => rfl) (fun x0 b hm => v_castC vc_none (Option.some.inj hm)) (fun x0 y hm => by
       skip
       exact v_cast (v_call (vs_cons (v_loc rfl) vs_nil) (r_is_integer (k + 1) x0 _)) (congrArg eB (Option.some.inj hm))))) (fun hu => ?_) (fun hu => ?_)
      · rw [if_pos hu] at h
        refine z_rais (v_str _) rfl ?_
        cases h
        exact ⟨_, _, rfl⟩
      · rw [if_neg (by rw [hu]; decide)] at h
        refine z_thn ?_
        obtain ⟨t1, ht1, h⟩ := bdE h
        refine z_set (e1 := [some (eI n0), some ((eT eI) numbers0), some (eI t0), some ((eL eI) t1), none, none]) (v_call (vs_cons (v_loc rfl) vs_nil) (r_sums_and_differences' (k + 1) numbers0 _ t1 ht1)) rfl ?_
        obtain ⟨ys1, hys1, h⟩ := bdE h
        refine z_ifs (u := (!(ys1.all id))) (v_not (u := (ys1.all id)) (v_genAll (ex := eI) (xs := t1) (fun x1 => [some (eI n0), some ((eT eI) numbers0), some (eI t0), some ((eL eI) t1), some (eI x1), none]) (vi_val (e := eI) (xs := t1) (ck := none) (v_loc rfl) rfl) hys1 rfl (fun _ => rfl) (fun x1 b hm => v_castC vc_none (Option.some.inj hm)) (fun x1 y hm => by
         skip
         exact v_cast (v_or (u := (decide (x1 = t0))) (v := (decide (x1 = (-t0)))) (v_eq eI (by decide) (u := x1) (w := t0) (v_loc rfl) (v_loc rfl) rfl rfl) (fun _ => (v_eq eI (by decide) (u := x1) (w := (-t0)) (v_loc rfl) (v_neg (v_loc rfl)) rfl rfl))) (congrArg eB (Option.some.inj hm))))) (fun hu => ?_) (fun hu => ?_)
        · rw [if_pos hu] at h
          refine z_rais (v_str _) rfl ?_
          cases h
          exact ⟨_, _, rfl⟩
        · rw [if_neg (by rw [hu]; decide)] at h
          refine z_thn ?_
          cases h
theorem r__law_told' (k : Nat) (wide0 : Int) (numbers0 : List Int) (S : Sto) (r : C_Table ⊕ PySem.Str) (h : m__law_told wide0 numbers0 = some r) : (lv Tk40.P.T (k + 6)).1 30 [eI wide0, (eT eI) numbers0] S = .ok ((eW e_Table eS) r) S := by
  unfold m__law_told at h
  refine fnc_ok (np := 2) (nl := 4) (env0 := [some (eI wide0), some ((eT eI) numbers0), none, none]) rfl (pures_cons (pu eI wide0) (pures_cons (pu (eT eI) numbers0) pures_nil)) rfl rfl ?_
  cases htable0 : m_table_from wide0 numbers0 with
  | some table0 =>
    rw [optM_some htable0] at h
    refine z_tryn (e1 := [some (eI wide0), some ((eT eI) numbers0), none, some (e_Table table0)]) (S1 := []) (z_set (e1 := [some (eI wide0), some ((eT eI) numbers0), none, some (e_Table table0)]) (v_call (vs_cons (v_loc rfl) (vs_cons (v_loc rfl) vs_nil)) (r_table_from' (k + 0) wide0 numbers0 _ table0 htable0)) rfl (z_nil rfl)) ?_
    refine z_ret (v_tup (vs_cons (v_int _) (vs_cons (v_loc rfl) vs_nil))) ?_
    cases h
    exact zf_rt (pu (eW e_Table eS) _)
  | none =>
    rw [optM_none htable0] at h
    obtain ⟨v0, hv0, h⟩ := bdE h
    refine z_tryx (d := (eW e_Table eS) (Sum.inr v0 : C_Table ⊕ PySem.Str)) (x_set (x_call (vs_cons (v_loc rfl) (vs_cons (v_loc rfl) vs_nil)) (r_table_from_x' (k + 2) wide0 numbers0 _ v0 hv0))) rfl (Nat.le_of_ble_eq_true rfl) rfl ?_
    cases h
    exact zf_rt (pu (eW e_Table eS) _)
def m__law_row_fits (wide0 : Int) (numbers0 : List Int) (odd0 : List Int) : Option Bool :=
bd (m__law_back numbers0 odd0) fun t0 =>
bd (m__law_told wide0 numbers0) fun t1 =>
optM t0 (fun due0 =>
bd (if (decide ((tagW t1) = 0)) = true then (bd (inlM t1) fun t2 =>
bd (m__law_table_is t2 wide0 due0) fun t3 =>
bd (if t3 = true then (bd (inlM t1) fun t4 =>
bd (m_signed_sums t4) fun t5 =>
bd (m__law_row_is t5 numbers0) fun t6 =>
some t6) else some false) fun b0 =>
some b0) else some false) fun b1 =>
some b1) (bd (isrM t1 "table") fun b2 =>
some b2)
theorem r__law_row_fits (k : Nat) (wide0 : Int) (numbers0 : List Int) (odd0 : List Int) (S : Sto) (r : Bool) (h : m__law_row_fits wide0 numbers0 odd0 = some r) : (lv Tk40.P.T (k + 7)).1 19 [eI wide0, (eL eI) numbers0, (eL eI) odd0] S = .ok (eB r) S := by
  unfold m__law_row_fits at h
  refine fnc_ok (np := 3) (nl := 5) (env0 := [some (eI wide0), some ((eL eI) numbers0), some ((eL eI) odd0), none, none]) rfl (pures_cons (pu eI wide0) (pures_cons (pu (eL eI) numbers0) (pures_cons (pu (eL eI) odd0) pures_nil))) rfl rfl ?_
  obtain ⟨t0, ht0, h⟩ := bdE h
  refine z_set (e1 := [some (eI wide0), some ((eL eI) numbers0), some ((eL eI) odd0), some ((eO (eL eI)) t0), none]) (v_call (vs_cons (v_loc rfl) (vs_cons (v_loc rfl) vs_nil)) (r__law_back (k + 5) numbers0 odd0 _ t0 ht0)) rfl ?_
  obtain ⟨t1, ht1, h⟩ := bdE h
  refine z_set (e1 := [some (eI wide0), some ((eL eI) numbers0), some ((eL eI) odd0), some ((eO (eL eI)) t0), some ((eW e_Table eS) t1)]) (v_call (vs_cons (v_loc rfl) (vs_cons (v_tupL (v_loc rfl) rfl) vs_nil)) (r__law_told' (k + 0) wide0 numbers0 _ t1 ht1)) rfl ?_
  refine z_ifs (u := t0.isNone) (v_isn (e := (eL eI)) (o := t0) (v_loc rfl) (fun _ => rfl)) (fun hu => ?_) (fun hu => ?_)
  · rw [optM_none (none_of' hu)] at h
    obtain ⟨b2, hb2, h⟩ := bdE h
    refine z_ret (v_isrW (ea := e_Table) (s := "table") (v_loc rfl) (v_tup (vs_cons (v_int _) (vs_cons (v_str _) vs_nil))) hb2) ?_
    cases h
    exact zf_rt (pu eB _)
  · obtain ⟨due0, hdue0⟩ := some_of' hu
    rw [optM_some hdue0] at h
    refine z_thn ?_
    obtain ⟨b1, hb1, h⟩ := bdE h
    refine z_ret (v_andP (u := (decide ((tagW t1) = 0))) (v_eq eI (by decide) (u := (tagW t1)) (w := 0) (v_tagW (ea := e_Table) (eb := eS) (v_loc rfl)) (v_int _) rfl rfl) hb1 (fun hu hm => by
     obtain ⟨t2, ht2, hm⟩ := bdE hm
     obtain ⟨t3, ht3, hm⟩ := bdE hm
     obtain ⟨b0, hb0, hm⟩ := bdE hm
     exact v_cast (v_andP (u := t3) (v_call (vs_cons (v_inlW (ea := e_Table) (eb := eS) (v_loc rfl) ht2) (vs_cons (v_loc rfl) (vs_cons (v_cast (v_loc rfl) (congrArg (eO (eL eI)) hdue0)) vs_nil))) (r__law_table_is (k + 3) t2 wide0 due0 _ t3 ht3)) hb0 (fun hu hm => by
     obtain ⟨t4, ht4, hm⟩ := bdE hm
     obtain ⟨t5, ht5, hm⟩ := bdE hm
     obtain ⟨t6, ht6, hm⟩ := bdE hm
     exact v_cast (v_call (vs_cons (v_call (vs_cons (v_inlW (ea := e_Table) (eb := eS) (v_loc rfl) ht4) vs_nil) (r_signed_sums (k + 4) t4 _ t5 ht5)) (vs_cons (v_loc rfl) vs_nil)) (r__law_row_is (k + 4) t5 numbers0 _ t6 ht6)) (congrArg eB (Option.some.inj hm)))) (congrArg eB (Option.some.inj hm)))) ?_
    cases h
    exact zf_rt (pu eB _)
def m_law_l1 (t2 : Int) (x1 : C_Table × (List Int)) : Option (Fl Unit Bool) :=
bd (m__law_table_is (x1.1) t2 (x1.2)) fun t13 =>
if (!t13) = true then
some (.rt false)
else
some (.nx ())
def m_law_l2 (t4 : List Int) (t8 : C_Table) (t9 : C_Table) (ys1 : List Int) (ys2 : List Int) (x4 : Int) : Option (Fl Unit Bool) :=
bd (m__law_far_fits t8 t9 ys1 ys2 x4 t4) fun t21 =>
if (!t21) = true then
some (.rt false)
else
some (.nx ())
def m_law_l3 (t2 : Int) (t4 : List Int) (x8 : List Int) : Option (Fl Unit Bool) :=
bd (m__law_row_fits t2 x8 t4) fun t44 =>
if (!t44) = true then
some (.rt false)
else
some (.nx ())
def m_law (script0 : List Int) : Option Bool :=
bd (m__law_draws script0 50) fun t0 =>
bd (getM t0 0) fun t1 =>
bd (getM [1, 2, 3, 4, 2, 3, 4, 3] (t1 % 8)) fun t2 =>
bd (shlM 1 t2) fun t3 =>
bd (m__law_parities t3) fun t4 =>
bd (m__law_start t0 1 t3 t4) fun t5 =>
bd (m__law_start t0 10 t3 t4) fun t6 =>
bd (getM t0 20) fun t7 =>
bd (if (decide ((t7 % 6) = 0)) = true then
some (t5)
else
some (t6)) fun second0 =>
bd (m_Table___init__ t2 t5) fun t8 =>
bd (m_Table___init__ t2 second0) fun t9 =>
bd (m_Table___add__ t8 t9) fun t10 =>
bd (rng1M t3) fun xs0 =>
bd (compM (fun _ => some true) (fun x0 => bd (getM t5 x0) fun t11 =>
bd (getM second0 x0) fun t12 =>
some (PySem.Builtin.bitXor t11 t12)) xs0) fun ys0 =>
bd (forR (fun s x => m_law_l1 t2 x) [(t8, t5), (t9, second0), (t10, ys0)] ()) fun f2 =>
(match f2 with
| .nx s0 =>
bd (rng1M t3) fun xs1 =>
bd (compM (fun _ => some true) (fun x2 => bd (m__law_sum_at t5 x2 t4) fun t14 =>
some t14) xs1) fun ys1 =>
bd (rng1M t3) fun xs2 =>
bd (compM (fun _ => some true) (fun x3 => bd (m__law_sum_at second0 x3 t4) fun t15 =>
some t15) xs2) fun ys2 =>
bd (m__law_sums_fit t10 t8 t9 ys1 ys2 ys0) fun t16 =>
if (!t16) = true then
some false
else
bd (getM t0 21) fun t17 =>
bd (modM t17 t3) fun t18 =>
bd (getM t0 22) fun t19 =>
bd (modM t19 t3) fun t20 =>
bd (forR (fun s x => m_law_l2 t4 t8 t9 ys1 ys2 x) [t18, t20, 0] ()) fun f1 =>
(match f1 with
| .nx s1 =>
bd (getM t0 23) fun t22 =>
bd (modM t22 t3) fun t23 =>
bd (getM t5 t23) fun t24 =>
bd (setM t5 t23 (1 - t24)) fun turned0 =>
bd (rng1M t3) fun xs3 =>
bd (compM (fun _ => some true) (fun x5 => bd (getM ys1 x5) fun t25 =>
bd (getM t5 t23) fun t26 =>
bd (getM t4 (PySem.Builtin.bitAnd x5 t23)) fun t27 =>
bd (mulM 2 (PySem.Builtin.bitXor t26 t27)) fun t28 =>
bd (mulM 2 (1 - t28)) fun t29 =>
some (t25 - t29)) xs3) fun ys3 =>
bd (m_Table___init__ t2 turned0) fun t30 =>
bd (m_signed_sums t30) fun t31 =>
bd (m__law_row_is t31 ys3) fun t32 =>
if (!t32) = true then
some false
else
bd (getM t0 24) fun t33 =>
bd (modM t33 t3) fun t34 =>
bd (getM t0 25) fun t35 =>
bd (modM t35 t3) fun t36 =>
bd (getM ys1 t36) fun t37 =>
bd (setM ys1 t34 t37) fun swapped0 =>
bd (getM ys1 t34) fun t38 =>
bd (setM swapped0 t36 t38) fun swapped1 =>
bd (rng1M t3) fun xs4 =>
bd (compM (fun _ => some true) (fun x6 => bd (getM ys1 x6) fun t39 =>
bd (mulM 2 (if (decide (x6 = t34)) = true then 1 else 0)) fun t40 =>
bd (mulM t39 (1 - t40)) fun t41 =>
some t41) xs4) fun ys4 =>
bd (m__law_row_drawn (cutT t0 (some 26) none) t2) fun t42 =>
bd (rng1M t3) fun xs5 =>
bd (compM (fun _ => some true) (fun x7 => bd (getM ys1 t34) fun t43 =>
some t43) xs5) fun ys5 =>
bd (forR (fun s x => m_law_l3 t2 t4 x) [ys1, swapped1, ys4, t42, ys5] ()) fun f0 =>
(match f0 with
| .nx s2 =>
some true
| .bk _ => none
| .rt v => some v)
| .bk _ => none
| .rt v => some v)
| .bk _ => none
| .rt v => some v)
theorem r_law (k : Nat) (script0 : List Int) (S : Sto) (r : Bool) (h : m_law script0 = some r) : (lv Tk40.P.T (k + 10)).1 0 [eZ script0] S = .ok (eB r) S := by
  unfold m_law at h
  refine fnc_ok (np := 1) (nl := 25) (env0 := [some (eZ script0), none, none, none, none, none, none, none, none, none, none, none, none, none, none, none, none, none, none, none, none, none, none, none, none]) rfl (pures_cons (pu eZ script0) pures_nil) rfl rfl ?_
  obtain ⟨t0, ht0, h⟩ := bdE h
  refine z_set (e1 := [some (eZ script0), some ((eL eI) t0), none, none, none, none, none, none, none, none, none, none, none, none, none, none, none, none, none, none, none, none, none, none, none]) (v_call (vs_cons (v_loc rfl) (vs_cons (v_int _) vs_nil)) (r__law_draws (k + 7) script0 50 _ t0 ht0)) rfl ?_
  obtain ⟨t1, ht1, h⟩ := bdE h
  obtain ⟨t2, ht2, h⟩ := bdE h
  refine z_set (e1 := [some (eZ script0), some ((eL eI) t0), some (eI t2), none, none, none, none, none, none, none, none, none, none, none, none, none, none, none, none, none, none, none, none, none, none]) (v_sub (e := eI) (xs := [1, 2, 3, 4, 2, 3, 4, 3]) (v_tup (vs_cons (v_int _) (vs_cons (v_int _) (vs_cons (v_int _) (vs_cons (v_int _) (vs_cons (v_int _) (vs_cons (v_int _) (vs_cons (v_int _) (vs_cons (v_int _) vs_nil))))))))) (v_modc (v_sub (e := eI) (xs := t0) (v_loc rfl) (v_int _) rfl ht1) (v_int _) (by decide)) rfl ht2) rfl ?_
  obtain ⟨t3, ht3, h⟩ := bdE h
  refine z_set (e1 := [some (eZ script0), some ((eL eI) t0), some (eI t2), some (eI t3), none, none, none, none, none, none, none, none, none, none, none, none, none, none, none, none, none, none, none, none, none]) (v_shl (v_int _) (v_loc rfl) ht3) rfl ?_
  obtain ⟨t4, ht4, h⟩ := bdE h
  refine z_set (e1 := [some (eZ script0), some ((eL eI) t0), some (eI t2), some (eI t3), some ((eL eI) t4), none, none, none, none, none, none, none, none, none, none, none, none, none, none, none, none, none, none, none, none]) (v_call (vs_cons (v_loc rfl) vs_nil) (r__law_parities (k + 8) t3 _ t4 ht4)) rfl ?_
  obtain ⟨t5, ht5, h⟩ := bdE h
  refine z_set (e1 := [some (eZ script0), some ((eL eI) t0), some (eI t2), some (eI t3), some ((eL eI) t4), some ((eL eI) t5), none, none, none, none, none, none, none, none, none, none, none, none, none, none, none, none, none, none, none]) (v_call (vs_cons (v_loc rfl) (vs_cons (v_int _) (vs_cons (v_loc rfl) (vs_cons (v_loc rfl) vs_nil)))) (r__law_start (k + 8) t0 1 t3 t4 _ t5 ht5)) rfl ?_
  obtain ⟨t6, ht6, h⟩ := bdE h
  refine z_set (e1 := [some (eZ script0), some ((eL eI) t0), some (eI t2), some (eI t3), some ((eL eI) t4), some ((eL eI) t5), some ((eL eI) t6), none, none, none, none, none, none, none, none, none, none, none, none, none, none, none, none, none, none]) (v_call (vs_cons (v_loc rfl) (vs_cons (v_int _) (vs_cons (v_loc rfl) (vs_cons (v_loc rfl) vs_nil)))) (r__law_start (k + 8) t0 10 t3 t4 _ t6 ht6)) rfl ?_
  obtain ⟨t7, ht7, h⟩ := bdE h
  obtain ⟨second0, hsecond0, h⟩ := bdE h
  refine z_join (u := (decide ((t7 % 6) = 0))) (v_eq eI (by decide) (u := (t7 % 6)) (w := 0) (v_modc (v_sub (e := eI) (xs := t0) (v_loc rfl) (v_int _) rfl ht7) (v_int _) (by decide)) (v_int _) rfl rfl) (Zj := (fun o => o = .nx [some (eZ script0), some ((eL eI) t0), some (eI t2), some (eI t3), some ((eL eI) t4), some ((eL eI) t5), some ((eL eI) second0), none, none, none, none, none, none, none, none, none, none, none, none, none, none, none, none, none, none] [])) (fun hu => ?_) (fun hu => ?_) (fun o ho => ?_)
  · clear h
    have h := hsecond0
    clear hsecond0
    rw [if_pos hu] at h
    refine z_set (e1 := [some (eZ script0), some ((eL eI) t0), some (eI t2), some (eI t3), some ((eL eI) t4), some ((eL eI) t5), some ((eL eI) t5), none, none, none, none, none, none, none, none, none, none, none, none, none, none, none, none, none, none]) (v_frz (va_ofs (e := eI) (xs := t5) (v_loc rfl) rfl) pures_nil (pures_map (e := eI) t5)) rfl ?_
    cases h
    exact z_nil rfl
  · clear h
    have h := hsecond0
    clear hsecond0
    rw [if_neg (by rw [hu]; decide)] at h
    cases h
    exact z_nil rfl
  · subst ho
    try dsimp only at h
    show Zp _ (evSs _ _ _ _ _ _ _)
    obtain ⟨t8, ht8, h⟩ := bdE h
    refine z_set (e1 := [some (eZ script0), some ((eL eI) t0), some (eI t2), some (eI t3), some ((eL eI) t4), some ((eL eI) t5), some ((eL eI) second0), some (e_Table t8), none, none, none, none, none, none, none, none, none, none, none, none, none, none, none, none, none]) (v_mk (vs_cons (v_loc rfl) (vs_cons (v_frz (va_ofs (e := eI) (xs := t5) (v_loc rfl) rfl) pures_nil (pures_map (e := eI) t5)) vs_nil)) (r_Table___init__ (k + 5) t2 t5 _ t8 ht8)) rfl ?_
    obtain ⟨t9, ht9, h⟩ := bdE h
    refine z_set (e1 := [some (eZ script0), some ((eL eI) t0), some (eI t2), some (eI t3), some ((eL eI) t4), some ((eL eI) t5), some ((eL eI) second0), some (e_Table t8), some (e_Table t9), none, none, none, none, none, none, none, none, none, none, none, none, none, none, none, none]) (v_mk (vs_cons (v_loc rfl) (vs_cons (v_tupL (v_loc rfl) rfl) vs_nil)) (r_Table___init__' (k + 5) t2 second0 _ t9 ht9)) rfl ?_
    obtain ⟨t10, ht10, h⟩ := bdE h
    refine z_set (e1 := [some (eZ script0), some ((eL eI) t0), some (eI t2), some (eI t3), some ((eL eI) t4), some ((eL eI) t5), some ((eL eI) second0), some (e_Table t8), some (e_Table t9), some (e_Table t10), none, none, none, none, none, none, none, none, none, none, none, none, none, none, none]) (v_own (v_loc rfl) (v_loc rfl) rfl rfl rfl rfl (r_Table___add__ (k + 4) t8 t9 _ t10 ht10)) rfl ?_
    obtain ⟨xs0, hxs0, h⟩ := bdE h
    obtain ⟨ys0, hys0, h⟩ := bdE h
    refine z_setc (e1 := [some (eZ script0), some ((eL eI) t0), some (eI t2), some (eI t3), some ((eL eI) t4), some ((eL eI) t5), some ((eL eI) second0), some (e_Table t8), some (e_Table t9), some (e_Table t10), some ((eL eI) ys0), none, none, none, none, none, none, none, none, none, none, none, none, none, none]) (v_frz (va_comp (ex := eI) (ey := eI) (xs := xs0) (fun x0 => [some (eZ script0), some ((eL eI) t0), some (eI t2), some (eI t3), some ((eL eI) t4), some ((eL eI) t5), some ((eL eI) second0), some (e_Table t8), some (e_Table t9), some (e_Table t10), none, none, none, none, none, none, none, none, none, none, none, none, none, some (eI x0), none]) (vi_rng1 (v_loc rfl) hxs0) hys0 (fun _ => rfl) (fun _ => rfl) (fun x0 ac b hm => v_castC vc_none (Option.some.inj hm)) (fun x0 ac y hm => by
     obtain ⟨t11, ht11, hm⟩ := bdE hm
     obtain ⟨t12, ht12, hm⟩ := bdE hm
     exact v_cast (v_bxor (v_sub (e := eI) (xs := t5) (v_loc rfl) (v_loc rfl) rfl ht11) (v_sub (e := eI) (xs := second0) (v_loc rfl) (v_loc rfl) rfl ht12)) (congrArg eI (Option.some.inj hm)))) pures_nil (pures_map (e := eI) ys0)) rfl ?_
    obtain ⟨f2, hf2, h⟩ := bdE h
    refine z_for (ex := (eP2 e_Table (eL eI))) (xs := [(t8, t5), (t9, second0), (t10, ys0)]) (ck := none) (E := (fun (s : Unit) (e : Ev.Env) => ∃ j0 j1 : J, e = [some (eZ script0), some ((eL eI) t0), some (eI t2), some (eI t3), some ((eL eI) t4), some ((eL eI) t5), some ((eL eI) second0), some (e_Table t8), some (e_Table t9), some (e_Table t10), some ((eL eI) ys0), none, none, none, none, none, j0.v, none, none, none, none, none, j1.v, none, none])) (St := (fun (s : Unit) => [])) (er := eB) (Pr := fun _ _ => True) (vi_val (e := (eP2 e_Table (eL eI))) (xs := [(t8, t5), (t9, second0), (t10, ys0)]) (ck := none) (v_frz (va_cast (va_disp (vs_cons (v_tup (vs_cons (v_loc rfl) (vs_cons (v_loc rfl) vs_nil))) (vs_cons (v_tup (vs_cons (v_loc rfl) (vs_cons (v_loc rfl) vs_nil))) (vs_cons (v_tup (vs_cons (v_loc rfl) (vs_cons (v_loc rfl) vs_nil))) vs_nil)))) (show _ = List.map (eP2 e_Table (eL eI)) [(t8, t5), (t9, second0), (t10, ys0)] from rfl)) pures_nil (pures_map (e := (eP2 e_Table (eL eI))) [(t8, t5), (t9, second0), (t10, ys0)])) rfl) hf2 ⟨jN, jN, rfl⟩ rfl (fun _ => rfl) ?hstep1 ?hk1
    case hstep1 =>
      intro s x1 f env hE h
      obtain ⟨j0, j1, rfl⟩ := hE
      skip
      unfold m_law_l1 at h
      refine ⟨[some (eZ script0), some ((eL eI) t0), some (eI t2), some (eI t3), some ((eL eI) t4), some ((eL eI) t5), some ((eL eI) second0), some (e_Table t8), some (e_Table t9), some (e_Table t10), some ((eL eI) ys0), none, none, none, none, none, some ((eL eI) (x1.2)), none, none, none, none, none, some (e_Table (x1.1)), none, none], rfl, ?_⟩
      show Zp (FlR _ _ _ _ _) (evSs _ _ _ _ _ _ _)
      obtain ⟨t13, ht13, h⟩ := bdE h
      refine z_ifs (u := (!t13)) (v_not (u := t13) (v_call (vs_cons (v_loc rfl) (vs_cons (v_loc rfl) (vs_cons (v_loc rfl) vs_nil))) (r__law_table_is (k + 6) (x1.1) t2 (x1.2) _ t13 ht13))) (fun hu => ?_) (fun hu => ?_)
      · rw [if_pos hu] at h
        refine z_ret (v_bl _) ?_
        cases h
        exact flr_rt (Pr := fun _ _ => True) trivial
      · rw [if_neg (by rw [hu]; decide)] at h
        refine z_thn ?_
        cases h
        exact z_nil (flr_nx ⟨jV (pu (eL eI) (x1.2)), jV (pu e_Table (x1.1)), rfl⟩)
    case hk1 =>
      intro o ho
      cases f2 with
      | nx s0 =>
        obtain ⟨_, ⟨j2, j3, rfl⟩, rfl⟩ := ho
        show Zp _ (evSs _ _ _ _ _ _ _)
        try dsimp only at h
        obtain ⟨xs1, hxs1, h⟩ := bdE h
        obtain ⟨ys1, hys1, h⟩ := bdE h
        refine z_setc (e1 := [some (eZ script0), some ((eL eI) t0), some (eI t2), some (eI t3), some ((eL eI) t4), some ((eL eI) t5), some ((eL eI) second0), some (e_Table t8), some (e_Table t9), some (e_Table t10), some ((eL eI) ys0), some ((eL eI) ys1), none, none, none, none, j2.v, none, none, none, none, none, j3.v, none, none]) (v_frz (va_comp (ex := eI) (ey := eI) (xs := xs1) (fun x2 => [some (eZ script0), some ((eL eI) t0), some (eI t2), some (eI t3), some ((eL eI) t4), some ((eL eI) t5), some ((eL eI) second0), some (e_Table t8), some (e_Table t9), some (e_Table t10), some ((eL eI) ys0), none, none, none, none, none, j2.v, none, some (eI x2), none, none, none, j3.v, none, none]) (vi_rng1 (v_loc rfl) hxs1) hys1 (fun _ => rfl) (fun _ => rfl) (fun x2 ac b hm => v_castC vc_none (Option.some.inj hm)) (fun x2 ac y hm => by
         obtain ⟨t14, ht14, hm⟩ := bdE hm
         exact v_cast (v_call (vs_cons (v_loc rfl) (vs_cons (v_loc rfl) (vs_cons (v_loc rfl) vs_nil))) (r__law_sum_at (k + 8) t5 x2 t4 _ t14 ht14)) (congrArg eI (Option.some.inj hm)))) pures_nil (pures_map (e := eI) ys1)) rfl ?_
        obtain ⟨xs2, hxs2, h⟩ := bdE h
        obtain ⟨ys2, hys2, h⟩ := bdE h
        refine z_setc (e1 := [some (eZ script0), some ((eL eI) t0), some (eI t2), some (eI t3), some ((eL eI) t4), some ((eL eI) t5), some ((eL eI) second0), some (e_Table t8), some (e_Table t9), some (e_Table t10), some ((eL eI) ys0), some ((eL eI) ys1), some ((eL eI) ys2), none, none, none, j2.v, none, none, none, none, none, j3.v, none, none]) (v_frz (va_comp (ex := eI) (ey := eI) (xs := xs2) (fun x3 => [some (eZ script0), some ((eL eI) t0), some (eI t2), some (eI t3), some ((eL eI) t4), some ((eL eI) t5), some ((eL eI) second0), some (e_Table t8), some (e_Table t9), some (e_Table t10), some ((eL eI) ys0), some ((eL eI) ys1), none, none, none, none, j2.v, none, some (eI x3), none, none, none, j3.v, none, none]) (vi_rng1 (v_loc rfl) hxs2) hys2 (fun _ => rfl) (fun _ => rfl) (fun x3 ac b hm => v_castC vc_none (Option.some.inj hm)) (fun x3 ac y hm => by
         obtain ⟨t15, ht15, hm⟩ := bdE hm
         exact v_cast (v_call (vs_cons (v_loc rfl) (vs_cons (v_loc rfl) (vs_cons (v_loc rfl) vs_nil))) (r__law_sum_at (k + 8) second0 x3 t4 _ t15 ht15)) (congrArg eI (Option.some.inj hm)))) pures_nil (pures_map (e := eI) ys2)) rfl ?_
        obtain ⟨t16, ht16, h⟩ := bdE h
        refine z_ifs (u := (!t16)) (v_not (u := t16) (v_call (vs_cons (v_loc rfl) (vs_cons (v_loc rfl) (vs_cons (v_loc rfl) (vs_cons (v_loc rfl) (vs_cons (v_loc rfl) (vs_cons (v_loc rfl) vs_nil)))))) (r__law_sums_fit (k + 2) t10 t8 t9 ys1 ys2 ys0 _ t16 ht16))) (fun hu => ?_) (fun hu => ?_)
        · rw [if_pos hu] at h
          refine z_ret (v_bl _) ?_
          cases h
          exact zf_rt (pu eB _)
        · rw [if_neg (by rw [hu]; decide)] at h
          refine z_thn ?_
          obtain ⟨t17, ht17, h⟩ := bdE h
          obtain ⟨t18, ht18, h⟩ := bdE h
          obtain ⟨t19, ht19, h⟩ := bdE h
          obtain ⟨t20, ht20, h⟩ := bdE h
          obtain ⟨f1, hf1, h⟩ := bdE h
          refine z_for (ex := eI) (xs := [t18, t20, 0]) (ck := none) (E := (fun (s : Unit) (e : Ev.Env) => ∃ j4 : J, e = [some (eZ script0), some ((eL eI) t0), some (eI t2), some (eI t3), some ((eL eI) t4), some ((eL eI) t5), some ((eL eI) second0), some (e_Table t8), some (e_Table t9), some (e_Table t10), some ((eL eI) ys0), some ((eL eI) ys1), some ((eL eI) ys2), j4.v, none, none, j2.v, none, none, none, none, none, j3.v, none, none])) (St := (fun (s : Unit) => [])) (er := eB) (Pr := fun _ _ => True) (vi_val (e := eI) (xs := [t18, t20, 0]) (ck := none) (v_frz (va_cast (va_disp (vs_cons (v_mod (v_sub (e := eI) (xs := t0) (v_loc rfl) (v_int _) rfl ht17) (v_loc rfl) ht18) (vs_cons (v_mod (v_sub (e := eI) (xs := t0) (v_loc rfl) (v_int _) rfl ht19) (v_loc rfl) ht20) (vs_cons (v_int _) vs_nil)))) (show _ = List.map eI [t18, t20, 0] from rfl)) pures_nil (pures_map (e := eI) [t18, t20, 0])) rfl) hf1 ⟨jN, rfl⟩ rfl (fun _ => rfl) ?hstep2 ?hk2
          case hstep2 =>
            intro s x4 f env hE h
            obtain ⟨j4, rfl⟩ := hE
            skip
            unfold m_law_l2 at h
            refine ⟨[some (eZ script0), some ((eL eI) t0), some (eI t2), some (eI t3), some ((eL eI) t4), some ((eL eI) t5), some ((eL eI) second0), some (e_Table t8), some (e_Table t9), some (e_Table t10), some ((eL eI) ys0), some ((eL eI) ys1), some ((eL eI) ys2), some (eI x4), none, none, j2.v, none, none, none, none, none, j3.v, none, none], rfl, ?_⟩
            show Zp (FlR _ _ _ _ _) (evSs _ _ _ _ _ _ _)
            obtain ⟨t21, ht21, h⟩ := bdE h
            refine z_ifs (u := (!t21)) (v_not (u := t21) (v_call (vs_cons (v_loc rfl) (vs_cons (v_loc rfl) (vs_cons (v_loc rfl) (vs_cons (v_loc rfl) (vs_cons (v_loc rfl) (vs_cons (v_loc rfl) vs_nil)))))) (r__law_far_fits (k + 0) t8 t9 ys1 ys2 x4 t4 _ t21 ht21))) (fun hu => ?_) (fun hu => ?_)
            · rw [if_pos hu] at h
              refine z_ret (v_bl _) ?_
              cases h
              exact flr_rt (Pr := fun _ _ => True) trivial
            · rw [if_neg (by rw [hu]; decide)] at h
              refine z_thn ?_
              cases h
              exact z_nil (flr_nx ⟨jV (pu eI x4), rfl⟩)
          case hk2 =>
            intro o ho
            cases f1 with
            | nx s1 =>
              obtain ⟨_, ⟨j5, rfl⟩, rfl⟩ := ho
              show Zp _ (evSs _ _ _ _ _ _ _)
              try dsimp only at h
              obtain ⟨t22, ht22, h⟩ := bdE h
              obtain ⟨t23, ht23, h⟩ := bdE h
              refine z_set (e1 := [some (eZ script0), some ((eL eI) t0), some (eI t2), some (eI t3), some ((eL eI) t4), some ((eL eI) t5), some ((eL eI) second0), some (e_Table t8), some (e_Table t9), some (e_Table t10), some ((eL eI) ys0), some ((eL eI) ys1), some ((eL eI) ys2), j5.v, some (eI t23), none, j2.v, none, none, none, none, none, j3.v, none, none]) (v_mod (v_sub (e := eI) (xs := t0) (v_loc rfl) (v_int _) rfl ht22) (v_loc rfl) ht23) rfl ?_
              refine z_new (n := 0) (e1 := [some (eZ script0), some ((eL eI) t0), some (eI t2), some (eI t3), some ((eL eI) t4), some ((eL eI) t5), some ((eL eI) second0), some (e_Table t8), some (e_Table t9), some (e_Table t10), some ((eL eI) ys0), some ((eL eI) ys1), some ((eL eI) ys2), j5.v, some (eI t23), some (.ref 0), j2.v, none, none, none, none, none, j3.v, none, none]) (S1 := [eL eI t5]) (va_ofs (e := eI) (xs := t5) (v_loc rfl) rfl) rfl rfl rfl ?_
              obtain ⟨t24, ht24, h⟩ := bdE h
              obtain ⟨turned0, hturned0, h⟩ := bdE h
              refine z_sets (ex := eI) (xs := t5) (y := (1 - t24)) (n := 0) (S1 := [eL eI turned0]) (v_subt (v_int _) (v_sub (e := eI) (xs := t5) (v_loc rfl) (v_loc rfl) rfl ht24)) (v_loc rfl) (v_loc rfl) rfl hturned0 rfl ?_
              refine z_seal (n := 0) (S0 := []) (e1 := [some (eZ script0), some ((eL eI) t0), some (eI t2), some (eI t3), some ((eL eI) t4), some ((eL eI) t5), some ((eL eI) second0), some (e_Table t8), some (e_Table t9), some (e_Table t10), some ((eL eI) ys0), some ((eL eI) ys1), some ((eL eI) ys2), j5.v, some (eI t23), some ((eL eI) turned0), j2.v, none, none, none, none, none, j3.v, none, none]) rfl rfl rfl (by decide) (eb_cons (ob_pure (pu eZ script0)) (eb_cons (ob_pure (pu (eL eI) t0)) (eb_cons (ob_pure (pu eI t2)) (eb_cons (ob_pure (pu eI t3)) (eb_cons (ob_pure (pu (eL eI) t4)) (eb_cons (ob_pure (pu (eL eI) t5)) (eb_cons (ob_pure (pu (eL eI) second0)) (eb_cons (ob_pure (pu e_Table t8)) (eb_cons (ob_pure (pu e_Table t9)) (eb_cons (ob_pure (pu e_Table t10)) (eb_cons (ob_pure (pu (eL eI) ys0)) (eb_cons (ob_pure (pu (eL eI) ys1)) (eb_cons (ob_pure (pu (eL eI) ys2)) (eb_cons (ob_junk j5) (eb_cons (ob_pure (pu eI t23)) (eb_skip (al_cons (ob_junk j2) (al_cons ob_none (al_cons ob_none (al_cons ob_none (al_cons ob_none (al_cons ob_none (al_cons (ob_junk j3) (al_cons ob_none (al_cons ob_none al_nil))))))))))))))))))))))))) (pures_cons (pu (eL eI) turned0) pures_nil) rfl ?_
              obtain ⟨xs3, hxs3, h⟩ := bdE h
              obtain ⟨ys3, hys3, h⟩ := bdE h
              refine z_setc (e1 := [some (eZ script0), some ((eL eI) t0), some (eI t2), some (eI t3), some ((eL eI) t4), some ((eL eI) t5), some ((eL eI) second0), some (e_Table t8), some (e_Table t9), some (e_Table t10), some ((eL eI) ys0), some ((eL eI) ys1), some ((eL eI) ys2), j5.v, some (eI t23), some ((eL eI) turned0), some ((eL eI) ys3), none, none, none, none, none, j3.v, none, none]) (v_frz (va_comp (ex := eI) (ey := eI) (xs := xs3) (fun x5 => [some (eZ script0), some ((eL eI) t0), some (eI t2), some (eI t3), some ((eL eI) t4), some ((eL eI) t5), some ((eL eI) second0), some (e_Table t8), some (e_Table t9), some (e_Table t10), some ((eL eI) ys0), some ((eL eI) ys1), some ((eL eI) ys2), j5.v, some (eI t23), some ((eL eI) turned0), j2.v, none, some (eI x5), none, none, none, j3.v, none, none]) (vi_rng1 (v_loc rfl) hxs3) hys3 (fun _ => rfl) (fun _ => rfl) (fun x5 ac b hm => v_castC vc_none (Option.some.inj hm)) (fun x5 ac y hm => by
               obtain ⟨t25, ht25, hm⟩ := bdE hm
               obtain ⟨t26, ht26, hm⟩ := bdE hm
               obtain ⟨t27, ht27, hm⟩ := bdE hm
               obtain ⟨t28, ht28, hm⟩ := bdE hm
               obtain ⟨t29, ht29, hm⟩ := bdE hm
               exact v_cast (v_subt (v_sub (e := eI) (xs := ys1) (v_loc rfl) (v_loc rfl) rfl ht25) (v_mul (v_int _) (v_subt (v_int _) (v_mul (v_int _) (v_bxor (v_sub (e := eI) (xs := t5) (v_loc rfl) (v_loc rfl) rfl ht26) (v_sub (e := eI) (xs := t4) (v_loc rfl) (v_band (v_loc rfl) (v_loc rfl)) rfl ht27)) ht28)) ht29)) (congrArg eI (Option.some.inj hm)))) pures_nil (pures_map (e := eI) ys3)) rfl ?_
              obtain ⟨t30, ht30, h⟩ := bdE h
              obtain ⟨t31, ht31, h⟩ := bdE h
              obtain ⟨t32, ht32, h⟩ := bdE h
              refine z_ifs (u := (!t32)) (v_not (u := t32) (v_call (vs_cons (v_call (vs_cons (v_mk (vs_cons (v_loc rfl) (vs_cons (v_loc rfl) vs_nil)) (r_Table___init__ (k + 5) t2 turned0 _ t30 ht30)) vs_nil) (r_signed_sums (k + 7) t30 _ t31 ht31)) (vs_cons (v_loc rfl) vs_nil)) (r__law_row_is (k + 7) t31 ys3 _ t32 ht32))) (fun hu => ?_) (fun hu => ?_)
              · rw [if_pos hu] at h
                refine z_ret (v_bl _) ?_
                cases h
                exact zf_rt (pu eB _)
              · rw [if_neg (by rw [hu]; decide)] at h
                refine z_thn ?_
                refine z_new (n := 0) (e1 := [some (eZ script0), some ((eL eI) t0), some (eI t2), some (eI t3), some ((eL eI) t4), some ((eL eI) t5), some ((eL eI) second0), some (e_Table t8), some (e_Table t9), some (e_Table t10), some ((eL eI) ys0), some ((eL eI) ys1), some ((eL eI) ys2), j5.v, some (eI t23), some ((eL eI) turned0), some ((eL eI) ys3), some (.ref 0), none, none, none, none, j3.v, none, none]) (S1 := [eL eI ys1]) (va_ofs (e := eI) (xs := ys1) (v_loc rfl) rfl) rfl rfl rfl ?_
                obtain ⟨t33, ht33, h⟩ := bdE h
                obtain ⟨t34, ht34, h⟩ := bdE h
                refine z_set (e1 := [some (eZ script0), some ((eL eI) t0), some (eI t2), some (eI t3), some ((eL eI) t4), some ((eL eI) t5), some ((eL eI) second0), some (e_Table t8), some (e_Table t9), some (e_Table t10), some ((eL eI) ys0), some ((eL eI) ys1), some ((eL eI) ys2), j5.v, some (eI t23), some ((eL eI) turned0), some ((eL eI) ys3), some (.ref 0), some (eI t34), none, none, none, j3.v, none, none]) (v_mod (v_sub (e := eI) (xs := t0) (v_loc rfl) (v_int _) rfl ht33) (v_loc rfl) ht34) rfl ?_
                obtain ⟨t35, ht35, h⟩ := bdE h
                obtain ⟨t36, ht36, h⟩ := bdE h
                refine z_set (e1 := [some (eZ script0), some ((eL eI) t0), some (eI t2), some (eI t3), some ((eL eI) t4), some ((eL eI) t5), some ((eL eI) second0), some (e_Table t8), some (e_Table t9), some (e_Table t10), some ((eL eI) ys0), some ((eL eI) ys1), some ((eL eI) ys2), j5.v, some (eI t23), some ((eL eI) turned0), some ((eL eI) ys3), some (.ref 0), some (eI t34), some (eI t36), none, none, j3.v, none, none]) (v_mod (v_sub (e := eI) (xs := t0) (v_loc rfl) (v_int _) rfl ht35) (v_loc rfl) ht36) rfl ?_
                obtain ⟨t37, ht37, h⟩ := bdE h
                obtain ⟨swapped0, hswapped0, h⟩ := bdE h
                refine z_sets (ex := eI) (xs := ys1) (y := t37) (n := 0) (S1 := [eL eI swapped0]) (v_sub (e := eI) (xs := ys1) (v_loc rfl) (v_loc rfl) rfl ht37) (v_loc rfl) (v_loc rfl) rfl hswapped0 rfl ?_
                obtain ⟨t38, ht38, h⟩ := bdE h
                obtain ⟨swapped1, hswapped1, h⟩ := bdE h
                refine z_sets (ex := eI) (xs := swapped0) (y := t38) (n := 0) (S1 := [eL eI swapped1]) (v_sub (e := eI) (xs := ys1) (v_loc rfl) (v_loc rfl) rfl ht38) (v_loc rfl) (v_loc rfl) rfl hswapped1 rfl ?_
                refine z_seal (n := 0) (S0 := []) (e1 := [some (eZ script0), some ((eL eI) t0), some (eI t2), some (eI t3), some ((eL eI) t4), some ((eL eI) t5), some ((eL eI) second0), some (e_Table t8), some (e_Table t9), some (e_Table t10), some ((eL eI) ys0), some ((eL eI) ys1), some ((eL eI) ys2), j5.v, some (eI t23), some ((eL eI) turned0), some ((eL eI) ys3), some ((eL eI) swapped1), some (eI t34), some (eI t36), none, none, j3.v, none, none]) rfl rfl rfl (by decide) (eb_cons (ob_pure (pu eZ script0)) (eb_cons (ob_pure (pu (eL eI) t0)) (eb_cons (ob_pure (pu eI t2)) (eb_cons (ob_pure (pu eI t3)) (eb_cons (ob_pure (pu (eL eI) t4)) (eb_cons (ob_pure (pu (eL eI) t5)) (eb_cons (ob_pure (pu (eL eI) second0)) (eb_cons (ob_pure (pu e_Table t8)) (eb_cons (ob_pure (pu e_Table t9)) (eb_cons (ob_pure (pu e_Table t10)) (eb_cons (ob_pure (pu (eL eI) ys0)) (eb_cons (ob_pure (pu (eL eI) ys1)) (eb_cons (ob_pure (pu (eL eI) ys2)) (eb_cons (ob_junk j5) (eb_cons (ob_pure (pu eI t23)) (eb_cons (ob_pure (pu (eL eI) turned0)) (eb_cons (ob_pure (pu (eL eI) ys3)) (eb_skip (al_cons (ob_pure (pu eI t34)) (al_cons (ob_pure (pu eI t36)) (al_cons ob_none (al_cons ob_none (al_cons (ob_junk j3) (al_cons ob_none (al_cons ob_none al_nil))))))))))))))))))))))))) (pures_cons (pu (eL eI) swapped1) pures_nil) rfl ?_
                obtain ⟨xs4, hxs4, h⟩ := bdE h
                obtain ⟨ys4, hys4, h⟩ := bdE h
                refine z_setc (e1 := [some (eZ script0), some ((eL eI) t0), some (eI t2), some (eI t3), some ((eL eI) t4), some ((eL eI) t5), some ((eL eI) second0), some (e_Table t8), some (e_Table t9), some (e_Table t10), some ((eL eI) ys0), some ((eL eI) ys1), some ((eL eI) ys2), j5.v, some (eI t23), some ((eL eI) turned0), some ((eL eI) ys3), some ((eL eI) swapped1), some (eI t34), some (eI t36), some ((eL eI) ys4), none, j3.v, none, none]) (v_frz (va_comp (ex := eI) (ey := eI) (xs := xs4) (fun x6 => [some (eZ script0), some ((eL eI) t0), some (eI t2), some (eI t3), some ((eL eI) t4), some ((eL eI) t5), some ((eL eI) second0), some (e_Table t8), some (e_Table t9), some (e_Table t10), some ((eL eI) ys0), some ((eL eI) ys1), some ((eL eI) ys2), j5.v, some (eI t23), some ((eL eI) turned0), some ((eL eI) ys3), some ((eL eI) swapped1), some (eI t34), some (eI t36), none, none, j3.v, none, some (eI x6)]) (vi_rng1 (v_loc rfl) hxs4) hys4 (fun _ => rfl) (fun _ => rfl) (fun x6 ac b hm => v_castC vc_none (Option.some.inj hm)) (fun x6 ac y hm => by
                 obtain ⟨t39, ht39, hm⟩ := bdE hm
                 obtain ⟨t40, ht40, hm⟩ := bdE hm
                 obtain ⟨t41, ht41, hm⟩ := bdE hm
                 exact v_cast (v_mul (v_sub (e := eI) (xs := ys1) (v_loc rfl) (v_loc rfl) rfl ht39) (v_subt (v_int _) (v_mul (v_int _) (v_intB (v_eq eI (by decide) (u := x6) (w := t34) (v_loc rfl) (v_loc rfl) rfl rfl)) ht40)) ht41) (congrArg eI (Option.some.inj hm)))) pures_nil (pures_map (e := eI) ys4)) rfl ?_
                obtain ⟨t42, ht42, h⟩ := bdE h
                obtain ⟨xs5, hxs5, h⟩ := bdE h
                obtain ⟨ys5, hys5, h⟩ := bdE h
                obtain ⟨f0, hf0, h⟩ := bdE h
                refine z_for (ex := (eL eI)) (xs := [ys1, swapped1, ys4, t42, ys5]) (ck := none) (E := (fun (s : Unit) (e : Ev.Env) => ∃ j6 : J, e = [some (eZ script0), some ((eL eI) t0), some (eI t2), some (eI t3), some ((eL eI) t4), some ((eL eI) t5), some ((eL eI) second0), some (e_Table t8), some (e_Table t9), some (e_Table t10), some ((eL eI) ys0), some ((eL eI) ys1), some ((eL eI) ys2), j5.v, some (eI t23), some ((eL eI) turned0), some ((eL eI) ys3), some ((eL eI) swapped1), some (eI t34), some (eI t36), some ((eL eI) ys4), j6.v, j3.v, none, none])) (St := (fun (s : Unit) => [])) (er := eB) (Pr := fun _ _ => True) (vi_val (e := (eL eI)) (xs := [ys1, swapped1, ys4, t42, ys5]) (ck := none) (v_frz (va_cast (va_disp (vs_cons (v_loc rfl) (vs_cons (v_loc rfl) (vs_cons (v_loc rfl) (vs_cons (v_call (vs_cons (v_slcL (e := eI) (xs := t0) (v_loc rfl) (vp_some (v_int _)) vp_none rfl) (vs_cons (v_loc rfl) vs_nil)) (r__law_row_drawn (k + 8) (cutT t0 (some 26) none) t2 _ t42 ht42)) (vs_cons (v_frz (va_comp (ex := eI) (ey := eI) (xs := xs5) (fun x7 => [some (eZ script0), some ((eL eI) t0), some (eI t2), some (eI t3), some ((eL eI) t4), some ((eL eI) t5), some ((eL eI) second0), some (e_Table t8), some (e_Table t9), some (e_Table t10), some ((eL eI) ys0), some ((eL eI) ys1), some ((eL eI) ys2), j5.v, some (eI t23), some ((eL eI) turned0), some ((eL eI) ys3), some ((eL eI) swapped1), some (eI t34), some (eI t36), some ((eL eI) ys4), none, j3.v, none, some (eI x7)]) (vi_rng1 (v_loc rfl) hxs5) hys5 (fun _ => rfl) (fun _ => rfl) (fun x7 ac b hm => v_castC vc_none (Option.some.inj hm)) (fun x7 ac y hm => by
                 obtain ⟨t43, ht43, hm⟩ := bdE hm
                 exact v_cast (v_sub (e := eI) (xs := ys1) (v_loc rfl) (v_loc rfl) rfl ht43) (congrArg eI (Option.some.inj hm)))) pures_nil (pures_map (e := eI) ys5)) vs_nil)))))) (show _ = List.map (eL eI) [ys1, swapped1, ys4, t42, ys5] from rfl)) pures_nil (pures_map (e := (eL eI)) [ys1, swapped1, ys4, t42, ys5])) rfl) hf0 ⟨jN, rfl⟩ rfl (fun _ => rfl) ?hstep3 ?hk3
                case hstep3 =>
                  intro s x8 f env hE h
                  obtain ⟨j6, rfl⟩ := hE
                  skip
                  unfold m_law_l3 at h
                  refine ⟨[some (eZ script0), some ((eL eI) t0), some (eI t2), some (eI t3), some ((eL eI) t4), some ((eL eI) t5), some ((eL eI) second0), some (e_Table t8), some (e_Table t9), some (e_Table t10), some ((eL eI) ys0), some ((eL eI) ys1), some ((eL eI) ys2), j5.v, some (eI t23), some ((eL eI) turned0), some ((eL eI) ys3), some ((eL eI) swapped1), some (eI t34), some (eI t36), some ((eL eI) ys4), some ((eL eI) x8), j3.v, none, none], rfl, ?_⟩
                  show Zp (FlR _ _ _ _ _) (evSs _ _ _ _ _ _ _)
                  obtain ⟨t44, ht44, h⟩ := bdE h
                  refine z_ifs (u := (!t44)) (v_not (u := t44) (v_call (vs_cons (v_loc rfl) (vs_cons (v_loc rfl) (vs_cons (v_loc rfl) vs_nil))) (r__law_row_fits (k + 2) t2 x8 t4 _ t44 ht44))) (fun hu => ?_) (fun hu => ?_)
                  · rw [if_pos hu] at h
                    refine z_ret (v_bl _) ?_
                    cases h
                    exact flr_rt (Pr := fun _ _ => True) trivial
                  · rw [if_neg (by rw [hu]; decide)] at h
                    refine z_thn ?_
                    cases h
                    exact z_nil (flr_nx ⟨jV (pu (eL eI) x8), rfl⟩)
                case hk3 =>
                  intro o ho
                  cases f0 with
                  | nx s2 =>
                    obtain ⟨_, ⟨j7, rfl⟩, rfl⟩ := ho
                    show Zp _ (evSs _ _ _ _ _ _ _)
                    try dsimp only at h
                    refine z_ret (v_bl _) ?_
                    cases h
                    exact zf_rt (pu eB _)
                  | bk _ => cases ho
                  | rt v =>
                    obtain ⟨S2, rfl, _⟩ := ho
                    dsimp only at h
                    cases h
                    exact zf_rt (pu eB _)
            | bk _ => cases ho
            | rt v =>
              obtain ⟨S2, rfl, _⟩ := ho
              dsimp only at h
              cases h
              exact zf_rt (pu eB _)
      | bk _ => cases ho
      | rt v =>
        obtain ⟨S2, rfl, _⟩ := ho
        dsimp only at h
        cases h
        exact zf_rt (pu eB _)
end M40


set_option maxHeartbeats 200000
set_option Elab.async false
set_option maxRecDepth 100000
/-! k40: rows, shares, draws. -/
namespace M40
open PySem PySem.Spec Ev
theorem lt200 {n : Nat} (h : n < 2 ^ 100) : n < 2 ^ 200 := Nat.lt_trans h (by decide)
theorem row_is_ok {xs ys : List Int} (h : ys.length ≤ 1000) : m__law_row_is xs ys = some (decide (xs = ys)) := by
  unfold m__law_row_is
  by_cases e : xs.length = ys.length
  · rw [if_neg (by simp; omega), rng1M_nat (by omega), bd_some, compM_map (fun k => decide (xs.getD k.toNat 0 = ys.getD k.toNat 0)) (by simp; omega)]
    · rw [bd_some]
      congr 1
      rw [List.all_map, Bool.eq_iff_iff, List.all_eq_true, decide_eq_true_iff]
      constructor
      · intro hh
        apply List.ext_getElem e
        intro i h1 h2
        have := hh (i : Int) (mem_rg.2 ⟨by omega, by omega⟩)
        simpa [List.getD, h1, h2] using this
      · intro hh x _
        subst hh; simp
    · intro x hx
      rw [mem_rg] at hx
      rw [getM_D' 0 hx.1 (by omega), getM_D' 0 hx.1 (by omega)]
      rfl
  · rw [if_pos (by simp; omega), decide_eq_false (fun h => e (by rw [h]))]
def red (a b : Int) : C_Share := ⟨a / gcdT a b, b / gcdT a b⟩
theorem gcdT_pos {a b : Int} (hb : 0 < b) : 0 < gcdT a b := by
  unfold gcdT
  have : 0 < Nat.gcd a.natAbs b.natAbs := Nat.gcd_pos_of_pos_right _ (by omega)
  omega
theorem gcdT_dvd (a b : Int) : gcdT a b ∣ a ∧ gcdT a b ∣ b := by
  unfold gcdT
  constructor
  · rw [← Int.dvd_natAbs]; exact Int.natCast_dvd_natCast.2 (Nat.gcd_dvd_left _ _)
  · rw [← Int.dvd_natAbs]; exact Int.natCast_dvd_natCast.2 (Nat.gcd_dvd_right _ _)
theorem red_spec {a b : Int} (hb : 0 < b) : (red a b).over * b = a * (red a b).under ∧ 0 < (red a b).under ∧ (red a b).under ≤ b ∧ (red a b).over.natAbs ≤ a.natAbs := by
  have hg := gcdT_pos (a := a) hb
  obtain ⟨⟨u, hu⟩, ⟨v, hv⟩⟩ := gcdT_dvd a b
  unfold red
  dsimp only
  generalize gcdT a b = g at *
  have e1 : a / g = u := by rw [hu]; exact Int.mul_ediv_cancel_left u (by omega)
  have e2 : b / g = v := by rw [hv]; exact Int.mul_ediv_cancel_left v (by omega)
  rw [e1, e2]
  have hv0 : 0 < v := by
    rcases (show 0 < v ∨ v ≤ 0 by omega) with h | h
    · exact h
    · have : g * v ≤ g * 0 := Int.mul_le_mul_of_nonneg_left h (by omega)
      omega
  refine ⟨by rw [hu, hv, Int.mul_comm u (g * v), Int.mul_assoc, Int.mul_assoc, Int.mul_comm v u], hv0, ?_, ?_⟩
  · rw [hv]
    have : 1 * v ≤ g * v := Int.mul_le_mul_of_nonneg_right (by omega) (by omega)
    omega
  · rw [hu, Int.natAbs_mul]
    exact Nat.le_mul_of_pos_left _ (by omega)
theorem red_cop {a b : Int} (hb : 0 < b) : Nat.gcd (red a b).over.natAbs (red a b).under.natAbs = 1 := by
  have hg := gcdT_pos (a := a) hb
  obtain ⟨⟨u, hu⟩, ⟨v, hv⟩⟩ := gcdT_dvd a b
  unfold red
  dsimp only
  have e1 : a / gcdT a b = u := by
    conv => lhs; lhs; rw [hu]
    exact Int.mul_ediv_cancel_left u (by omega)
  have e2 : b / gcdT a b = v := by
    conv => lhs; lhs; rw [hv]
    exact Int.mul_ediv_cancel_left v (by omega)
  rw [e1, e2]
  have hgn : (gcdT a b).natAbs = Nat.gcd a.natAbs b.natAbs := by unfold gcdT; simp
  have ha : a.natAbs = (gcdT a b).natAbs * u.natAbs := by conv => lhs; rw [hu, Int.natAbs_mul]
  have hb' : b.natAbs = (gcdT a b).natAbs * v.natAbs := by conv => lhs; rw [hv, Int.natAbs_mul]
  rw [ha, hb', Nat.gcd_mul_left] at hgn
  have hp : 0 < (gcdT a b).natAbs := by omega
  have : (gcdT a b).natAbs * Nat.gcd u.natAbs v.natAbs = (gcdT a b).natAbs * 1 := by omega
  exact Nat.eq_of_mul_eq_mul_left hp this
theorem red_uniq {u v u' v' : Int} (hv : 0 < v) (hv' : 0 < v') (c : Nat.gcd u.natAbs v.natAbs = 1) (c' : Nat.gcd u'.natAbs v'.natAbs = 1) (h : u * v' = u' * v) : u = u' ∧ v = v' := by
  have hn : u.natAbs * v'.natAbs = u'.natAbs * v.natAbs := by rw [← Int.natAbs_mul, ← Int.natAbs_mul, h]
  have d1 : v'.natAbs ∣ v.natAbs := by
    have : v'.natAbs ∣ u'.natAbs * v.natAbs := ⟨u.natAbs, by rw [← hn, Nat.mul_comm]⟩
    exact Nat.Coprime.dvd_of_dvd_mul_left (Nat.Coprime.symm c') this
  have d2 : v.natAbs ∣ v'.natAbs := by
    have : v.natAbs ∣ u.natAbs * v'.natAbs := ⟨u'.natAbs, by rw [hn, Nat.mul_comm]⟩
    exact Nat.Coprime.dvd_of_dvd_mul_left (Nat.Coprime.symm c) this
  have e : v.natAbs = v'.natAbs := Nat.dvd_antisymm d2 d1
  have e' : v = v' := by omega
  subst e'
  exact ⟨Int.eq_of_mul_eq_mul_right (by omega) h, rfl⟩
theorem red_eq {a b c d : Int} (hb : 0 < b) (hd : 0 < d) (h : a * d = c * b) : red a b = red c d := by
  obtain ⟨h1, h2, _⟩ := red_spec (a := a) hb
  obtain ⟨h3, h4, _⟩ := red_spec (a := c) hd
  have key : (red a b).over * (red c d).under = (red c d).over * (red a b).under := by
    have : ((red a b).over * (red c d).under) * (b * d) = ((red c d).over * (red a b).under) * (b * d) := by
      calc ((red a b).over * (red c d).under) * (b * d) = ((red a b).over * b) * ((red c d).under * d) := by simp only [Int.mul_assoc, Int.mul_left_comm]
        _ = (a * (red a b).under) * ((red c d).under * d) := by rw [h1]
        _ = (a * d) * ((red a b).under * (red c d).under) := by simp only [Int.mul_assoc, Int.mul_comm, Int.mul_left_comm]
        _ = (c * b) * ((red a b).under * (red c d).under) := by rw [h]
        _ = (c * (red c d).under) * (b * (red a b).under) := by simp only [Int.mul_assoc, Int.mul_comm, Int.mul_left_comm]
        _ = ((red c d).over * d) * (b * (red a b).under) := by rw [h3]
        _ = ((red c d).over * (red a b).under) * (b * d) := by simp only [Int.mul_assoc, Int.mul_comm, Int.mul_left_comm]
    exact Int.eq_of_mul_eq_mul_right (Int.ne_of_gt (Int.mul_pos hb hd)) this
  obtain ⟨e1, e2⟩ := red_uniq h2 h4 (red_cop hb) (red_cop hd) key
  cases hx : red a b
  cases hy : red c d
  rw [hx, hy] at e1 e2
  simp only at e1 e2
  rw [e1, e2]
theorem init_ok {a b : Int} (hb : 0 < b) (hbb : b.natAbs < 2 ^ 100) : m_Share___init__ a b = some (red a b) := by
  unfold m_Share___init__
  have hg := gcdT_pos (a := a) hb
  have hl : gcdT a b ≤ b := Int.le_of_dvd hb (gcdT_dvd a b).2
  rw [if_neg (by simp; omega), bd_some, if_neg (by simp; omega), bd_some, fdivM_ok hg (lt200 (by omega)), bd_some, fdivM_ok hg (lt200 (by omega)), bd_some]
  rfl
def sm (n : Nat) : Prop := n < 2 ^ 60
theorem mul_sm {x y : Int} (hx : x.natAbs < 2 ^ 60) (hy : y.natAbs < 2 ^ 60) : mulM x y = some (x * y) := mulM_ok (Nat.lt_trans hx (by decide)) (Nat.lt_trans hy (by decide))
theorem mul_lt {x y : Int} (hx : x.natAbs < 2 ^ 60) (hy : y.natAbs < 2 ^ 60) : (x * y).natAbs < 2 ^ 120 := by
  rw [Int.natAbs_mul]
  calc x.natAbs * y.natAbs < 2 ^ 60 * 2 ^ 60 := Nat.mul_lt_mul'' hx hy
    _ = 2 ^ 120 := by decide
theorem gcd_loop : ∀ (xs : List Int) (a b : Nat), b ≤ xs.length → ∃ z : Int, forR (fun (s : Int × Int) x => m__law_share_is_l1 s.1 s.2 x) xs ((a : Int), (b : Int)) = some (.nx (((Nat.gcd a b : Nat) : Int), z))
  | [], a, b, h => by
    have : b = 0 := by simpa using h
    subst this
    exact ⟨0, by rw [forR]; simp⟩
  | x :: xs, a, b, h => by
    rw [forR]
    by_cases hb : b = 0
    · subst hb
      refine ⟨0, ?_⟩
      have : m__law_share_is_l1 (a : Int) ((0 : Nat) : Int) x = some (.bk ((a : Int), 0)) := by unfold m__law_share_is_l1; rfl
      simp only [this]; simp
    · have : m__law_share_is_l1 (a : Int) (b : Int) x = some (.nx ((b : Int), ((a % b : Nat) : Int))) := by
        unfold m__law_share_is_l1
        rw [if_neg (by simp; omega), modM_ok (by omega), bd_some, Int.natCast_emod]
      simp only [this]
      have hlt := Nat.mod_lt a (show 0 < b by omega)
      simp only [List.length_cons] at h
      obtain ⟨z, hz⟩ := gcd_loop xs b (a % b) (by omega)
      refine ⟨z, ?_⟩
      rw [hz, Nat.gcd_comm a b, Nat.gcd_rec b a, Nat.gcd_comm]
theorem share_is_ok {a b : Int} (hb : 0 < b) (hbb : b ≤ 400) : m__law_share_is (red a b) a b = some true := by
  unfold m__law_share_is
  rw [bd_some, show rng1M 400 = some (rg 400) from rng1M_nat (by decide), bd_some]
  obtain ⟨z, hz⟩ := gcd_loop (rg 400) a.natAbs b.natAbs (by simp; omega)
  have e1 : absT a = (a.natAbs : Int) := by unfold absT; split <;> omega
  have e2 : b = (b.natAbs : Int) := by omega
  have hz' : forR (fun (s : Int × Int) x => m__law_share_is_l1 s.1 s.2 x) (rg 400) (absT a, b) = some (.nx (gcdT a b, z)) := by
    rw [e1]; conv => lhs; rw [e2]
    exact hz
  unfold forB
  rw [hz']
  have hg := gcdT_pos (a := a) hb
  have hl : gcdT a b ≤ b := Int.le_of_dvd hb (gcdT_dvd a b).2
  dsimp only
  rw [bd_some]
  dsimp only
  rw [fdivM_ok hg (by have : (gcdT a b).natAbs ≤ 400 := by omega
                      exact Nat.lt_of_le_of_lt this (by decide)), fdivM_ok hg (by have : (gcdT a b).natAbs ≤ 400 := by omega
                                                                                  exact Nat.lt_of_le_of_lt this (by decide))]
  unfold red
  simp
theorem lt40 {n : Nat} (h : n ≤ 2000) : n < 2 ^ 40 := Nat.lt_of_le_of_lt h (by decide)
def Dr (ds : List Int) : Prop := ∀ x ∈ ds, 0 ≤ x ∧ x < 720720
theorem mixed_ok {j : Int} (h0 : 0 ≤ j) (h1 : j < 2147483647) : ∃ v, m__law_mixed j = some v ∧ 0 ≤ v ∧ v < 720720 := by
  unfold m__law_mixed
  rw [mulM_ok (Nat.lt_trans (show j.natAbs < 2 ^ 40 by omega) (by decide)) (Nat.lt_trans (show (j / 4096 + 69621).natAbs < 2 ^ 40 by omega) (by decide)), bd_some]
  exact ⟨_, rfl, by omega, by omega⟩
theorem Dr.snoc {ds : List Int} {v : Int} (h : Dr ds) (h0 : 0 ≤ v) (h1 : v < 720720) : Dr (ds ++ [v]) := by
  intro x hx
  rcases List.mem_append.1 hx with hx | hx
  · exact h x hx
  · simp only [List.mem_singleton] at hx; subst hx; exact ⟨h0, h1⟩
def DrI (B : Nat) (s : Int × List Int) : Prop := 0 ≤ s.1 ∧ s.1 < 2147483647 ∧ Dr s.2 ∧ s.2.length ≤ B
theorem draws_in (least : Int) : ∀ (xs : List Int) (l : Int) (found : List Int), 0 ≤ l → Dr found → found.length + xs.length < 50000 → ∃ l' found', forR (fun (s : Int × List Int) x => m__law_draws_l1 least s.1 s.2 x) xs (l, found) = some (.nx (l', found')) ∧ Dr found' ∧ found'.length ≤ found.length + xs.length
  | [], l, found, _, h, _ => ⟨l, found, rfl, h, by simp⟩
  | x :: xs, l, found, hl, h, hb => by
    simp only [List.length_cons] at hb
    rw [forR]
    by_cases hc : ((decide (l = 0)) || (decide (least ≤ (found.length : Int)))) = true
    · have : m__law_draws_l1 least l found x = some (.bk (l, found)) := by unfold m__law_draws_l1; rw [if_pos hc]
      simp only [this]
      exact ⟨l, found, rfl, h, by omega⟩
    · have : m__law_draws_l1 least l found x = some (.nx (l / 720720, found ++ [l % 720720])) := by
        unfold m__law_draws_l1; rw [if_neg hc, appM_ok (by omega), bd_some, bd_some]
      simp only [this]
      obtain ⟨l', f', a, b, c⟩ := draws_in least xs (l / 720720) (found ++ [l % 720720]) (by omega) (h.snoc (by omega) (by omega)) (by simp; omega)
      exact ⟨l', f', a, b, by simp at c ⊢; omega⟩
theorem draws_ok {ns : List Int} (hn : ns.length ≤ 63) : ∃ d, m__law_draws ns 50 = some d ∧ Dr d ∧ 50 ≤ d.length := by
  unfold m__law_draws
  have hc : (cutT ns none (some 63)).length ≤ 63 := cut_len_le' ns
  rw [bd_some]
  obtain ⟨s, f1, f2⟩ := forS_list (step := fun s x => m__law_draws_l2 50 s.1 s.2 x) (fun done s => DrI (60 * done.length) s ∧ done.length ≤ 63) (cutT ns none (some 63)) (11, []) (fun done x s hr h => by
    obtain ⟨r, hr⟩ := hr
    have hlen : done.length + 1 ≤ 63 := by
      have : (cutT ns none (some 63)).length = done.length + (r.length + 1) := by rw [hr]; simp
      omega
    obtain ⟨⟨h0, h1, h2, h3⟩, _⟩ := h
    obtain ⟨j, found⟩ := s
    dsimp only at *
    unfold m__law_draws_l2
    rw [bd_some, mulM_ok (Nat.lt_trans (show j.natAbs < 2 ^ 40 by omega) (by decide)) (by decide), bd_some, bd_some]
    split
    · obtain ⟨v, e, v0, v1⟩ := mixed_ok (j := (j * 48271 + 7 + x % 2147483647) % 2147483647) (by omega) (by omega)
      rw [e, bd_some, appM_ok (by omega), bd_some]
      exact ⟨_, rfl, ⟨by dsimp only; omega, by dsimp only; omega, h2.snoc v0 v1, by simp; omega⟩, by simp; omega⟩
    · rw [show rng1M 60 = some (rg 60) from rng1M_nat (by decide), bd_some]
      obtain ⟨l', f', a, b, c⟩ := draws_in 50 (rg 60) (absT x) found (by unfold absT; split <;> omega) h2 (by simp; omega)
      unfold forB
      rw [a]
      dsimp only
      rw [bd_some]
      exact ⟨_, rfl, ⟨by dsimp only; omega, by dsimp only; omega, b, by simp at c ⊢; omega⟩, by simp; omega⟩) ⟨⟨by decide, by decide, fun x hx => (by cases hx), by simp⟩, by simp⟩
  rw [f1, bd_some]
  obtain ⟨j, found⟩ := s
  obtain ⟨⟨h0, h1, h2, h3⟩, _⟩ := f2
  dsimp only at *
  rw [show rng1M 50 = some (rg 50) from rng1M_nat (by decide), bd_some]
  obtain ⟨s, g1, g2⟩ := forS_rg (step := fun s x => m__law_draws_l3 s.1 s.2 x) (fun k s => 0 ≤ s.1 ∧ s.1 < 2147483647 ∧ Dr s.2 ∧ s.2.length = found.length + k) 50 (j, found) (fun k s hk h => by
    obtain ⟨a0, a1, a2, a3⟩ := h
    obtain ⟨j, fnd⟩ := s
    dsimp only at *
    unfold m__law_draws_l3
    rw [mulM_ok (Nat.lt_trans (show j.natAbs < 2 ^ 40 by omega) (by decide)) (by decide), bd_some, bd_some]
    obtain ⟨v, e, v0, v1⟩ := mixed_ok (j := (j * 48271 + 12345 + (k : Int)) % 2147483647) (by omega) (by omega)
    rw [e, bd_some, appM_ok (by omega), bd_some]
    exact ⟨_, rfl, by dsimp only; omega, by dsimp only; omega, a2.snoc v0 v1, by simp; omega⟩) ⟨h0, h1, h2, rfl⟩
  rw [g1, bd_some]
  exact ⟨_, rfl, g2.2.2.1, by rw [g2.2.2.2]; omega⟩
theorem dr_get {d : List Int} {i : Int} (h : Dr d) (h0 : 0 ≤ i) (h1 : i < d.length) : ∃ v, getM d i = some v ∧ 0 ≤ v ∧ v < 720720 := by
  refine ⟨_, getM_D' 0 h0 h1, ?_⟩
  apply h
  have : i.toNat < d.length := by omega
  simp [List.getD, this]
end M40


set_option maxHeartbeats 200000
set_option Elab.async false
set_option maxRecDepth 100000
/-! k40: sums. -/
namespace M40
open PySem PySem.Spec Ev
def sm' (n : Nat) (f : Nat → Int) : Int := match n with
  | 0 => 0
  | n + 1 => sm' n f + f n
theorem sm_congr {n : Nat} {f g : Nat → Int} (h : ∀ k, k < n → f k = g k) : sm' n f = sm' n g := by
  induction n with
  | zero => rfl
  | succ n ih => simp only [sm']; rw [ih fun k hk => h k (by omega), h n (by omega)]
theorem sm_zero (n : Nat) : sm' n (fun _ => 0) = 0 := by
  induction n with
  | zero => rfl
  | succ n ih => simp only [sm', ih]; rfl
theorem sm_add (n : Nat) (f g : Nat → Int) : sm' n (fun k => f k + g k) = sm' n f + sm' n g := by
  induction n with
  | zero => rfl
  | succ n ih => simp only [sm', ih]; omega
theorem sm_mul (n : Nat) (c : Int) (f : Nat → Int) : sm' n (fun k => c * f k) = c * sm' n f := by
  induction n with
  | zero => simp [sm']
  | succ n ih => simp only [sm', ih]; rw [Int.mul_add]
theorem sm_mulr (n : Nat) (c : Int) (f : Nat → Int) : sm' n (fun k => f k * c) = sm' n f * c := by
  rw [Int.mul_comm, ← sm_mul]; exact sm_congr fun k _ => Int.mul_comm _ _
theorem sm_comm (n m : Nat) (f : Nat → Nat → Int) : sm' n (fun i => sm' m fun j => f i j) = sm' m fun j => sm' n fun i => f i j := by
  induction n with
  | zero => simp only [sm']; exact (sm_zero m).symm
  | succ n ih => simp only [sm']; rw [ih, ← sm_add]
theorem sm_one (n t : Nat) (c : Int) (g : Nat → Int) (h : t < n) : sm' n (fun y => g y * (if t = y then c else 0)) = g t * c := by
  induction n with
  | zero => omega
  | succ n ih =>
    simp only [sm']
    by_cases e : t = n
    · subst e
      rw [if_pos rfl, sm_congr (g := fun _ => 0) (fun k hk => by rw [if_neg (by omega), Int.mul_zero]), sm_zero]; omega
    · rw [ih (by omega), if_neg e]; omega
/-- a sum over other places -/
theorem sm_re (m n : Nat) (p : Nat → Nat) (c g : Nat → Int) (h : ∀ z, z < m → p z < n) : sm' m (fun z => g (p z) * c z) = sm' n fun y => g y * sm' m fun z => if p z = y then c z else 0 := by
  rw [sm_congr (g := fun z => sm' n fun y => g y * (if p z = y then c z else 0)) (fun z hz => (sm_one n (p z) (c z) g (h z hz)).symm), sm_comm]
  exact sm_congr fun y _ => sm_mul _ _ _
theorem sm_nonneg {n : Nat} {f : Nat → Int} (h : ∀ k, k < n → 0 ≤ f k) : 0 ≤ sm' n f := by
  induction n with
  | zero => exact Int.le_refl _
  | succ n ih => have h1 := ih fun k hk => h k (by omega); have h2 := h n (by omega); simp only [sm']; omega
theorem sm_le_one {n t : Nat} {f : Nat → Int} (h : ∀ k, k < n → 0 ≤ f k) (ht : t < n) : f t ≤ sm' n f := by
  induction n with
  | zero => omega
  | succ n ih =>
    have h2 := h n (by omega)
    have h0 : 0 ≤ sm' n f := sm_nonneg fun k hk => h k (by omega)
    simp only [sm']
    by_cases e : t = n
    · subst e; omega
    · have := ih (fun k hk => h k (by omega)) (by omega); omega
theorem sm_split (n m : Nat) (f : Nat → Int) : sm' (n + m) f = sm' n f + sm' m fun k => f (n + k) := by
  induction m with
  | zero => simp [sm']
  | succ m ih => rw [Nat.add_succ]; simp only [sm']; rw [ih]; omega
theorem sm_blocks (a b : Nat) (f : Nat → Int) : sm' (a * b) f = sm' a fun i => sm' b fun j => f (i * b + j) := by
  induction a with
  | zero => simp [sm']
  | succ a ih => rw [Nat.succ_mul, sm_split, ih]; rfl
theorem sum_rg (n : Nat) (f : Int → Int) : ((rg n).map f).sum = sm' n fun k => f (k : Int) := by
  induction n with
  | zero => rfl
  | succ n ih => rw [rg_succ, List.map_append, List.sum_append, ih]; simp [sm']
/-! ### signs -/
def par (n : Nat) : Nat := (n ^^^ (n >>> 1) ^^^ (n >>> 2) ^^^ (n >>> 3)) % 2
def ch (a x : Nat) : Int := if par (a &&& x) = 0 then 1 else -1
def chk1 : Bool := (List.range 16).all fun a => (List.range 16).all fun x => (List.range 16).all fun y => decide (ch a x * ch a y = ch a (x ^^^ y))
theorem ck1 : chk1 = true := by decide +kernel
theorem ch_mul {a x y : Nat} (ha : a < 16) (hx : x < 16) (hy : y < 16) : ch a x * ch a y = ch a (x ^^^ y) := by
  have h := ck1
  unfold chk1 at h
  rw [List.all_eq_true] at h
  have h1 := h a (List.mem_range.2 ha)
  rw [List.all_eq_true] at h1
  have h2 := h1 x (List.mem_range.2 hx)
  rw [List.all_eq_true] at h2
  exact of_decide_eq_true (h2 y (List.mem_range.2 hy))
theorem xor_lt {x y w : Nat} (hx : x < 2 ^ w) (hy : y < 2 ^ w) : x ^^^ y < 2 ^ w := Nat.xor_lt_two_pow hx hy
/-- x ^ . runs through all -/
theorem sm_xor {w x : Nat} (hx : x < 2 ^ w) (g : Nat → Int) : sm' (2 ^ w) g = sm' (2 ^ w) fun z => g (x ^^^ z) := by
  have h := sm_re (2 ^ w) (2 ^ w) (fun z => x ^^^ z) (fun _ => 1) g fun z hz => xor_lt hx hz
  rw [sm_congr (g := fun z => g (x ^^^ z)) (fun k _ => Int.mul_one _)] at h
  rw [h]
  refine sm_congr fun y hy => ?_
  have h2 := sm_one (2 ^ w) (x ^^^ y) 1 (fun _ => 1) (xor_lt hx hy)
  rw [sm_congr (g := fun z => if x ^^^ z = y then (1 : Int) else 0) (fun k hk => by
    rw [Int.one_mul]
    by_cases e : x ^^^ y = k
    · rw [if_pos e, if_pos (by rw [← e, ← Nat.xor_assoc, Nat.xor_self, Nat.zero_xor])]
    · rw [if_neg e, if_neg (fun q => e (by rw [← q, ← Nat.xor_assoc, Nat.xor_self, Nat.zero_xor]))])] at h2
  rw [h2]; omega
/-! ### the sums -/
section
variable (w : Nat) (v : Nat → Int)
def Hs (a : Nat) : Int := sm' (2 ^ w) fun x => v x * ch a x
def Au (z : Nat) : Int := sm' (2 ^ w) fun x => v x * v (x ^^^ z)
variable {w v}
theorem H_sq {a : Nat} (hw : w ≤ 4) (ha : a < 16) : Hs w v a * Hs w v a = sm' (2 ^ w) fun z => Au w v z * ch a z := by
  have hp : 2 ^ w ≤ 16 := Nat.pow_le_pow_right (n := 2) (by decide) hw
  have e1 : Hs w v a * Hs w v a = sm' (2 ^ w) fun x => sm' (2 ^ w) fun y => (v x * v y) * ch a (x ^^^ y) := by
    conv => lhs; lhs; unfold Hs
    rw [← sm_mulr]
    refine sm_congr fun x hx => ?_
    unfold Hs
    rw [← sm_mul]
    refine sm_congr fun y hy => ?_
    rw [← ch_mul ha (by omega) (by omega)]
    simp only [Int.mul_assoc, Int.mul_left_comm]
  rw [e1, sm_congr (g := fun x => sm' (2 ^ w) fun z => (v x * v (x ^^^ z)) * ch a z) (fun x hx => by
    rw [sm_xor hx]
    refine sm_congr fun z _ => ?_
    rw [← Nat.xor_assoc, Nat.xor_self, Nat.zero_xor]), sm_comm]
  refine sm_congr fun z _ => ?_
  rw [sm_mulr]; rfl
def chk2 : Bool := (List.range 5).all fun w => (List.range 5).all fun b => decide (w < b) || ((List.range (2 ^ (w - b))).all fun s => (List.range (2 ^ w)).all fun z =>
  decide (sm' (2 ^ b) (fun k => ch (s * 2 ^ b + k) z) = sm' (2 ^ (w - b)) (fun u => if u * 2 ^ b = z then 2 ^ b * ch s u else 0)))
theorem ck2 : chk2 = true := by decide +kernel
theorem blk_ch {b s z : Nat} (hw : w ≤ 4) (hb : b ≤ w) (hs : s < 2 ^ (w - b)) (hz : z < 2 ^ w) : sm' (2 ^ b) (fun k => ch (s * 2 ^ b + k) z) = sm' (2 ^ (w - b)) (fun u => if u * 2 ^ b = z then 2 ^ b * ch s u else 0) := by
  have h := ck2
  unfold chk2 at h
  rw [List.all_eq_true] at h
  have h1 := h w (List.mem_range.2 (by omega))
  rw [List.all_eq_true] at h1
  have h2 := h1 b (List.mem_range.2 (by omega))
  rw [Bool.or_eq_true, decide_eq_true_eq, List.all_eq_true] at h2
  rcases h2 with h2 | h2
  · omega
  · have h3 := h2 s (List.mem_range.2 hs)
    rw [List.all_eq_true] at h3
    exact of_decide_eq_true (h3 z (List.mem_range.2 hz))
theorem blk_lt {b s k : Nat} (hb : b ≤ w) (hs : s < 2 ^ (w - b)) (hk : k < 2 ^ b) : s * 2 ^ b + k < 2 ^ w := by
  have e : 2 ^ w = 2 ^ (w - b) * 2 ^ b := by rw [← Nat.pow_add]; congr 1; omega
  rw [e]
  calc s * 2 ^ b + k < s * 2 ^ b + 2 ^ b := by omega
    _ = (s + 1) * 2 ^ b := by rw [Nat.succ_mul]
    _ ≤ 2 ^ (w - b) * 2 ^ b := Nat.mul_le_mul_right _ hs
/-- the weight of a beginning -/
def We (w : Nat) (v : Nat → Int) (b s : Nat) : Int := sm' (2 ^ b) fun k => Hs w v (s * 2 ^ b + k) * Hs w v (s * 2 ^ b + k)
theorem We_eq {b s : Nat} (hw : w ≤ 4) (hb : b ≤ w) (hs : s < 2 ^ (w - b)) : We w v b s = 2 ^ b * sm' (2 ^ (w - b)) fun u => Au w v (u * 2 ^ b) * ch s u := by
  have hp : 2 ^ w ≤ 16 := Nat.pow_le_pow_right (n := 2) (by decide) hw
  unfold We
  rw [sm_congr (g := fun k => sm' (2 ^ w) fun z => Au w v z * ch (s * 2 ^ b + k) z) (fun k hk => H_sq hw (by have := blk_lt hb hs hk; omega)), sm_comm,
    sm_congr (g := fun z => Au w v z * sm' (2 ^ (w - b)) fun u => if u * 2 ^ b = z then 2 ^ b * ch s u else 0) (fun z hz => by rw [sm_mul, blk_ch hw hb hs hz]),
    ← sm_re (2 ^ (w - b)) (2 ^ w) (fun u => u * 2 ^ b) (fun u => 2 ^ b * ch s u) (Au w v) (fun u hu => by have := blk_lt (k := 0) hb hu (Nat.pow_pos (by decide)); omega), ← sm_mul]
  exact sm_congr fun u _ => Int.mul_left_comm _ _ _
theorem We_split {b s : Nat} : We w v (b + 1) s = We w v b (2 * s) + We w v b (2 * s + 1) := by
  unfold We
  rw [show 2 ^ (b + 1) = 2 ^ b + 2 ^ b by rw [Nat.pow_succ]; omega, sm_split]
  congr 1
  · refine sm_congr fun k _ => ?_
    rw [show s * (2 ^ b + 2 ^ b) + k = 2 * s * 2 ^ b + k by rw [Nat.mul_add, Nat.mul_comm 2 s, Nat.mul_assoc, Nat.two_mul, Nat.mul_add]]
  · refine sm_congr fun k _ => ?_
    rw [show s * (2 ^ b + 2 ^ b) + (2 ^ b + k) = (2 * s + 1) * 2 ^ b + k by rw [Nat.succ_mul, Nat.mul_add, Nat.mul_comm 2 s, Nat.mul_assoc, Nat.two_mul, Nat.mul_add]; omega]
theorem We_nonneg (b s : Nat) : 0 ≤ We w v b s := sm_nonneg fun k _ => by
  rcases Int.le_total 0 (Hs w v (s * 2 ^ b + k)) with h | h
  · exact Int.mul_nonneg h h
  · exact Int.mul_nonneg_of_nonpos_of_nonpos h h
end
end M40
namespace M40
open PySem PySem.Spec Ev
def chk3 : Bool := (List.range 5).all fun b => (List.range 16).all fun x => (List.range 16).all fun u => (List.range (2 ^ b)).all fun z => decide ((x * 2 ^ b + z) ^^^ (u * 2 ^ b) = (x ^^^ u) * 2 ^ b + z)
theorem ck3 : chk3 = true := by decide +kernel
theorem blk_xor {b x u z : Nat} (hb : b < 5) (hx : x < 16) (hu : u < 16) (hz : z < 2 ^ b) : (x * 2 ^ b + z) ^^^ (u * 2 ^ b) = (x ^^^ u) * 2 ^ b + z := by
  have h := ck3
  unfold chk3 at h
  rw [List.all_eq_true] at h
  have h1 := h b (List.mem_range.2 hb)
  rw [List.all_eq_true] at h1
  have h2 := h1 x (List.mem_range.2 hx)
  rw [List.all_eq_true] at h2
  have h3 := h2 u (List.mem_range.2 hu)
  rw [List.all_eq_true] at h3
  exact of_decide_eq_true (h3 z (List.mem_range.2 hz))
theorem parts_eq {w b s : Nat} {v : Nat → Int} (hw : w ≤ 4) (hb : b ≤ w) (hs : s < 2 ^ (w - b)) : sm' (2 ^ b) (fun z => Hs (w - b) (fun x => v (x * 2 ^ b + z)) s * Hs (w - b) (fun x => v (x * 2 ^ b + z)) s) = sm' (2 ^ (w - b)) fun u => Au w v (u * 2 ^ b) * ch s u := by
  have hp : 2 ^ (w - b) ≤ 16 := Nat.pow_le_pow_right (n := 2) (by decide) (by omega : w - b ≤ 4)
  rw [sm_congr (g := fun z => sm' (2 ^ (w - b)) fun u => Au (w - b) (fun x => v (x * 2 ^ b + z)) u * ch s u) (fun z hz => H_sq (by omega) (by omega)), sm_comm]
  refine sm_congr fun u hu => ?_
  rw [sm_mulr]
  congr 1
  have e : 2 ^ w = 2 ^ (w - b) * 2 ^ b := by rw [← Nat.pow_add]; congr 1; omega
  unfold Au
  rw [e, sm_blocks, sm_comm]
  refine sm_congr fun x hx => sm_congr fun z hz => ?_
  rw [blk_xor (by omega) (by omega) (by omega) hz]
end M40


set_option maxHeartbeats 200000
set_option Elab.async false
set_option maxRecDepth 100000
/-! k40: words, parities, sums of rows. -/
namespace M40
open PySem PySem.Spec Ev
theorem all16 {p : Nat → Nat → Bool} (h : ((List.range 16).all fun a => (List.range 16).all fun x => p a x) = true) {a x : Nat} (ha : a < 16) (hx : x < 16) : p a x = true := by
  rw [List.all_eq_true] at h
  have h1 := h a (List.mem_range.2 ha)
  rw [List.all_eq_true] at h1
  exact h1 x (List.mem_range.2 hx)
theorem and_nat {a x : Nat} (ha : a < 16) (hx : x < 16) : PySem.Builtin.bitAnd (a : Int) (x : Int) = ((a &&& x : Nat) : Int) := of_decide_eq_true (all16 (p := fun a x => decide (PySem.Builtin.bitAnd (a : Int) (x : Int) = ((a &&& x : Nat) : Int))) (by decide +kernel) ha hx)
theorem xor_nat {a x : Nat} (ha : a < 16) (hx : x < 16) : PySem.Builtin.bitXor (a : Int) (x : Int) = ((a ^^^ x : Nat) : Int) := of_decide_eq_true (all16 (p := fun a x => decide (PySem.Builtin.bitXor (a : Int) (x : Int) = ((a ^^^ x : Nat) : Int))) (by decide +kernel) ha hx)
def Bit (r : Int) : Prop := r = 0 ∨ r = 1
theorem xor_bit {r s : Int} (h : Bit r) (h' : Bit s) : 1 - 2 * PySem.Builtin.bitXor r s = (1 - 2 * r) * (1 - 2 * s) ∧ Bit (PySem.Builtin.bitXor r s) := by
  rcases h with rfl | rfl <;> rcases h' with rfl | rfl
  · exact ⟨by decide, .inl (by decide)⟩
  · exact ⟨by decide, .inr (by decide)⟩
  · exact ⟨by decide, .inr (by decide)⟩
  · exact ⟨by decide, .inl (by decide)⟩
/-- the word of a number -/
def wl (l s : Nat) : List Int := (List.range l).map fun k => (((s >>> (l - 1 - k)) % 2 : Nat) : Int)
def okWord (l s : Nat) : Bool := decide (m__law_word (s : Int) (l : Int) = some (wl l s)) && decide (m_word_at (l : Int) (s : Int) = some (wl l s)) && decide (m_bits_number (wl l s) = some (s : Int)) && decide (m_is_bits (wl l s) = some true) && (decide (l = 0) || decide (m_is_word (wl l s) (l : Int) = some true))
theorem ckw : ((List.range 5).all fun l => (List.range (2 ^ l)).all fun s => okWord l s) = true := by decide +kernel
theorem word_ok {l s : Nat} (hl : l ≤ 4) (hs : s < 2 ^ l) : m__law_word (s : Int) (l : Int) = some (wl l s) ∧ m_word_at (l : Int) (s : Int) = some (wl l s) ∧ m_bits_number (wl l s) = some (s : Int) ∧ m_is_bits (wl l s) = some true ∧ (1 ≤ l → m_is_word (wl l s) (l : Int) = some true) := by
  have h := ckw
  rw [List.all_eq_true] at h
  have h1 := h l (List.mem_range.2 (by omega))
  rw [List.all_eq_true] at h1
  have h2 := h1 s (List.mem_range.2 hs)
  unfold okWord at h2
  simp only [Bool.and_eq_true, Bool.or_eq_true, decide_eq_true_eq] at h2
  exact ⟨h2.1.1.1.1, h2.1.1.1.2, h2.1.1.2, h2.1.2, fun hl' => h2.2.resolve_left (by omega)⟩
theorem wl_len (l s : Nat) : (wl l s).length = l := by simp [wl]
def odds (w : Nat) : List Int := (List.range (2 ^ w)).map fun x => ((par x : Nat) : Int)
theorem odds_len (w : Nat) : (odds w).length = 2 ^ w := by simp [odds]
theorem odds_get {w x : Nat} (hx : x < 2 ^ w) : getM (odds w) (x : Int) = some ((par x : Nat) : Int) := by
  rw [getM_nat (by rw [odds_len]; exact hx)]
  simp [odds]
theorem par_bit (x : Nat) : Bit ((par x : Nat) : Int) := by
  unfold par Bit
  have := Nat.mod_lt (x ^^^ (x >>> 1) ^^^ (x >>> 2) ^^^ (x >>> 3)) (show 0 < 2 by decide)
  omega
theorem ch_par (a x : Nat) : ch a x = 1 - 2 * ((par (a &&& x) : Nat) : Int) := by
  unfold ch
  rcases par_bit (a &&& x) with h | h
  · rw [h, if_pos (by omega)]; rfl
  · rw [h, if_neg (by omega)]; rfl
theorem parities_ok {w : Nat} (h1 : 1 ≤ w) (h2 : w ≤ 4) : m__law_parities ((2 ^ w : Nat) : Int) = some (odds w) := by
  rcases (show w = 1 ∨ w = 2 ∨ w = 3 ∨ w = 4 by omega) with rfl | rfl | rfl | rfl <;> decide +kernel
structure Row (w : Nat) (row : List Int) : Prop where
  lo : 1 ≤ w
  hi : w ≤ 4
  len : row.length = 2 ^ w
  bit : ∀ x ∈ row, Bit x
def vv (row : List Int) (x : Nat) : Int := 1 - 2 * row.getD x 0
section
variable {w : Nat} {row : List Int}
theorem Row.p16 (h : Row w row) : 2 ^ w ≤ 16 := Nat.pow_le_pow_right (n := 2) (by decide) h.hi
theorem p16 {w : Nat} (h : w ≤ 4) : 2 ^ w ≤ 16 := Nat.pow_le_pow_right (n := 2) (by decide) h
theorem Row.at_ (h : Row w row) {x : Nat} (hx : x < 2 ^ w) : getM row (x : Int) = some (row.getD x 0) ∧ Bit (row.getD x 0) := by
  have hl := h.len
  refine ⟨getM_D 0 (by omega), h.bit _ ?_⟩
  rw [List.getD_eq_getElem?_getD, List.getElem?_eq_getElem (by omega)]
  exact List.getElem_mem _
theorem vv_sgn (h : Row w row) {x : Nat} (hx : x < 2 ^ w) : vv row x = 1 ∨ vv row x = -1 := by
  unfold vv
  rcases (h.at_ hx).2 with e | e <;> rw [e]
  · exact .inl rfl
  · exact .inr rfl
/-- sums of bits -/
theorem sm_bits (n : Nat) (f g : Nat → Int) (h : ∀ k, k < n → 1 - 2 * f k = g k) : (n : Int) - 2 * sm' n f = sm' n g := by
  induction n with
  | zero => rfl
  | succ n ih => have := ih fun k hk => h k (by omega); have h2 := h n (by omega); simp only [sm']; rw [← this, ← h2]; omega
theorem sm_bound (n : Nat) (f : Nat → Int) (B : Nat) (h : ∀ k, k < n → (f k).natAbs ≤ B) : (sm' n f).natAbs ≤ n * B := by
  induction n with
  | zero => simp [sm']
  | succ n ih => have := ih fun k hk => h k (by omega); have h2 := h n (by omega); simp only [sm']; rw [Nat.succ_mul]; omega
theorem bit_abs {r : Int} (h : Bit r) : r.natAbs ≤ 1 := by rcases h with rfl | rfl <;> decide
theorem sum_at_ok {l : Nat} {row : List Int} (hr : Row l row ∨ (l = 0 ∧ row.length = 1 ∧ ∀ x ∈ row, Bit x)) {w a : Nat} (hw : w ≤ 4) (hlw : l ≤ w) (ha : a < 2 ^ l) : m__law_sum_at row (a : Int) (odds w) = some (Hs l (vv row) a) := by
  have hlen : row.length = 2 ^ l := by rcases hr with h | ⟨rfl, h, _⟩; exact h.len; exact h
  have hbit : ∀ x ∈ row, Bit x := by rcases hr with h | ⟨_, _, h⟩; exact h.bit; exact h
  have h16 : 2 ^ l ≤ 16 := p16 (by omega)
  have hlw' : 2 ^ l ≤ 2 ^ w := Nat.pow_le_pow_right (by decide) hlw
  have at_ : ∀ x : Nat, x < 2 ^ l → getM row (x : Int) = some (row.getD x 0) ∧ Bit (row.getD x 0) := fun x hx => by
    refine ⟨getM_D 0 (by omega), hbit _ ?_⟩
    rw [List.getD_eq_getElem?_getD, List.getElem?_eq_getElem (by omega)]
    exact List.getElem_mem _
  unfold m__law_sum_at
  rw [hlen, rng1M_nat (by omega), bd_some, compM_map (fun x => PySem.Builtin.bitXor (row.getD x.toNat 0) ((par (x.toNat &&& a) : Nat) : Int)) (by simp; omega) (fun x hx => by
    rw [mem_rg] at hx
    obtain ⟨k, rfl⟩ : ∃ k : Nat, x = (k : Int) := ⟨x.toNat, by omega⟩
    have hk : k < 2 ^ l := by omega
    have : k &&& a < 2 ^ w := Nat.lt_of_le_of_lt Nat.and_le_left (by omega)
    rw [(at_ k hk).1, bd_some, and_nat (by omega) (by omega), odds_get this, bd_some, Int.toNat_natCast]), bd_some, sum_rg]
  have hb : (sm' (2 ^ l) fun k => PySem.Builtin.bitXor (row.getD (k : Int).toNat 0) ((par ((k : Int).toNat &&& a) : Nat) : Int)).natAbs ≤ 2 ^ l * 1 := sm_bound _ _ 1 fun k hk => bit_abs (xor_bit (by simpa using (at_ k hk).2) (par_bit _)).2
  rw [mulM_ok (by decide) (Nat.lt_of_le_of_lt (show _ ≤ 16 by omega) (by decide)), bd_some]
  congr 1
  unfold Hs
  refine sm_bits _ _ _ fun k hk => ?_
  rw [Int.toNat_natCast, (xor_bit (at_ k hk).2 (par_bit _)).1, ch_par, Nat.and_comm]
  rfl
end
theorem gsumG_ok : ∀ (ys : List Int) (a : Int), a.natAbs + ys.length * 2 ^ 40 < 2 ^ 60 → (∀ y ∈ ys, y.natAbs ≤ 2 ^ 40) → gsumG ys a = some (a + ys.sum)
  | [], a, _, _ => by simp [gsumG]
  | y :: r, a, h, hy => by
    have h1 := hy y List.mem_cons_self
    simp only [List.length_cons] at h
    rw [gsumG, if_pos ⟨by unfold in64; exact decide_eq_true (by omega), by unfold in64; exact decide_eq_true (by omega)⟩, gsumG_ok r (a + y) (by omega) fun z hz => hy z (List.mem_cons_of_mem _ hz), List.sum_cons]
    congr 1; omega
theorem gsum_ok {ys : List Int} (h : ys.length ≤ 1000) (hy : ∀ y ∈ ys, y.natAbs ≤ 2 ^ 40) : gsumM ys = some ys.sum := by
  unfold gsumM
  rw [gsumG_ok ys 0 (by omega) hy, Int.zero_add]
end M40


set_option maxHeartbeats 200000
set_option Elab.async false
set_option maxRecDepth 100000
set_option maxHeartbeats 0
/-! k40: the fast transform (printed by gen48.py). -/
namespace M40
open PySem PySem.Spec Ev
theorem sad1 (a0 a1 : Int) : m_sums_and_differences [a0, a1] = some [(a0 + a1), (a0 - a1)] := by kernel_rfl
theorem h1_0 (a0 a1 : Int) : Hs 1 (fun x => [a0, a1].getD x 0) 0 = 0 + a0 * (1) + a1 * (1) := by kernel_rfl
theorem h1_1 (a0 a1 : Int) : Hs 1 (fun x => [a0, a1].getD x 0) 1 = 0 + a0 * (1) + a1 * (-1) := by kernel_rfl
theorem sadw1 (vs : List Int) (h : vs.length = 2) : m_sums_and_differences vs = some ((List.range 2).map fun a => Hs 1 (fun x => vs.getD x 0) a) := by
  match vs, h with
  | [a0, a1], _ =>
    rw [sad1]
    have q0 : (a0 + a1) = Hs 1 (fun x => [a0, a1].getD x 0) 0 := by rw [h1_0]; omega
    have q1 : (a0 - a1) = Hs 1 (fun x => [a0, a1].getD x 0) 1 := by rw [h1_1]; omega
    show some [(a0 + a1), (a0 - a1)] = some [Hs 1 (fun x => [a0, a1].getD x 0) 0, Hs 1 (fun x => [a0, a1].getD x 0) 1]
    rw [← q0, ← q1]
theorem sad2 (a0 a1 a2 a3 : Int) : m_sums_and_differences [a0, a1, a2, a3] = some [((a0 + a1) + (a2 + a3)), ((a0 - a1) + (a2 - a3)), ((a0 + a1) - (a2 + a3)), ((a0 - a1) - (a2 - a3))] := by kernel_rfl
theorem h2_0 (a0 a1 a2 a3 : Int) : Hs 2 (fun x => [a0, a1, a2, a3].getD x 0) 0 = 0 + a0 * (1) + a1 * (1) + a2 * (1) + a3 * (1) := by kernel_rfl
theorem h2_1 (a0 a1 a2 a3 : Int) : Hs 2 (fun x => [a0, a1, a2, a3].getD x 0) 1 = 0 + a0 * (1) + a1 * (-1) + a2 * (1) + a3 * (-1) := by kernel_rfl
theorem h2_2 (a0 a1 a2 a3 : Int) : Hs 2 (fun x => [a0, a1, a2, a3].getD x 0) 2 = 0 + a0 * (1) + a1 * (1) + a2 * (-1) + a3 * (-1) := by kernel_rfl
theorem h2_3 (a0 a1 a2 a3 : Int) : Hs 2 (fun x => [a0, a1, a2, a3].getD x 0) 3 = 0 + a0 * (1) + a1 * (-1) + a2 * (-1) + a3 * (1) := by kernel_rfl
theorem sadw2 (vs : List Int) (h : vs.length = 4) : m_sums_and_differences vs = some ((List.range 4).map fun a => Hs 2 (fun x => vs.getD x 0) a) := by
  match vs, h with
  | [a0, a1, a2, a3], _ =>
    rw [sad2]
    have q0 : ((a0 + a1) + (a2 + a3)) = Hs 2 (fun x => [a0, a1, a2, a3].getD x 0) 0 := by rw [h2_0]; omega
    have q1 : ((a0 - a1) + (a2 - a3)) = Hs 2 (fun x => [a0, a1, a2, a3].getD x 0) 1 := by rw [h2_1]; omega
    have q2 : ((a0 + a1) - (a2 + a3)) = Hs 2 (fun x => [a0, a1, a2, a3].getD x 0) 2 := by rw [h2_2]; omega
    have q3 : ((a0 - a1) - (a2 - a3)) = Hs 2 (fun x => [a0, a1, a2, a3].getD x 0) 3 := by rw [h2_3]; omega
    show some [((a0 + a1) + (a2 + a3)), ((a0 - a1) + (a2 - a3)), ((a0 + a1) - (a2 + a3)), ((a0 - a1) - (a2 - a3))] = some [Hs 2 (fun x => [a0, a1, a2, a3].getD x 0) 0, Hs 2 (fun x => [a0, a1, a2, a3].getD x 0) 1, Hs 2 (fun x => [a0, a1, a2, a3].getD x 0) 2, Hs 2 (fun x => [a0, a1, a2, a3].getD x 0) 3]
    rw [← q0, ← q1, ← q2, ← q3]
theorem sad3 (a0 a1 a2 a3 a4 a5 a6 a7 : Int) : m_sums_and_differences [a0, a1, a2, a3, a4, a5, a6, a7] = some [(((a0 + a1) + (a2 + a3)) + ((a4 + a5) + (a6 + a7))), (((a0 - a1) + (a2 - a3)) + ((a4 - a5) + (a6 - a7))), (((a0 + a1) - (a2 + a3)) + ((a4 + a5) - (a6 + a7))), (((a0 - a1) - (a2 - a3)) + ((a4 - a5) - (a6 - a7))), (((a0 + a1) + (a2 + a3)) - ((a4 + a5) + (a6 + a7))), (((a0 - a1) + (a2 - a3)) - ((a4 - a5) + (a6 - a7))), (((a0 + a1) - (a2 + a3)) - ((a4 + a5) - (a6 + a7))), (((a0 - a1) - (a2 - a3)) - ((a4 - a5) - (a6 - a7)))] := by kernel_rfl
theorem h3_0 (a0 a1 a2 a3 a4 a5 a6 a7 : Int) : Hs 3 (fun x => [a0, a1, a2, a3, a4, a5, a6, a7].getD x 0) 0 = 0 + a0 * (1) + a1 * (1) + a2 * (1) + a3 * (1) + a4 * (1) + a5 * (1) + a6 * (1) + a7 * (1) := by kernel_rfl
theorem h3_1 (a0 a1 a2 a3 a4 a5 a6 a7 : Int) : Hs 3 (fun x => [a0, a1, a2, a3, a4, a5, a6, a7].getD x 0) 1 = 0 + a0 * (1) + a1 * (-1) + a2 * (1) + a3 * (-1) + a4 * (1) + a5 * (-1) + a6 * (1) + a7 * (-1) := by kernel_rfl
theorem h3_2 (a0 a1 a2 a3 a4 a5 a6 a7 : Int) : Hs 3 (fun x => [a0, a1, a2, a3, a4, a5, a6, a7].getD x 0) 2 = 0 + a0 * (1) + a1 * (1) + a2 * (-1) + a3 * (-1) + a4 * (1) + a5 * (1) + a6 * (-1) + a7 * (-1) := by kernel_rfl
theorem h3_3 (a0 a1 a2 a3 a4 a5 a6 a7 : Int) : Hs 3 (fun x => [a0, a1, a2, a3, a4, a5, a6, a7].getD x 0) 3 = 0 + a0 * (1) + a1 * (-1) + a2 * (-1) + a3 * (1) + a4 * (1) + a5 * (-1) + a6 * (-1) + a7 * (1) := by kernel_rfl
theorem h3_4 (a0 a1 a2 a3 a4 a5 a6 a7 : Int) : Hs 3 (fun x => [a0, a1, a2, a3, a4, a5, a6, a7].getD x 0) 4 = 0 + a0 * (1) + a1 * (1) + a2 * (1) + a3 * (1) + a4 * (-1) + a5 * (-1) + a6 * (-1) + a7 * (-1) := by kernel_rfl
theorem h3_5 (a0 a1 a2 a3 a4 a5 a6 a7 : Int) : Hs 3 (fun x => [a0, a1, a2, a3, a4, a5, a6, a7].getD x 0) 5 = 0 + a0 * (1) + a1 * (-1) + a2 * (1) + a3 * (-1) + a4 * (-1) + a5 * (1) + a6 * (-1) + a7 * (1) := by kernel_rfl
theorem h3_6 (a0 a1 a2 a3 a4 a5 a6 a7 : Int) : Hs 3 (fun x => [a0, a1, a2, a3, a4, a5, a6, a7].getD x 0) 6 = 0 + a0 * (1) + a1 * (1) + a2 * (-1) + a3 * (-1) + a4 * (-1) + a5 * (-1) + a6 * (1) + a7 * (1) := by kernel_rfl
theorem h3_7 (a0 a1 a2 a3 a4 a5 a6 a7 : Int) : Hs 3 (fun x => [a0, a1, a2, a3, a4, a5, a6, a7].getD x 0) 7 = 0 + a0 * (1) + a1 * (-1) + a2 * (-1) + a3 * (1) + a4 * (-1) + a5 * (1) + a6 * (1) + a7 * (-1) := by kernel_rfl
theorem sadw3 (vs : List Int) (h : vs.length = 8) : m_sums_and_differences vs = some ((List.range 8).map fun a => Hs 3 (fun x => vs.getD x 0) a) := by
  match vs, h with
  | [a0, a1, a2, a3, a4, a5, a6, a7], _ =>
    rw [sad3]
    have q0 : (((a0 + a1) + (a2 + a3)) + ((a4 + a5) + (a6 + a7))) = Hs 3 (fun x => [a0, a1, a2, a3, a4, a5, a6, a7].getD x 0) 0 := by rw [h3_0]; omega
    have q1 : (((a0 - a1) + (a2 - a3)) + ((a4 - a5) + (a6 - a7))) = Hs 3 (fun x => [a0, a1, a2, a3, a4, a5, a6, a7].getD x 0) 1 := by rw [h3_1]; omega
    have q2 : (((a0 + a1) - (a2 + a3)) + ((a4 + a5) - (a6 + a7))) = Hs 3 (fun x => [a0, a1, a2, a3, a4, a5, a6, a7].getD x 0) 2 := by rw [h3_2]; omega
    have q3 : (((a0 - a1) - (a2 - a3)) + ((a4 - a5) - (a6 - a7))) = Hs 3 (fun x => [a0, a1, a2, a3, a4, a5, a6, a7].getD x 0) 3 := by rw [h3_3]; omega
    have q4 : (((a0 + a1) + (a2 + a3)) - ((a4 + a5) + (a6 + a7))) = Hs 3 (fun x => [a0, a1, a2, a3, a4, a5, a6, a7].getD x 0) 4 := by rw [h3_4]; omega
    have q5 : (((a0 - a1) + (a2 - a3)) - ((a4 - a5) + (a6 - a7))) = Hs 3 (fun x => [a0, a1, a2, a3, a4, a5, a6, a7].getD x 0) 5 := by rw [h3_5]; omega
    have q6 : (((a0 + a1) - (a2 + a3)) - ((a4 + a5) - (a6 + a7))) = Hs 3 (fun x => [a0, a1, a2, a3, a4, a5, a6, a7].getD x 0) 6 := by rw [h3_6]; omega
    have q7 : (((a0 - a1) - (a2 - a3)) - ((a4 - a5) - (a6 - a7))) = Hs 3 (fun x => [a0, a1, a2, a3, a4, a5, a6, a7].getD x 0) 7 := by rw [h3_7]; omega
    show some [(((a0 + a1) + (a2 + a3)) + ((a4 + a5) + (a6 + a7))), (((a0 - a1) + (a2 - a3)) + ((a4 - a5) + (a6 - a7))), (((a0 + a1) - (a2 + a3)) + ((a4 + a5) - (a6 + a7))), (((a0 - a1) - (a2 - a3)) + ((a4 - a5) - (a6 - a7))), (((a0 + a1) + (a2 + a3)) - ((a4 + a5) + (a6 + a7))), (((a0 - a1) + (a2 - a3)) - ((a4 - a5) + (a6 - a7))), (((a0 + a1) - (a2 + a3)) - ((a4 + a5) - (a6 + a7))), (((a0 - a1) - (a2 - a3)) - ((a4 - a5) - (a6 - a7)))] = some [Hs 3 (fun x => [a0, a1, a2, a3, a4, a5, a6, a7].getD x 0) 0, Hs 3 (fun x => [a0, a1, a2, a3, a4, a5, a6, a7].getD x 0) 1, Hs 3 (fun x => [a0, a1, a2, a3, a4, a5, a6, a7].getD x 0) 2, Hs 3 (fun x => [a0, a1, a2, a3, a4, a5, a6, a7].getD x 0) 3, Hs 3 (fun x => [a0, a1, a2, a3, a4, a5, a6, a7].getD x 0) 4, Hs 3 (fun x => [a0, a1, a2, a3, a4, a5, a6, a7].getD x 0) 5, Hs 3 (fun x => [a0, a1, a2, a3, a4, a5, a6, a7].getD x 0) 6, Hs 3 (fun x => [a0, a1, a2, a3, a4, a5, a6, a7].getD x 0) 7]
    rw [← q0, ← q1, ← q2, ← q3, ← q4, ← q5, ← q6, ← q7]
theorem sad4 (a0 a1 a2 a3 a4 a5 a6 a7 a8 a9 a10 a11 a12 a13 a14 a15 : Int) : m_sums_and_differences [a0, a1, a2, a3, a4, a5, a6, a7, a8, a9, a10, a11, a12, a13, a14, a15] = some [((((a0 + a1) + (a2 + a3)) + ((a4 + a5) + (a6 + a7))) + (((a8 + a9) + (a10 + a11)) + ((a12 + a13) + (a14 + a15)))), ((((a0 - a1) + (a2 - a3)) + ((a4 - a5) + (a6 - a7))) + (((a8 - a9) + (a10 - a11)) + ((a12 - a13) + (a14 - a15)))), ((((a0 + a1) - (a2 + a3)) + ((a4 + a5) - (a6 + a7))) + (((a8 + a9) - (a10 + a11)) + ((a12 + a13) - (a14 + a15)))), ((((a0 - a1) - (a2 - a3)) + ((a4 - a5) - (a6 - a7))) + (((a8 - a9) - (a10 - a11)) + ((a12 - a13) - (a14 - a15)))), ((((a0 + a1) + (a2 + a3)) - ((a4 + a5) + (a6 + a7))) + (((a8 + a9) + (a10 + a11)) - ((a12 + a13) + (a14 + a15)))), ((((a0 - a1) + (a2 - a3)) - ((a4 - a5) + (a6 - a7))) + (((a8 - a9) + (a10 - a11)) - ((a12 - a13) + (a14 - a15)))), ((((a0 + a1) - (a2 + a3)) - ((a4 + a5) - (a6 + a7))) + (((a8 + a9) - (a10 + a11)) - ((a12 + a13) - (a14 + a15)))), ((((a0 - a1) - (a2 - a3)) - ((a4 - a5) - (a6 - a7))) + (((a8 - a9) - (a10 - a11)) - ((a12 - a13) - (a14 - a15)))), ((((a0 + a1) + (a2 + a3)) + ((a4 + a5) + (a6 + a7))) - (((a8 + a9) + (a10 + a11)) + ((a12 + a13) + (a14 + a15)))), ((((a0 - a1) + (a2 - a3)) + ((a4 - a5) + (a6 - a7))) - (((a8 - a9) + (a10 - a11)) + ((a12 - a13) + (a14 - a15)))), ((((a0 + a1) - (a2 + a3)) + ((a4 + a5) - (a6 + a7))) - (((a8 + a9) - (a10 + a11)) + ((a12 + a13) - (a14 + a15)))), ((((a0 - a1) - (a2 - a3)) + ((a4 - a5) - (a6 - a7))) - (((a8 - a9) - (a10 - a11)) + ((a12 - a13) - (a14 - a15)))), ((((a0 + a1) + (a2 + a3)) - ((a4 + a5) + (a6 + a7))) - (((a8 + a9) + (a10 + a11)) - ((a12 + a13) + (a14 + a15)))), ((((a0 - a1) + (a2 - a3)) - ((a4 - a5) + (a6 - a7))) - (((a8 - a9) + (a10 - a11)) - ((a12 - a13) + (a14 - a15)))), ((((a0 + a1) - (a2 + a3)) - ((a4 + a5) - (a6 + a7))) - (((a8 + a9) - (a10 + a11)) - ((a12 + a13) - (a14 + a15)))), ((((a0 - a1) - (a2 - a3)) - ((a4 - a5) - (a6 - a7))) - (((a8 - a9) - (a10 - a11)) - ((a12 - a13) - (a14 - a15))))] := by kernel_rfl
theorem h4_0 (a0 a1 a2 a3 a4 a5 a6 a7 a8 a9 a10 a11 a12 a13 a14 a15 : Int) : Hs 4 (fun x => [a0, a1, a2, a3, a4, a5, a6, a7, a8, a9, a10, a11, a12, a13, a14, a15].getD x 0) 0 = 0 + a0 * (1) + a1 * (1) + a2 * (1) + a3 * (1) + a4 * (1) + a5 * (1) + a6 * (1) + a7 * (1) + a8 * (1) + a9 * (1) + a10 * (1) + a11 * (1) + a12 * (1) + a13 * (1) + a14 * (1) + a15 * (1) := by kernel_rfl
theorem h4_1 (a0 a1 a2 a3 a4 a5 a6 a7 a8 a9 a10 a11 a12 a13 a14 a15 : Int) : Hs 4 (fun x => [a0, a1, a2, a3, a4, a5, a6, a7, a8, a9, a10, a11, a12, a13, a14, a15].getD x 0) 1 = 0 + a0 * (1) + a1 * (-1) + a2 * (1) + a3 * (-1) + a4 * (1) + a5 * (-1) + a6 * (1) + a7 * (-1) + a8 * (1) + a9 * (-1) + a10 * (1) + a11 * (-1) + a12 * (1) + a13 * (-1) + a14 * (1) + a15 * (-1) := by kernel_rfl
theorem h4_2 (a0 a1 a2 a3 a4 a5 a6 a7 a8 a9 a10 a11 a12 a13 a14 a15 : Int) : Hs 4 (fun x => [a0, a1, a2, a3, a4, a5, a6, a7, a8, a9, a10, a11, a12, a13, a14, a15].getD x 0) 2 = 0 + a0 * (1) + a1 * (1) + a2 * (-1) + a3 * (-1) + a4 * (1) + a5 * (1) + a6 * (-1) + a7 * (-1) + a8 * (1) + a9 * (1) + a10 * (-1) + a11 * (-1) + a12 * (1) + a13 * (1) + a14 * (-1) + a15 * (-1) := by kernel_rfl
theorem h4_3 (a0 a1 a2 a3 a4 a5 a6 a7 a8 a9 a10 a11 a12 a13 a14 a15 : Int) : Hs 4 (fun x => [a0, a1, a2, a3, a4, a5, a6, a7, a8, a9, a10, a11, a12, a13, a14, a15].getD x 0) 3 = 0 + a0 * (1) + a1 * (-1) + a2 * (-1) + a3 * (1) + a4 * (1) + a5 * (-1) + a6 * (-1) + a7 * (1) + a8 * (1) + a9 * (-1) + a10 * (-1) + a11 * (1) + a12 * (1) + a13 * (-1) + a14 * (-1) + a15 * (1) := by kernel_rfl
theorem h4_4 (a0 a1 a2 a3 a4 a5 a6 a7 a8 a9 a10 a11 a12 a13 a14 a15 : Int) : Hs 4 (fun x => [a0, a1, a2, a3, a4, a5, a6, a7, a8, a9, a10, a11, a12, a13, a14, a15].getD x 0) 4 = 0 + a0 * (1) + a1 * (1) + a2 * (1) + a3 * (1) + a4 * (-1) + a5 * (-1) + a6 * (-1) + a7 * (-1) + a8 * (1) + a9 * (1) + a10 * (1) + a11 * (1) + a12 * (-1) + a13 * (-1) + a14 * (-1) + a15 * (-1) := by kernel_rfl
theorem h4_5 (a0 a1 a2 a3 a4 a5 a6 a7 a8 a9 a10 a11 a12 a13 a14 a15 : Int) : Hs 4 (fun x => [a0, a1, a2, a3, a4, a5, a6, a7, a8, a9, a10, a11, a12, a13, a14, a15].getD x 0) 5 = 0 + a0 * (1) + a1 * (-1) + a2 * (1) + a3 * (-1) + a4 * (-1) + a5 * (1) + a6 * (-1) + a7 * (1) + a8 * (1) + a9 * (-1) + a10 * (1) + a11 * (-1) + a12 * (-1) + a13 * (1) + a14 * (-1) + a15 * (1) := by kernel_rfl
theorem h4_6 (a0 a1 a2 a3 a4 a5 a6 a7 a8 a9 a10 a11 a12 a13 a14 a15 : Int) : Hs 4 (fun x => [a0, a1, a2, a3, a4, a5, a6, a7, a8, a9, a10, a11, a12, a13, a14, a15].getD x 0) 6 = 0 + a0 * (1) + a1 * (1) + a2 * (-1) + a3 * (-1) + a4 * (-1) + a5 * (-1) + a6 * (1) + a7 * (1) + a8 * (1) + a9 * (1) + a10 * (-1) + a11 * (-1) + a12 * (-1) + a13 * (-1) + a14 * (1) + a15 * (1) := by kernel_rfl
theorem h4_7 (a0 a1 a2 a3 a4 a5 a6 a7 a8 a9 a10 a11 a12 a13 a14 a15 : Int) : Hs 4 (fun x => [a0, a1, a2, a3, a4, a5, a6, a7, a8, a9, a10, a11, a12, a13, a14, a15].getD x 0) 7 = 0 + a0 * (1) + a1 * (-1) + a2 * (-1) + a3 * (1) + a4 * (-1) + a5 * (1) + a6 * (1) + a7 * (-1) + a8 * (1) + a9 * (-1) + a10 * (-1) + a11 * (1) + a12 * (-1) + a13 * (1) + a14 * (1) + a15 * (-1) := by kernel_rfl
theorem h4_8 (a0 a1 a2 a3 a4 a5 a6 a7 a8 a9 a10 a11 a12 a13 a14 a15 : Int) : Hs 4 (fun x => [a0, a1, a2, a3, a4, a5, a6, a7, a8, a9, a10, a11, a12, a13, a14, a15].getD x 0) 8 = 0 + a0 * (1) + a1 * (1) + a2 * (1) + a3 * (1) + a4 * (1) + a5 * (1) + a6 * (1) + a7 * (1) + a8 * (-1) + a9 * (-1) + a10 * (-1) + a11 * (-1) + a12 * (-1) + a13 * (-1) + a14 * (-1) + a15 * (-1) := by kernel_rfl
theorem h4_9 (a0 a1 a2 a3 a4 a5 a6 a7 a8 a9 a10 a11 a12 a13 a14 a15 : Int) : Hs 4 (fun x => [a0, a1, a2, a3, a4, a5, a6, a7, a8, a9, a10, a11, a12, a13, a14, a15].getD x 0) 9 = 0 + a0 * (1) + a1 * (-1) + a2 * (1) + a3 * (-1) + a4 * (1) + a5 * (-1) + a6 * (1) + a7 * (-1) + a8 * (-1) + a9 * (1) + a10 * (-1) + a11 * (1) + a12 * (-1) + a13 * (1) + a14 * (-1) + a15 * (1) := by kernel_rfl
theorem h4_10 (a0 a1 a2 a3 a4 a5 a6 a7 a8 a9 a10 a11 a12 a13 a14 a15 : Int) : Hs 4 (fun x => [a0, a1, a2, a3, a4, a5, a6, a7, a8, a9, a10, a11, a12, a13, a14, a15].getD x 0) 10 = 0 + a0 * (1) + a1 * (1) + a2 * (-1) + a3 * (-1) + a4 * (1) + a5 * (1) + a6 * (-1) + a7 * (-1) + a8 * (-1) + a9 * (-1) + a10 * (1) + a11 * (1) + a12 * (-1) + a13 * (-1) + a14 * (1) + a15 * (1) := by kernel_rfl
theorem h4_11 (a0 a1 a2 a3 a4 a5 a6 a7 a8 a9 a10 a11 a12 a13 a14 a15 : Int) : Hs 4 (fun x => [a0, a1, a2, a3, a4, a5, a6, a7, a8, a9, a10, a11, a12, a13, a14, a15].getD x 0) 11 = 0 + a0 * (1) + a1 * (-1) + a2 * (-1) + a3 * (1) + a4 * (1) + a5 * (-1) + a6 * (-1) + a7 * (1) + a8 * (-1) + a9 * (1) + a10 * (1) + a11 * (-1) + a12 * (-1) + a13 * (1) + a14 * (1) + a15 * (-1) := by kernel_rfl
theorem h4_12 (a0 a1 a2 a3 a4 a5 a6 a7 a8 a9 a10 a11 a12 a13 a14 a15 : Int) : Hs 4 (fun x => [a0, a1, a2, a3, a4, a5, a6, a7, a8, a9, a10, a11, a12, a13, a14, a15].getD x 0) 12 = 0 + a0 * (1) + a1 * (1) + a2 * (1) + a3 * (1) + a4 * (-1) + a5 * (-1) + a6 * (-1) + a7 * (-1) + a8 * (-1) + a9 * (-1) + a10 * (-1) + a11 * (-1) + a12 * (1) + a13 * (1) + a14 * (1) + a15 * (1) := by kernel_rfl
theorem h4_13 (a0 a1 a2 a3 a4 a5 a6 a7 a8 a9 a10 a11 a12 a13 a14 a15 : Int) : Hs 4 (fun x => [a0, a1, a2, a3, a4, a5, a6, a7, a8, a9, a10, a11, a12, a13, a14, a15].getD x 0) 13 = 0 + a0 * (1) + a1 * (-1) + a2 * (1) + a3 * (-1) + a4 * (-1) + a5 * (1) + a6 * (-1) + a7 * (1) + a8 * (-1) + a9 * (1) + a10 * (-1) + a11 * (1) + a12 * (1) + a13 * (-1) + a14 * (1) + a15 * (-1) := by kernel_rfl
theorem h4_14 (a0 a1 a2 a3 a4 a5 a6 a7 a8 a9 a10 a11 a12 a13 a14 a15 : Int) : Hs 4 (fun x => [a0, a1, a2, a3, a4, a5, a6, a7, a8, a9, a10, a11, a12, a13, a14, a15].getD x 0) 14 = 0 + a0 * (1) + a1 * (1) + a2 * (-1) + a3 * (-1) + a4 * (-1) + a5 * (-1) + a6 * (1) + a7 * (1) + a8 * (-1) + a9 * (-1) + a10 * (1) + a11 * (1) + a12 * (1) + a13 * (1) + a14 * (-1) + a15 * (-1) := by kernel_rfl
theorem h4_15 (a0 a1 a2 a3 a4 a5 a6 a7 a8 a9 a10 a11 a12 a13 a14 a15 : Int) : Hs 4 (fun x => [a0, a1, a2, a3, a4, a5, a6, a7, a8, a9, a10, a11, a12, a13, a14, a15].getD x 0) 15 = 0 + a0 * (1) + a1 * (-1) + a2 * (-1) + a3 * (1) + a4 * (-1) + a5 * (1) + a6 * (1) + a7 * (-1) + a8 * (-1) + a9 * (1) + a10 * (1) + a11 * (-1) + a12 * (1) + a13 * (-1) + a14 * (-1) + a15 * (1) := by kernel_rfl
theorem sadw4 (vs : List Int) (h : vs.length = 16) : m_sums_and_differences vs = some ((List.range 16).map fun a => Hs 4 (fun x => vs.getD x 0) a) := by
  match vs, h with
  | [a0, a1, a2, a3, a4, a5, a6, a7, a8, a9, a10, a11, a12, a13, a14, a15], _ =>
    rw [sad4]
    have q0 : ((((a0 + a1) + (a2 + a3)) + ((a4 + a5) + (a6 + a7))) + (((a8 + a9) + (a10 + a11)) + ((a12 + a13) + (a14 + a15)))) = Hs 4 (fun x => [a0, a1, a2, a3, a4, a5, a6, a7, a8, a9, a10, a11, a12, a13, a14, a15].getD x 0) 0 := by rw [h4_0]; omega
    have q1 : ((((a0 - a1) + (a2 - a3)) + ((a4 - a5) + (a6 - a7))) + (((a8 - a9) + (a10 - a11)) + ((a12 - a13) + (a14 - a15)))) = Hs 4 (fun x => [a0, a1, a2, a3, a4, a5, a6, a7, a8, a9, a10, a11, a12, a13, a14, a15].getD x 0) 1 := by rw [h4_1]; omega
    have q2 : ((((a0 + a1) - (a2 + a3)) + ((a4 + a5) - (a6 + a7))) + (((a8 + a9) - (a10 + a11)) + ((a12 + a13) - (a14 + a15)))) = Hs 4 (fun x => [a0, a1, a2, a3, a4, a5, a6, a7, a8, a9, a10, a11, a12, a13, a14, a15].getD x 0) 2 := by rw [h4_2]; omega
    have q3 : ((((a0 - a1) - (a2 - a3)) + ((a4 - a5) - (a6 - a7))) + (((a8 - a9) - (a10 - a11)) + ((a12 - a13) - (a14 - a15)))) = Hs 4 (fun x => [a0, a1, a2, a3, a4, a5, a6, a7, a8, a9, a10, a11, a12, a13, a14, a15].getD x 0) 3 := by rw [h4_3]; omega
    have q4 : ((((a0 + a1) + (a2 + a3)) - ((a4 + a5) + (a6 + a7))) + (((a8 + a9) + (a10 + a11)) - ((a12 + a13) + (a14 + a15)))) = Hs 4 (fun x => [a0, a1, a2, a3, a4, a5, a6, a7, a8, a9, a10, a11, a12, a13, a14, a15].getD x 0) 4 := by rw [h4_4]; omega
    have q5 : ((((a0 - a1) + (a2 - a3)) - ((a4 - a5) + (a6 - a7))) + (((a8 - a9) + (a10 - a11)) - ((a12 - a13) + (a14 - a15)))) = Hs 4 (fun x => [a0, a1, a2, a3, a4, a5, a6, a7, a8, a9, a10, a11, a12, a13, a14, a15].getD x 0) 5 := by rw [h4_5]; omega
    have q6 : ((((a0 + a1) - (a2 + a3)) - ((a4 + a5) - (a6 + a7))) + (((a8 + a9) - (a10 + a11)) - ((a12 + a13) - (a14 + a15)))) = Hs 4 (fun x => [a0, a1, a2, a3, a4, a5, a6, a7, a8, a9, a10, a11, a12, a13, a14, a15].getD x 0) 6 := by rw [h4_6]; omega
    have q7 : ((((a0 - a1) - (a2 - a3)) - ((a4 - a5) - (a6 - a7))) + (((a8 - a9) - (a10 - a11)) - ((a12 - a13) - (a14 - a15)))) = Hs 4 (fun x => [a0, a1, a2, a3, a4, a5, a6, a7, a8, a9, a10, a11, a12, a13, a14, a15].getD x 0) 7 := by rw [h4_7]; omega
    have q8 : ((((a0 + a1) + (a2 + a3)) + ((a4 + a5) + (a6 + a7))) - (((a8 + a9) + (a10 + a11)) + ((a12 + a13) + (a14 + a15)))) = Hs 4 (fun x => [a0, a1, a2, a3, a4, a5, a6, a7, a8, a9, a10, a11, a12, a13, a14, a15].getD x 0) 8 := by rw [h4_8]; omega
    have q9 : ((((a0 - a1) + (a2 - a3)) + ((a4 - a5) + (a6 - a7))) - (((a8 - a9) + (a10 - a11)) + ((a12 - a13) + (a14 - a15)))) = Hs 4 (fun x => [a0, a1, a2, a3, a4, a5, a6, a7, a8, a9, a10, a11, a12, a13, a14, a15].getD x 0) 9 := by rw [h4_9]; omega
    have q10 : ((((a0 + a1) - (a2 + a3)) + ((a4 + a5) - (a6 + a7))) - (((a8 + a9) - (a10 + a11)) + ((a12 + a13) - (a14 + a15)))) = Hs 4 (fun x => [a0, a1, a2, a3, a4, a5, a6, a7, a8, a9, a10, a11, a12, a13, a14, a15].getD x 0) 10 := by rw [h4_10]; omega
    have q11 : ((((a0 - a1) - (a2 - a3)) + ((a4 - a5) - (a6 - a7))) - (((a8 - a9) - (a10 - a11)) + ((a12 - a13) - (a14 - a15)))) = Hs 4 (fun x => [a0, a1, a2, a3, a4, a5, a6, a7, a8, a9, a10, a11, a12, a13, a14, a15].getD x 0) 11 := by rw [h4_11]; omega
    have q12 : ((((a0 + a1) + (a2 + a3)) - ((a4 + a5) + (a6 + a7))) - (((a8 + a9) + (a10 + a11)) - ((a12 + a13) + (a14 + a15)))) = Hs 4 (fun x => [a0, a1, a2, a3, a4, a5, a6, a7, a8, a9, a10, a11, a12, a13, a14, a15].getD x 0) 12 := by rw [h4_12]; omega
    have q13 : ((((a0 - a1) + (a2 - a3)) - ((a4 - a5) + (a6 - a7))) - (((a8 - a9) + (a10 - a11)) - ((a12 - a13) + (a14 - a15)))) = Hs 4 (fun x => [a0, a1, a2, a3, a4, a5, a6, a7, a8, a9, a10, a11, a12, a13, a14, a15].getD x 0) 13 := by rw [h4_13]; omega
    have q14 : ((((a0 + a1) - (a2 + a3)) - ((a4 + a5) - (a6 + a7))) - (((a8 + a9) - (a10 + a11)) - ((a12 + a13) - (a14 + a15)))) = Hs 4 (fun x => [a0, a1, a2, a3, a4, a5, a6, a7, a8, a9, a10, a11, a12, a13, a14, a15].getD x 0) 14 := by rw [h4_14]; omega
    have q15 : ((((a0 - a1) - (a2 - a3)) - ((a4 - a5) - (a6 - a7))) - (((a8 - a9) - (a10 - a11)) - ((a12 - a13) - (a14 - a15)))) = Hs 4 (fun x => [a0, a1, a2, a3, a4, a5, a6, a7, a8, a9, a10, a11, a12, a13, a14, a15].getD x 0) 15 := by rw [h4_15]; omega
    show some [((((a0 + a1) + (a2 + a3)) + ((a4 + a5) + (a6 + a7))) + (((a8 + a9) + (a10 + a11)) + ((a12 + a13) + (a14 + a15)))), ((((a0 - a1) + (a2 - a3)) + ((a4 - a5) + (a6 - a7))) + (((a8 - a9) + (a10 - a11)) + ((a12 - a13) + (a14 - a15)))), ((((a0 + a1) - (a2 + a3)) + ((a4 + a5) - (a6 + a7))) + (((a8 + a9) - (a10 + a11)) + ((a12 + a13) - (a14 + a15)))), ((((a0 - a1) - (a2 - a3)) + ((a4 - a5) - (a6 - a7))) + (((a8 - a9) - (a10 - a11)) + ((a12 - a13) - (a14 - a15)))), ((((a0 + a1) + (a2 + a3)) - ((a4 + a5) + (a6 + a7))) + (((a8 + a9) + (a10 + a11)) - ((a12 + a13) + (a14 + a15)))), ((((a0 - a1) + (a2 - a3)) - ((a4 - a5) + (a6 - a7))) + (((a8 - a9) + (a10 - a11)) - ((a12 - a13) + (a14 - a15)))), ((((a0 + a1) - (a2 + a3)) - ((a4 + a5) - (a6 + a7))) + (((a8 + a9) - (a10 + a11)) - ((a12 + a13) - (a14 + a15)))), ((((a0 - a1) - (a2 - a3)) - ((a4 - a5) - (a6 - a7))) + (((a8 - a9) - (a10 - a11)) - ((a12 - a13) - (a14 - a15)))), ((((a0 + a1) + (a2 + a3)) + ((a4 + a5) + (a6 + a7))) - (((a8 + a9) + (a10 + a11)) + ((a12 + a13) + (a14 + a15)))), ((((a0 - a1) + (a2 - a3)) + ((a4 - a5) + (a6 - a7))) - (((a8 - a9) + (a10 - a11)) + ((a12 - a13) + (a14 - a15)))), ((((a0 + a1) - (a2 + a3)) + ((a4 + a5) - (a6 + a7))) - (((a8 + a9) - (a10 + a11)) + ((a12 + a13) - (a14 + a15)))), ((((a0 - a1) - (a2 - a3)) + ((a4 - a5) - (a6 - a7))) - (((a8 - a9) - (a10 - a11)) + ((a12 - a13) - (a14 - a15)))), ((((a0 + a1) + (a2 + a3)) - ((a4 + a5) + (a6 + a7))) - (((a8 + a9) + (a10 + a11)) - ((a12 + a13) + (a14 + a15)))), ((((a0 - a1) + (a2 - a3)) - ((a4 - a5) + (a6 - a7))) - (((a8 - a9) + (a10 - a11)) - ((a12 - a13) + (a14 - a15)))), ((((a0 + a1) - (a2 + a3)) - ((a4 + a5) - (a6 + a7))) - (((a8 + a9) - (a10 + a11)) - ((a12 + a13) - (a14 + a15)))), ((((a0 - a1) - (a2 - a3)) - ((a4 - a5) - (a6 - a7))) - (((a8 - a9) - (a10 - a11)) - ((a12 - a13) - (a14 - a15))))] = some [Hs 4 (fun x => [a0, a1, a2, a3, a4, a5, a6, a7, a8, a9, a10, a11, a12, a13, a14, a15].getD x 0) 0, Hs 4 (fun x => [a0, a1, a2, a3, a4, a5, a6, a7, a8, a9, a10, a11, a12, a13, a14, a15].getD x 0) 1, Hs 4 (fun x => [a0, a1, a2, a3, a4, a5, a6, a7, a8, a9, a10, a11, a12, a13, a14, a15].getD x 0) 2, Hs 4 (fun x => [a0, a1, a2, a3, a4, a5, a6, a7, a8, a9, a10, a11, a12, a13, a14, a15].getD x 0) 3, Hs 4 (fun x => [a0, a1, a2, a3, a4, a5, a6, a7, a8, a9, a10, a11, a12, a13, a14, a15].getD x 0) 4, Hs 4 (fun x => [a0, a1, a2, a3, a4, a5, a6, a7, a8, a9, a10, a11, a12, a13, a14, a15].getD x 0) 5, Hs 4 (fun x => [a0, a1, a2, a3, a4, a5, a6, a7, a8, a9, a10, a11, a12, a13, a14, a15].getD x 0) 6, Hs 4 (fun x => [a0, a1, a2, a3, a4, a5, a6, a7, a8, a9, a10, a11, a12, a13, a14, a15].getD x 0) 7, Hs 4 (fun x => [a0, a1, a2, a3, a4, a5, a6, a7, a8, a9, a10, a11, a12, a13, a14, a15].getD x 0) 8, Hs 4 (fun x => [a0, a1, a2, a3, a4, a5, a6, a7, a8, a9, a10, a11, a12, a13, a14, a15].getD x 0) 9, Hs 4 (fun x => [a0, a1, a2, a3, a4, a5, a6, a7, a8, a9, a10, a11, a12, a13, a14, a15].getD x 0) 10, Hs 4 (fun x => [a0, a1, a2, a3, a4, a5, a6, a7, a8, a9, a10, a11, a12, a13, a14, a15].getD x 0) 11, Hs 4 (fun x => [a0, a1, a2, a3, a4, a5, a6, a7, a8, a9, a10, a11, a12, a13, a14, a15].getD x 0) 12, Hs 4 (fun x => [a0, a1, a2, a3, a4, a5, a6, a7, a8, a9, a10, a11, a12, a13, a14, a15].getD x 0) 13, Hs 4 (fun x => [a0, a1, a2, a3, a4, a5, a6, a7, a8, a9, a10, a11, a12, a13, a14, a15].getD x 0) 14, Hs 4 (fun x => [a0, a1, a2, a3, a4, a5, a6, a7, a8, a9, a10, a11, a12, a13, a14, a15].getD x 0) 15]
    rw [← q0, ← q1, ← q2, ← q3, ← q4, ← q5, ← q6, ← q7, ← q8, ← q9, ← q10, ← q11, ← q12, ← q13, ← q14, ← q15]
theorem sad_ok {w : Nat} (h1 : 1 ≤ w) (h2 : w ≤ 4) {vs : List Int} (h : vs.length = 2 ^ w) : m_sums_and_differences vs = some ((List.range (2 ^ w)).map fun a => Hs w (fun x => vs.getD x 0) a) := by
  rcases (show w = 1 ∨ w = 2 ∨ w = 3 ∨ w = 4 by omega) with rfl | rfl | rfl | rfl
  · exact sadw1 vs h
  · exact sadw2 vs h
  · exact sadw3 vs h
  · exact sadw4 vs h
end M40


set_option maxHeartbeats 200000
set_option Elab.async false
set_option maxRecDepth 100000
/-! k40: signed sums, weights of beginnings. -/
namespace M40
open PySem PySem.Spec Ev
theorem sum_range (n : Nat) (f : Nat → Int) : ((List.range n).map f).sum = sm' n f := by
  induction n with
  | zero => rfl
  | succ n ih => rw [List.range_succ, List.map_append, List.sum_append, ih]; simp [sm']
theorem shl_ok {i : Int} {k : Nat} (hi : i.natAbs < 2 ^ 64) (hk : k ≤ 1000) : shlM i (k : Int) = some (i * 2 ^ k) := by
  unfold shlM
  rw [if_pos ⟨by omega, by omega, hi⟩, Int.toNat_natCast]
theorem cut_mid {α : Type} (xs : List α) {i j : Nat} (h : i + j ≤ xs.length) : cutT xs (some (i : Int)) (some ((i : Int) + (j : Int))) = (xs.drop i).take j := by
  unfold cutT HT.sIx
  simp only [if_neg (show ¬ (i : Int) < 0 by omega), if_neg (show ¬ (i : Int) + (j : Int) < 0 by omega)]
  rw [show ((i : Int) + (j : Int)).toNat = i + j by omega, Int.toNat_natCast, Nat.min_eq_left (by omega), Nat.min_eq_left (by omega), Nat.add_sub_cancel_left]
theorem range_cut (n : Nat) (f : Nat → Int) {i j : Nat} (h : i + j ≤ n) : (((List.range n).map f).drop i).take j = (List.range j).map fun k => f (i + k) := by
  apply List.ext_getElem
  · simp; omega
  · intro k h1 h2
    simp
abbrev tab (w : Nat) (row : List Int) : C_Table := ⟨(w : Int), row⟩
def sums (w : Nat) (row : List Int) : List Int := (List.range (2 ^ w)).map fun a => Hs w (vv row) a
def lefts (w : Nat) (row : List Int) : List Int := (List.range (2 ^ w)).map fun u => Au w (vv row) u
theorem sums_len (w : Nat) (row : List Int) : (sums w row).length = 2 ^ w := by simp [sums]
theorem lefts_len (w : Nat) (row : List Int) : (lefts w row).length = 2 ^ w := by simp [lefts]
section
variable {w : Nat} {row : List Int}
theorem sums_get {a : Nat} (ha : a < 2 ^ w) : getM (sums w row) (a : Int) = some (Hs w (vv row) a) := by
  rw [getM_nat (by rw [sums_len]; exact ha)]
  simp [sums]
theorem lefts_get {a : Nat} (ha : a < 2 ^ w) : getM (lefts w row) (a : Int) = some (Au w (vv row) a) := by
  rw [getM_nat (by rw [lefts_len]; exact ha)]
  simp [lefts]
theorem ch_abs (a x : Nat) : (ch a x).natAbs ≤ 1 := by
  unfold ch; split <;> decide
theorem vv_abs (h : Row w row) {x : Nat} (hx : x < 2 ^ w) : (vv row x).natAbs ≤ 1 := by
  rcases vv_sgn h hx with e | e <;> rw [e] <;> decide
theorem mul_abs1 {x y : Int} (hx : x.natAbs ≤ 1) (hy : y.natAbs ≤ 1) : (x * y).natAbs ≤ 1 := by
  rw [Int.natAbs_mul]
  exact Nat.mul_le_mul hx hy
theorem Hs_abs (h : Row w row) (a : Nat) : (Hs w (vv row) a).natAbs ≤ 2 ^ w := by
  have := sm_bound (2 ^ w) (fun x => vv row x * ch a x) 1 fun k hk => mul_abs1 (vv_abs h hk) (ch_abs a k)
  unfold Hs
  omega
theorem Au_abs (h : Row w row) {u : Nat} (hu : u < 2 ^ w) : (Au w (vv row) u).natAbs ≤ 2 ^ w := by
  have := sm_bound (2 ^ w) (fun x => vv row x * vv row (x ^^^ u)) 1 fun k hk => mul_abs1 (vv_abs h hk) (vv_abs h (xor_lt hk hu))
  unfold Au
  omega
theorem signed_ok (h : Row w row) : m_signed_sums (tab w row) = some (sums w row) := by
  have h16 := h.p16
  unfold m_signed_sums
  rw [compM_map (fun x => 1 - 2 * x) (by have := h.len; show row.length ≤ 100000; omega) (fun x hx => by
    rw [mulM_ok (by decide) (Nat.lt_of_le_of_lt (bit_abs (h.bit x hx)) (by decide))]; rfl), bd_some, sad_ok h.lo h.hi (by rw [List.length_map]; exact h.len), bd_some]
  congr 1
  unfold sums
  refine List.map_congr_left fun a ha => ?_
  unfold Hs
  refine sm_congr fun x hx => ?_
  congr 1
  have hx' : x < row.length := by rw [h.len]; exact hx
  unfold vv
  simp only [List.getD_eq_getElem?_getD, List.getElem?_map, List.getElem?_eq_getElem hx', Option.map_some, Option.getD_some]
theorem pw (l b : Nat) : (((2 ^ l : Nat) : Int)) = (2 : Int) ^ l := by simp
end
end M40


set_option maxHeartbeats 200000
set_option Elab.async false
set_option maxRecDepth 100000
/-! k40: inverse sums, products of sums. -/
namespace M40
open PySem PySem.Spec Ev
def chk4 : Bool := (List.range 5).all fun w => (List.range 16).all fun x => (List.range 16).all fun y => decide (2 ^ w ≤ x) || decide (2 ^ w ≤ y) || decide (sm' (2 ^ w) (fun b => ch b x * ch b y) = if x = y then ((2 ^ w : Nat) : Int) else 0)
theorem ck4 : chk4 = true := by decide +kernel
theorem orth {w x y : Nat} (hw : w ≤ 4) (hx : x < 2 ^ w) (hy : y < 2 ^ w) : sm' (2 ^ w) (fun b => ch b x * ch b y) = if x = y then ((2 ^ w : Nat) : Int) else 0 := by
  have h := ck4
  unfold chk4 at h
  have h16 := p16 hw
  have h1 := List.all_eq_true.1 h w (List.mem_range.2 (by omega))
  have h2 := List.all_eq_true.1 h1 x (List.mem_range.2 (by omega))
  have h3 := List.all_eq_true.1 h2 y (List.mem_range.2 (by omega))
  simp only [Bool.or_eq_true, decide_eq_true_eq] at h3
  rcases h3 with (h3 | h3) | h3
  · omega
  · omega
  · exact h3
def chk5 : Bool := (List.range 16).all fun a => (List.range 16).all fun x => decide (ch a x = ch x a)
theorem ck5 : chk5 = true := by decide +kernel
theorem ch_symm {a x : Nat} (ha : a < 16) (hx : x < 16) : ch a x = ch x a := by
  have h := ck5
  unfold chk5 at h
  exact of_decide_eq_true (List.all_eq_true.1 (List.all_eq_true.1 h a (List.mem_range.2 ha)) x (List.mem_range.2 hx))
theorem ch_mul' {a b x : Nat} (ha : a < 16) (hb : b < 16) (hx : x < 16) : ch (a ^^^ b) x = ch a x * ch b x := by
  have hab : a ^^^ b < 2 ^ 4 := xor_lt (by omega) (by omega)
  rw [ch_symm (by omega) hx, ch_symm ha hx, ch_symm hb hx, ch_mul hx ha hb]
section
variable {w : Nat} {v u : Nat → Int}
theorem H_congr {a : Nat} (h : ∀ x, x < 2 ^ w → v x = u x) : Hs w v a = Hs w u a := sm_congr fun k hk => by rw [h k hk]
/-- the sums of the sums -/
theorem H_inv {x : Nat} (hw : w ≤ 4) (hx : x < 2 ^ w) : sm' (2 ^ w) (fun b => Hs w u b * ch b x) = u x * ((2 ^ w : Nat) : Int) := by
  have e1 : sm' (2 ^ w) (fun b => Hs w u b * ch b x) = sm' (2 ^ w) fun b => sm' (2 ^ w) fun y => u y * (ch b x * ch b y) := sm_congr fun b hb => by
    unfold Hs
    rw [← sm_mulr]
    exact sm_congr fun y hy => by rw [Int.mul_assoc, Int.mul_comm (ch b y)]
  rw [e1, sm_comm]
  have e2 : sm' (2 ^ w) (fun y => sm' (2 ^ w) fun b => u y * (ch b x * ch b y)) = sm' (2 ^ w) fun y => u y * (if x = y then ((2 ^ w : Nat) : Int) else 0) := sm_congr fun y hy => by
    rw [sm_mul, orth hw hx hy]
  rw [e2, sm_one _ _ _ _ hx]
theorem H_pars (hw : w ≤ 4) : sm' (2 ^ w) (fun b => Hs w v b * Hs w u b) = sm' (2 ^ w) (fun x => v x * u x) * ((2 ^ w : Nat) : Int) := by
  have e1 : sm' (2 ^ w) (fun b => Hs w v b * Hs w u b) = sm' (2 ^ w) fun b => sm' (2 ^ w) fun x => v x * (Hs w u b * ch b x) := sm_congr fun b hb => by
    conv => lhs; lhs; unfold Hs
    rw [← sm_mulr]
    exact sm_congr fun x hx => by rw [Int.mul_assoc, Int.mul_comm (ch b x)]
  rw [e1, sm_comm, ← sm_mulr]
  refine sm_congr fun x hx => ?_
  rw [sm_mul, H_inv hw hx, Int.mul_assoc]
/-- a product's sums -/
theorem H_conv {a : Nat} (hw : w ≤ 4) (ha : a < 2 ^ w) : sm' (2 ^ w) (fun b => Hs w v b * Hs w u (a ^^^ b)) = Hs w (fun x => v x * u x) a * ((2 ^ w : Nat) : Int) := by
  have h16 := p16 hw
  have e1 : sm' (2 ^ w) (fun b => Hs w v b * Hs w u (a ^^^ b)) = sm' (2 ^ w) (fun b => Hs w v b * Hs w (fun y => u y * ch a y) b) := sm_congr fun b hb => by
    congr 1
    unfold Hs
    exact sm_congr fun y hy => by rw [ch_mul' (by omega) (by omega) (by omega), Int.mul_assoc]
  rw [e1, H_pars hw]
  congr 1
  unfold Hs
  exact sm_congr fun x hx => by rw [Int.mul_assoc]
/-- shifted -/
theorem H_shift {a z : Nat} (hw : w ≤ 4) (ha : a < 2 ^ w) (hz : z < 2 ^ w) : Hs w (fun x => u (x ^^^ z)) a = Hs w u a * ch a z := by
  have h16 := p16 hw
  unfold Hs
  rw [sm_xor (x := z) hz, ← sm_mulr]
  refine sm_congr fun x hx => ?_
  rw [Nat.xor_comm z x]
  dsimp only
  rw [Nat.xor_assoc, Nat.xor_self, Nat.xor_zero, Nat.xor_comm x z, ← ch_mul (by omega) (by omega) (by omega), Int.mul_comm (ch a z), Int.mul_assoc]
theorem H_corr {z : Nat} (hw : w ≤ 4) (hz : z < 2 ^ w) : sm' (2 ^ w) (fun a => Hs w v a * Hs w u a * ch a z) = sm' (2 ^ w) (fun x => v x * u (x ^^^ z)) * ((2 ^ w : Nat) : Int) := by
  rw [← H_pars (v := v) (u := fun x => u (x ^^^ z)) hw]
  exact sm_congr fun a ha => by rw [H_shift hw ha hz, Int.mul_assoc]
theorem H_even {a : Nat} (h : ∀ x, x < 2 ^ w → v x = 1 ∨ v x = -1) : ∃ S : Int, ((2 ^ w : Nat) : Int) - 2 * S = Hs w v a := by
  refine ⟨_, sm_bits (2 ^ w) (fun x => (1 - v x * ch a x) / 2) (fun x => v x * ch a x) fun k hk => ?_⟩
  have h1 : ch a k = 1 ∨ ch a k = -1 := by unfold ch; split <;> simp
  rcases h k hk with e | e <;> rcases h1 with e1 | e1 <;> rw [e, e1] <;> decide
theorem H_inj (hw : w ≤ 4) (h : ∀ a, a < 2 ^ w → Hs w v a = Hs w u a) {x : Nat} (hx : x < 2 ^ w) : v x = u x := by
  have h1 := H_inv (u := v) hw hx
  have h2 := H_inv (u := u) hw hx
  rw [sm_congr (g := fun b => Hs w u b * ch b x) (fun b hb => by rw [h b hb]), h2] at h1
  have hp : 0 < 2 ^ w := Nat.pow_pos (by decide)
  exact (Int.eq_of_mul_eq_mul_right (by omega) h1).symm
/-- sums of sums, with the signs' places turned -/
theorem H_back {a : Nat} (hw : w ≤ 4) (ha : a < 2 ^ w) : Hs w (fun x => Hs w u x) a = u a * ((2 ^ w : Nat) : Int) := by
  have h16 := p16 hw
  rw [← H_inv hw ha]
  exact sm_congr fun b hb => by rw [ch_symm (a := a) (by omega) (by omega)]
end
end M40


set_option maxHeartbeats 200000
set_option Elab.async false
set_option maxRecDepth 100000
/-! k40: tables, draws of tables (k48's, turned to k40). -/
namespace M40
open PySem PySem.Spec Ev
theorem compM_some' {α β : Type} (d : β) (P : β → Prop) {fM : α → Option β} {xs : List α} (hl : xs.length ≤ 100000) (h : ∀ x ∈ xs, ∃ r, fM x = some r ∧ P r) : ∃ ys, compM (fun _ => some true) fM xs = some ys ∧ ys.length = xs.length ∧ ∀ y ∈ ys, P y := by
  refine ⟨xs.map fun x => (fM x).getD d, compM_map _ hl fun x hx => ?_, by simp, fun y hy => ?_⟩
  · obtain ⟨r, e, _⟩ := h x hx
    rw [e]; rfl
  · obtain ⟨x, hx, rfl⟩ := List.mem_map.mp hy
    obtain ⟨r, e, p⟩ := h x hx
    rw [e]; exact p
theorem ckpar : ((List.range 5).all fun l => (List.range (2 ^ l)).all fun s => (List.range (2 ^ l)).all fun x => decide (m_parity_of (wl l s) (wl l x) = some ((par (s &&& x) : Nat) : Int))) = true := by decide +kernel
theorem parity_ok {l s x : Nat} (hl : l ≤ 4) (hs : s < 2 ^ l) (hx : x < 2 ^ l) : m_parity_of (wl l s) (wl l x) = some ((par (s &&& x) : Nat) : Int) := by
  have h := ckpar
  rw [List.all_eq_true] at h
  have h1 := h l (List.mem_range.2 (by omega))
  rw [List.all_eq_true] at h1
  have h2 := h1 s (List.mem_range.2 hs)
  rw [List.all_eq_true] at h2
  exact of_decide_eq_true (h2 x (List.mem_range.2 hx))
section
variable {w : Nat} {row d : List Int}
theorem bit_ok {r : Int} (h : Bit r) : m_is_bit r = true := by rcases h with rfl | rfl <;> rfl
theorem table_ok (h : Row w row) : m_Table___init__ (w : Int) row = some (tab w row) := by
  have h1 := h.lo
  have h4 := h.hi
  have h16 := h.p16
  unfold m_Table___init__
  have hb : m_is_between (w : Int) 1 10 = true := by
    unfold m_is_between
    rw [Bool.and_eq_true, decide_eq_true_eq, decide_eq_true_eq]
    omega
  rw [hb]
  simp only [Bool.not_true, Bool.false_eq_true, if_false]
  rw [shl_ok (by decide) (by omega), bd_some, Int.one_mul, ← pw w 0, h.len, decide_eq_true rfl]
  simp only [Bool.not_true, Bool.false_eq_true, if_false]
  rw [compM_map (fun _ => true) (by rw [h.len]; omega) (fun x hx => by rw [bit_ok (h.bit x hx)]), bd_some, bd_some, bd_some, if_neg]
  simp
theorem table_is_ok (h : Row w row) : m__law_table_is (tab w row) (w : Int) row = some true := by
  have h16 := h.p16
  unfold m__law_table_is
  rw [row_is_ok (by rw [h.len]; omega)]
  simp
theorem rows_are_ok {xs : List (List Int)} (h : xs.length ≤ 1000) (hx : ∀ x ∈ xs, x.length ≤ 1000) : m__law_rows_are xs xs = some true := by
  unfold m__law_rows_are
  rw [if_neg (by simp), rng1M_nat (by omega), bd_some, compM_map (fun _ => true) (by simp; omega) (fun k hk => by
    rw [mem_rg] at hk
    rw [getM_ok hk.1 hk.2, bd_some, bd_some, row_is_ok (hx _ (List.getElem_mem _)), bd_some]
    simp), bd_some]
  simp
theorem mod2_bit (i : Int) : Bit (i % 2) := by unfold Bit; omega
theorem ite_bit (b : Bool) : Bit (if b = true then 1 else 0) := by cases b <;> simp [Bit]
theorem ones_ok (h : Row w row) {u : Nat} (hu : u < 2 ^ w) : ∃ i : Int, m_ones_of (tab w row) (wl w u) = some i ∧ ((2 ^ w : Nat) : Int) - 2 * i = Au w (vv row) u := by
  have h1 := h.lo
  have h4 := h.hi
  have h16 := h.p16
  have bt : ∀ k : Nat, k < 2 ^ w → Bit (PySem.Builtin.bitXor (row.getD (u ^^^ k) 0) (row.getD k 0)) := fun k hk => (xor_bit (h.at_ (xor_lt hu hk)).2 (h.at_ hk).2).2
  unfold m_ones_of
  show ∃ i, (bd (m_is_word (wl w u) (w : Int)) fun t0 => if (!t0) = true then none else bd (m_bits_number (wl w u)) fun t1 => bd (rng1M (row.length : Int)) fun xs0 => bd (compM (fun _ => some true) (fun x0 => bd (getM row (PySem.Builtin.bitXor t1 x0)) fun t2 => bd (getM row x0) fun t3 => some (PySem.Builtin.bitXor t2 t3)) xs0) fun ys0 => bd (gsumM ys0) fun t4 => some t4) = some i ∧ _
  rw [(word_ok h4 hu).2.2.2.2 h1, bd_some]
  simp only [Bool.not_true, Bool.false_eq_true, if_false]
  rw [(word_ok h4 hu).2.2.1, bd_some, h.len, rng1M_nat (by omega), bd_some, compM_map (fun x : Int => PySem.Builtin.bitXor (row.getD (u ^^^ x.toNat) 0) (row.getD x.toNat 0)) (by simp; omega) (fun x hx => by
    rw [mem_rg] at hx
    obtain ⟨k, rfl⟩ : ∃ k : Nat, x = (k : Int) := ⟨x.toNat, by omega⟩
    have hk : k < 2 ^ w := by omega
    rw [xor_nat (by omega) (by omega), (h.at_ (xor_lt hu hk)).1, bd_some, (h.at_ hk).1, bd_some, Int.toNat_natCast]), bd_some,
    gsum_ok (by simp; omega) (fun y hy => by
      obtain ⟨x, hx, rfl⟩ := List.mem_map.mp hy
      rw [mem_rg] at hx
      obtain ⟨k, rfl⟩ : ∃ k : Nat, x = (k : Int) := ⟨x.toNat, by omega⟩
      rw [Int.toNat_natCast]
      exact Nat.le_trans (bit_abs (bt k (by omega))) (by decide)), bd_some, sum_rg]
  refine ⟨_, rfl, ?_⟩
  unfold Au
  refine sm_bits _ _ _ fun k hk => ?_
  rw [Int.toNat_natCast, (xor_bit (h.at_ (xor_lt hu hk)).2 (h.at_ hk).2).1, Int.mul_comm, Nat.xor_comm]
  rfl
theorem start_ok (h1 : 1 ≤ w) (h4 : w ≤ 4) (hd : Dr d) {i0 : Int} (hi : 0 ≤ i0) (hl : i0 + 7 ≤ d.length) : ∃ row, m__law_start d i0 ((2 ^ w : Nat) : Int) (odds w) = some row ∧ Row w row := by
  have h16 := p16 h4
  have hp : 0 < ((2 ^ w : Nat) : Int) := by have : 0 < 2 ^ w := Nat.pow_pos (by decide); omega
  obtain ⟨t0, g0, _, _⟩ := dr_get hd (i := i0) (by omega) (by omega)
  obtain ⟨t1, g1, _, _⟩ := dr_get hd (i := i0 + 1) (by omega) (by omega)
  obtain ⟨t3, g3, _, _⟩ := dr_get hd (i := i0 + 2) (by omega) (by omega)
  obtain ⟨t5, g5, _, _⟩ := dr_get hd (i := i0 + 3) (by omega) (by omega)
  obtain ⟨t7, g7, _, _⟩ := dr_get hd (i := i0 + 4) (by omega) (by omega)
  obtain ⟨t9, g9, _, _⟩ := dr_get hd (i := i0 + 5) (by omega) (by omega)
  unfold m__law_start
  rw [g0, bd_some, bd_some, g1, bd_some, modM_ok hp, bd_some, g3, bd_some, modM_ok hp, bd_some, g5, bd_some, modM_ok hp, bd_some, g7, bd_some, modM_ok hp, bd_some, g9, bd_some, bd_some, rng1M_nat (by omega)]
  simp only [bd_some]
  obtain ⟨m, hm⟩ : ∃ m : Nat, t1 % ((2 ^ w : Nat) : Int) = (m : Int) := ⟨(t1 % ((2 ^ w : Nat) : Int)).toNat, by have := Int.emod_nonneg t1 (show ((2 ^ w : Nat) : Int) ≠ 0 by omega); omega⟩
  have hm2 : m < 2 ^ w := by have := Int.emod_lt_of_pos t1 hp; omega
  rw [hm]
  have fin : ∀ (fM : Int → Option Int), (∀ k : Nat, k < 2 ^ w → ∃ r, fM (k : Int) = some r ∧ Bit r) → ∃ row, (bd (compM (fun _ => some true) fM (rg (2 ^ w))) fun ys => some ys) = some row ∧ Row w row := fun fM hf => by
    obtain ⟨ys, e, e1, e2⟩ := compM_some' 0 Bit (fM := fM) (xs := rg (2 ^ w)) (by simp; omega) fun x hx => by
      rw [mem_rg] at hx
      obtain ⟨k, rfl⟩ : ∃ k : Nat, x = (k : Int) := ⟨x.toNat, by omega⟩
      exact hf k (by omega)
    exact ⟨ys, by rw [e, bd_some], h1, h4, by rw [e1]; simp, e2⟩
  have hodd : ∀ k : Nat, k < 2 ^ w → getM (odds w) (PySem.Builtin.bitAnd (k : Int) (m : Int)) = some ((par (k &&& m) : Nat) : Int) := fun k hk => by
    rw [and_nat (by omega) (by omega)]
    exact odds_get (Nat.lt_of_le_of_lt Nat.and_le_left hk)
  split
  · exact fin _ fun k hk => ⟨_, by rw [hodd k hk, bd_some], par_bit _⟩
  · split
    · exact fin _ fun k hk => ⟨_, by rw [hodd k hk, bd_some], (xor_bit (par_bit _) (ite_bit _)).2⟩
    · split
      · exact fin _ fun k hk => ⟨_, rfl, mod2_bit _⟩
      · split
        · exact fin _ fun k hk => ⟨_, rfl, ite_bit _⟩
        · refine fin _ fun k hk => ?_
          obtain ⟨t, g, _, _⟩ := dr_get hd (i := i0 + 6 + (k : Int) / 16) (by omega) (by omega)
          rw [g, bd_some]
          unfold shrM
          rw [if_pos (by omega), bd_some]
          exact ⟨_, rfl, mod2_bit _⟩
end
theorem wide_ok (t : Int) : ∃ w : Nat, getM [(1 : Int), 2, 3, 4, 2, 3, 4, 3] (t % 8) = some (w : Int) ∧ 1 ≤ w ∧ w ≤ 4 := by
  have h0 : 0 ≤ t % 8 := by omega
  have h8 : t % 8 < 8 := by omega
  generalize t % 8 = i at *
  rcases (show i = 0 ∨ i = 1 ∨ i = 2 ∨ i = 3 ∨ i = 4 ∨ i = 5 ∨ i = 6 ∨ i = 7 by omega) with rfl | rfl | rfl | rfl | rfl | rfl | rfl | rfl
  · exact ⟨1, by decide, by decide, by decide⟩
  · exact ⟨2, by decide, by decide, by decide⟩
  · exact ⟨3, by decide, by decide, by decide⟩
  · exact ⟨4, by decide, by decide, by decide⟩
  · exact ⟨2, by decide, by decide, by decide⟩
  · exact ⟨3, by decide, by decide, by decide⟩
  · exact ⟨4, by decide, by decide, by decide⟩
  · exact ⟨3, by decide, by decide, by decide⟩
end M40


set_option maxHeartbeats 200000
set_option Elab.async false
set_option maxRecDepth 100000
/-! k40: tables from sums. -/
namespace M40
open PySem PySem.Spec Ev
theorem fM_len {α β : Type} (f : α → Option β) : ∀ xs : List α, (xs.filterMap f).length ≤ xs.length
  | [] => by simp
  | x :: r => by
    have := fM_len f r
    rw [List.filterMap_cons]
    split <;> simp <;> omega
theorem fM_lt {α β : Type} (f : α → Option β) : ∀ xs : List α, (∃ x ∈ xs, f x = none) → (xs.filterMap f).length < xs.length
  | [], ⟨x, hx, _⟩ => by cases hx
  | y :: r, ⟨x, hx, e⟩ => by
    have h1 := fM_len f r
    rw [List.filterMap_cons]
    rcases List.mem_cons.mp hx with rfl | hx
    · rw [e]; simp; omega
    · have := fM_lt f r ⟨x, hx, e⟩
      split <;> simp only [List.length_cons] <;> omega
theorem fM_map {α β : Type} (f : α → Option β) (g : α → β) : ∀ xs : List α, (∀ x ∈ xs, f x = some (g x)) → xs.filterMap f = xs.map g
  | [], _ => rfl
  | x :: r, h => by rw [List.filterMap_cons, h x List.mem_cons_self, fM_map f g r fun y hy => h y (List.mem_cons_of_mem _ hy)]; rfl
section
variable {w : Nat} {ns : List Int}
/-- the sums of given numbers -/
def Tn (w : Nat) (ns : List Int) (x : Nat) : Int := Hs w (fun a => ns.getD a 0) x
structure Nums (w : Nat) (ns : List Int) : Prop where
  lo : 1 ≤ w
  hi : w ≤ 4
  len : ns.length = 2 ^ w
  ab : ∀ x ∈ ns, x.natAbs ≤ 1000
theorem Nums.at_ (h : Nums w ns) {x : Nat} (hx : x < 2 ^ w) : getM ns (x : Int) = some (ns.getD x 0) ∧ (ns.getD x 0).natAbs ≤ 1000 := by
  have hl := h.len
  refine ⟨getM_D 0 (by omega), h.ab _ ?_⟩
  rw [List.getD_eq_getElem?_getD, List.getElem?_eq_getElem (by omega)]
  exact List.getElem_mem _
def bk (w : Nat) (t : Int) : Option Int := if t = ((2 ^ w : Nat) : Int) then some 0 else if t = -((2 ^ w : Nat) : Int) then some 1 else none
def AllT (w : Nat) (ns : List Int) : Prop := ∀ x, x < 2 ^ w → Tn w ns x = ((2 ^ w : Nat) : Int) ∨ Tn w ns x = -((2 ^ w : Nat) : Int)
/-- the table's bits -/
def bitsT (w : Nat) (ns : List Int) : List Int := (List.range (2 ^ w)).map fun x => if decide (Tn w ns x < 0) = true then 1 else 0
theorem two_le (h : 1 ≤ w) : 2 ≤ 2 ^ w := Nat.pow_le_pow_right (n := 2) (i := 1) (by decide) h
theorem bitsT_row (h : Nums w ns) : Row w (bitsT w ns) := ⟨h.lo, h.hi, by simp [bitsT], fun x hx => by
  unfold bitsT at hx
  obtain ⟨k, _, rfl⟩ := List.mem_map.mp hx
  exact ite_bit _⟩
theorem back1_ok (h : Nums w ns) {k : Nat} (hk : k < 2 ^ w) {found : List Int} (hf : found.length ≤ 1000) : m__law_back_l1 ns (odds w) ((2 ^ w : Nat) : Int) found (k : Int) = some (found ++ (bk w (Tn w ns k)).toList) := by
  have h16 := p16 h.hi
  have h2 := two_le h.lo
  unfold m__law_back_l1
  rw [rng1M_nat (by omega), bd_some, compM_map (fun a : Int => ns.getD a.toNat 0 * ch k a.toNat) (by simp; omega) (fun x hx => by
    rw [mem_rg] at hx
    obtain ⟨j, rfl⟩ : ∃ j : Nat, x = (j : Int) := ⟨x.toNat, by omega⟩
    have hj : j < 2 ^ w := by omega
    rw [(h.at_ hj).1, bd_some, and_nat (by omega) (by omega), odds_get (Nat.lt_of_le_of_lt Nat.and_le_left hj), bd_some, mulM_ok (by decide) (Nat.lt_of_le_of_lt (bit_abs (par_bit _)) (by decide)), bd_some, Nat.and_comm, ← ch_par,
      mulM_ok (Nat.lt_of_le_of_lt (h.at_ hj).2 (by decide)) (Nat.lt_of_le_of_lt (ch_abs _ _) (by decide)), bd_some, Int.toNat_natCast]), bd_some, sum_rg]
  rw [show (sm' (2 ^ w) fun j => ns.getD (j : Int).toNat 0 * ch k (j : Int).toNat) = Tn w ns k from rfl, bd_some]
  unfold bk
  by_cases e1 : Tn w ns k = ((2 ^ w : Nat) : Int)
  · rw [if_pos (decide_eq_true e1), appM_ok (by omega), bd_some, bd_some, if_neg (show ¬ decide (Tn w ns k = -((2 ^ w : Nat) : Int)) = true from by rw [decide_eq_true_eq]; omega), if_pos e1]
    rfl
  · rw [if_neg (by simpa using e1), bd_some, if_neg e1]
    by_cases e2 : Tn w ns k = -((2 ^ w : Nat) : Int)
    · rw [if_pos (decide_eq_true e2), appM_ok (by omega), bd_some, if_pos e2]
      rfl
    · rw [if_neg (by simpa using e2), if_neg e2]
      simp
theorem back_ok (h : Nums w ns) : m__law_back ns (odds w) = some (if ((rg (2 ^ w)).filterMap fun x => bk w (Tn w ns x.toNat)).length < 2 ^ w then none else some ((rg (2 ^ w)).filterMap fun x => bk w (Tn w ns x.toNat))) := by
  have h16 := p16 h.hi
  unfold m__law_back
  rw [bd_some, bd_some, h.len, rng1M_nat (by omega), bd_some]
  obtain ⟨s, f1, f2⟩ := forS_rg (step := fun s x => m__law_back_l1 ns (odds w) ((2 ^ w : Nat) : Int) s x) (fun k s => k ≤ 2 ^ w ∧ s = ((rg k).filterMap fun x => bk w (Tn w ns x.toNat))) (2 ^ w) [] (fun k s hk hs => by
    obtain ⟨_, rfl⟩ := hs
    have hl := fM_len (fun x : Int => bk w (Tn w ns x.toNat)) (rg k)
    rw [show (rg k).length = k by simp] at hl
    refine ⟨_, back1_ok h hk (by omega), by omega, ?_⟩
    rw [rg_succ, List.filterMap_append]
    refine congrArg (fun z => List.filterMap (fun x : Int => bk w (Tn w ns x.toNat)) (rg k) ++ z) ?_
    rw [List.filterMap_cons, Int.toNat_natCast]
    cases bk w (Tn w ns k) <;> rfl) ⟨Nat.zero_le _, rfl⟩
  rw [f1, bd_some, f2.2]
  split
  · rename_i hc
    have := of_decide_eq_true hc
    rw [if_pos (by omega)]
  · rename_i hc
    rw [if_neg (fun q => hc (decide_eq_true (by omega)))]
theorem rg_map {α : Type} (n : Nat) (f : Int → α) : (rg n).map f = (List.range n).map fun (k : Nat) => f (k : Int) := by
  unfold rg; rw [List.map_map]; rfl
theorem back_all (h : Nums w ns) (ha : AllT w ns) : m__law_back ns (odds w) = some (some (bitsT w ns)) := by
  have h2 := two_le h.lo
  have e : ((rg (2 ^ w)).filterMap fun x => bk w (Tn w ns x.toNat)) = bitsT w ns := by
    rw [fM_map _ (fun x : Int => if decide (Tn w ns x.toNat < 0) = true then (1 : Int) else 0) _ fun x hx => by
      rw [mem_rg] at hx
      unfold bk
      rcases ha x.toNat (by omega) with e | e
      · rw [if_pos e, if_neg (by simp; omega)]
      · rw [if_neg (by omega), if_pos e, if_pos (by simp; omega)], rg_map]
    rfl
  rw [back_ok h, e, if_neg (by simp [bitsT])]
theorem back_not (h : Nums w ns) (ha : ¬ AllT w ns) : m__law_back ns (odds w) = some none := by
  have e : ((rg (2 ^ w)).filterMap fun x => bk w (Tn w ns x.toNat)).length < (rg (2 ^ w)).length := fM_lt _ _ (by
    unfold AllT at ha
    rw [Classical.not_forall] at ha
    obtain ⟨x, hx⟩ := ha
    rw [Classical.not_imp, not_or] at hx
    refine ⟨(x : Int), by rw [mem_rg]; omega, ?_⟩
    unfold bk
    rw [Int.toNat_natCast, if_neg hx.2.1, if_neg hx.2.2])
  rw [show (rg (2 ^ w)).length = 2 ^ w by simp] at e
  rw [back_ok h, if_pos e]
end
end M40


set_option maxHeartbeats 200000
set_option Elab.async false
set_option maxRecDepth 100000
/-! k40: what table_from tells. -/
namespace M40
open PySem PySem.Spec Ev
section
variable {w : Nat} {ns : List Int}
def Tl (w : Nat) (ns : List Int) : List Int := (List.range (2 ^ w)).map fun a => Tn w ns a
theorem Tl_len : (Tl w ns).length = 2 ^ w := by simp [Tl]
def okT (w : Nat) (ns : List Int) : Bool := (Tl w ns).all fun x => decide (x = ((2 ^ w : Nat) : Int)) || decide (x = -((2 ^ w : Nat) : Int))
theorem okT_iff : okT w ns = true ↔ AllT w ns := by
  unfold okT AllT Tl
  rw [List.all_eq_true]
  constructor
  · intro h x hx
    have := h _ (List.mem_map.mpr ⟨x, List.mem_range.2 hx, rfl⟩)
    simpa only [Bool.or_eq_true, decide_eq_true_eq] using this
  · intro h y hy
    obtain ⟨x, hx, rfl⟩ := List.mem_map.mp hy
    simpa only [Bool.or_eq_true, decide_eq_true_eq] using h x (List.mem_range.1 hx)
theorem between_ok (h : Nums w ns) : m_is_between (w : Int) 1 10 = true := by
  have h1 := h.lo
  have h4 := h.hi
  unfold m_is_between
  rw [Bool.and_eq_true, decide_eq_true_eq, decide_eq_true_eq]
  omega
theorem map_all (xs : List Int) (f : Int → Bool) : (xs.map f).all id = xs.all f := by rw [List.all_map]; rfl
theorem sadT (h : Nums w ns) : m_sums_and_differences ns = some (Tl w ns) := sad_ok h.lo h.hi h.len
theorem from_all (h : Nums w ns) (ha : AllT w ns) : m_table_from (w : Int) ns = some (tab w (bitsT w ns)) := by
  have h16 := p16 h.hi
  have h4 := h.hi
  unfold m_table_from
  rw [between_ok h]
  simp only [Bool.not_true, Bool.false_eq_true, if_false]
  rw [shl_ok (by decide) (by omega), bd_some, Int.one_mul, ← pw w 0, h.len, decide_eq_true rfl]
  simp only [Bool.not_true, Bool.false_eq_true, if_false]
  rw [compM_map (fun _ => true) (by rw [h.len]; omega) (fun x hx => rfl), bd_some, map_all, if_neg (by simp), sadT h, bd_some,
    compM_map (fun x => decide (x = ((2 ^ w : Nat) : Int)) || decide (x = -((2 ^ w : Nat) : Int))) (by rw [Tl_len]; omega) (fun x hx => rfl), bd_some, map_all,
    show (Tl w ns).all (fun x => decide (x = ((2 ^ w : Nat) : Int)) || decide (x = -((2 ^ w : Nat) : Int))) = true from okT_iff.2 ha]
  simp only [Bool.not_true, Bool.false_eq_true, if_false]
  rw [compM_map (fun x : Int => if decide (x < 0) = true then (1 : Int) else 0) (by rw [Tl_len]; omega) (fun x hx => rfl), bd_some,
    show (Tl w ns).map (fun x : Int => if decide (x < 0) = true then (1 : Int) else 0) = bitsT w ns by unfold Tl bitsT; rw [List.map_map]; rfl, table_ok (bitsT_row h), bd_some]
theorem from_not (h : Nums w ns) (ha : ¬ AllT w ns) : m_table_from (w : Int) ns = none ∧ m_table_from_x (w : Int) ns = some ("table" : PySem.Str) := by
  have h16 := p16 h.hi
  have h4 := h.hi
  have hk : okT w ns = false := by
    cases e : okT w ns with
    | false => rfl
    | true => exact absurd (okT_iff.1 e) ha
  constructor
  · unfold m_table_from
    rw [between_ok h]
    simp only [Bool.not_true, Bool.false_eq_true, if_false]
    rw [shl_ok (by decide) (by omega), bd_some, Int.one_mul, ← pw w 0, h.len, decide_eq_true rfl]
    simp only [Bool.not_true, Bool.false_eq_true, if_false]
    rw [compM_map (fun _ => true) (by rw [h.len]; omega) (fun x hx => rfl), bd_some, map_all, if_neg (by simp), sadT h, bd_some,
      compM_map (fun x => decide (x = ((2 ^ w : Nat) : Int)) || decide (x = -((2 ^ w : Nat) : Int))) (by rw [Tl_len]; omega) (fun x hx => rfl), bd_some, map_all,
      show (Tl w ns).all (fun x => decide (x = ((2 ^ w : Nat) : Int)) || decide (x = -((2 ^ w : Nat) : Int))) = false from hk]
    rfl
  · unfold m_table_from_x
    rw [between_ok h]
    simp only [Bool.not_true, Bool.false_eq_true, if_false]
    rw [shl_ok (by decide) (by omega), bd_some, Int.one_mul, ← pw w 0, h.len, decide_eq_true rfl]
    simp only [Bool.not_true, Bool.false_eq_true, if_false]
    rw [compM_map (fun _ => true) (by rw [h.len]; omega) (fun x hx => rfl), bd_some, map_all, if_neg (by simp), sadT h, bd_some,
      compM_map (fun x => decide (x = ((2 ^ w : Nat) : Int)) || decide (x = -((2 ^ w : Nat) : Int))) (by rw [Tl_len]; omega) (fun x hx => rfl), bd_some, map_all,
      show (Tl w ns).all (fun x => decide (x = ((2 ^ w : Nat) : Int)) || decide (x = -((2 ^ w : Nat) : Int))) = false from hk]
    rfl
theorem told_all (h : Nums w ns) (ha : AllT w ns) : m__law_told (w : Int) ns = some (.inl (tab w (bitsT w ns))) := by
  unfold m__law_told
  rw [optM_some (from_all h ha)]
theorem told_not (h : Nums w ns) (ha : ¬ AllT w ns) : m__law_told (w : Int) ns = some (.inr "table") := by
  unfold m__law_told
  rw [optM_none (from_not h ha).1, (from_not h ha).2, bd_some]
theorem vv_bitsT (ha : AllT w ns) {x : Nat} (hx : x < 2 ^ w) : vv (bitsT w ns) x * ((2 ^ w : Nat) : Int) = Tn w ns x := by
  have hp : 0 < 2 ^ w := Nat.pow_pos (by decide)
  have e : (bitsT w ns).getD x 0 = if decide (Tn w ns x < 0) = true then 1 else 0 := by
    unfold bitsT
    rw [List.getD_eq_getElem?_getD, List.getElem?_map, List.getElem?_range hx]; rfl
  unfold vv
  rw [e]
  rcases ha x hx with q | q
  · rw [if_neg (by rw [decide_eq_true_eq]; omega), q]; omega
  · rw [if_pos (by rw [decide_eq_true_eq]; omega), q]; omega
theorem ext_range {xs : List Int} {n : Nat} (hl : xs.length = n) (f : Nat → Int) (h : ∀ a, a < n → f a = xs.getD a 0) : (List.range n).map f = xs := by
  refine List.ext_getElem (by simp [hl]) fun i h1 h2 => ?_
  rw [List.getElem_map, List.getElem_range, h i (by omega), List.getD_eq_getElem?_getD, List.getElem?_eq_getElem h2]
  rfl
theorem sums_bitsT (h : Nums w ns) (ha : AllT w ns) : sums w (bitsT w ns) = ns := by
  have hp : 0 < 2 ^ w := Nat.pow_pos (by decide)
  refine ext_range h.len _ fun a hx => ?_
  have e1 : Hs w (vv (bitsT w ns)) a * ((2 ^ w : Nat) : Int) = Hs w (fun x => Tn w ns x) a := by
    unfold Hs
    rw [← sm_mulr]
    refine sm_congr fun x hx => ?_
    dsimp only
    rw [← vv_bitsT ha hx]
    simp only [Int.mul_assoc, Int.mul_comm, Int.mul_left_comm]
  have e2 : Hs w (fun x => Tn w ns x) a = ns.getD a 0 * ((2 ^ w : Nat) : Int) := H_back (u := fun a => ns.getD a 0) h.hi hx
  exact Int.eq_of_mul_eq_mul_right (by omega) (e1.trans e2)
theorem row_fits_ok (h : Nums w ns) : m__law_row_fits (w : Int) ns (odds w) = some true := by
  have h16 := p16 h.hi
  unfold m__law_row_fits
  by_cases ha : AllT w ns
  · rw [back_all h ha, bd_some, told_all h ha, bd_some, optM_some rfl]
    have hi : inlM (.inl (tab w (bitsT w ns)) : C_Table ⊕ PySem.Str) = some (tab w (bitsT w ns)) := rfl
    rw [if_pos (by rfl), hi, bd_some, table_is_ok (bitsT_row h), bd_some, if_pos rfl, bd_some, signed_ok (bitsT_row h), bd_some, sums_bitsT h ha, row_is_ok (by rw [h.len]; omega), bd_some, bd_some, bd_some]
    simp
  · rw [back_not h ha, bd_some, told_not h ha, bd_some, optM_none rfl]
    decide +kernel
end
end M40


set_option maxHeartbeats 200000
set_option Elab.async false
set_option maxRecDepth 100000
/-! k40: products of tables. -/
namespace M40
open PySem PySem.Spec Ev
theorem getD_rmap {n x : Nat} (f : Nat → Int) (hx : x < n) : ((List.range n).map f).getD x 0 = f x := by
  rw [List.getD_eq_getElem?_getD, List.getElem?_map, List.getElem?_range hx]; rfl
theorem zip_map {n : Nat} {r s : List Int} (hr : r.length = n) (hs : s.length = n) (f : Int × Int → Int) : (r.zip s).map f = (List.range n).map fun x => f (r.getD x 0, s.getD x 0) := by
  refine List.ext_getElem (by simp [hr, hs]) fun i h1 h2 => ?_
  have hi : i < n := by simpa using h2
  rw [List.getElem_map, List.getElem_zip, List.getElem_map, List.getElem_range]
  simp only [List.getD_eq_getElem?_getD, List.getElem?_eq_getElem (show i < r.length by omega), List.getElem?_eq_getElem (show i < s.length by omega), Option.getD_some]
def xr (w : Nat) (r s : List Int) : List Int := (List.range (2 ^ w)).map fun x => PySem.Builtin.bitXor (r.getD x 0) (s.getD x 0)
section
variable {w : Nat} {r s : List Int}
theorem xr_row (h : Row w r) (h' : Row w s) : Row w (xr w r s) := ⟨h.lo, h.hi, by simp [xr], fun x hx => by
  unfold xr at hx
  obtain ⟨k, hk, rfl⟩ := List.mem_map.mp hx
  have hk := List.mem_range.1 hk
  exact (xor_bit (h.at_ hk).2 (h'.at_ hk).2).2⟩
theorem xr_vv (h : Row w r) (h' : Row w s) {x : Nat} (hx : x < 2 ^ w) : vv (xr w r s) x = vv r x * vv s x := by
  have e : (xr w r s).getD x 0 = PySem.Builtin.bitXor (r.getD x 0) (s.getD x 0) := getD_rmap _ hx
  show 1 - 2 * (xr w r s).getD x 0 = _
  rw [e, (xor_bit (h.at_ hx).2 (h'.at_ hx).2).1]; rfl
theorem add_ok (h : Row w r) (h' : Row w s) : m_Table___add__ (tab w r) (tab w s) = some (tab w (xr w r s)) := by
  have h16 := h.p16
  have l1 := h.len
  have l2 := h'.len
  unfold m_Table___add__
  rw [if_neg (by simp)]
  show bd (compM (fun _ => some true) (fun x0 : Int × Int => some (PySem.Builtin.bitXor x0.1 x0.2)) (r.zip s)) _ = _
  rw [compM_map (fun x0 : Int × Int => PySem.Builtin.bitXor x0.1 x0.2) (by simp; omega) (fun x hx => rfl), bd_some, zip_map h.len h'.len]
  show bd (m_Table___init__ (w : Int) (xr w r s)) _ = _
  rw [table_ok (xr_row h h'), bd_some]
theorem sum_map_range (n : Nat) (f : Nat → Int) : ((List.range n).map f).sum = sm' n f := sum_range n f
theorem distance_ok (h : Row w r) (h' : Row w s) : ∃ D : Int, m_distance (tab w r) (tab w s) = some D ∧ ((2 ^ w : Nat) : Int) - 2 * D = sm' (2 ^ w) (fun x => vv r x * vv s x) ∧ D.natAbs ≤ 16 := by
  have h16 := h.p16
  have l1 := h.len
  have l2 := h'.len
  have bt : ∀ k : Nat, k < 2 ^ w → Bit (PySem.Builtin.bitXor (r.getD k 0) (s.getD k 0)) := fun k hk => (xor_bit (h.at_ hk).2 (h'.at_ hk).2).2
  unfold m_distance
  rw [if_neg (by simp)]
  show ∃ D, bd (compM (fun _ => some true) (fun x0 : Int × Int => some (PySem.Builtin.bitXor x0.1 x0.2)) (r.zip s)) _ = some D ∧ _
  rw [compM_map (fun x0 : Int × Int => PySem.Builtin.bitXor x0.1 x0.2) (by simp; omega) (fun x hx => rfl), bd_some, zip_map h.len h'.len,
    gsum_ok (by simp; omega) (fun y hy => by
      obtain ⟨k, hk, rfl⟩ := List.mem_map.mp hy
      exact Nat.le_trans (bit_abs (bt k (List.mem_range.1 hk))) (by decide)), bd_some, sum_range]
  refine ⟨_, rfl, ?_, ?_⟩
  · exact sm_bits _ _ _ fun k hk => by rw [(xor_bit (h.at_ hk).2 (h'.at_ hk).2).1]; rfl
  · exact Nat.le_trans (sm_bound _ _ 1 fun k hk => bit_abs (bt k hk)) (by omega)
/-- the product's sums -/
theorem prod_H (h : Row w r) (h' : Row w s) {a : Nat} (ha : a < 2 ^ w) : sm' (2 ^ w) (fun b => Hs w (vv r) b * Hs w (vv s) (a ^^^ b)) = Hs w (vv (xr w r s)) a * ((2 ^ w : Nat) : Int) := by
  rw [H_conv h.hi ha]
  congr 1
  exact H_congr fun x hx => (xr_vv h h' hx).symm
def Jn (w : Nat) (r s : List Int) : List Int := (List.range (2 ^ w)).map fun a => Hs w (vv (xr w r s)) a * ((2 ^ w : Nat) : Int)
theorem abs16 {i : Int} {n : Nat} (h : i.natAbs ≤ n) (hn : n ≤ 1000000) : i.natAbs < 2 ^ 200 := Nat.lt_of_le_of_lt (Nat.le_trans h hn) (by decide)
theorem joined_ok (h : Row w r) (h' : Row w s) : m__law_joined (sums w r) (sums w s) = some (Jn w r s) := by
  have h16 := h.p16
  unfold m__law_joined
  rw [bd_some, bd_some, sums_len, rng1M_nat (by omega), bd_some]
  obtain ⟨t, f1, f2⟩ := forS_rg (step := fun t x => m__law_joined_l1 (sums w r) (sums w s) ((2 ^ w : Nat) : Int) t x) (fun k t => t = (List.range k).map fun a => Hs w (vv (xr w r s)) a * ((2 ^ w : Nat) : Int)) (2 ^ w) [] (fun k t hk ht => by
    subst ht
    refine ⟨_, ?_, rfl⟩
    unfold m__law_joined_l1
    rw [rng1M_nat (by omega), bd_some, compM_map (fun b : Int => Hs w (vv r) b.toNat * Hs w (vv s) (k ^^^ b.toNat)) (by simp; omega) (fun x hx => by
      rw [mem_rg] at hx
      obtain ⟨j, rfl⟩ : ∃ j : Nat, x = (j : Int) := ⟨x.toNat, by omega⟩
      have hj : j < 2 ^ w := by omega
      rw [sums_get hj, bd_some, xor_nat (by omega) (by omega), sums_get (xor_lt hk hj), bd_some, mulM_ok (abs16 (Hs_abs h j) (by omega)) (abs16 (Hs_abs h' _) (by omega)), bd_some, Int.toNat_natCast]), bd_some, sum_rg]
    rw [show (sm' (2 ^ w) fun j => Hs w (vv r) (j : Int).toNat * Hs w (vv s) (k ^^^ (j : Int).toNat)) = _ from prod_H h h' hk, appM_ok (by simp; omega), bd_some, List.range_succ, List.map_append]
    rfl) rfl
  rw [f1, bd_some, f2]
  rfl
theorem greatest_ok {xs : List Int} (hx : xs ≠ []) (hl : xs.length ≤ 1000) : m_greatest_of xs = some (maxI xs) := by
  unfold m_greatest_of
  rw [compM_map (fun x => x) (by omega) (fun x _ => rfl), bd_some, List.map_id', maxM_ok hx, bd_some]
theorem sums_ne (q : List Int) : sums w q ≠ [] := by
  have hp : 0 < 2 ^ w := Nat.pow_pos (by decide)
  intro e
  have := sums_len w q
  rw [e] at this
  simp at this
  omega
theorem least_ok (h : Row w r) : ∃ i, m_least_distance (tab w r) = some i ∧ ((2 ^ w : Nat) : Int) - 2 * i = maxI (sums w r) ∧ i.natAbs ≤ 1000 := by
  have h16 := h.p16
  unfold m_least_distance
  rw [signed_ok h, bd_some, greatest_ok (sums_ne r) (by rw [sums_len]; omega), bd_some]
  refine ⟨_, rfl, ?_⟩
  show ((2 ^ w : Nat) : Int) - 2 * (((r.length : Int) - maxI (sums w r)) / 2) = _ ∧ (((r.length : Int) - maxI (sums w r)) / 2).natAbs ≤ 1000
  have hm := maxI_mem (sums_ne (w := w) r)
  unfold sums at hm
  obtain ⟨a, ha, e⟩ := List.mem_map.mp hm
  obtain ⟨S, hS⟩ := H_even (w := w) (v := vv r) (a := a) (fun x hx => vv_sgn h hx)
  have hb := Hs_abs h a
  have e' : Hs w (vv r) a = maxI (sums w r) := e
  rw [← e', h.len, ← hS]
  rw [← hS] at hb
  constructor <;> omega
theorem near_ok (h : Row w r) : m_nearest_sums (tab w r) = some (((rg (2 ^ w)).filter fun a => decide (Hs w (vv r) a.toNat = maxI (sums w r))).map fun a => wl w a.toNat) := by
  have h4 := h.hi
  have h16 := h.p16
  unfold m_nearest_sums
  rw [signed_ok h, bd_some, greatest_ok (sums_ne r) (by rw [sums_len]; omega), bd_some, sums_len, rng1M_nat (by omega), bd_some,
    compM_some (fun a => decide (Hs w (vv r) a.toNat = maxI (sums w r))) (fun a => wl w a.toNat) (by simp; omega) (fun x hx => by
      rw [mem_rg] at hx
      obtain ⟨k, rfl⟩ : ∃ k : Nat, x = (k : Int) := ⟨x.toNat, by omega⟩
      rw [sums_get (by omega), bd_some, Int.toNat_natCast]) (fun x hx _ => by
      rw [mem_rg] at hx
      obtain ⟨k, rfl⟩ : ∃ k : Nat, x = (k : Int) := ⟨x.toNat, by omega⟩
      show bd (m_word_at (w : Int) (k : Int)) _ = _
      rw [(word_ok h4 (show k < 2 ^ w by omega)).2.1, bd_some, Int.toNat_natCast]), bd_some]
theorem Nums_sums (h : Row w r) : Nums w (sums w r) := ⟨h.lo, h.hi, sums_len w r, fun x hx => by
  unfold sums at hx
  obtain ⟨a, _, rfl⟩ := List.mem_map.mp hx
  have := h.p16
  exact Nat.le_trans (Hs_abs h a) (by omega)⟩
theorem Tn_sums (h : Row w r) {x : Nat} (hx : x < 2 ^ w) : Tn w (sums w r) x = vv r x * ((2 ^ w : Nat) : Int) := by
  unfold Tn
  rw [← H_back (u := vv r) h.hi hx]
  exact H_congr fun a ha => getD_rmap _ ha
theorem All_sums (h : Row w r) : AllT w (sums w r) := fun x hx => by
  rw [Tn_sums h hx]
  rcases vv_sgn h hx with e | e
  · left; rw [e]; omega
  · right; rw [e]; omega
theorem bitsT_sums (h : Row w r) : bitsT w (sums w r) = r := by
  have hp : 0 < 2 ^ w := Nat.pow_pos (by decide)
  refine ext_range h.len _ fun x hx => ?_
  rw [Tn_sums h hx]
  have hb := (h.at_ hx).2
  unfold vv
  rcases hb with e | e <;> rw [e]
  · rw [if_neg (by rw [decide_eq_true_eq]; omega)]
  · rw [if_pos (by rw [decide_eq_true_eq]; omega)]
theorem sums_inj (h : Row w r) (h' : Row w s) : decide (sums w r = sums w s) = decide (r = s) := by
  rw [decide_eq_decide]
  constructor
  · intro e
    rw [← bitsT_sums h, ← bitsT_sums h', e]
  · intro e; rw [e]
theorem eq_ok : m_Table___eq__ (tab w r) (tab w s) = decide (r = s) := by
  unfold m_Table___eq__
  simp
end
end M40


set_option maxHeartbeats 200000
set_option Elab.async false
set_option maxRecDepth 100000
/-! k40: sums_fit, far_fits. -/
namespace M40
open PySem PySem.Spec Ev
section
variable {w : Nat} {r s : List Int}
theorem sums_fit_ok (h : Row w r) (h' : Row w s) : m__law_sums_fit (tab w (xr w r s)) (tab w r) (tab w s) (sums w r) (sums w s) (xr w r s) = some true := by
  have h16 := h.p16
  have h4 := h.hi
  have hp : 0 < ((2 ^ w : Nat) : Int) := by have : 0 < 2 ^ w := Nat.pow_pos (by decide); omega
  have hx := xr_row h h'
  have e1 : (Jn w r s).map (fun x => x / ((2 ^ w : Nat) : Int)) = sums w (xr w r s) := by
    unfold Jn sums
    rw [List.map_map]
    exact List.map_congr_left fun a _ => Int.mul_ediv_cancel _ (by omega)
  have e2 : (sums w (xr w r s)).map (fun x => x * ((2 ^ w : Nat) : Int)) = Jn w r s := by
    unfold Jn sums
    rw [List.map_map]
    exact List.map_congr_left fun a _ => rfl
  have hJ : (Jn w r s).length = 2 ^ w := by simp [Jn]
  have hN : (((2 ^ w : Nat) : Int)).natAbs < 2 ^ 200 := abs16 (n := 16) (by omega) (by omega)
  obtain ⟨i, l1, l2, l3⟩ := least_ok hx
  unfold m__law_sums_fit
  rw [bd_some, bd_some, hx.len, joined_ok h h', bd_some, compM_map (fun x => x / ((2 ^ w : Nat) : Int)) (by omega) (fun x _ => by rw [fdivM_ok hp hN, bd_some]), bd_some, e1,
    compM_map (fun x => x * ((2 ^ w : Nat) : Int)) (by rw [sums_len]; omega) (fun x hm => by
      unfold sums at hm
      obtain ⟨a, _, rfl⟩ := List.mem_map.mp hm
      rw [mulM_ok (abs16 (Hs_abs hx a) (by omega)) hN, bd_some]), bd_some, e2, if_neg (by simp), signed_ok hx, bd_some, row_is_ok (by rw [sums_len]; omega), bd_some, decide_eq_true rfl, bd_some, if_neg (by simp), l1, bd_some, if_neg (by simp),
    mulM_ok (by decide) (abs16 l3 (by omega)), bd_some, maxM_ok (sums_ne _), bd_some, bd_some, l2, decide_eq_true rfl, if_neg (by simp), rng1M_nat (by omega), bd_some,
    compM_some (fun a => decide (Hs w (vv (xr w r s)) a.toNat = maxI (sums w (xr w r s)))) (fun a => wl w a.toNat) (by simp; omega) (fun x hm => by
      rw [mem_rg] at hm
      obtain ⟨k, rfl⟩ : ∃ k : Nat, x = (k : Int) := ⟨x.toNat, by omega⟩
      rw [sums_get (by omega), bd_some, bd_some, Int.toNat_natCast]) (fun x hm _ => by
      rw [mem_rg] at hm
      obtain ⟨k, rfl⟩ : ∃ k : Nat, x = (k : Int) := ⟨x.toNat, by omega⟩
      show bd (m__law_word (k : Int) (w : Int)) _ = _
      rw [(word_ok h4 (show k < 2 ^ w by omega)).1, bd_some, Int.toNat_natCast]), bd_some, near_ok hx, bd_some,
    rows_are_ok (by
      rw [List.length_map]
      have := List.length_filter_le (fun a => decide (Hs w (vv (xr w r s)) a.toNat = maxI (sums w (xr w r s)))) (rg (2 ^ w))
      rw [show (rg (2 ^ w)).length = 2 ^ w by simp] at this
      omega) (fun x hm => by
      obtain ⟨a, _, rfl⟩ := List.mem_map.mp hm
      rw [wl_len]; omega), bd_some, if_neg (by simp)]
  show bd (m__law_told (w : Int) (sums w (xr w r s))) _ = _
  rw [told_all (Nums_sums hx) (All_sums hx), bd_some, bitsT_sums hx]
  have hi : inlM (.inl (tab w (xr w r s)) : C_Table ⊕ PySem.Str) = some (tab w (xr w r s)) := rfl
  have ht : tagW (.inl (tab w (xr w r s)) : C_Table ⊕ PySem.Str) = 0 := rfl
  rw [ht, if_neg (by simp), hi, bd_some]
  show bd (bd (m__law_table_is (tab w (xr w r s)) (w : Int) (xr w r s)) _) _ = _
  rw [table_is_ok hx, bd_some, if_neg (by simp), bd_some, bd_some, bd_some, eq_ok, decide_eq_true rfl, if_neg (by simp), bd_some, eq_ok, sums_inj h h', if_neg (by simp), signed_ok h, bd_some, signed_ok h', bd_some, sums_inj h h']
  simp
/-! ### words -/
def okW2 (l s : Nat) : Bool := (List.range (2 ^ l)).all fun x => decide (m_added (wl l x) (wl l s) = some (wl l (x ^^^ s)))
theorem ckw2 : ((List.range 5).all fun l => (List.range (2 ^ l)).all fun s => decide (l = 0) || (okW2 l s && decide (m_is_some_word (wl l s) = some true))) = true := by decide +kernel
theorem word2 {l s : Nat} (h1 : 1 ≤ l) (hl : l ≤ 4) (hs : s < 2 ^ l) : (∀ x, x < 2 ^ l → m_added (wl l x) (wl l s) = some (wl l (x ^^^ s))) ∧ m_is_some_word (wl l s) = some true := by
  have h := List.all_eq_true.1 (List.all_eq_true.1 ckw2 l (List.mem_range.2 (by omega))) s (List.mem_range.2 hs)
  simp only [Bool.or_eq_true, Bool.and_eq_true, decide_eq_true_eq] at h
  rcases h with h | h
  · omega
  · refine ⟨fun x hx => ?_, h.2⟩
    have := h.1
    unfold okW2 at this
    exact of_decide_eq_true (List.all_eq_true.1 this x (List.mem_range.2 hx))
theorem ckall : ((List.range 5).all fun l => decide (l = 0) || decide (m_all_words (l : Int) = some ((List.range (2 ^ l)).map (wl l)))) = true := by decide +kernel
theorem all_words_ok {l : Nat} (h1 : 1 ≤ l) (hl : l ≤ 4) : m_all_words (l : Int) = some ((List.range (2 ^ l)).map (wl l)) := by
  have h := List.all_eq_true.1 ckall l (List.mem_range.2 (by omega))
  simp only [Bool.or_eq_true, decide_eq_true_eq] at h
  rcases h with h | h
  · omega
  · exact h
/-- the table of a word's parities -/
def pt (w z : Nat) : List Int := (List.range (2 ^ w)).map fun x => ((par (z &&& x) : Nat) : Int)
theorem pt_row (h1 : 1 ≤ w) (h4 : w ≤ 4) (z : Nat) : Row w (pt w z) := ⟨h1, h4, by simp [pt], fun x hx => by
  unfold pt at hx
  obtain ⟨k, _, rfl⟩ := List.mem_map.mp hx
  exact par_bit _⟩
theorem pt_vv {z x : Nat} (hx : x < 2 ^ w) : vv (pt w z) x = ch z x := by
  have e : (pt w z).getD x 0 = ((par (z &&& x) : Nat) : Int) := getD_rmap _ hx
  show 1 - 2 * (pt w z).getD x 0 = _
  rw [e, ch_par]
theorem sum_table_ok (h1 : 1 ≤ w) (h4 : w ≤ 4) {z : Nat} (hz : z < 2 ^ w) : m_sum_table (wl w z) = some (tab w (pt w z)) := by
  have h16 := p16 h4
  unfold m_sum_table
  rw [(word2 h1 h4 hz).2, bd_some, if_neg (by simp [wl_len]; omega), bd_some, wl_len, shl_ok (by decide) (by omega), bd_some, Int.one_mul, ← pw w 0, rng1M_nat (by omega), bd_some,
    compM_map (fun x : Int => ((par (z &&& x.toNat) : Nat) : Int)) (by simp; omega) (fun x hx => by
      rw [mem_rg] at hx
      obtain ⟨k, rfl⟩ : ∃ k : Nat, x = (k : Int) := ⟨x.toNat, by omega⟩
      rw [(word_ok h4 (show k < 2 ^ w by omega)).2.1, bd_some, parity_ok h4 hz (by omega), bd_some, Int.toNat_natCast]), bd_some, rg_map]
  show bd (m_Table___init__ (w : Int) (pt w z)) _ = _
  rw [table_ok (pt_row h1 h4 z), bd_some]
/-- moved by a word -/
def sh (w : Nat) (r : List Int) (z : Nat) : List Int := (List.range (2 ^ w)).map fun x => r.getD (x ^^^ z) 0
theorem sh_row (h : Row w r) {z : Nat} (hz : z < 2 ^ w) : Row w (sh w r z) := ⟨h.lo, h.hi, by simp [sh], fun x hx => by
  unfold sh at hx
  obtain ⟨k, hk, rfl⟩ := List.mem_map.mp hx
  exact (h.at_ (xor_lt (List.mem_range.1 hk) hz)).2⟩
theorem sh_vv {z x : Nat} (hx : x < 2 ^ w) : vv (sh w r z) x = vv r (x ^^^ z) := by
  have e : (sh w r z).getD x 0 = r.getD (x ^^^ z) 0 := getD_rmap _ hx
  show 1 - 2 * (sh w r z).getD x 0 = _
  rw [e]; rfl
theorem tbit_ok (h : Row w r) {y : Nat} (hy : y < 2 ^ w) : m_Table_bit (tab w r) (wl w y) = some (r.getD y 0) := by
  unfold m_Table_bit
  show bd (m_is_word (wl w y) (w : Int)) _ = _
  rw [(word_ok h.hi hy).2.2.2.2 h.lo, bd_some, if_neg (by simp), (word_ok h.hi hy).2.2.1, bd_some]
  show bd (getM r (y : Int)) _ = _
  rw [(h.at_ hy).1, bd_some]
theorem shifted_ok (h : Row w r) {z : Nat} (hz : z < 2 ^ w) : m__law_shifted (tab w r) (wl w z) = some (tab w (sh w r z)) := by
  have h1 := h.lo
  have h4 := h.hi
  have h16 := h.p16
  unfold m__law_shifted
  rw [wl_len, all_words_ok h1 h4, bd_some]
  rw [show compM (fun _ => some true) (fun x0 => bd (m_added x0 (wl w z)) fun t1 => bd (m_Table_bit (tab w r) t1) fun t2 => some t2) ((List.range (2 ^ w)).map (wl w)) = some (sh w r z) from by
    unfold compM
    rw [if_pos (by simp [lim]; omega)]
    unfold sh
    have : ∀ xs : List Nat, (∀ x ∈ xs, x < 2 ^ w) → compG (fun _ => some true) (fun x0 => bd (m_added x0 (wl w z)) fun t1 => bd (m_Table_bit (tab w r) t1) fun t2 => some t2) (xs.map (wl w)) = some (xs.map fun x => r.getD (x ^^^ z) 0) := by
      intro xs
      induction xs with
      | nil => intro _; rfl
      | cons x q ih =>
        intro hx
        have hx0 := hx x List.mem_cons_self
        have hxz : x ^^^ z < 2 ^ w := xor_lt hx0 hz
        rw [List.map_cons, compG]
        simp only
        rw [(word2 h1 h4 hz).1 x hx0, bd_some]
        rw [tbit_ok h hxz, bd_some]
        simp only
        rw [ih fun y hy => hx y (List.mem_cons_of_mem _ hy)]; rfl
    exact this _ fun x hx => List.mem_range.1 hx]
  rw [bd_some, table_ok (sh_row h hz), bd_some]
end
end M40


set_option maxHeartbeats 200000
set_option Elab.async false
set_option maxRecDepth 100000
/-! k40: far_fits. -/
namespace M40
open PySem PySem.Spec Ev
theorem far_chk {N D H : Int} (e : N - 2 * D = H) : 2 * N * D = N * N - H * N := by
  have : 2 * D = N - H := by omega
  rw [Int.mul_comm 2 N, Int.mul_assoc, this, Int.mul_sub, Int.mul_comm N H]
section
variable {w : Nat} {r s : List Int}
theorem tot_ok (h : Row w r) (h' : Row w s) {z : Nat} (hz : z < 2 ^ w) : compM (fun _ => some true) (fun x1 => bd (getM (sums w r) x1) fun t10 => bd (getM (sums w s) x1) fun t11 => bd (mulM t10 t11) fun t12 => bd (getM (odds w) (PySem.Builtin.bitAnd x1 (z : Int))) fun t13 => bd (mulM 2 t13) fun t14 => bd (mulM t12 (1 - t14)) fun t15 => some t15) (rg (2 ^ w)) =
    some ((rg (2 ^ w)).map fun a : Int => Hs w (vv r) a.toNat * Hs w (vv s) a.toNat * ch a.toNat z) := by
  have h16 := h.p16
  rw [compM_map (fun a : Int => Hs w (vv r) a.toNat * Hs w (vv s) a.toNat * ch a.toNat z) (by simp; omega) (fun x hx => by
    rw [mem_rg] at hx
    obtain ⟨j, rfl⟩ : ∃ j : Nat, x = (j : Int) := ⟨x.toNat, by omega⟩
    have hj : j < 2 ^ w := by omega
    have b1 := Hs_abs h j
    have b2 := Hs_abs h' j
    have b3 : (Hs w (vv r) j * Hs w (vv s) j).natAbs ≤ 16 * 16 := by
      rw [Int.natAbs_mul]; exact Nat.mul_le_mul (by omega) (by omega)
    rw [sums_get hj, bd_some, sums_get hj, bd_some, mulM_ok (abs16 b1 (by omega)) (abs16 b2 (by omega)), bd_some, and_nat (by omega) (by omega), odds_get (Nat.lt_of_le_of_lt Nat.and_le_left hj), bd_some,
      mulM_ok (by decide) (abs16 (bit_abs (par_bit _)) (by omega)), bd_some, ← ch_par, mulM_ok (abs16 b3 (by omega)) (abs16 (ch_abs _ _) (by omega)), bd_some, Int.toNat_natCast])]
theorem tot_sum {z : Nat} (h4 : w ≤ 4) (hz : z < 2 ^ w) : ((rg (2 ^ w)).map fun a : Int => Hs w (vv r) a.toNat * Hs w (vv s) a.toNat * ch a.toNat z).sum = sm' (2 ^ w) (fun x => vv r x * vv s (x ^^^ z)) * ((2 ^ w : Nat) : Int) := by
  rw [sum_rg, ← H_corr h4 hz]
  rfl
theorem share_eq (a b : C_Share) (h : a = b) : m_Share___eq__ a b = true := by
  subst h
  unfold m_Share___eq__
  simp
theorem far_ok (h : Row w r) (h' : Row w s) {z : Nat} (hz : z < 2 ^ w) : m__law_far_fits (tab w r) (tab w s) (sums w r) (sums w s) (z : Int) (odds w) = some true := by
  have h16 := h.p16
  have h1 := h.lo
  have h4 := h.hi
  have hp : 0 < ((2 ^ w : Nat) : Int) := by have : 0 < 2 ^ w := Nat.pow_pos (by decide); omega
  have hN : (((2 ^ w : Nat) : Int)).natAbs < 2 ^ 200 := abs16 (n := 16) (by omega) (by omega)
  have h2N : (2 * ((2 ^ w : Nat) : Int)).natAbs < 2 ^ 200 := abs16 (n := 32) (by omega) (by omega)
  have hpt := pt_row (w := w) h1 h4 z
  have hq := xr_row hpt h'
  obtain ⟨D0, d1, d2, d3⟩ := distance_ok h hq
  obtain ⟨D1, f1, f2, f3⟩ := distance_ok (sh_row h' hz) h
  obtain ⟨D2, g1, g2, g3⟩ := distance_ok h (sh_row h hz)
  obtain ⟨i, o1, o2⟩ := ones_ok h hz
  have e0 : sm' (2 ^ w) (fun x => vv r x * vv (xr w (pt w z) s) x) = Hs w (vv (xr w r s)) z := by
    unfold Hs
    refine sm_congr fun x hx => ?_
    rw [xr_vv hpt h' hx, xr_vv h h' hx, pt_vv hx]
    simp only [Int.mul_assoc, Int.mul_comm, Int.mul_left_comm]
  have e1 : sm' (2 ^ w) (fun x => vv (sh w s z) x * vv r x) = sm' (2 ^ w) (fun x => vv r x * vv s (x ^^^ z)) := sm_congr fun x hx => by rw [sh_vv hx, Int.mul_comm]
  have e2 : sm' (2 ^ w) (fun x => vv r x * vv (sh w r z) x) = sm' (2 ^ w) (fun x => vv r x * vv r (x ^^^ z)) := sm_congr fun x hx => by rw [sh_vv hx]
  rw [e0] at d2
  rw [e1] at f2
  rw [e2] at g2
  have ei : i = D2 := by
    have : Au w (vv r) z = sm' (2 ^ w) (fun x => vv r x * vv r (x ^^^ z)) := rfl
    rw [this] at o2
    omega
  subst ei
  unfold m__law_far_fits
  rw [bd_some, bd_some]
  show bd (m__law_word (z : Int) (w : Int)) _ = _
  rw [(word_ok h4 hz).1, bd_some, sums_len, rng1M_nat (by omega), bd_some,
    compM_map (fun b : Int => Hs w (vv r) b.toNat * Hs w (vv s) (z ^^^ b.toNat)) (by simp; omega) (fun x hx => by
      rw [mem_rg] at hx
      obtain ⟨j, rfl⟩ : ∃ j : Nat, x = (j : Int) := ⟨x.toNat, by omega⟩
      have hj : j < 2 ^ w := by omega
      rw [sums_get hj, bd_some, xor_nat (by omega) (by omega), Nat.xor_comm, sums_get (xor_lt hz hj), bd_some, mulM_ok (abs16 (Hs_abs h j) (by omega)) (abs16 (Hs_abs h' _) (by omega)), bd_some, Int.toNat_natCast]), bd_some, sum_rg]
  rw [show (sm' (2 ^ w) fun j => Hs w (vv r) (j : Int).toNat * Hs w (vv s) (z ^^^ (j : Int).toNat)) = _ from prod_H h h' hz, bd_some, sum_table_ok h1 h4 hz, bd_some, add_ok hpt h', bd_some, d1, bd_some, if_neg (by simp),
    mulM_ok (by decide) hN, bd_some, mulM_ok h2N (abs16 d3 (by omega)), bd_some, mulM_ok hN hN, bd_some, bd_some, far_chk d2, decide_eq_true rfl, if_neg (by simp)]
  rw [bd_some, tot_ok h h' hz, bd_some, bd_some, shifted_ok h' hz, bd_some, f1, bd_some, if_neg (by simp), bd_some, mulM_ok h2N (abs16 f3 (by omega)), bd_some, bd_some, bd_some, far_chk f2, tot_sum h4 hz, decide_eq_true rfl, if_neg (by simp)]
  rw [shifted_ok h hz, bd_some, g1, bd_some, bd_some, tot_ok h h hz, bd_some, bd_some, if_neg (by simp), bd_some, mulM_ok h2N (abs16 g3 (by omega)), bd_some, bd_some, bd_some, far_chk g2, tot_sum h4 hz, decide_eq_true rfl, if_neg (by simp)]
  have hone : m_one_share (tab w r) (wl w z) = some (red i ((2 ^ w : Nat) : Int)) := by
    unfold m_one_share
    rw [o1, bd_some]
    show bd (m_Share___init__ i (r.length : Int)) _ = _
    rw [h.len, init_ok hp (Nat.lt_of_le_of_lt (show _ ≤ 16 by omega) (by decide)), bd_some]
  rw [hone, bd_some, share_is_ok hp (by omega), bd_some, if_pos rfl, init_ok hp (Nat.lt_of_le_of_lt (show _ ≤ 16 by omega) (by decide)), bd_some, bd_some, share_eq _ _ rfl]
end
end M40


set_option maxHeartbeats 200000
set_option Elab.async false
set_option maxRecDepth 100000
/-! k40: rows of numbers that are drawn. -/
namespace M40
open PySem PySem.Spec Ev L2
section
variable {w : Nat} {d : List Int}
theorem Nums.set {ns ms : List Int} (h : Nums w ns) {i x : Int} (h0 : 0 ≤ i) (h1 : i < ((2 ^ w : Nat) : Int)) (hx : x.natAbs ≤ 1000) : ∃ ms, setM ns i x = some ms ∧ Nums w ms := by
  have hl := h.len
  obtain ⟨k, rfl⟩ : ∃ k : Nat, i = (k : Int) := ⟨i.toNat, by omega⟩
  refine ⟨_, setM_nat (by omega), h.lo, h.hi, by simp [hl], fun y hy => ?_⟩
  rcases List.mem_or_eq_of_mem_set hy with hy | rfl
  · exact h.ab y hy
  · exact hx
theorem Nums.get {ns : List Int} (h : Nums w ns) {i : Int} (h0 : 0 ≤ i) (h1 : i < ((2 ^ w : Nat) : Int)) : ∃ x, getM ns i = some x ∧ x.natAbs ≤ 1000 := by
  obtain ⟨k, rfl⟩ : ∃ k : Nat, i = (k : Int) := ⟨i.toNat, by omega⟩
  exact ⟨_, h.at_ (by omega)⟩
def Sg (ys : List Int) : Prop := ∀ y ∈ ys, y.natAbs ≤ 1
theorem get_of {xs : List Int} {P : Int → Prop} (hP : ∀ x ∈ xs, P x) {i : Int} (h0 : 0 ≤ i) (h1 : i < xs.length) : ∃ x, getM xs i = some x ∧ P x := by
  refine ⟨_, getM_ok h0 h1, hP _ (List.getElem_mem _)⟩
theorem popi_ok {xs : List Int} {P : Int → Prop} (hP : ∀ x ∈ xs, P x) {i : Int} (h0 : 0 ≤ i) (h1 : i < xs.length) (hl : xs.length ≤ 1000) : ∃ x ys, popiM xs i = some (x, ys) ∧ P x ∧ (∀ y ∈ ys, P y) ∧ ys.length + 1 = xs.length := by
  have hk : i.toNat < xs.length := by omega
  have e : ixN xs.length i = some i.toNat := by unfold ixN; rw [if_pos h0, if_pos h1]
  unfold popiM
  rw [e]
  refine ⟨xs[i.toNat], xs.eraseIdx i.toNat, ?_, hP _ (List.getElem_mem _), fun y hy => hP y (List.mem_of_mem_eraseIdx hy), ?_⟩
  · simp only [Option.bind, List.getElem?_eq_getElem hk]
    rw [if_pos ⟨by omega, by omega⟩]
  · rw [List.length_eraseIdx_of_lt hk]; omega
theorem rep_ok {n : Nat} (h : n ≤ 16) : repM [(0 : Int)] (n : Int) = some (List.replicate n 0) := by
  unfold repM
  rw [if_pos ⟨by omega, by omega, by simp⟩, Int.toNat_natCast]
  congr 1
  induction n with
  | zero => rfl
  | succ n ih => rw [List.replicate_succ, List.flatten_cons, ih (by omega), List.replicate_succ]; rfl
theorem row_drawn_ok (h1 : 1 ≤ w) (h4 : w ≤ 4) (hd : Dr d) (hl : 7 ≤ d.length) : ∃ ns, m__law_row_drawn d (w : Int) = some ns ∧ Nums w ns := by
  have h16 := p16 h4
  have hp : 0 < ((2 ^ w : Nat) : Int) := by have : 0 < 2 ^ w := Nat.pow_pos (by decide); omega
  obtain ⟨t1, g1, _, _⟩ := dr_get hd (i := 0) (by omega) (by omega)
  obtain ⟨t4, g4, _, _⟩ := dr_get hd (i := 1) (by omega) (by omega)
  obtain ⟨t8, g8, _, _⟩ := dr_get hd (i := 2) (by omega) (by omega)
  unfold m__law_row_drawn
  rw [shl_ok (by decide) (by omega), bd_some, Int.one_mul, ← pw w 0, rng1M_nat (by omega), bd_some]
  obtain ⟨ys, y1, y2, y3⟩ := compM_some' 0 (fun y => y = 1 ∨ y = -1) (fM := fun x0 => bd (getM d 0) fun t1 => bd (shrM t1 x0) fun t2 => bd (mulM 2 (t2 % 2)) fun t3 => some (1 - t3)) (xs := rg (2 ^ w)) (by simp; omega) fun x hx => by
    rw [mem_rg] at hx
    refine ⟨1 - 2 * (t1 / 2 ^ x.toNat % 2), ?_, by omega⟩
    rw [g1, bd_some]
    unfold shrM
    rw [if_pos hx.1, bd_some, mulM_ok (by decide) (abs16 (n := 1) (by omega) (by omega)), bd_some]
  rw [show (rg (2 ^ w)).length = 2 ^ w by simp] at y2
  rw [y1, bd_some, g4, bd_some, bd_some, rep_ok h16, bd_some]
  have n0 : Nums w (List.replicate (2 ^ w) (0 : Int)) := ⟨h1, h4, by simp, fun x hx => by rw [(List.mem_replicate.1 hx).2]; decide⟩
  have m8 : 0 ≤ t8 % ((2 ^ w : Nat) : Int) ∧ t8 % ((2 ^ w : Nat) : Int) < ((2 ^ w : Nat) : Int) := ⟨Int.emod_nonneg _ (by omega), Int.emod_lt_of_pos _ hp⟩
  split
  · obtain ⟨y, yg, yb⟩ := get_of y3 (i := 0) (by omega) (by omega)
    rw [yg, bd_some, mulM_ok (abs16 (n := 16) (by omega) (by omega)) (abs16 (n := 1) (by rcases yb with rfl | rfl <;> decide) (by omega)), bd_some, g8, bd_some, modM_ok hp, bd_some]
    obtain ⟨ms, q1, q2⟩ := n0.set (ms := []) (x := ((2 ^ w : Nat) : Int) * y) m8.1 m8.2 (by rcases yb with rfl | rfl <;> omega)
    exact ⟨ms, by rw [q1, bd_some], q2⟩
  · rename_i c1
    have hw2 : 2 ≤ w ∧ w ≤ 3 := by
      simp only [Bool.or_eq_true, decide_eq_true_eq, not_or] at c1
      omega
    have hp4 : 4 ≤ 2 ^ w := Nat.pow_le_pow_right (n := 2) (i := 2) (by decide) hw2.1
    split
    · rw [bd_some, show rng1M 4 = some (rg 4) from rng1M_nat (n := 4) (by decide), bd_some]
      obtain ⟨s, f1, f2⟩ := forS_rg (step := fun s x => m__law_row_drawn_l1 d ((2 ^ w : Nat) : Int) ys s.1 s.2 x) (fun k s => Nums w s.1 ∧ (∀ y ∈ s.2, 0 ≤ y ∧ y < ((2 ^ w : Nat) : Int)) ∧ s.2.length + k = 2 ^ w) 4 (List.replicate (2 ^ w) 0, rg (2 ^ w)) (fun k s hk hs => by
        obtain ⟨row, left⟩ := s
        obtain ⟨a1, a2, a3⟩ := hs
        dsimp only at *
        unfold m__law_row_drawn_l1
        obtain ⟨t10, g10, _, _⟩ := dr_get hd (i := 3 + (k : Int)) (by omega) (by omega)
        have hpl : 0 < (left.length : Int) := by omega
        have b0 := Int.emod_nonneg t10 (show (left.length : Int) ≠ 0 by omega)
        have b1 := Int.emod_lt_of_pos t10 hpl
        obtain ⟨a, left1, p1, p2, p3, p4⟩ := popi_ok a2 b0 b1 (by omega)
        obtain ⟨y, yg, yb⟩ := get_of y3 (i := a) p2.1 (by omega)
        have yN : (y * (((2 ^ w : Nat) : Int) / 2)).natAbs ≤ 1000 := by rcases yb with rfl | rfl <;> omega
        obtain ⟨ms, q1, q2⟩ := a1.set (ms := []) (i := a) (x := y * (((2 ^ w : Nat) : Int) / 2)) p2.1 p2.2 yN
        refine ⟨(ms, left1), ?_, q2, p3, by dsimp only; omega⟩
        rw [g10, bd_some, modM_ok hpl, bd_some, p1, bd_some]
        dsimp only
        rw [yg, bd_some, mulM_ok (abs16 (n := 1) (by rcases yb with rfl | rfl <;> decide) (by omega)) (abs16 (n := 16) (by omega) (by omega)), bd_some, q1, bd_some]) ⟨n0, fun y hy => by rw [mem_rg] at hy; exact hy, by simp⟩
      rw [f1, bd_some]
      exact ⟨_, rfl, f2.1⟩
    · rename_i c2
      have hw3 : w = 3 := by
        simp only [Bool.or_eq_true, decide_eq_true_eq, not_or] at c2
        omega
      subst hw3
      have yy : ∀ y ∈ ys, y.natAbs ≤ 1 := fun y hy => by rcases y3 y hy with rfl | rfl <;> decide
      rw [compM_map (fun x => 2 * x) (by omega) (fun x hx => by rw [mulM_ok (by decide) (abs16 (yy x hx) (by omega)), bd_some]), bd_some, g8, bd_some]
      have n1 : Nums 3 (ys.map fun x => 2 * x) := ⟨by decide, by decide, by rw [List.length_map]; exact y2, fun x hx => by
        obtain ⟨y, hy, rfl⟩ := List.mem_map.mp hx
        have := yy y hy
        omega⟩
      have hz : ∀ z ∈ (ys.map fun x => 2 * x), z.natAbs ≤ 2 := fun x hx => by
        obtain ⟨y, hy, rfl⟩ := List.mem_map.mp hx
        have := yy y hy
        omega
      obtain ⟨z, zg, zb⟩ := get_of hz (i := t8 % 8) (by omega) (by rw [List.length_map]; omega)
      rw [zg, bd_some, mulM_ok (abs16 zb (by omega)) (by decide), bd_some, bd_some]
      obtain ⟨ms, q1, q2⟩ := n1.set (ms := []) (i := t8 % 8) (x := z * 3) (by omega) (by omega) (by omega)
      exact ⟨ms, by rw [q1, bd_some], q2⟩
end
end M40


set_option maxHeartbeats 200000
set_option Elab.async false
set_option maxRecDepth 100000
/-! k40: the law. -/
namespace M40
open PySem PySem.Spec Ev
section
variable {w : Nat} {r s d : List Int}
theorem sums_list (h : Row w r) : compM (fun _ => some true) (fun x0 => bd (m__law_sum_at r x0 (odds w)) fun t8 => some t8) (rg (2 ^ w)) = some (sums w r) := by
  have h16 := h.p16
  rw [compM_map (fun x : Int => Hs w (vv r) x.toNat) (by simp; omega) (fun x hx => by
    rw [mem_rg] at hx
    obtain ⟨k, rfl⟩ : ∃ k : Nat, x = (k : Int) := ⟨x.toNat, by omega⟩
    rw [sum_at_ok (.inl h) h.hi (Nat.le_refl _) (by omega), bd_some, Int.toNat_natCast]), rg_map]
  rfl
theorem xr_list (h : Row w r) (h' : Row w s) : compM (fun _ => some true) (fun x0 => bd (getM r x0) fun t11 => bd (getM s x0) fun t12 => some (PySem.Builtin.bitXor t11 t12)) (rg (2 ^ w)) = some (xr w r s) := by
  have h16 := h.p16
  rw [compM_map (fun x : Int => PySem.Builtin.bitXor (r.getD x.toNat 0) (s.getD x.toNat 0)) (by simp; omega) (fun x hx => by
    rw [mem_rg] at hx
    obtain ⟨k, rfl⟩ : ∃ k : Nat, x = (k : Int) := ⟨x.toNat, by omega⟩
    rw [(h.at_ (by omega)).1, bd_some, (h'.at_ (by omega)).1, bd_some, Int.toNat_natCast]), rg_map]
  rfl
/-- one value turned -/
def tr (r : List Int) (z : Nat) : List Int := r.set z (1 - r.getD z 0)
theorem tr_row (h : Row w r) {z : Nat} (hz : z < 2 ^ w) : Row w (tr r z) := ⟨h.lo, h.hi, by rw [tr, List.length_set]; exact h.len, fun x hx => by
  unfold tr at hx
  rcases List.mem_or_eq_of_mem_set hx with hx | rfl
  · exact h.bit x hx
  · rcases (h.at_ hz).2 with e | e <;> rw [e] <;> simp [Bit]⟩
theorem tr_vv (h : Row w r) {z x : Nat} (hz : z < 2 ^ w) : vv (tr r z) x = vv r x + (if z = x then -2 * vv r z else 0) := by
  have hl := h.len
  unfold vv tr
  rw [List.getD_eq_getElem?_getD, List.getElem?_set]
  by_cases e : z = x
  · subst e
    rw [if_pos rfl, if_pos (by omega), if_pos rfl]
    simp only [Option.getD_some]
    omega
  · rw [if_neg e, if_neg e, ← List.getD_eq_getElem?_getD]; omega
theorem tr_H (h : Row w r) {z a : Nat} (hz : z < 2 ^ w) : Hs w (vv (tr r z)) a = Hs w (vv r) a - 2 * (vv r z * ch a z) := by
  have e : Hs w (vv (tr r z)) a = Hs w (vv r) a + sm' (2 ^ w) fun x => ch a x * (if z = x then -2 * vv r z else 0) := by
    unfold Hs
    rw [← sm_add]
    refine sm_congr fun x hx => ?_
    rw [tr_vv h hz, Int.add_mul, Int.mul_comm (ite _ _ _)]
  rw [e, sm_one _ _ _ _ hz]
  have : ch a z * (-2 * vv r z) = -(2 * (vv r z * ch a z)) := by
    rw [Int.mul_comm (vv r z), Int.neg_mul, Int.mul_neg, Int.mul_left_comm]
  rw [this]; omega
theorem tr_list (h : Row w r) {z : Nat} (hz : z < 2 ^ w) : compM (fun _ => some true) (fun x5 => bd (getM (sums w r) x5) fun t25 => bd (getM r (z : Int)) fun t26 => bd (getM (odds w) (PySem.Builtin.bitAnd x5 (z : Int))) fun t27 => bd (mulM 2 (PySem.Builtin.bitXor t26 t27)) fun t28 => bd (mulM 2 (1 - t28)) fun t29 => some (t25 - t29)) (rg (2 ^ w)) = some (sums w (tr r z)) := by
  have h16 := h.p16
  rw [compM_map (fun x : Int => Hs w (vv (tr r z)) x.toNat) (by simp; omega) (fun x hx => by
    rw [mem_rg] at hx
    obtain ⟨k, rfl⟩ : ∃ k : Nat, x = (k : Int) := ⟨x.toNat, by omega⟩
    have hk : k < 2 ^ w := by omega
    have hx := xor_bit (h.at_ hz).2 (par_bit (k &&& z))
    have hb := bit_abs hx.2
    rw [sums_get hk, bd_some, (h.at_ hz).1, bd_some, and_nat (by omega) (by omega), odds_get (Nat.lt_of_le_of_lt Nat.and_le_left hk), bd_some, mulM_ok (by decide) (abs16 hb (by omega)), bd_some,
      mulM_ok (by decide) (abs16 (n := 3) (by omega) (by omega)), bd_some, hx.1, ← ch_par, Int.toNat_natCast, tr_H h hz]
    rfl), rg_map]
  rfl
theorem l1_ok (h : Row w r) : m_law_l1 (w : Int) (tab w r, r) = some (.nx ()) := by
  unfold m_law_l1
  rw [table_is_ok h, bd_some, if_neg (by simp)]
theorem l2_ok (h : Row w r) (h' : Row w s) {z : Nat} (hz : z < 2 ^ w) : m_law_l2 (odds w) (tab w r) (tab w s) (sums w r) (sums w s) (z : Int) = some (.nx ()) := by
  unfold m_law_l2
  rw [far_ok h h' hz, bd_some, if_neg (by simp)]
theorem l3_ok {ns : List Int} (h : Nums w ns) : m_law_l3 (w : Int) (odds w) ns = some (.nx ()) := by
  unfold m_law_l3
  rw [row_fits_ok h, bd_some, if_neg (by simp)]
end
theorem law_ok {script : List Int} (hs : script.length ≤ 63) : m_law script = some true := by
  obtain ⟨d, d1, d2, d3⟩ := draws_ok hs
  obtain ⟨t1, g1, _, _⟩ := dr_get d2 (i := 0) (by omega) (by omega)
  obtain ⟨w, gw, w1, w4⟩ := wide_ok t1
  obtain ⟨r, r1, h⟩ := start_ok (i0 := 1) w1 w4 d2 (by omega) (by omega)
  obtain ⟨s0, r2, h0⟩ := start_ok (i0 := 10) w1 w4 d2 (by omega) (by omega)
  have h16 := h.p16
  have hp : 0 < ((2 ^ w : Nat) : Int) := by have : 0 < 2 ^ w := Nat.pow_pos (by decide); omega
  obtain ⟨t20, g20, _, _⟩ := dr_get d2 (i := 20) (by omega) (by omega)
  obtain ⟨t21, g21, _, _⟩ := dr_get d2 (i := 21) (by omega) (by omega)
  obtain ⟨t22, g22, _, _⟩ := dr_get d2 (i := 22) (by omega) (by omega)
  obtain ⟨t23, g23, _, _⟩ := dr_get d2 (i := 23) (by omega) (by omega)
  obtain ⟨t24, g24, _, _⟩ := dr_get d2 (i := 24) (by omega) (by omega)
  obtain ⟨t25, g25, _, _⟩ := dr_get d2 (i := 25) (by omega) (by omega)
  obtain ⟨s, sec, h'⟩ : ∃ s, (if (decide (t20 % 6 = 0)) = true then some r else some s0) = some s ∧ Row w s := by
    split
    · exact ⟨r, rfl, h⟩
    · exact ⟨s0, rfl, h0⟩
  have hmod : ∀ t : Int, ∃ m : Nat, t % ((2 ^ w : Nat) : Int) = (m : Int) ∧ m < 2 ^ w := fun t => by
    have a := Int.emod_nonneg t (show ((2 ^ w : Nat) : Int) ≠ 0 by omega)
    have b := Int.emod_lt_of_pos t hp
    exact ⟨(t % ((2 ^ w : Nat) : Int)).toNat, by omega, by omega⟩
  obtain ⟨m1, e1, f1⟩ := hmod t21
  obtain ⟨m2, e2, f2⟩ := hmod t22
  obtain ⟨z, e3, f3⟩ := hmod t23
  obtain ⟨a, e4, f4⟩ := hmod t24
  obtain ⟨b, e5, f5⟩ := hmod t25
  have hx := xr_row h h'
  have nS := Nums_sums h
  have Sa := nS.at_ f4
  have Sb := nS.at_ f5
  obtain ⟨sw0, q1, q2⟩ := nS.set (ms := []) (i := (a : Int)) (x := (sums w r).getD b 0) (by omega) (by omega) Sb.2
  obtain ⟨sw1, q3, q4⟩ := q2.set (ms := []) (i := (b : Int)) (x := (sums w r).getD a 0) (by omega) (by omega) Sa.2
  obtain ⟨dr, q5, q6⟩ := row_drawn_ok (d := d.drop 26) w1 w4 (fun x hx => d2 x (List.mem_of_mem_drop hx)) (by rw [List.length_drop]; omega)
  obtain ⟨sg, q7, q8, q9⟩ := compM_some' 0 (fun y => y.natAbs ≤ 1000) (fM := fun x6 => bd (getM (sums w r) x6) fun t39 => bd (mulM 2 (if (decide (x6 = (a : Int))) = true then 1 else 0)) fun t40 => bd (mulM t39 (1 - t40)) fun t41 => some t41) (xs := rg (2 ^ w)) (by simp; omega) fun x hx => by
    rw [mem_rg] at hx
    obtain ⟨k, rfl⟩ : ∃ k : Nat, x = (k : Int) := ⟨x.toNat, by omega⟩
    have hb := nS.at_ (x := k) (by omega)
    rw [hb.1, bd_some]
    split
    · rw [mulM_ok (by decide) (by decide), bd_some, mulM_ok (abs16 hb.2 (by omega)) (by decide), bd_some]
      exact ⟨_, rfl, by omega⟩
    · rw [mulM_ok (by decide) (by decide), bd_some, mulM_ok (abs16 hb.2 (by omega)) (by decide), bd_some]
      exact ⟨_, rfl, by omega⟩
  have nG : Nums w sg := ⟨w1, w4, by rw [q8]; simp, q9⟩
  obtain ⟨sm, q10, q11, q12⟩ := compM_some' 0 (fun y => y.natAbs ≤ 1000) (fM := fun x7 : Int => bd (getM (sums w r) (a : Int)) fun t43 => some t43) (xs := rg (2 ^ w)) (by simp; omega) fun x hx => ⟨_, by rw [Sa.1, bd_some], Sa.2⟩
  have nM : Nums w sm := ⟨w1, w4, by rw [q11]; simp, q12⟩
  have hcut : cutT d (some 26) none = d.drop 26 := cut_from (by omega) (by omega)
  unfold m_law
  rw [d1, bd_some, g1, bd_some, gw, bd_some, shl_ok (by decide) (by omega), bd_some, Int.one_mul, ← pw w 0, parities_ok w1 w4, bd_some, r1, bd_some, r2, bd_some, g20, bd_some, sec, bd_some, table_ok h, bd_some, table_ok h', bd_some, add_ok h h', bd_some,
    rng1M_nat (by omega), bd_some, xr_list h h', bd_some, forR_unit (fun x hm => by
      rcases List.mem_cons.mp hm with rfl | hm
      · exact l1_ok h
      · rcases List.mem_cons.mp hm with rfl | hm
        · exact l1_ok h'
        · rw [List.mem_singleton.mp hm]
          exact l1_ok hx), bd_some]
  dsimp only
  rw [bd_some, sums_list h, bd_some, bd_some, sums_list h', bd_some, sums_fit_ok h h', bd_some, if_neg (by simp), g21, bd_some, modM_ok hp, bd_some, g22, bd_some, modM_ok hp, bd_some, e1, e2, forR_unit (fun x hm => by
      rcases List.mem_cons.mp hm with rfl | hm
      · exact l2_ok h h' f1
      · rcases List.mem_cons.mp hm with rfl | hm
        · exact l2_ok h h' f2
        · rw [List.mem_singleton.mp hm]
          exact l2_ok (z := 0) h h' (Nat.pow_pos (by decide))), bd_some]
  dsimp only
  rw [g23, bd_some, modM_ok hp, bd_some, e3, (h.at_ f3).1, bd_some, setM_nat (by rw [h.len]; exact f3), bd_some]
  have T := tr_list h f3
  rw [(h.at_ f3).1] at T
  rw [Sa.1] at q10
  rw [bd_some, T, bd_some]
  show bd (m_Table___init__ (w : Int) (tr r z)) _ = _
  rw [table_ok (tr_row h f3), bd_some, signed_ok (tr_row h f3), bd_some, row_is_ok (by rw [sums_len]; omega), bd_some, decide_eq_true rfl, if_neg (by simp), g24, bd_some, modM_ok hp, bd_some, e4, g25, bd_some, modM_ok hp, bd_some, e5, Sb.1, bd_some, q1, bd_some, Sa.1, bd_some, q3, bd_some,
    bd_some, q7, bd_some, hcut, q5, bd_some, bd_some, q10, bd_some, forR_unit (fun x hm => by
      rcases List.mem_cons.mp hm with rfl | hm
      · exact l3_ok nS
      · rcases List.mem_cons.mp hm with rfl | hm
        · exact l3_ok q4
        · rcases List.mem_cons.mp hm with rfl | hm
          · exact l3_ok nG
          · rcases List.mem_cons.mp hm with rfl | hm
            · exact l3_ok q6
            · rw [List.mem_singleton.mp hm]
              exact l3_ok nM), bd_some]
end M40


set_option maxHeartbeats 200000
set_option Elab.async false
set_option maxRecDepth 100000
set_option maxHeartbeats 0
namespace Tk40
open PySem PySem.Spec PyProof.Rows L2 Ev
def loose : List PySem.Str := ("_wall" : PySem.Str) :: ("ReadError" : PySem.Str) :: ("InvalidNumber" : PySem.Str) :: ("InvalidWord" : PySem.Str) :: ("InvalidTable" : PySem.Str) :: ("Undefined" : PySem.Str) :: ("LONGEST" : PySem.Str) :: ("is_integer" : PySem.Str) :: ("is_between" : PySem.Str) :: ("is_bit" : PySem.Str) :: ("is_bits" : PySem.Str) :: ("is_some_word" : PySem.Str) :: ("is_word" : PySem.Str) :: ("word_at" : PySem.Str) :: ("bits_number" : PySem.Str) :: ("all_words" : PySem.Str) :: ("check_words" : PySem.Str) :: ("sum_of" : PySem.Str) :: ("parity_of" : PySem.Str) :: ("added" : PySem.Str) :: ("LARGEST" : PySem.Str) :: ("Table" : PySem.Str) :: ("sum_table" : PySem.Str) :: ("distance" : PySem.Str) :: ("sums_and_differences" : PySem.Str) :: ("signed_sums" : PySem.Str) :: ("table_from" : PySem.Str) :: ("Share" : PySem.Str) :: ("ones_of" : PySem.Str) :: ("one_share" : PySem.Str) :: ("greatest_of" : PySem.Str) :: ("least_distance" : PySem.Str) :: ("nearest_sums" : PySem.Str) :: ("_law_mixed" : PySem.Str) :: ("_law_draws" : PySem.Str) :: ("_law_whole" : PySem.Str) :: ("_law_row_is" : PySem.Str) :: ("_law_rows_are" : PySem.Str) :: ("_law_word" : PySem.Str) :: ("_law_share_is" : PySem.Str) :: ("_law_table_is" : PySem.Str) :: ("_law_parities" : PySem.Str) :: ("_law_sum_at" : PySem.Str) :: ("_law_start" : PySem.Str) :: ("_law_joined" : PySem.Str) :: ("_law_back" : PySem.Str) :: ("_law_told" : PySem.Str) :: ("_law_row_fits" : PySem.Str) :: ("_law_row_drawn" : PySem.Str) :: ("_law_sums_fit" : PySem.Str) :: ("_law_shifted" : PySem.Str) :: ("_law_far_fits" : PySem.Str) :: []
abbrev Rw : PySem.W.OpenRow := PySem.W.OpenLaw.row PySem.Challenge.rw_fourread_k40_whole_two_tables_by_product
abbrev hk : PySem.W.Hook := hookE 5 P
def ob (s : PySem.W.SharedT) : List He.FnW × Bool := obsE 5 P (HandSHeadRun.getT s)
theorem ob_eq (s : PySem.W.SharedT) : ob s = hk.obs s.abs := obsE_eq (HandSHeadRun.getT_eq s)
theorem run (w : World) : HandSHeadRun.RunEqI Rw (PySem.W.view Rw.prog [0, 61]) hk ob 8000 loose w := by
  unfold HandSHeadRun.RunEqI
  kernel_rfl
end Tk40
open PySem PySem.W PySem.Calls PyProof.Rows Ev
theorem Tk40.end_ (law : ∀ ns : List Int, ns.length ≤ 63 → (∀ z ∈ ns, Builtin.Int.intBits z ≤ 1048576) → (lv Tk40.P.T 20).1 0 [.scr ns] [] = .ok (.bl true) []) : PySem.Challenge.rw_fourread_k40_whole_two_tables_by_product.Holds := by
  w_on; o_law
  refine HandSHeadRun.head_imp (r := OpenLaw.row PySem.Challenge.rw_fourread_k40_whole_two_tables_by_product) (q := view (OpenLaw.row PySem.Challenge.rw_fourread_k40_whole_two_tables_by_product).prog [0, 61]) (H := Tk40.hk) (ob := Tk40.ob) (M := 8000) (loose := Tk40.loose) (d := HandSHeadRun.topDef (OpenLaw.row PySem.Challenge.rw_fourread_k40_whole_two_tables_by_product).prog 61) (kwd := []) Tk40.ob_eq
    Tk40.run (by kernel_rfl) (by kernel_rfl) (by kernel_rfl) (by rfl) (by first | assumption | decide +kernel) (by decide +kernel) ⟨rfl, rfl, rfl, rfl, rfl, by decide +kernel⟩ ?hw ?hc
  case hw => w_witness2
  case hc =>
    refine LamX.walk_ofTsE (l := PySem.Challenge.rw_fourread_k40_whole_two_tables_by_product) (n := 63) (k := 9 * 19 + 8 + 1) (x := "script") (CX := fun w => L2.CX (PySem.Challenge.rw_fourread_k40_whole_two_tables_by_product).prog w) rfl (by decide) (by kernel_rfl) ⟨rfl, by decide, by decide⟩ ?F (fun w H s e s' z => cx_no H s e s' z)
    intro w mg fa h Y G hmg0
    obtain ⟨K, KX, c⟩ := Y
    have hmg : mg ("law" : PySem.Str) = some (.ref fa) := by
      have e : (HandSHeadRun.topDef (OpenLaw.row PySem.Challenge.rw_fourread_k40_whole_two_tables_by_product).prog 61).name = ("law" : PySem.Str) := by kernel_rfl
      rw [← e]
      exact hmg0
    exact ⟨K, KX, law_at (κ := 19) (li := 0) (D := Tk40.d0) KX G c Tk40.hn Tk40.hb Tk40.ck Tk40.ckx rfl rfl rfl hmg law⟩


set_option maxHeartbeats 200000
set_option Elab.async false
theorem PySem.Challenge.cw_fourread_k40_whole_two_tables_by_product_holds : PySem.Challenge.rw_fourread_k40_whole_two_tables_by_product.Holds := by
  exact Tk40.end_ fun ns hl _ => M40.r_law 10 ns [] true (M40.law_ok hl)


set_option maxHeartbeats 200000