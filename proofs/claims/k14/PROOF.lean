import PyProof.Rows.All
import Wide.All
import OpenK.AllK
import Wide.FinOn
import PySem.Syntax
import HandS.ForMost
import HandS.Exc
import HandS.ExcOwn
import HandS.TryOnly
import HandS.WordsExc
import HandS.IsInst
import HandS.ExcIs
import HandS.Zip
import HandS.TupAny
import HandS.Wide
import HandS.Style
import PyProof.ReprRoads
import HandS.TupMul
import PyProof.StrLawsRepr
import PyProof.FitsInt
import HandS.Lambda
import HandS.Defaults
import HandS.TryMany
import KE.KStateDown
import HandS.Ends
import HandS.More
import HandS.Head0
import HandS.Head1
import HandS.Head2
import HandS.HeadEnd
import HandS.HeadHook1
import HandS.HeadHook2
import PySem.Challenge.RW_gasahead_k14_sums_of_rows
set_option Elab.async false
set_option linter.all false
set_option autoImplicit false
set_option maxRecDepth 100000
set_option maxHeartbeats 0
/-! A small machine: values as trees, a store of cells, code with slots. -/
namespace Mn

inductive D where
  | non | bl (b : Bool) | int (i : Int) | str (s : List Nat) | rep (d : D) | tup (xs : List D) | lst (xs : List D) | ref (n : Nat) | scr (ns : List Int)

mutual
def D.beq : D → D → Bool
  | .non, .non => true
  | .bl a, .bl b => a == b
  | .int a, .int b => decide (a = b)
  | .str a, .str b => decide (a = b)
  | .rep a, .rep b => D.beq a b
  | .tup a, .tup b => D.beqs a b
  | .lst a, .lst b => D.beqs a b
  | .ref a, .ref b => decide (a = b)
  | .scr a, .scr b => decide (a = b)
  | _, _ => false
def D.beqs : List D → List D → Bool
  | [], [] => true
  | a :: as, b :: bs => D.beq a b && D.beqs as bs
  | _, _ => false
end
mutual
theorem D.beq_ok (a b : D) (h : D.beq a b = true) : a = b := by
  match a, b with
  | .non, b => cases b <;> first | rfl | cases h
  | .bl a, b =>
    cases b <;> first | cases h | skip
    rw [eq_of_beq (show (a == _) = true from h)]
  | .int a, b =>
    cases b <;> first | cases h | skip
    rw [of_decide_eq_true (show decide (a = _) = true from h)]
  | .str a, b =>
    cases b <;> first | cases h | skip
    rw [of_decide_eq_true (show decide (a = _) = true from h)]
  | .rep a, .rep b => rw [D.beq_ok a b h]
  | .tup a, .tup b => rw [D.beqs_ok a b h]
  | .lst a, .lst b => rw [D.beqs_ok a b h]
  | .ref a, b =>
    cases b <;> first | cases h | skip
    rw [of_decide_eq_true (show decide (a = _) = true from h)]
  | .scr a, b =>
    cases b <;> first | cases h | skip
    rw [of_decide_eq_true (show decide (a = _) = true from h)]
  | .rep _, .non | .rep _, .bl _ | .rep _, .int _ | .rep _, .str _ | .rep _, .tup _ | .rep _, .lst _ | .rep _, .ref _ | .rep _, .scr _ => cases h
  | .tup _, .non | .tup _, .bl _ | .tup _, .int _ | .tup _, .str _ | .tup _, .rep _ | .tup _, .lst _ | .tup _, .ref _ | .tup _, .scr _ => cases h
  | .lst _, .non | .lst _, .bl _ | .lst _, .int _ | .lst _, .str _ | .lst _, .rep _ | .lst _, .tup _ | .lst _, .ref _ | .lst _, .scr _ => cases h
theorem D.beqs_ok (a b : List D) (h : D.beqs a b = true) : a = b := by
  match a, b with
  | [], [] => rfl
  | a :: as, b :: bs =>
    have h' := Bool.and_eq_true_iff.mp (show (D.beq a b && D.beqs as bs) = true from h)
    rw [D.beq_ok a b h'.1, D.beqs_ok as bs h'.2]
  | [], _ :: _ | _ :: _, [] => cases h
end
mutual
theorem D.beq_rfl : ∀ a : D, D.beq a a = true
  | .non => rfl
  | .bl a => by simp [D.beq]
  | .int a => by simp [D.beq]
  | .str a => by simp [D.beq]
  | .rep a => by simp [D.beq, D.beq_rfl a]
  | .tup a => by simp [D.beq, D.beqs_rfl a]
  | .lst a => by simp [D.beq, D.beqs_rfl a]
  | .ref a => by simp [D.beq]
  | .scr a => by simp [D.beq]
theorem D.beqs_rfl : ∀ a : List D, D.beqs a a = true
  | [] => rfl
  | a :: as => by simp [D.beqs, D.beq_rfl a, D.beqs_rfl as]
end

/-- Python's == on data -/
def eqI (i : Int) (b : Bool) : Bool := decide (i = if b then 1 else 0)
mutual
def peq : D → D → Bool
  | .non, .non => true
  | .bl a, .bl b => a == b
  | .bl a, .int j => eqI j a
  | .int i, .bl b => eqI i b
  | .int i, .int j => decide (i = j)
  | .str a, .str b => decide (a = b)
  | .tup a, .tup b => peqs a b
  | .lst a, .lst b => peqs a b
  | _, _ => false
def peqs : List D → List D → Bool
  | [], [] => true
  | a :: as, b :: bs => peq a b && peqs as bs
  | _, _ => false
end
mutual
/-- data alone, texts within Unicode -/
def okD : D → Bool
  | .non | .bl _ | .int _ => true
  | .str s => s.all (· < 0x110000)
  | .tup xs | .lst xs => okDs xs
  | .rep _ | .ref _ | .scr _ => false
def okDs : List D → Bool
  | [] => true
  | x :: xs => okD x && okDs xs
end
mutual
def dpt : D → Nat
  | .tup xs | .lst xs => dpts xs + 1
  | _ => 0
def dpts : List D → Nat
  | [] => 0
  | x :: xs => max (dpt x) (dpts xs)
end
mutual
/-- whole numbers in it have fewer than 1920 bits -/
def smD : D → Bool
  | .int i => decide (i.natAbs.log2 < 1920)
  | .tup xs | .lst xs => smDs xs
  | _ => true
def smDs : List D → Bool
  | [] => true
  | x :: xs => smD x && smDs xs
end
mutual
/-- no fewer signs than its text has -/
def shL : D → Nat
  | .int i => i.natAbs.log2 + 3
  | .str s => 10 * s.length + 2
  | .tup xs | .lst xs => shLs xs + 4
  | _ => 5
def shLs : List D → Nat
  | [] => 0
  | x :: xs => shL x + 2 + shLs xs
end
def shwD (x : D) : Bool := okD x && smD x && decide (dpt x ≤ 64) && decide (shL x ≤ 16777216)
def eqOf (x y : D) : Option Bool := if okD x && okD y && decide (dpt x ≤ 64) && decide (dpt y ≤ 64) then some (peq x y) else none
def eqD : D → D → Option Bool
  | .rep a, .rep b => if D.beq a b then some true else none
  | x, y => eqOf x y

/-! ### the store -/
/-- an exception: its class, its own fields -/
structure Ex where
  cls : Nat
  fs : List (List Nat × D)
inductive C where
  | lst (xs : List D)
structure Sto where
  next : Nat
  cs : List (Nat × C)
def look (n : Nat) : List (Nat × C) → Option C
  | [] => none
  | (k, c) :: r => if k = n then some c else look n r
def putC (n : Nat) (c : C) : List (Nat × C) → List (Nat × C)
  | [] => []
  | (k, d) :: r => if k = n then (k, c) :: r else (k, d) :: putC n c r
def Sto.get (S : Sto) (n : Nat) : Option C := look n S.cs
def Sto.put (S : Sto) (n : Nat) (c : C) : Sto := ⟨S.next, putC n c S.cs⟩
def Sto.new (S : Sto) (c : C) : Sto := ⟨S.next + 1, (S.next, c) :: S.cs⟩
/-- what was made from n on is forgotten -/
def trim (n : Nat) : List (Nat × C) → List (Nat × C)
  | [] => []
  | (k, c) :: r => if n ≤ k then trim n r else (k, c) :: trim n r
def Sto.trim (S : Sto) (n : Nat) : Sto := ⟨S.next, Mn.trim n S.cs⟩

inductive R (α : Type) where
  | ok (a : α) (S : Sto)
  | exc (x : Ex) (S : Sto)
  | bad
def R.bind {α β : Type} : R α → (α → Sto → R β) → R β
  | .ok a S, f => f a S
  | .exc x S, _ => .exc x S
  | .bad, _ => .bad
def R.of {α : Type} (S : Sto) : Option α → R α
  | some a => .ok a S
  | none => .bad
/-- nothing is raised here -/
def R.nox {α : Type} : R α → R α
  | .exc _ _ => .bad
  | r => r

/-! ### code -/
inductive Ty where
  | int | bool | str | tuple | list
inductive BO where
  | add | sub | mul | fdiv | mod | pow
inductive CO where
  | eq | ne | lt | le | gt | ge | is | isn | inn | nin
inductive Bi where
  | len | abs | int | list | tuple | repr | sum | all | any
inductive Me where
  | append
/-- what is walked: a list or tuple, range(a), range(a, b), zip(a, b) -/
inductive Wt where
  | of | rng1 | rng2 | zip
inductive Tg where
  | nm (i : Nat) | tp (ts : List Tg)
inductive E where
  | var (i : Nat) | lit (d : D) | neg (a : E)
  | bin (o : BO) (a b : E) | cmp (o : CO) (a b : E) | chn (o p : CO) (a b c : E)
  | band (a b : E) | bor (a b : E) | bnot (a : E) | ife (c a b : E)
  | tup (es : List E) | lst (cl : Bool) (es : List E)
  | fn (i : Nat) (es : List E) | bi (b : Bi) (cl : Bool) (a : E) | me (m : Me) (o : E) (es : List E)
  | isi (a : E) (t : Ty)
  | ix (a b : E) | slc (a : E) (lo hi : Option E)
  | comp (cl : Bool) (tg : Tg) (w : Wt) (it : List E) (cond : Option E) (elt : E) (own : List Nat)
/-- what an except suite hands back -/
inductive HX where
  | lit (d : D) | vr (i : Nat) | isx (i c : Nat)
inductive S where
  | ex (e : E) | asg (t : Tg) (e : E) | aug (i : Nat) (o : BO) (e : E) | six (o i e : E)
  | ifs (c : E) (a b : List S) | forr (t : Tg) (w : Wt) (it : List E) (b : List S) | whl (n : Nat) (c : E) (b : List S)
  | ret (e : E) | retn | brk | cnt | pas | rais (c : Nat)
  | tryo (b : List S) (h : List (Nat × HX))

/-! ### what is reckoned at once (for the kernel): each of these is «k of it» -/
def frN {β : Type} (n : Nat) (k : Nat → β) : β := match n with
  | 0 => k 0
  | m + 1 => k (m + 1)
def frI {β : Type} (i : Int) (k : Int → β) : β := match i with
  | .ofNat n => frN n fun m => k (.ofNat m)
  | .negSucc n => frN n fun m => k (.negSucc m)
def frL {α β : Type} (l : List α) (k : List α → β) : β := match l with
  | [] => k []
  | x :: xs => frL xs fun ys => k (x :: ys)
theorem frN_eq {β : Type} (n : Nat) (k : Nat → β) : frN n k = k n := by cases n <;> rfl
theorem frI_eq {β : Type} : ∀ (i : Int) (k : Int → β), frI i k = k i
  | .ofNat n, k => frN_eq n fun m => k (.ofNat m)
  | .negSucc n, k => frN_eq n fun m => k (.negSucc m)
theorem frL_eq {α β : Type} (l : List α) (k : List α → β) : frL l k = k l := by
  induction l generalizing k with
  | nil => rfl
  | cons x xs ih => unfold frL; rw [ih]
/-! ### operations -/
def line : Nat := 16777216
/-- a list: a value, or a cell's -/
def lz (S : Sto) : D → D
  | .ref n => match S.get n with
    | some (.lst xs) => .lst xs
    | none => .ref n
  | d => d
def sml (i : Int) : Bool := decide (i.natAbs < 18446744073709551616)
def fitB (i j : Int) : Bool := decide (i.natAbs.log2 + j.natAbs.log2 < 900000)
def repD {α : Type} (n : Nat) (xs : List α) : List α := (List.replicate n xs).flatten
def bop (o : BO) (x y : D) (S : Sto) : R D := match o, lz S x, lz S y with
  | .add, .int i, .int j => frI (i + j) fun r => .ok (.int r) S
  | .add, .lst a, .lst b => if a.length + b.length ≤ line then frL (a ++ b) fun r => .ok (.lst r) S else .bad
  | .add, .tup a, .tup b => if a.length + b.length ≤ line then frL (a ++ b) fun r => .ok (.tup r) S else .bad
  | .add, .str a, .str b => if a.length + b.length ≤ line then frL (a ++ b) fun r => .ok (.str r) S else .bad
  | .sub, .int i, .int j => frI (i - j) fun r => .ok (.int r) S
  | .mul, .int i, .int j => if sml i || sml j || fitB i j then frI (i * j) fun r => .ok (.int r) S else .bad
  | .mul, .lst a, .int j => if decide (-9223372036854775808 ≤ j) && decide (j < 9223372036854775808) && decide (a.length * j.toNat ≤ line) then frL (repD j.toNat a) fun r => .ok (.lst r) S else .bad
  | .fdiv, .int i, .int j => if decide (0 < j) && decide (j < 1073741824) then frI (i / j) fun r => .ok (.int r) S else .bad
  | .mod, .int i, .int j => if decide (0 < j) then frI (i % j) fun r => .ok (.int r) S else .bad
  | .pow, .int i, .int j => if decide (0 ≤ j) && decide (j ≤ 1000000) && sml i then frI (i ^ j.toNat) fun r => .ok (.int r) S else .bad
  | _, _, _ => .bad
def isD : D → D → Option Bool
  | x, .non => some (match x with
    | .non => true
    | _ => false)
  | .bl a, .bl b => some (a == b)
  | _, _ => none
def cop (o : CO) (x y : D) (S : Sto) : Option Bool := match o with
  | .eq => eqD (lz S x) (lz S y)
  | .ne => (eqD (lz S x) (lz S y)).map not
  | .is => isD x y
  | .isn => (isD x y).map not
  | .lt => match x, y with
    | .int i, .int j => some (decide (i < j))
    | _, _ => none
  | .le => match x, y with
    | .int i, .int j => some (decide (i ≤ j))
    | _, _ => none
  | .gt => match x, y with
    | .int i, .int j => some (decide (j < i))
    | _, _ => none
  | .ge => match x, y with
    | .int i, .int j => some (decide (j ≤ i))
    | _, _ => none
  | _ => none
def newL (cl : Bool) (xs : List D) (S : Sto) : R D := if xs.length ≤ line then (if cl then .ok (.ref S.next) (S.new (.lst xs)) else .ok (.lst xs) S) else .bad
def intsO : List D → Option (List Int)
  | [] => some []
  | .int i :: r => (intsO r).map (i :: ·)
  | _ :: _ => none
def boolsO : List D → Option (List Bool)
  | [] => some []
  | .bl i :: r => (boolsO r).map (i :: ·)
  | _ :: _ => none
def biF (b : Bi) (cl : Bool) (x : D) (S : Sto) : R D := match b, lz S x with
  | .len, .lst a => frN a.length fun n => .ok (.int n) S
  | .len, .tup a => frN a.length fun n => .ok (.int n) S
  | .len, .str a => if a.length ≤ line then frN a.length fun n => .ok (.int n) S else .bad
  | .abs, .int i => frI (if i < 0 then -i else i) fun r => .ok (.int r) S
  | .int, .int i => .ok (.int i) S
  | .int, .bl k => .ok (.int (if k then 1 else 0)) S
  | .list, .lst a => newL cl a S
  | .list, .tup a => newL cl a S
  | .list, .scr ns => newL cl (ns.map .int) S
  | .tuple, .lst a => .ok (.tup a) S
  | .tuple, .tup a => .ok (.tup a) S
  | .repr, .tup a => if shwD (.tup a) then .ok (.rep (.tup a)) S else .bad
  | .repr, .lst a => if shwD (.lst a) then .ok (.rep (.lst a)) S else .bad
  | .sum, .lst a => match intsO a with
    | some ns => frI ns.sum fun r => .ok (.int r) S
    | none => .bad
  | .all, .lst a => match boolsO a with
    | some bs => .ok (.bl (bs.all id)) S
    | none => .bad
  | .any, .lst a => match boolsO a with
    | some bs => .ok (.bl (bs.any id)) S
    | none => .bad
  | _, _ => .bad
/-- a cell with a list -/
def isCl (S : Sto) : D → Bool
  | .ref n => match S.get n with
    | some (.lst _) => true
    | none => false
  | _ => false
def mef (m : Me) (x : D) (xs : List D) (S : Sto) : R D := match m, x, xs with
  | .append, .ref n, [d] => match S.get n with
    | some (.lst ys) => if ys.length < line then frL (ys ++ [d]) fun r => .ok .non (S.put n (.lst r)) else .bad
    | none => .bad
  | _, _, _ => .bad
def isT (t : Ty) (x : D) : Option Bool := match t, x with
  | .int, .int _ | .int, .bl _ => some true
  | .bool, .bl _ => some true
  | .str, .str _ => some true
  | .tuple, .tup _ => some true
  | .list, .lst _ => some true
  | _, .rep _ | _, .ref _ | _, .scr _ => none
  | _, _ => some false
def nth {α : Type} (xs : List α) (i : Int) : Option α := if 0 ≤ i then xs[i.toNat]? else if 0 ≤ i + xs.length then xs[(i + xs.length).toNat]? else none
def ixf (x y : D) (S : Sto) : Option D := match lz S x, y with
  | .lst a, .int i => nth a i
  | .tup a, .int i => nth a i
  | _, _ => none
/-- a bound of a slice, brought within 0 .. n -/
def bnd (n : Nat) (d : Nat) : Option Int → Nat
  | none => d
  | some i => if i < 0 then (if i + n < 0 then 0 else (i + n).toNat) else if i < n then i.toNat else n
def cut {α : Type} (xs : List α) (lo hi : Option Int) : List α := (xs.drop (bnd xs.length 0 lo)).take (bnd xs.length xs.length hi - bnd xs.length 0 lo)
def cutf (x : D) (lo hi : Option Int) (S : Sto) : Option D := match lz S x with
  | .lst a => some (.lst (cut a lo hi))
  | .tup a => some (.tup (cut a lo hi))
  | _ => none
def small62 (i : Int) : Bool := decide (-4611686018427387904 ≤ i) && decide (i < 4611686018427387904)
def upto (lo : Int) : Nat → List D
  | 0 => []
  | n + 1 => .int lo :: frI (lo + 1) fun m => upto m n
def zipD : List D → List D → List D
  | a :: as, b :: bs => .tup [a, b] :: zipD as bs
  | _, _ => []
def walk : Wt → List D → Option (List D)
  | .rng1, [.int b] => if small62 b then some (upto 0 b.toNat) else none
  | .rng2, [.int a, .int b] => if small62 a && small62 b then some (upto a (b - a).toNat) else none
  | .zip, [.lst xs, .lst ys] => some (zipD xs ys)
  | .zip, [.tup xs, .tup ys] => some (zipD xs ys)
  | .of, [.lst xs] => some xs
  | .of, [.tup xs] => some xs
  | _, _ => none

abbrev Env := List (Option D)
/-- a target's store -/
def bindT : Tg → D → Env → Option Env
  | .nm i, d, env => if i < env.length then frL (env.set i (some d)) some else none
  | .tp ts, .tup ds, env => bindTs ts ds env
  | .tp _, _, _ => none
where bindTs : List Tg → List D → Env → Option Env
  | [], [], env => some env
  | t :: ts, d :: ds, env => match bindT t d env with
    | some env' => bindTs ts ds env'
    | none => none
  | _, _, _ => none
def wipeE (env : Env) : List Nat → Env
  | [] => env
  | v :: vs => (wipeE env vs).set v none
/-- a comprehension's turns -/
def compL (f : D → Sto → R (Option D)) : List D → List D → Sto → R (List D)
  | [], acc, S => .ok acc S
  | x :: xs, acc, S => (f x S).bind fun o S1 => match o with
    | some d => if acc.length < line then compL f xs (acc ++ [d]) S1 else .bad
    | none => compL f xs acc S1
def truth : D → Option Bool
  | .bl b => some b
  | _ => none

abbrev Calls := Nat → List D → Sto → R D
section
variable (cl : Calls)
mutual
def evE : E → Env → Sto → R D
  | .var i, env, S => match env[i]? with
    | some (some d) => .ok d S
    | _ => .bad
  | .lit d, _, S => .ok d S
  | .neg a, env, S => (evE a env S).bind fun x S1 => match x with
    | .int i => frI (-i) fun r => .ok (.int r) S1
    | _ => .bad
  | .bin o a b, env, S => (evE a env S).bind fun x S1 => (evE b env S1).bind fun y S2 => bop o x y S2
  | .cmp o a b, env, S => (evE a env S).bind fun x S1 => (evE b env S1).bind fun y S2 => (R.of S2 (cop o x y S2)).bind fun k S3 => .ok (.bl k) S3
  | .chn o p a b c, env, S => (evE a env S).bind fun x S1 => (evE b env S1).bind fun y S2 => (R.of S2 (cop o x y S2)).bind fun k S3 => match k with
    | true => (evE c env S3).bind fun z S4 => (R.of S4 (cop p y z S4)).bind fun k S5 => .ok (.bl k) S5
    | false => .ok (.bl false) S3
  | .band a b, env, S => (evE a env S).bind fun x S1 => match x with
    | .bl true => evE b env S1
    | .bl false => .ok (.bl false) S1
    | _ => .bad
  | .bor a b, env, S => (evE a env S).bind fun x S1 => match x with
    | .bl true => .ok (.bl true) S1
    | .bl false => evE b env S1
    | _ => .bad
  | .bnot a, env, S => (evE a env S).bind fun x S1 => match x with
    | .bl k => .ok (.bl (!k)) S1
    | _ => .bad
  | .ife c a b, env, S => (evE c env S).bind fun x S1 => match x with
    | .bl true => evE a env S1
    | .bl false => evE b env S1
    | _ => .bad
  | .tup es, env, S => (evEs es env S).bind fun xs S1 => if xs.length ≤ line then .ok (.tup xs) S1 else .bad
  | .lst k es, env, S => (evEs es env S).bind fun xs S1 => newL k xs S1
  | .fn i es, env, S => (evEs es env S).bind fun xs S1 => cl i xs S1
  | .bi b k a, env, S => (evE a env S).bind fun x S1 => biF b k x S1
  | .me m o es, env, S => (evE o env S).bind fun x S1 => match isCl S1 x with
    | true => (evEs es env S1).bind fun xs S2 => mef m x xs S2
    | false => .bad
  | .isi a t, env, S => (evE a env S).bind fun x S1 => (R.of S1 (isT t x)).bind fun k S2 => .ok (.bl k) S2
  | .ix a b, env, S => (evE a env S).bind fun x S1 => (evE b env S1).bind fun y S2 => R.of S2 (ixf x y S2)
  | .slc a lo hi, env, S => (evE a env S).bind fun x S1 => (evO lo env S1).bind fun l S2 => (evO hi env S2).bind fun h S3 => R.of S3 (cutf x l h S3)
  | .comp k tg w it cond elt own, env, S => (evEs it env S).bind fun ws S0 => (R.of S0 (walk w ws)).bind fun xs S1 => (compL (fun x S2 => match bindT tg x (wipeE env own) with
      | some env' => ((evC cond env' S2).bind fun b S3 => match b with
        | true => (evE elt env' S3).bind fun d S4 => .ok (some d) S4
        | false => .ok none S3).nox
      | none => .bad) xs [] S1).bind fun ds S5 => newL k ds S5
def evEs : List E → Env → Sto → R (List D)
  | [], _, S => .ok [] S
  | e :: es, env, S => (evE e env S).bind fun x S1 => (evEs es env S1).bind fun xs S2 => .ok (x :: xs) S2
def evO : Option E → Env → Sto → R (Option Int)
  | none, _, S => .ok none S
  | some e, env, S => (evE e env S).bind fun x S1 => match x with
    | .int i => .ok (some i) S1
    | _ => .bad
def evC : Option E → Env → Sto → R Bool
  | none, _, S => .ok true S
  | some e, env, S => (evE e env S).bind fun x S1 => match x with
    | .bl i => .ok i S1
    | _ => .bad
end
end

inductive RS where
  | nx (env : Env) (S : Sto) | rt (d : D) (S : Sto) | bk (env : Env) (S : Sto) | ct (env : Env) (S : Sto) | exc (x : Ex) (env : Env) (S : Sto) | bad
/-- an expression's end, then a statement's -/
def R.to {α : Type} (env : Env) : R α → (α → Sto → RS) → RS
  | .ok a S, f => f a S
  | .exc x S, _ => .exc x env S
  | .bad, _ => .bad
def RS.bind : RS → (Env → Sto → RS) → RS
  | .nx env S, f => f env S
  | r, _ => r
def forL (f : D → Env → Sto → RS) : List D → Env → Sto → RS
  | [], env, S => .nx env S
  | x :: xs, env, S => match f x env S with
    | .nx env' S' => forL f xs env' S'
    | .ct env' S' => forL f xs env' S'
    | .bk env' S' => .nx env' S'
    | r => r
def whL (c : Env → Sto → R Bool) (f : Env → Sto → RS) : Nat → Env → Sto → RS
  | 0, _, _ => .bad
  | n + 1, env, S => (c env S).to env fun k S1 => match k with
    | true => (match f env S1 with
      | .nx env' S' => whL c f n env' S'
      | .ct env' S' => whL c f n env' S'
      | .bk env' S' => .nx env' S'
      | r => r)
    | false => .nx env S1
/-- name op= value -/
def iop (o : BO) (x y : D) (S : Sto) : R D := match o, x, y with
  | .add, .int i, .int j => frI (i + j) fun r => .ok (.int r) S
  | .sub, .int i, .int j => frI (i - j) fun r => .ok (.int r) S
  | .add, .ref n, y => match S.get n, lz S y with
    | some (.lst a), .lst b => if a.length + b.length ≤ line then frL (a ++ b) fun r => .ok (.ref n) (S.put n (.lst r)) else .bad
    | _, _ => .bad
  | _, _, _ => .bad
/-- o[i] = d -/
def sixf (o i d : D) (S : Sto) : Option Sto := match o, i with
  | .ref n, .int i => match S.get n with
    | some (.lst a) => if decide (0 ≤ i) && decide (i < a.length) then frL (a.set i.toNat d) fun r => some (S.put n (.lst r)) else none
    | none => none
  | _, _ => none
/-- what a handler does: it hands back a value that is reckoned of the exception -/
def hdl (sub : Nat → Nat → Bool) (x : Ex) (env : Env) : HX → Option D
  | .lit d => some d
  | .vr i => match env[i]? with
    | some (some d) => some d
    | _ => none
  | .isx i c => match x.fs with
    | [] => if i < env.length then some (.bl (sub x.cls c)) else none
    | _ => none
def hdls (sub : Nat → Nat → Bool) (x : Ex) (env : Env) (S : Sto) : List (Nat × HX) → RS
  | [] => .exc x env S
  | (c, h) :: r => if sub x.cls c then (match hdl sub x env h with
      | some d => .rt d S
      | none => .bad) else hdls sub x env S r
section
variable (sub : Nat → Nat → Bool) (cl : Calls)
mutual
def exS : S → Env → Sto → RS
  | .ex e, env, S => (evE cl e env S).to env fun _ S1 => .nx env S1
  | .asg t e, env, S => (evE cl e env S).to env fun d S1 => match bindT t d env with
    | some env' => .nx env' S1
    | none => .bad
  | .aug i o e, env, S => match env[i]? with
    | some (some x) => (evE cl e env S).to env fun y S1 => (iop o x y S1).to env fun z S2 => frL (env.set i (some z)) fun e2 => .nx e2 S2
    | _ => .bad
  | .six o i e, env, S => (evE cl e env S).to env fun d S1 => (evE cl o env S1).to env fun x S2 => (evE cl i env S2).to env fun y S3 => match sixf x y d S3 with
    | some S4 => .nx env S4
    | none => .bad
  | .ifs c a b, env, S => (evE cl c env S).to env fun x S1 => match x with
    | .bl true => exSs a env S1
    | .bl false => exSs b env S1
    | _ => .bad
  | .forr t w it b, env, S => (evEs cl it env S).to env fun ws S0 => (R.of S0 (walk w ws)).to env fun xs S1 => forL (fun x env1 S2 => match bindT t x env1 with
    | some env2 => exSs b env2 S2
    | none => .bad) xs env S1
  | .whl n c b, env, S => whL (fun env1 S1 => evC cl (some c) env1 S1) (fun env1 S1 => exSs b env1 S1) n env S
  | .ret e, env, S => (evE cl e env S).to env fun d S1 => .rt d S1
  | .retn, _, S => .rt .non S
  | .brk, env, S => .bk env S
  | .cnt, env, S => .ct env S
  | .pas, env, S => .nx env S
  | .rais c, env, S => .exc ⟨c, []⟩ env S
  | .tryo b h, env, S => match exSs b env S with
    | .exc x env1 S1 => hdls sub x env1 S1 h
    | r => r
def exSs : List S → Env → Sto → RS
  | [], env, S => .nx env S
  | s :: ss, env, S => (exS s env S).bind fun env1 S1 => exSs ss env1 S1
end
end
/-- a def: how many parameters, how many slots, its body; whether what it made goes at its end -/
structure Df where
  np : Nat
  ns : Nat
  body : List S
  fr : Bool
def Df.run (sub : Nat → Nat → Bool) (cl : Calls) (f : Df) (xs : List D) (S : Sto) : R D :=
  if xs.length = f.np then (match exSs sub cl f.body (xs.map some ++ List.replicate (f.ns - f.np) none) S with
    | .rt d S1 => .ok d (if f.fr then S1.trim S.next else S1)
    | .nx _ S1 => .ok .non (if f.fr then S1.trim S.next else S1)
    | .exc x _ S1 => .exc x (if f.fr then S1.trim S.next else S1)
    | _ => .bad) else .bad
def run (sub : Nat → Nat → Bool) (ds : List Df) : Nat → Calls
  | 0 => fun _ _ _ => .bad
  | k + 1 => fun i xs S => match ds[i]? with
    | some f => f.run sub (run sub ds k) xs S
    | none => .bad
end Mn

/-! What the small machine's values stand for, and its store. -/
namespace Mn
open PySem PySem.Spec PyProof.Rows L2

def tx (s : List Nat) : Str := ⟨s.toArray⟩
mutual
def toPy : D → PyData
  | .non => .none
  | .bl b => .bool b
  | .int i => .int i
  | .str s => .str (tx s)
  | .tup xs => .tuple (toPys xs)
  | .lst xs => .list (toPys xs)
  | .rep _ | .ref _ | .scr _ => .none
def toPys : List D → List PyData
  | [] => []
  | x :: xs => toPy x :: toPys xs
end
abbrev Mp := Nat → Option Addr
section
variable (K : PySem.W.Frag)
mutual
/-- a value of the machine, one of Python's, over what stands still -/
inductive RD (Z : Hp) (m : Mp) : D → V → Prop
  | non : RD Z m .non .non
  | bl (b : Bool) : RD Z m (.bl b) (.bl b)
  | int (i : Int) : RD Z m (.int i) (.int i)
  | str (s : List Nat) : RD Z m (.str s) (.str (tx s))
  | rep (d : D) : RD Z m (.rep d) (.str (PyData.shown (toPy d)))
  | tup {xs : List D} {a : Addr} {vs : List V} : SqT K Z a vs → RDs Z m xs vs → RD Z m (.tup xs) (.ref a)
  | lst {xs : List D} {a : Addr} {vs : List V} : Z a = some (.lst vs) → RDs Z m xs vs → RD Z m (.lst xs) (.ref a)
  | ref {n : Nat} {a : Addr} : m n = some a → RD Z m (.ref n) (.ref a)
  | scr {ns : List Int} {a : Addr} : SqL K Z a (ns.map V.int) → RD Z m (.scr ns) (.ref a)
inductive RDs (Z : Hp) (m : Mp) : List D → List V → Prop
  | nil : RDs Z m [] []
  | cons {d : D} {v : V} {ds : List D} {vs : List V} : RD Z m d v → RDs Z m ds vs → RDs Z m (d :: ds) (v :: vs)
end
end
variable {K : PySem.W.Frag} {Z Z' Z'' : Hp} {m m' m'' : Mp}
/-- more stands still, more cells have their places -/
structure Ext (Z : Hp) (m : Mp) (Z' : Hp) (m' : Mp) : Prop where
  z : Same Z Z'
  m : ∀ n a, m n = some a → m' n = some a
theorem Ext.refl : Ext Z m Z m := ⟨Same.refl _, fun _ _ h => h⟩
theorem Ext.trans (a : Ext Z m Z' m') (b : Ext Z' m' Z'' m'') : Ext Z m Z'' m'' := ⟨a.z.trans b.z, fun n x h => b.m n x (a.m n x h)⟩
theorem seqL {H H' : Hp} {a : Addr} {xs : List V} (e : Same H H') (h : SqL K H a xs) : SqL K H' a xs := e.seq h
theorem seqT {H H' : Hp} {a : Addr} {xs : List V} (e : Same H H') (h : SqT K H a xs) : SqT K H' a xs := by
  rcases h with (h | ⟨o, h⟩) | h
  · exact .inl (.inl (e _ _ h))
  · exact .inl (.inr ⟨o, e _ _ h⟩)
  · exact .inr h
mutual
theorem RD.mono (e : Ext Z m Z' m') : ∀ {d : D} {v : V}, RD K Z m d v → RD K Z' m' d v
  | _, _, .non => .non
  | _, _, .bl b => .bl b
  | _, _, .int i => .int i
  | _, _, .str s => .str s
  | _, _, .rep d => .rep d
  | _, _, .tup h hs => .tup (seqT e.z h) (RDs.mono e hs)
  | _, _, .lst h hs => .lst (e.z _ _ h) (RDs.mono e hs)
  | _, _, .ref h => .ref (e.m _ _ h)
  | _, _, .scr h => .scr (seqL e.z h)
theorem RDs.mono (e : Ext Z m Z' m') : ∀ {d : List D} {v : List V}, RDs K Z m d v → RDs K Z' m' d v
  | _, _, .nil => .nil
  | _, _, .cons h hs => .cons (h.mono e) (hs.mono e)
end
theorem RDs.length : ∀ {d : List D} {v : List V}, RDs K Z m d v → d.length = v.length
  | _, _, .nil => rfl
  | _, _, .cons _ hs => by simp [hs.length]
theorem RDs.append : ∀ {d d' : List D} {v v' : List V}, RDs K Z m d v → RDs K Z m d' v' → RDs K Z m (d ++ d') (v ++ v')
  | _, _, _, _, .nil, k => k
  | _, _, _, _, .cons h hs, k => .cons h (hs.append k)
theorem RDs.get : ∀ {d : List D} {v : List V} {i : Nat} {x : D}, RDs K Z m d v → d[i]? = some x → ∃ w, v[i]? = some w ∧ RD K Z m x w
  | _, _, _, _, .nil, e => by simp at e
  | _, _, 0, _, .cons h _, e => by simp at e; subst e; exact ⟨_, rfl, h⟩
  | _, _, i + 1, _, .cons _ hs, e => by
    obtain ⟨w, h1, h2⟩ := hs.get (i := i) (by simpa using e)
    exact ⟨w, by simpa using h1, h2⟩
theorem RDs.getV : ∀ {d : List D} {v : List V} {i : Nat} {w : V}, RDs K Z m d v → v[i]? = some w → ∃ x, d[i]? = some x ∧ RD K Z m x w
  | _, _, _, _, .nil, e => by simp at e
  | _, _, 0, _, .cons h _, e => by simp at e; subst e; exact ⟨_, rfl, h⟩
  | _, _, i + 1, _, .cons _ hs, e => by
    obtain ⟨w, h1, h2⟩ := hs.getV (i := i) (by simpa using e)
    exact ⟨w, by simpa using h1, h2⟩
theorem RDs.take : ∀ {d : List D} {v : List V} (n : Nat), RDs K Z m d v → RDs K Z m (d.take n) (v.take n)
  | _, _, 0, _ => .nil
  | _, _, _ + 1, .nil => .nil
  | _, _, n + 1, .cons h hs => .cons h (hs.take n)
theorem RDs.drop : ∀ {d : List D} {v : List V} (n : Nat), RDs K Z m d v → RDs K Z m (d.drop n) (v.drop n)
  | _, _, 0, h => h
  | _, _, _ + 1, .nil => .nil
  | _, _, n + 1, .cons _ hs => hs.drop n
theorem RDs.set {x : D} {w : V} (r : RD K Z m x w) : ∀ {d : List D} {v : List V} (n : Nat), RDs K Z m d v → RDs K Z m (d.set n x) (v.set n w)
  | _, _, _, .nil => .nil
  | _, _, 0, .cons _ hs => .cons r hs
  | _, _, n + 1, .cons h hs => .cons h (hs.set r n)
theorem RDs.rep {d : List D} {v : List V} (r : RDs K Z m d v) : ∀ n : Nat, RDs K Z m (repD n d) (repD n v)
  | 0 => .nil
  | n + 1 => by
    unfold repD
    rw [List.replicate_succ, List.flatten_cons, List.replicate_succ, List.flatten_cons]
    exact r.append (r.rep n)
theorem RDs.one {x : D} {w : V} (r : RD K Z m x w) : RDs K Z m [x] [w] := .cons r .nil

/-! ### the store's places -/
theorem look_put_same {n : Nat} {c d : C} : ∀ {l : List (Nat × C)}, look n l = some d → look n (putC n c l) = some c
  | [], h => by cases h
  | (k, e) :: r, h => by
    unfold look at h
    unfold putC
    by_cases hk : k = n
    · rw [if_pos hk]
      unfold look
      rw [if_pos hk]
    · rw [if_neg hk] at h
      rw [if_neg hk]
      unfold look
      rw [if_neg hk]
      exact look_put_same h
theorem look_put_ne {n n' : Nat} {c : C} (hn : n' ≠ n) : ∀ {l : List (Nat × C)}, look n' (putC n c l) = look n' l
  | [] => rfl
  | (k, e) :: r => by
    unfold putC
    by_cases hk : k = n
    · rw [if_pos hk]
      have h2 : ¬ k = n' := fun z => hn (z.symm.trans hk)
      unfold look
      rw [if_neg h2, if_neg h2]
    · rw [if_neg hk]
      unfold look
      by_cases h2 : k = n'
      · rw [if_pos h2, if_pos h2]
      · rw [if_neg h2, if_neg h2]
        exact look_put_ne hn
theorem get_new_same {S : Sto} {c : C} : (S.new c).get S.next = some c := by
  unfold Sto.new Sto.get look
  rw [if_pos rfl]
theorem get_new_ne {S : Sto} {c : C} {n : Nat} (h : n ≠ S.next) : (S.new c).get n = S.get n := by
  show look n ((S.next, c) :: S.cs) = look n S.cs
  rw [show look n ((S.next, c) :: S.cs) = if S.next = n then some c else look n S.cs from rfl, if_neg fun z => h z.symm]
theorem look_trim {k n : Nat} {c : C} : ∀ {l : List (Nat × C)}, look n (trim k l) = some c → n < k ∧ look n l = some c
  | [], h => by cases h
  | (j, e) :: r, h => by
    unfold trim at h
    by_cases hj : k ≤ j
    · rw [if_pos hj] at h
      obtain ⟨h1, h2⟩ := look_trim h
      refine ⟨h1, ?_⟩
      unfold look
      rw [if_neg (by omega)]
      exact h2
    · rw [if_neg hj] at h
      unfold look at h
      by_cases h2 : j = n
      · rw [if_pos h2] at h
        refine ⟨by omega, ?_⟩
        unfold look
        rw [if_pos h2]
        exact h
      · rw [if_neg h2] at h
        obtain ⟨h3, h4⟩ := look_trim h
        refine ⟨h3, ?_⟩
        unfold look
        rw [if_neg h2]
        exact h4
/-- the heap of a state: F other's, Z what stands still, the cells at m -/
structure SR (K : PySem.W.Frag) (F : Hp) (Z : Hp) (m : Mp) (S : Sto) (H : Hp) : Prop where
  fs : Same F H
  zs : Same Z H
  dj : ∀ b o, F b = some o → Z b = none
  lst : ∀ n xs, S.get n = some (.lst xs) → ∃ a vs, m n = some a ∧ H a = some (.lst vs) ∧ F a = none ∧ Z a = none ∧ RDs K Z m xs vs
  inj : ∀ n n' a xs xs', S.get n = some (.lst xs) → S.get n' = some (.lst xs') → m n = some a → m n' = some a → n = n'
  nx : ∀ n a, m n = some a → n < S.next
variable {F H : Hp} {S : Sto}
theorem SR.free (r : SR K F Z m S H) {p : Addr} (h : H p = none) : F p = none ∧ Z p = none := ⟨r.fs.free h, r.zs.free h⟩
theorem same_upd' {H : Hp} {p : Addr} {o : HO} (h : H p = none) : Same H (upd H p o) := fun b x e => by
  rw [upd_ne (ne_of_none e h)]
  exact e
/-- a new thing that stands still -/
theorem SR.newZ (r : SR K F Z m S H) {p : Addr} (o : HO) (h : H p = none) : SR K F (upd Z p o) m S (upd H p o) ∧ Ext Z m (upd Z p o) m := by
  obtain ⟨hF, hZ⟩ := r.free h
  have e : Ext Z m (upd Z p o) m := ⟨same_upd' hZ, fun _ _ q => q⟩
  refine ⟨⟨r.fs.trans (same_upd' h), fun b x q => ?_, fun b x q => ?_, fun n xs q => ?_, r.inj, r.nx⟩, e⟩
  · by_cases hb : b = p
    · subst hb
      rw [upd_same] at q
      rw [upd_same]
      exact q
    · rw [upd_ne hb] at q
      rw [upd_ne hb]
      exact r.zs b x q
  · have hb : b ≠ p := ne_of_none q hF
    rw [upd_ne hb]
    exact r.dj b x q
  · obtain ⟨a, vs, h1, h2, h3, h4, h5⟩ := r.lst n xs q
    have ha : a ≠ p := ne_of_none h2 h
    exact ⟨a, vs, h1, by rw [upd_ne ha]; exact h2, h3, by rw [upd_ne ha]; exact h4, h5.mono e⟩
/-- where a new cell stands -/
def mpSet (m : Mp) (n : Nat) (a : Addr) : Mp := fun k => if k = n then some a else m k
theorem SR.newC (r : SR K F Z m S H) {p : Addr} {xs : List D} {vs : List V} (h : H p = none) (rd : RDs K Z m xs vs) :
    SR K F Z (mpSet m S.next p) (S.new (.lst xs)) (upd H p (.lst vs)) ∧ Ext Z m Z (mpSet m S.next p) ∧ RD K Z (mpSet m S.next p) (.ref S.next) (.ref p) := by
  obtain ⟨hF, hZ⟩ := r.free h
  have e : Ext Z m Z (mpSet m S.next p) := ⟨Same.refl _, fun n a q => by
    have hn : n ≠ S.next := Nat.ne_of_lt (r.nx n a q)
    unfold mpSet
    rw [if_neg hn]
    exact q⟩
  have ms : mpSet m S.next p S.next = some p := by unfold mpSet; rw [if_pos rfl]
  refine ⟨⟨r.fs.trans (same_upd' h), r.zs.trans (same_upd' h), r.dj, fun n ys q => ?_, fun n n' a ys ys' q q' k k' => ?_, fun n a q => ?_⟩, e, .ref ms⟩
  · by_cases hn : n = S.next
    · subst hn
      rw [get_new_same] at q
      cases q
      exact ⟨p, vs, ms, upd_same, hF, hZ, rd.mono e⟩
    · rw [get_new_ne hn] at q
      obtain ⟨a, ws, h1, h2, h3, h4, h5⟩ := r.lst n ys q
      exact ⟨a, ws, e.m _ _ h1, by rw [upd_ne (ne_of_none h2 h)]; exact h2, h3, h4, h5.mono e⟩
  · have old : ∀ {n : Nat} {ys : List D} {a : Addr}, n ≠ S.next → (S.new (.lst xs)).get n = some (.lst ys) → mpSet m S.next p n = some a → a ≠ p ∧ S.get n = some (.lst ys) ∧ m n = some a := fun {n ys a} hn q k => by
      rw [get_new_ne hn] at q
      obtain ⟨b, ws, h1, h2, _⟩ := r.lst n ys q
      have k2 := e.m _ _ h1
      rw [k] at k2
      cases k2
      exact ⟨ne_of_none h2 h, q, h1⟩
    by_cases hn : n = S.next
    · by_cases hn' : n' = S.next
      · rw [hn, hn']
      · obtain ⟨z, _, _⟩ := old hn' q' k'
        rw [hn, ms] at k
        cases k
        exact absurd rfl z
    · by_cases hn' : n' = S.next
      · obtain ⟨z, _, _⟩ := old hn q k
        rw [hn', ms] at k'
        cases k'
        exact absurd rfl z
      · obtain ⟨_, q1, k1⟩ := old hn q k
        obtain ⟨_, q2, k2⟩ := old hn' q' k'
        exact r.inj n n' a _ _ q1 q2 k1 k2
  · show n < S.next + 1
    unfold mpSet at q
    by_cases hn : n = S.next
    · omega
    · rw [if_neg hn] at q
      have := r.nx n a q
      omega
/-- a cell's list is another one -/
theorem SR.put (r : SR K F Z m S H) {n : Nat} {a : Addr} {xs ys : List D} {vs : List V} (q : S.get n = some (.lst xs)) (hm : m n = some a) (rd : RDs K Z m ys vs) :
    SR K F Z m (S.put n (.lst ys)) (upd H a (.lst vs)) := by
  obtain ⟨b, ws, h1, h2, h3, h4, h5⟩ := r.lst n xs q
  rw [hm] at h1
  cases h1
  have put_same : (S.put n (.lst ys)).get n = some (.lst ys) := look_put_same q
  have put_ne : ∀ {k : Nat}, k ≠ n → (S.put n (.lst ys)).get k = S.get k := fun hk => look_put_ne hk
  have sm : ∀ {G : Hp}, Same G H → G a = none → Same G (upd H a (.lst vs)) := fun {G} s g c x e => by
    rw [upd_ne (ne_of_none e g)]
    exact s c x e
  refine ⟨sm r.fs h3, sm r.zs h4, r.dj, fun k zs e => ?_, fun k k' c zs zs' e e' u u' => ?_, r.nx⟩
  · by_cases hk : k = n
    · subst hk
      rw [put_same] at e
      cases e
      exact ⟨a, vs, hm, upd_same, h3, h4, rd⟩
    · rw [put_ne hk] at e
      obtain ⟨c, us, g1, g2, g3, g4, g5⟩ := r.lst k zs e
      have hc : c ≠ a := fun z => by
        subst z
        exact hk (r.inj k n c _ _ e q g1 hm)
      exact ⟨c, us, g1, by rw [upd_ne hc]; exact g2, g3, g4, g5⟩
  · have old : ∀ {k : Nat} {zs : List D}, (S.put n (.lst ys)).get k = some (.lst zs) → ∃ us, S.get k = some (.lst us) := fun {k zs} e => by
      by_cases hk : k = n
      · exact ⟨xs, by rw [hk]; exact q⟩
      · rw [put_ne hk] at e
        exact ⟨zs, e⟩
    obtain ⟨us, g⟩ := old e
    obtain ⟨us', g'⟩ := old e'
    exact r.inj k k' c _ _ g g' u u'
/-- fewer cells -/
theorem SR.less (r : SR K F Z m S H) {S' : Sto} (h : ∀ n c, S'.get n = some c → S.get n = some c) (hn : S.next ≤ S'.next) : SR K F Z m S' H :=
  ⟨r.fs, r.zs, r.dj, fun n xs q => r.lst n xs (h _ _ q), fun n n' a xs xs' q q' k k' => r.inj n n' a xs xs' (h _ _ q) (h _ _ q') k k', fun n a q => Nat.lt_of_lt_of_le (r.nx n a q) hn⟩
theorem SR.trim (r : SR K F Z m S H) (k : Nat) : SR K F Z m (S.trim k) H := r.less (fun n c q => (look_trim q).2) (Nat.le_refl _)

/-! ### what an operation sees: cells' lists are lists -/
inductive RV (K : PySem.W.Frag) (H Z : Hp) (m : Mp) : D → V → Prop
  | non : RV K H Z m .non .non
  | bl (b : Bool) : RV K H Z m (.bl b) (.bl b)
  | int (i : Int) : RV K H Z m (.int i) (.int i)
  | str (s : List Nat) : RV K H Z m (.str s) (.str (tx s))
  | rep (d : D) : RV K H Z m (.rep d) (.str (PyData.shown (toPy d)))
  | tup {xs : List D} {a : Addr} {vs : List V} : SqT K Z a vs → RDs K Z m xs vs → RV K H Z m (.tup xs) (.ref a)
  | lst {xs : List D} {a : Addr} {vs : List V} : H a = some (.lst vs) → RDs K Z m xs vs → RV K H Z m (.lst xs) (.ref a)
  | ref {n : Nat} {a : Addr} : RV K H Z m (.ref n) (.ref a)
  | scr {ns : List Int} {a : Addr} : SqL K Z a (ns.map V.int) → RV K H Z m (.scr ns) (.ref a)
theorem SR.view0 (r : SR K F Z m S H) {d : D} {v : V} (h : RD K Z m d v) : RV K H Z m d v := by
  cases h with
  | non => exact .non
  | bl b => exact .bl b
  | int i => exact .int i
  | str s => exact .str s
  | rep d => exact .rep d
  | tup h hs => exact .tup h hs
  | lst h hs => exact .lst (r.zs _ _ h) hs
  | ref h => exact .ref
  | scr h => exact .scr h
theorem SR.view (r : SR K F Z m S H) {d : D} {v : V} (h : RD K Z m d v) : RV K H Z m (lz S d) v := by
  cases h with
  | ref h =>
    rename_i n a
    show RV K H Z m (match S.get n with
      | some (.lst xs) => .lst xs
      | none => .ref n) (.ref a)
    cases q : S.get n with
    | none => exact .ref
    | some c =>
      cases c with
      | lst xs =>
        obtain ⟨b, ws, h1, h2, h3, h4, h5⟩ := r.lst n xs q
        rw [h] at h1
        cases h1
        exact .lst h2 h5
  | non => exact r.view0 .non
  | bl b => exact r.view0 (.bl b)
  | int i => exact r.view0 (.int i)
  | str s => exact r.view0 (.str s)
  | rep d => exact r.view0 (.rep d)
  | tup h hs => exact r.view0 (.tup h hs)
  | lst h hs => exact r.view0 (.lst h hs)
  | scr h => exact r.view0 (.scr h)

/-! ### data -/
mutual
theorem RD.dp (s : Same Z H) : ∀ {d : D} {v : V}, okD d = true → RD K Z m d v → Dp K H v (toPy d)
  | _, _, _, .non => .non
  | _, _, _, .bl b => .bl b
  | _, _, _, .int i => .int i
  | _, _, _, .str x => .str _
  | .rep d, _, k, _ => Bool.noConfusion (show false = true from k)
  | .ref n, _, k, _ => Bool.noConfusion (show false = true from k)
  | .scr n, _, k, _ => Bool.noConfusion (show false = true from k)
  | _, _, k, .tup h hs => .tup (seqT s h) (RDs.dp s (by simpa [okD] using k) hs)
  | _, _, k, .lst h hs => .lst (.inl (.inl (s _ _ h))) (RDs.dp s (by simpa [okD] using k) hs)
theorem RDs.dp (s : Same Z H) : ∀ {d : List D} {v : List V}, okDs d = true → RDs K Z m d v → DpAll K H v (toPys d)
  | _, _, _, .nil => .nil
  | _, _, k, .cons h hs => by
    simp only [okDs, Bool.and_eq_true] at k
    exact .cons (h.dp s k.1) (hs.dp s k.2)
end
theorem RV.dp (s : Same Z H) {d : D} {v : V} (k : okD d = true) (h : RV K H Z m d v) : Dp K H v (toPy d) := by
  cases h with
  | non => exact .non
  | bl b => exact .bl b
  | int i => exact .int i
  | str x => exact .str _
  | rep d => simp [okD] at k
  | ref => simp [okD] at k
  | scr h => simp [okD] at k
  | tup h hs => exact .tup (seqT s h) (hs.dp s (by simpa [okD] using k))
  | lst h hs => exact .lst (.inl (.inl h)) (hs.dp s (by simpa [okD] using k))
mutual
theorem canLay_of : ∀ {d : D}, okD d = true → (toPy d).canLay0 = true
  | .non, _ => rfl
  | .bl _, _ => rfl
  | .int _, _ => rfl
  | .str s, h => by
    show PyData.strOk (tx s) = true
    unfold PyData.strOk tx
    simpa [okD] using h
  | .rep _, h => by simp [okD] at h
  | .ref _, h => by simp [okD] at h
  | .scr _, h => by simp [okD] at h
  | .tup xs, h => canLays_of (by simpa [okD] using h)
  | .lst xs, h => canLays_of (by simpa [okD] using h)
theorem canLays_of : ∀ {d : List D}, okDs d = true → PyData.canLayAll0 (toPys d) = true
  | [], _ => rfl
  | x :: xs, h => by
    simp only [okDs, Bool.and_eq_true] at h
    show (PyData.canLay0 (toPy x) && PyData.canLayAll0 (toPys xs)) = true
    rw [canLay_of h.1, canLays_of h.2]
    rfl
end
mutual
theorem depth_of : ∀ d : D, (toPy d).depth = dpt d
  | .non => rfl
  | .bl _ => rfl
  | .int _ => rfl
  | .str s => rfl
  | .rep _ => rfl
  | .ref _ => rfl
  | .scr _ => rfl
  | .tup xs => by
    show PyData.depthAll (toPys xs) + 1 = dpts xs + 1
    rw [depths_of xs]
  | .lst xs => by
    show PyData.depthAll (toPys xs) + 1 = dpts xs + 1
    rw [depths_of xs]
theorem depths_of : ∀ d : List D, PyData.depthAll (toPys d) = dpts d
  | [] => rfl
  | x :: xs => by
    show max (PyData.depth (toPy x)) (PyData.depthAll (toPys xs)) = max (dpt x) (dpts xs)
    rw [depth_of x, depths_of xs]
end
theorem shaped_of {d : D} (h : okD d = true) (k : dpt d ≤ 64) : SeqAt.shaped (toPy d) = true := by
  unfold SeqAt.shaped
  rw [canLay_of h, depth_of]
  simp [k]
mutual
theorem shows_of : ∀ {d : D}, smD d = true → (toPy d).showable = true
  | .non, _ => rfl
  | .bl _, _ => rfl
  | .int _, h => h
  | .str s, h => rfl
  | .rep _, h => rfl
  | .ref _, h => rfl
  | .scr _, h => rfl
  | .tup xs, h => shows_ofs (by simpa [smD] using h)
  | .lst xs, h => shows_ofs (by simpa [smD] using h)
theorem shows_ofs : ∀ {d : List D}, smDs d = true → PyData.showableAll (toPys d) = true
  | [], _ => rfl
  | x :: xs, h => by
    simp only [smDs, Bool.and_eq_true] at h
    show (PyData.showable (toPy x) && PyData.showableAll (toPys xs)) = true
    rw [shows_of h.1, shows_ofs h.2]
    rfl
end
theorem tx_inj {a b : List Nat} : tx a = tx b ↔ a = b := by
  constructor
  · intro h
    have h1 : a.toArray = b.toArray := congrArg Str.cps h
    simpa using h1
  · intro h
    rw [h]
mutual
theorem eqv_of (a b : D) (h : okD a = true) (k : okD b = true) : PyData.eqv (toPy a) (toPy b) = peq a b := by
  match a, b with
  | .tup a, .tup b => exact eqvs_of a b h k
  | .lst a, .lst b => exact eqvs_of a b h k
  | .bl a, .int j => exact decide_eq_decide.mpr ⟨Eq.symm, Eq.symm⟩
  | .str a, .str b => exact decide_eq_decide.mpr tx_inj
  | .non, b => cases b <;> first | rfl | cases k
  | .bl a, .bl b => rfl
  | .bl a, .non | .bl a, .str _ | .bl a, .tup _ | .bl a, .lst _ => rfl
  | .int i, .int j => rfl
  | .int i, .bl j => rfl
  | .int a, .non | .int a, .str _ | .int a, .tup _ | .int a, .lst _ => rfl
  | .str a, .non | .str a, .int _ | .str a, .bl _ | .str a, .tup _ | .str a, .lst _ => rfl
  | .tup a, .non | .tup a, .int _ | .tup a, .bl _ | .tup a, .str _ | .tup a, .lst _ => rfl
  | .lst a, .non | .lst a, .int _ | .lst a, .bl _ | .lst a, .str _ | .lst a, .tup _ => rfl
  | .rep _, _ => cases h
  | .ref _, _ => cases h
  | .scr _, _ => cases h
  | .bl _, .scr _ | .int _, .scr _ | .str _, .scr _ | .tup _, .scr _ | .lst _, .scr _ => cases k
  | .bl _, .rep _ | .int _, .rep _ | .str _, .rep _ | .tup _, .rep _ | .lst _, .rep _ => cases k
  | .bl _, .ref _ | .int _, .ref _ | .str _, .ref _ | .tup _, .ref _ | .lst _, .ref _ => cases k
theorem eqvs_of (a b : List D) (h : okDs a = true) (k : okDs b = true) : PyData.eqvAll (toPys a) (toPys b) = peqs a b := by
  match a, b with
  | [], [] => rfl
  | [], _ :: _ => rfl
  | _ :: _, [] => rfl
  | a :: as, b :: bs =>
    have h' := Bool.and_eq_true_iff.mp (show (okD a && okDs as) = true from h)
    have k' := Bool.and_eq_true_iff.mp (show (okD b && okDs bs) = true from k)
    show (PyData.eqv (toPy a) (toPy b) && PyData.eqvAll (toPys as) (toPys bs)) = (peq a b && peqs as bs)
    rw [eqv_of a b h'.1 k'.1, eqvs_of as bs h'.2 k'.2]
end
end Mn

/-! Operations by values: what the machine answers is what Python answers. -/
namespace Mn
open PySem PySem.Spec PyProof.Rows L2

/-- what is fixed through a def: the written part, subclasses, calls, the classes' places -/
structure Pm where
  K : PySem.W.Frag
  sub : Nat → Nat → Bool
  cl : Calls
  ca : Nat → Addr
def XRel (ca : Nat → Addr) (x : Ex) (cls : Value) (d : Option Addr) : Prop := cls = .ref (ca x.cls) ∧ (x.fs = [] → d = none)
section
variable {α β γ δ : Type}
def Post (p : Pm) (F Z : Hp) (m : Mp) (T : Hp → Mp → α → β → Prop) (Q : β → Hp → Prop) (E : XK) : R α → Prop
  | .ok d S => ∀ Z' m' H' v, Ext Z m Z' m' → SR p.K F Z' m' S H' → T Z' m' d v → Q v H'
  | .exc x S => ∀ Z' m' H' cls d, Ext Z m Z' m' → SR p.K F Z' m' S H' → XRel p.ca x cls d → E cls d H'
  | .bad => False
variable {p : Pm} {F Z Z1 : Hp} {m m1 : Mp} {T : Hp → Mp → α → β → Prop} {T' : Hp → Mp → γ → δ → Prop} {Q : β → Hp → Prop} {Q' : δ → Hp → Prop} {E : XK}
theorem Post.ext {r : R α} (h : Post p F Z m T Q E r) (e : Ext Z m Z1 m1) : Post p F Z1 m1 T Q E r := by
  cases r with
  | ok d S => exact fun Z' m' H' v e' => h Z' m' H' v (e.trans e')
  | exc x S => exact fun Z' m' H' c d e' => h Z' m' H' c d (e.trans e')
  | bad => exact h
theorem Post.bind {r : R α} {f : α → Sto → R γ} {G : β → Hp → Prop} (h : Post p F Z m T' Q' E (r.bind f))
    (k : ∀ d S1 Z1 m1 H1 v, r = .ok d S1 → Ext Z m Z1 m1 → SR p.K F Z1 m1 S1 H1 → T Z1 m1 d v → Post p F Z1 m1 T' Q' E (f d S1) → G v H1) : Post p F Z m T G E r := by
  cases r with
  | ok d S =>
    intro Z' m' H' v e s t
    exact k d S Z' m' H' v rfl e s t (Post.ext (r := f d S) h e)
  | exc x S => exact h
  | bad => exact h
theorem Post.of {S : Sto} {o : Option α} {f : α → Sto → R γ} (h : Post p F Z m T' Q' E ((R.of S o).bind f)) : ∃ a, o = some a ∧ Post p F Z m T' Q' E (f a S) := by
  cases o with
  | none => exact False.elim h
  | some a => exact ⟨a, rfl, h⟩
theorem Post.now {d : α} {S : Sto} {H : Hp} {v : β} (h : Post p F Z m T Q E (.ok d S)) (s : SR p.K F Z m S H) (t : T Z m d v) : Q v H := h Z m H v Ext.refl s t
end
section
variable {p : Pm} {F Z H : Hp} {m : Mp} {S : Sto} {E : XK}
/-- the answer is a new thing that stands still -/
theorem Post.newZ {d : D} {Q : VK} {o : HO} (h : Post p F Z m (RD p.K) Q E (.ok d S)) (s : SR p.K F Z m S H) (k : ∀ Z' a, Ext Z m Z' m → Z' a = some o → RD p.K Z' m d (.ref a)) (a : Addr) (ha : H a = none) : Q (.ref a) (upd H a o) := by
  obtain ⟨s1, e1⟩ := s.newZ o ha
  exact h _ _ _ _ e1 s1 (k _ _ e1 upd_same)
/-- the answer is a new cell -/
theorem Post.newC {xs : List D} {vs : List V} {Q : VK} (h : Post p F Z m (RD p.K) Q E (.ok (.ref S.next) (S.new (.lst xs)))) (s : SR p.K F Z m S H) (r : RDs p.K Z m xs vs) (a : Addr) (ha : H a = none) : Q (.ref a) (upd H a (.lst vs)) := by
  obtain ⟨s1, e1, r1⟩ := s.newC ha r
  exact h _ _ _ _ e1 s1 r1
theorem Post.newL {xs : List D} {vs : List V} {Q : VK} {k : Bool} (h : Post p F Z m (RD p.K) Q E (newL k xs S)) (s : SR p.K F Z m S H) (r : RDs p.K Z m xs vs) : vs.length ≤ sizeLine ∧ ∀ a, H a = none → Q (.ref a) (upd H a (.lst vs)) := by
  unfold Mn.newL at h
  split at h
  · rename_i hl
    refine ⟨by rw [← r.length]; exact hl, fun a ha => ?_⟩
    cases k with
    | true => exact h.newC s r a ha
    | false => exact h.newZ s (fun Z' b e hb => .lst hb (r.mono e)) a ha
  · exact False.elim h
def opOf : BO → Operator
  | .add => .Add
  | .sub => .Sub
  | .mul => .Mult
  | .fdiv => .FloorDiv
  | .mod => .Mod
  | .pow => .Pow
abbrev rBop (p : Pm) (E : XK) (o : BO) : R2 := fun v w H Q => ∃ F Z m S x y, SR p.K F Z m S H ∧ RD p.K Z m x v ∧ RD p.K Z m y w ∧ Post p F Z m (RD p.K) Q E (bop o x y S)
theorem sml_ok {i : Int} (h : sml i = true) : -(2 ^ 64) < i ∧ i < 2 ^ 64 := by
  have := of_decide_eq_true h
  omega
theorem line_eq : line = sizeLine := rfl
theorem tx_append (a b : List Nat) : tx a ++ tx b = tx (a ++ b) := by
  show (⟨a.toArray ++ b.toArray⟩ : Str) = ⟨(a ++ b).toArray⟩
  simp
theorem tx_length (a : List Nat) : (tx a).length = a.length := rfl
theorem op_bop {X : Cx} (hk : X.K = p.K) (o : BO) : OpR X (binaryOp (opOf o)) (rBop p E o) := by
  intro pins s σ H x y v u Q I rx ry h
  obtain ⟨F, Z, m, S, dx, dy, sr, hx, hy, h⟩ := h
  have vx := sr.view hx
  have vy := sr.view hy
  unfold bop at h
  generalize lz S dx = ex at vx h
  generalize lz S dy = ey at vy h
  cases o with
  | add =>
    cases vx <;> cases vy <;> first | exact False.elim h | skip
    · dsimp only at h
      rw [frI_eq] at h
      exact op_add pins s σ H _ _ v u Q I rx ry ⟨_, _, rfl, rfl, h.now sr (.int _)⟩
    · rename_i a b
      dsimp only at h
      split at h
      · rename_i hl
        rw [frL_eq] at h
        refine op_add_str pins s σ H _ _ v u Q I rx ry ⟨_, _, rfl, rfl, hl, ?_⟩
        rw [tx_append]
        exact h.now sr (.str _)
      · exact False.elim h
    · rename_i xs a vs h1 h2 ys b ws h3 h4
      dsimp only at h
      split at h
      · rename_i hl
        rw [frL_eq] at h
        rw [h2.length, h4.length] at hl
        have g1 := seqT sr.zs h1
        have g3 := seqT sr.zs h3
        rw [← hk] at g1 g3
        refine op_catA pins s σ H _ _ v u Q I rx ry ⟨a, b, vs, ws, rfl, rfl, g1, g3, hl, fun e => ?_, fun _ e => ?_, fun _ _ q hq => ?_⟩
        · subst e
          have z : xs = [] := List.length_eq_zero_iff.mp (by rw [h2.length]; rfl)
          subst z
          exact h.now sr (.tup h3 h4)
        · subst e
          have z : ys = [] := List.length_eq_zero_iff.mp (by rw [h4.length]; rfl)
          subst z
          rw [List.append_nil] at h
          exact h.now sr (.tup h1 h2)
        · exact h.newZ sr (fun Z' c e hc => .tup (.inl (.inl hc)) ((h2.append h4).mono e)) q hq
      · exact False.elim h
    · rename_i xs a vs h1 h2 ys b ws h3 h4
      dsimp only at h
      split at h
      · rename_i hl
        rw [frL_eq] at h
        rw [h2.length, h4.length] at hl
        exact op_cat pins s σ H _ _ v u Q I rx ry ⟨a, b, vs, ws, rfl, rfl, h1, h3, hl, fun q hq => h.newZ sr (fun Z' c e hc => .lst hc ((h2.append h4).mono e)) q hq⟩
      · exact False.elim h
  | sub =>
    cases vx <;> cases vy <;> first | exact False.elim h | skip
    dsimp only at h
    rw [frI_eq] at h
    exact op_sub pins s σ H _ _ v u Q I rx ry ⟨_, _, rfl, rfl, h.now sr (.int _)⟩
  | mul =>
    cases vx <;> cases vy <;> first | exact False.elim h | skip
    · rename_i i j
      dsimp only at h
      split at h
      · rename_i hl
        rw [frI_eq] at h
        have q : Q (.int (i * j)) H := h.now sr (.int _)
        rcases Bool.or_eq_true_iff.mp hl with hl | hl
        · rcases Bool.or_eq_true_iff.mp hl with hl | hl
          · exact op_mul pins s σ H _ _ v u Q I rx ry ⟨_, _, rfl, rfl, .inl (sml_ok hl), q⟩
          · exact op_mul pins s σ H _ _ v u Q I rx ry ⟨_, _, rfl, rfl, .inr (sml_ok hl), q⟩
        · refine op_mulW pins s σ H _ _ v u Q I rx ry ⟨_, _, rfl, rfl, ?_, q⟩
          have := of_decide_eq_true hl
          unfold CMulW
          omega
      · exact False.elim h
    · rename_i xs a vs h1 h2 j
      dsimp only at h
      split at h
      · rename_i hl
        simp only [Bool.and_eq_true, decide_eq_true_eq] at hl
        obtain ⟨⟨l1, l2⟩, l3⟩ := hl
        rw [frL_eq] at h
        rw [h2.length] at l3
        exact op_rep pins s σ H _ _ v u Q I rx ry ⟨a, j, vs, rfl, rfl, h1, by omega, by omega, l3, fun q hq => h.newZ sr (fun Z' c e hc => .lst hc ((h2.rep _).mono e)) q hq⟩
      · exact False.elim h
  | fdiv =>
    cases vx <;> cases vy <;> first | exact False.elim h | skip
    dsimp only at h
    split at h
    · rename_i hl
      simp only [Bool.and_eq_true, decide_eq_true_eq] at hl
      rw [frI_eq] at h
      exact op_fdiv pins s σ H _ _ v u Q I rx ry ⟨_, _, rfl, rfl, hl, h.now sr (.int _)⟩
    · exact False.elim h
  | mod =>
    cases vx <;> cases vy <;> first | exact False.elim h | skip
    dsimp only at h
    split at h
    · rename_i hl
      rw [frI_eq] at h
      exact op_mod pins s σ H _ _ v u Q I rx ry ⟨_, _, rfl, rfl, of_decide_eq_true hl, h.now sr (.int _)⟩
    · exact False.elim h
  | pow =>
    cases vx <;> cases vy <;> first | exact False.elim h | skip
    dsimp only at h
    split at h
    · rename_i hl
      simp only [Bool.and_eq_true, decide_eq_true_eq] at hl
      obtain ⟨⟨l1, l2⟩, l3⟩ := hl
      rw [frI_eq] at h
      exact op_pow pins s σ H _ _ v u Q I rx ry ⟨_, _, rfl, rfl, ⟨l1, l2, of_decide_eq_true l3⟩, h.now sr (.int _)⟩
    · exact False.elim h
/-! ### comparisons -/
def cmpOf : CO → CmpOp
  | .eq => .Eq
  | .ne => .NotEq
  | .lt => .Lt
  | .le => .LtE
  | .gt => .Gt
  | .ge => .GtE
  | .is => .Is
  | .isn => .IsNot
  | .inn => .In
  | .nin => .NotIn
abbrev rCop (p : Pm) (o : CO) : R2 := fun v w H Q => ∃ F Z m S x y k, SR p.K F Z m S H ∧ RD p.K Z m x v ∧ RD p.K Z m y w ∧ cop o x y S = some k ∧ Q (.bl k) H
theorem eqD_cases {x y : D} {k : Bool} (h : eqD x y = some k) : (∃ a, x = .rep a ∧ y = .rep a ∧ k = true) ∨ (okD x = true ∧ okD y = true ∧ dpt x ≤ 64 ∧ dpt y ≤ 64 ∧ k = peq x y) := by
  have gen : ∀ {x y : D}, eqOf x y = some k → okD x = true ∧ okD y = true ∧ dpt x ≤ 64 ∧ dpt y ≤ 64 ∧ k = peq x y := fun {x y} h => by
    unfold eqOf at h
    split at h
    · rename_i hl
      simp only [Bool.and_eq_true, decide_eq_true_eq] at hl
      exact ⟨hl.1.1.1, hl.1.1.2, hl.1.2, hl.2, (Option.some.inj h).symm⟩
    · cases h
  unfold eqD at h
  split at h
  · rename_i a b
    split at h
    · rename_i hl
      cases h
      exact .inl ⟨a, rfl, by rw [D.beq_ok _ _ hl], rfl⟩
    · cases h
  · exact .inr (gen h)
theorem op_cop {X : Cx} (hk : X.K = p.K) (hu : X.A.units + 64 < cLine) (o : CO) : OpR X (compareOp (cmpOf o)) (rCop p o) := by
  intro pins s σ H x y v u Q I rx ry h
  obtain ⟨F, Z, m, S, dx, dy, k, sr, hx, hy, h, q⟩ := h
  have vx := sr.view hx
  have vy := sr.view hy
  have same : ∀ {a : D} {vx vy : V}, RV p.K H Z m (.rep a) vx → RV p.K H Z m (.rep a) vy → vx = vy ∧ ∃ z, vx = .str z := fun {a vx vy} h1 h2 => by
    cases h1
    cases h2
    exact ⟨rfl, _, rfl⟩
  have bq : ∀ a b : Bool, decide (a = b) = (a == b) := by decide
  cases o with
  | eq =>
    unfold cop at h
    rcases eqD_cases h with ⟨a, e1, e2, rfl⟩ | ⟨k1, k2, d1, d2, rfl⟩
    · rw [e1] at vx
      rw [e2] at vy
      obtain ⟨rfl, z, rfl⟩ := same vx vy
      refine op_eq pins s σ H _ _ v u Q I rx ry ⟨rfl, ?_⟩
      rw [decide_eq_true rfl]
      exact q
    · have p1 := vx.dp sr.zs k1
      have p2 := vy.dp sr.zs k2
      rw [← hk] at p1 p2
      refine op_eqD hu pins s σ H _ _ v u Q I rx ry ⟨_, _, p1, p2, shaped_of k1 d1, shaped_of k2 d2, ?_⟩
      rw [eqv_of _ _ k1 k2]
      exact q
  | ne =>
    have h : (eqD (lz S dx) (lz S dy)).map not = some k := h
    cases e : eqD (lz S dx) (lz S dy) with
    | none =>
      rw [e] at h
      cases h
    | some b =>
      rw [e] at h
      cases h
      rcases eqD_cases e with ⟨a, e1, e2, rfl⟩ | ⟨k1, k2, d1, d2, rfl⟩
      · rw [e1] at vx
        rw [e2] at vy
        obtain ⟨rfl, z, rfl⟩ := same vx vy
        refine op_ne pins s σ H _ _ v u Q I rx ry ⟨rfl, ?_⟩
        rw [decide_eq_true rfl]
        exact q
      · have p1 := vx.dp sr.zs k1
        have p2 := vy.dp sr.zs k2
        rw [← hk] at p1 p2
        refine op_neD hu pins s σ H _ _ v u Q I rx ry ⟨_, _, p1, p2, shaped_of k1 d1, shaped_of k2 d2, ?_⟩
        rw [eqv_of _ _ k1 k2]
        exact q
  | lt =>
    unfold cop at h
    cases hx <;> cases hy <;> first | (cases h; done) | skip
    cases h
    exact op_lt pins s σ H _ _ v u Q I rx ry ⟨_, _, rfl, rfl, q⟩
  | le =>
    unfold cop at h
    cases hx <;> cases hy <;> first | (cases h; done) | skip
    cases h
    exact op_le pins s σ H _ _ v u Q I rx ry ⟨_, _, rfl, rfl, q⟩
  | gt =>
    unfold cop at h
    cases hx <;> cases hy <;> first | (cases h; done) | skip
    cases h
    exact op_gt pins s σ H _ _ v u Q I rx ry ⟨_, _, rfl, rfl, q⟩
  | ge =>
    unfold cop at h
    cases hx <;> cases hy <;> first | (cases h; done) | skip
    cases h
    exact op_ge pins s σ H _ _ v u Q I rx ry ⟨_, _, rfl, rfl, q⟩
  | is =>
    have h : isD dx dy = some k := h
    cases hy with
    | non =>
      refine op_isN pins s σ H _ _ v u Q I rx ry ⟨rfl, ?_⟩
      cases hx <;> (cases h; exact q)
    | bl b =>
      cases hx <;> first | (cases h; done) | skip
      cases h
      refine op_isBl pins s σ H _ _ v u Q I rx ry ⟨_, b, rfl, rfl, ?_⟩
      rw [bq]
      exact q
    | _ => cases hx <;> cases h
  | isn =>
    have h : (isD dx dy).map not = some k := h
    cases hy with
    | non =>
      refine op_notN pins s σ H _ _ v u Q I rx ry ⟨rfl, ?_⟩
      cases hx <;> (cases h; exact q)
    | bl b =>
      cases hx <;> first | (cases h; done) | skip
      cases h
      refine op_notBl pins s σ H _ _ v u Q I rx ry ⟨_, b, rfl, rfl, ?_⟩
      rw [bq]
      exact q
    | _ => cases hx <;> cases h
  | inn => cases h
  | nin => cases h
end
end Mn

/-! Built-in functions by values. -/
namespace Mn
open PySem PySem.Spec PyProof.Rows L2
theorem textFrom_le : ∀ (ts : List Str) (k : Nat) (acc : Str), (textFrom k acc ts).length ≤ acc.length + piled ts
  | [], k, acc => by
    show acc.length ≤ _
    omega
  | t :: r, k, acc => by
    have ih := textFrom_le r (k + 1) (acc ++ (if k > 0 then ", " else "" : String) ++ t)
    have e : (acc ++ (if k > 0 then ", " else "" : String) ++ t).length ≤ acc.length + 2 + t.length := by
      rw [strLen_append, strLen_append]
      split
      · exact Nat.le_refl _
      · show acc.length + 0 + t.length ≤ _
        omega
    show (textFrom (k + 1) _ r).length ≤ _
    rw [piled_cons]
    omega
theorem join_le : ∀ ts : List Str, (Str.join ", " ts).length ≤ piled ts
  | [] => Nat.zero_le _
  | t :: r => by
    have := join_length_add (t :: r) (by simp)
    omega
mutual
theorem shown_le : ∀ {d : D}, okD d = true → (PyData.shown (toPy d)).length ≤ shL d
  | .non, _ => by decide
  | .bl b, _ => by cases b <;> decide
  | .int i, _ => by
    show (Str.ofString (toString i)).length ≤ i.natAbs.log2 + 3
    rw [PySem.ofString_length]
    have := int_text_length_le (a := i) (k := i.natAbs.log2 + 1) (Nat.succ_pos _) (Nat.lt_succ_self _)
    omega
  | .str s, h => by
    show (reprText (tx s)).length ≤ 10 * s.length + 2
    refine StrLaws.reprText_len (tx s) fun c hc => ?_
    have h2 : ∀ x ∈ s, x < 0x110000 := by simpa [okD] using h
    have := h2 c hc
    omega
  | .tup xs, h => by
    have ih := shown_les (d := xs) (by simpa [okD] using h)
    show (tupleText (PyData.shownAll (toPys xs))).length ≤ shLs xs + 4
    unfold tupleText
    rw [strLen_append, strLen_append]
    have j := join_le (PyData.shownAll (toPys xs))
    have e1 : (("(" : String) : Str).length = 1 := rfl
    have e2 : ((if (PyData.shownAll (toPys xs)).length == 1 then ",)" else ")" : String) : Str).length ≤ 2 := by
      split <;> decide
    omega
  | .lst xs, h => by
    have ih := shown_les (d := xs) (by simpa [okD] using h)
    show (listText (PyData.shownAll (toPys xs))).length ≤ shLs xs + 4
    unfold listText
    rw [strLen_append]
    have j := textFrom_le (PyData.shownAll (toPys xs)) 0 "["
    have e1 : (("[" : String) : Str).length = 1 := rfl
    have e2 : (("]" : String) : Str).length = 1 := rfl
    omega
  | .rep _, h => by simp [okD] at h
  | .ref _, h => by simp [okD] at h
  | .scr _, h => by simp [okD] at h
theorem shown_les : ∀ {d : List D}, okDs d = true → piled (PyData.shownAll (toPys d)) ≤ shLs d
  | [], _ => Nat.le_refl _
  | x :: xs, h => by
    simp only [okDs, Bool.and_eq_true] at h
    have h1 := shown_le h.1
    have h2 := shown_les h.2
    show piled (PyData.shown (toPy x) :: PyData.shownAll (toPys xs)) ≤ shL x + 2 + shLs xs
    rw [piled_cons]
    omega
end
mutual
theorem noDict_of : ∀ d : D, (toPy d).hasDict = false
  | .non | .bl _ | .int _ | .str _ | .rep _ | .ref _ | .scr _ => rfl
  | .tup xs => noDicts_of xs
  | .lst xs => noDicts_of xs
theorem noDicts_of : ∀ d : List D, PyData.hasDictAll (toPys d) = false
  | [] => rfl
  | x :: xs => by
    show (PyData.hasDict (toPy x) || PyData.hasDictAll (toPys xs)) = false
    rw [noDict_of x, noDicts_of xs]
    rfl
end
section
variable {X : Cx} {pins : List (Addr × Obj)} {σ : L2.St} {H : Hp} {s : Shared}
theorem repr_ok (I : L2.Inv X pins σ H s) (hg : X.A.guards = some []) (hu : X.A.units + 66 < cLine) {a : Addr} {d : D} (hd : shwD d = true) (hp : Dp X.K H (.ref a) (toPy d)) {Q : VK} (q : Q (.str (PyData.shown (toPy d))) H) :
    wpAny (model X.prog X.w) X.A (call (.builtin "repr") [.ref a]) (EP X pins σ Q) X.xe s := by
  unfold shwD at hd
  simp only [Bool.and_eq_true, decide_eq_true_eq] at hd
  obtain ⟨⟨⟨h1, h2⟩, h3⟩, h4⟩ := hd
  obtain ⟨as, r⟩ := Dp.reads I _ _ _ hp rfl
  have hdp : (toPy d).depth ≤ 64 := by rw [depth_of]; exact h3
  refine repr_of_reads' r (shows_of h2) (PyData.noDict_hsm (noDict_of d)) hg (by omega) (fun _ _ e => e) (fun h' u tk hk => ?_) (Nat.le_trans (shown_le h1) h4)
  exact ⟨.str _, H, I.kept (t' := tk) hk, ⟨_, rfl⟩, q⟩
end
section
variable {p : Pm} {E : XK}
theorem ints_ok {K : PySem.W.Frag} {Z : Hp} {m : Mp} : ∀ {xs : List D} {vs : List V} {ns : List Int}, intsO xs = some ns → RDs K Z m xs vs → vs = ns.map V.int
  | [], _, _, h, .nil => by
    cases h
    rfl
  | .int i :: r, _, _, h, .cons h1 h2 => by
    cases h1
    have h' : (intsO r).map (i :: ·) = some _ := h
    cases e : intsO r with
    | none =>
      rw [e] at h'
      cases h'
    | some ms =>
      rw [e] at h'
      cases h'
      rw [ints_ok e h2]
      rfl
  | .non :: _, _, _, h, _ | .bl _ :: _, _, _, h, _ | .str _ :: _, _, _, h, _ | .rep _ :: _, _, _, h, _ | .tup _ :: _, _, _, h, _ | .lst _ :: _, _, _, h, _ | .ref _ :: _, _, _, h, _ | .scr _ :: _, _, _, h, _ => by cases h
theorem bools_ok {K : PySem.W.Frag} {Z : Hp} {m : Mp} : ∀ {xs : List D} {vs : List V} {ns : List Bool}, boolsO xs = some ns → RDs K Z m xs vs → vs = ns.map V.bl
  | [], _, _, h, .nil => by
    cases h
    rfl
  | .bl i :: r, _, _, h, .cons h1 h2 => by
    cases h1
    have h' : (boolsO r).map (i :: ·) = some _ := h
    cases e : boolsO r with
    | none =>
      rw [e] at h'
      cases h'
    | some ms =>
      rw [e] at h'
      cases h'
      rw [bools_ok e h2]
      rfl
  | .non :: _, _, _, h, _ | .int _ :: _, _, _, h, _ | .str _ :: _, _, _, h, _ | .rep _ :: _, _, _, h, _ | .tup _ :: _, _, _, h, _ | .lst _ :: _, _, _, h, _ | .ref _ :: _, _, _, h, _ | .scr _ :: _, _, _, h, _ => by cases h
def biOf : Bi → Value
  | .len => .builtin "len"
  | .abs => .builtin "abs"
  | .int => .type "int"
  | .list => .type "list"
  | .tuple => .type "tuple"
  | .repr => .builtin "repr"
  | .sum => .builtin "sum"
  | .all => .builtin "all"
  | .any => .builtin "any"
abbrev rBi (p : Pm) (E : XK) (b : Bi) (k : Bool) : List V → Hp → VK → Prop := fun vs H Q => ∃ F Z m S x v, vs = [v] ∧ SR p.K F Z m S H ∧ RD p.K Z m x v ∧ Post p F Z m (RD p.K) Q E (biF b k x S)
theorem RDs.mapI {K : PySem.W.Frag} {Z : Hp} {m : Mp} : ∀ ns : List Int, RDs K Z m (ns.map .int) (ns.map V.int)
  | [] => .nil
  | n :: ns => .cons (.int n) (RDs.mapI ns)
theorem call_bi {X : Cx} (hk : X.K = p.K) (hc : X.calm = true) (hg : X.A.guards = some []) (hu : X.A.units + 66 < cLine) (b : Bi) (k : Bool) : CallR X (biOf b) (rBi p E b k) := by
  intro pins s σ H xs us Q I r h
  obtain ⟨F, Z, m, S, x, v, rfl, sr, hx, h⟩ := h
  have vx := sr.view hx
  unfold biF at h
  generalize lz S x = ex at vx h
  cases b with
  | len =>
    cases vx <;> first | exact False.elim h | skip
    · dsimp only at h
      split at h
      · rename_i hl
        rw [frN_eq] at h
        exact call_len_str pins s σ H _ us Q I r ⟨_, rfl, hl, h.now sr (.int _)⟩
      · exact False.elim h
    · rename_i h1 h2
      dsimp only at h
      rw [frN_eq, h2.length] at h
      exact call_len_seq pins s σ H _ us Q I r ⟨_, _, rfl, .inr (by rw [hk]; exact seqT sr.zs h1), h.now sr (.int _)⟩
    · rename_i h1 h2
      dsimp only at h
      rw [frN_eq, h2.length] at h
      exact call_len_seq pins s σ H _ us Q I r ⟨_, _, rfl, .inl (.inl (.inl h1)), h.now sr (.int _)⟩
  | abs =>
    cases vx <;> first | exact False.elim h | skip
    dsimp only at h
    rw [frI_eq] at h
    exact call_abs pins s σ H _ us Q I r ⟨_, rfl, h.now sr (.int _)⟩
  | int =>
    cases vx <;> first | exact False.elim h | skip
    · exact call_int1 pins s σ H _ us Q I r (.inr ⟨_, rfl, h.now sr (.int _)⟩)
    · exact call_int1 pins s σ H _ us Q I r (.inl ⟨_, rfl, h.now sr (.int _)⟩)
  | list =>
    cases vx <;> first | exact False.elim h | skip
    · rename_i h1 h2
      exact call_list_of pins s σ H _ us Q I r ⟨_, _, rfl, .inr (by rw [hk]; exact seqT sr.zs h1), (h.newL sr h2).2⟩
    · rename_i h1 h2
      exact call_list_of pins s σ H _ us Q I r ⟨_, _, rfl, .inl (.inl (.inl h1)), (h.newL sr h2).2⟩
    · rename_i h1
      exact call_list_of pins s σ H _ us Q I r ⟨_, _, rfl, .inl (by rw [hk]; exact seqL sr.zs h1), (h.newL sr (RDs.mapI _)).2⟩
  | tuple =>
    cases vx <;> first | exact False.elim h | skip
    · rename_i h1 h2
      exact call_tuple_of pins s σ H _ us Q I r ⟨_, _, rfl, .inr ⟨by rw [hk]; exact seqT sr.zs h1, h.now sr (.tup h1 h2)⟩⟩
    · rename_i h1 h2
      exact call_tuple_of pins s σ H _ us Q I r ⟨_, _, rfl, .inl ⟨.inl (.inl h1), fun l hl => h.newZ sr (fun Z' c e hc => .tup (.inl (.inl hc)) (h2.mono e)) l hl⟩⟩
  | repr =>
    obtain ⟨u, rfl, ru⟩ : ∃ u, us = [u] ∧ RelV v u := by
      cases r with
      | cons a b =>
        cases b
        exact ⟨_, rfl, a⟩
    cases vx <;> first | exact False.elim h | skip
    · rename_i h1 h2
      dsimp only at h
      split at h
      · rename_i hs
        cases ru
        have ok : okD (.tup _) = true := (Bool.and_eq_true_iff.mp (Bool.and_eq_true_iff.mp (Bool.and_eq_true_iff.mp hs).1).1).1
        have hp := (RV.tup (H := H) h1 h2).dp sr.zs ok
        rw [← hk] at hp
        exact repr_ok I hg hu hs hp (h.now sr (.rep _))
      · exact False.elim h
    · rename_i h1 h2
      dsimp only at h
      split at h
      · rename_i hs
        cases ru
        have ok : okD (.lst _) = true := (Bool.and_eq_true_iff.mp (Bool.and_eq_true_iff.mp (Bool.and_eq_true_iff.mp hs).1).1).1
        have hp := (RV.lst h1 h2).dp sr.zs ok
        rw [← hk] at hp
        exact repr_ok I hg hu hs hp (h.now sr (.rep _))
      · exact False.elim h
  | sum =>
    cases vx <;> first | exact False.elim h | skip
    rename_i h1 h2
    dsimp only at h
    split at h
    · rename_i ns e
      rw [frI_eq] at h
      rw [ints_ok e h2] at h1
      exact cr_sum hc pins s σ H _ us Q I r ⟨_, ns, rfl, .inl (.inl h1), h.now sr (.int _)⟩
    · exact False.elim h
  | all =>
    cases vx <;> first | exact False.elim h | skip
    rename_i h1 h2
    dsimp only at h
    split at h
    · rename_i ns e
      rw [bools_ok e h2] at h1
      exact cr_all hc pins s σ H _ us Q I r ⟨_, ns, rfl, .inl (.inl h1), h.now sr (.bl _)⟩
    · exact False.elim h
  | any =>
    cases vx <;> first | exact False.elim h | skip
    rename_i h1 h2
    dsimp only at h
    split at h
    · rename_i ns e
      rw [bools_ok e h2] at h1
      exact cr_any hc pins s σ H _ us Q I r ⟨_, ns, rfl, .inl (.inl h1), h.now sr (.bl _)⟩
    · exact False.elim h
end
end Mn

/-! Subscripts, slices, stores, isinstance, by values. -/
namespace Mn
open PySem PySem.Spec PyProof.Rows L2
section
variable {p : Pm} {E : XK}
/-! ### isinstance -/
def tyOf : Ty → String
  | .int => "int"
  | .bool => "bool"
  | .str => "str"
  | .tuple => "tuple"
  | .list => "list"
theorem RD.ty {K : PySem.W.Frag} {F Z H : Hp} {m : Mp} {S : Sto} (sr : SR K F Z m S H) {x : D} {v : V} (h : RD K Z m x v) : (∃ n a, x = .ref n ∧ v = .ref a) ∨ (∃ a ns, x = .scr ns ∧ v = .ref a) ∨ ∃ T, TyX K H v (.type T) ∧
    ((x = .non ∧ T = "NoneType") ∨ (∃ b, x = .bl b ∧ T = "bool") ∨ (∃ i, x = .int i ∧ T = "int") ∨ (∃ s, x = .str s ∧ T = "str") ∨ (∃ s, x = .rep s ∧ T = "str") ∨ (∃ s, x = .tup s ∧ T = "tuple") ∨ (∃ s, x = .lst s ∧ T = "list")) := by
  cases h with
  | non => exact .inr (.inr ⟨_, .base .non, .inl ⟨rfl, rfl⟩⟩)
  | bl b => exact .inr (.inr ⟨_, .base (.bl b), .inr (.inl ⟨b, rfl, rfl⟩)⟩)
  | int i => exact .inr (.inr ⟨_, .base (.int i), .inr (.inr (.inl ⟨i, rfl, rfl⟩))⟩)
  | str s => exact .inr (.inr ⟨_, .base (.str _), .inr (.inr (.inr (.inl ⟨s, rfl, rfl⟩)))⟩)
  | rep s => exact .inr (.inr ⟨_, .base (.str _), .inr (.inr (.inr (.inr (.inl ⟨s, rfl, rfl⟩))))⟩)
  | tup h hs =>
    refine .inr (.inr ⟨"tuple", ?_, .inr (.inr (.inr (.inr (.inr (.inl ⟨_, rfl, rfl⟩)))))⟩)
    rcases seqT sr.zs h with (h | ⟨o, h⟩) | ⟨o, its, n, h, c, _⟩
    · exact .base (.tup h)
    · exact .fTuple h
    · exact .kTuple h c
  | lst h hs => exact .inr (.inr ⟨"list", .base (.lst (sr.zs _ _ h)), .inr (.inr (.inr (.inr (.inr (.inr ⟨_, rfl, rfl⟩)))))⟩)
  | ref h => exact .inl ⟨_, _, rfl, rfl⟩
  | scr h => exact .inr (.inl ⟨_, _, rfl, rfl⟩)
theorem call_isT {X : Cx} (hk : X.K = p.K) (t : Ty) : CallR X (.builtin "isinstance") (fun vs H Q => ∃ F Z m S x v k, vs = [v, .ty (tyOf t)] ∧ SR p.K F Z m S H ∧ RD p.K Z m x v ∧ isT t x = some k ∧ Q (.bl k) H) := by
  intro pins s σ H xs us Q I r h
  obtain ⟨F, Z, m, S, x, v, k, rfl, sr, hx, h, q⟩ := h
  rcases hx.ty sr with ⟨n, a, rfl, rfl⟩ | ⟨a, ns, rfl, rfl⟩ | ⟨T, ty, hT⟩
  · cases t <;> cases h
  · cases t <;> cases h
  · rw [← hk] at ty
    refine call_isi pins s σ H _ us Q I r ⟨v, .ty (tyOf t), _, _, k, rfl, .ty _, ty, ?_, q⟩
    rcases hT with ⟨rfl, rfl⟩ | ⟨b, rfl, rfl⟩ | ⟨b, rfl, rfl⟩ | ⟨b, rfl, rfl⟩ | ⟨b, rfl, rfl⟩ | ⟨b, rfl, rfl⟩ | ⟨b, rfl, rfl⟩ <;> cases t <;> first | (cases h; done) | (cases h; exact kit_ty (by decide +kernel))
/-! ### subscripts -/
theorem nth_ok {K : PySem.W.Frag} {Z : Hp} {m : Mp} {ds : List D} {vs : List V} {i : Int} {d : D} (h : nth ds i = some d) (r : RDs K Z m ds vs) : ∃ v, atI vs i = some v ∧ RD K Z m d v := by
  have hl := r.length
  have key : ∀ j : Nat, ds[j]? = some d → ixN vs.length i = some j → ∃ v, atI vs i = some v ∧ RD K Z m d v := fun j e e2 => by
    obtain ⟨w, h1, h2⟩ := r.get e
    exact ⟨w, by unfold atI; rw [e2]; exact h1, h2⟩
  unfold nth at h
  split at h
  · rename_i h0
    have hlt := (List.getElem?_eq_some_iff.mp h).1
    refine key _ h ?_
    unfold ixN
    rw [if_pos h0, if_pos (by omega)]
  · rename_i h0
    split at h
    · rename_i h1
      have hlt := (List.getElem?_eq_some_iff.mp h).1
      refine key _ h ?_
      unfold ixN
      rw [if_neg h0, if_pos (by omega), hl]
    · cases h
abbrev rIxf (p : Pm) : R2 := fun v w H Q => ∃ F Z m S x y d, SR p.K F Z m S H ∧ RD p.K Z m x v ∧ RD p.K Z m y w ∧ ixf x y S = some d ∧ ∀ u, RD p.K Z m d u → Q u H
theorem ix_ixf {X : Cx} (hk : X.K = p.K) : IxR X (rIxf p) := by
  intro value slice pins s σ H x y v u Q I rx ry h hs
  obtain ⟨F, Z, m, S, dx, dy, d, sr, hx, hy, h, q⟩ := h
  have vx := sr.view hx
  unfold ixf at h
  generalize lz S dx = ex at vx h
  cases vx <;> first | (cases h; done) | skip
  · rename_i h1 h2
    cases hy <;> first | (cases h; done) | skip
    obtain ⟨w, e, rd⟩ := nth_ok h h2
    exact ix_tup value slice pins s σ H _ _ v u Q I rx ry ⟨_, _, _, w, rfl, rfl, by rw [hk]; exact seqT sr.zs h1, e, q _ rd⟩ hs
  · rename_i h1 h2
    cases hy <;> first | (cases h; done) | skip
    obtain ⟨w, e, rd⟩ := nth_ok h h2
    exact ix_list value slice pins s σ H _ _ v u Q I rx ry ⟨_, _, _, w, rfl, rfl, .inl (.inl h1), e, q _ rd⟩ hs
/-! ### slices -/
theorem bnd_eq (n d : Nat) (o : Option Int) : HT.sIx n d o = bnd n d o := by
  cases o with
  | none => rfl
  | some v =>
    show (if v < 0 then (v + (n : Int)).toNat else min v.toNat n) = (if v < 0 then (if v + n < 0 then 0 else (v + n).toNat) else if v < n then v.toNat else n)
    split
    · split <;> omega
    · split <;> omega
theorem cut_ok {K : PySem.W.Frag} {Z : Hp} {m : Mp} {ds : List D} {vs : List V} (r : RDs K Z m ds vs) (lo hi : Option Int) : RDs K Z m (cut ds lo hi) (cutV vs lo hi) := by
  unfold cut cutV
  rw [bnd_eq, bnd_eq, ← r.length]
  exact (r.drop _).take _
theorem sl_cut {X : Cx} (hk : X.K = p.K) : SlR X (fun v lo hi H Q => ∃ F Z m S x d, SR p.K F Z m S H ∧ RD p.K Z m x v ∧ cutf x lo hi S = some d ∧ Post p F Z m (RD p.K) Q E (.ok d S)) := by
  intro pins s σ H x v vl vu lo hi sl Q I rx hs pl pu h
  obtain ⟨F, Z, m, S, dx, d, sr, hx, h, q⟩ := h
  have vx := sr.view hx
  unfold cutf at h
  generalize lz S dx = ex at vx h
  cases vx <;> first | (cases h; done) | skip
  · rename_i xs a ws h1 h2
    cases h
    refine sl_tupA pins s σ H _ v vl vu lo hi sl Q I rx hs pl pu ⟨a, ws, rfl, by rw [hk]; exact seqT sr.zs h1, fun e => ?_, fun _ b hb => q.newZ sr (fun Z' c e hc => .tup (.inl (.inl hc)) ((cut_ok h2 lo hi).mono e)) b hb⟩
    have c := cut_ok h2 lo hi
    have e2 : cutV ws lo hi = ws := by
      unfold cutV
      rw [e.1, e.2]
      simp
    rw [e2] at c
    exact q.now sr (.tup h1 c)
  · rename_i xs a ws h1 h2
    cases h
    exact sl_list pins s σ H _ v vl vu lo hi sl Q I rx hs pl pu ⟨a, ws, rfl, .inl (.inl h1), fun b hb => q.newZ sr (fun Z' c e hc => .lst hc ((cut_ok h2 lo hi).mono e)) b hb⟩
/-! ### stores -/
theorem get_of_isCl {S : Sto} {x : D} (h : isCl S x = true) : ∃ n ys, x = .ref n ∧ S.get n = some (.lst ys) := by
  cases x with
  | ref n =>
    have h : (match S.get n with
      | some (.lst _) => true
      | none => false) = true := h
    cases e : S.get n with
    | none =>
      rw [e] at h
      cases h
    | some c =>
      rw [e] at h
      cases c with
      | lst ys => exact ⟨n, ys, rfl, e⟩
  | _ => cases h
/-- the cell at n -/
theorem SR.at {K : PySem.W.Frag} {F Z H : Hp} {m : Mp} {S : Sto} (sr : SR K F Z m S H) {n : Nat} {v : V} {ys : List D} (h : RD K Z m (.ref n) v) (e : S.get n = some (.lst ys)) : ∃ a vs, v = .ref a ∧ m n = some a ∧ H a = some (.lst vs) ∧ RDs K Z m ys vs := by
  cases h with
  | ref h =>
    obtain ⟨a, vs, h1, h2, _, _, h5⟩ := sr.lst n ys e
    rw [h] at h1
    cases h1
    exact ⟨_, vs, rfl, h, h2, h5⟩
theorem mt_mef {X : Cx} : MtR X "list.append" (fun v vs H Q => ∃ F Z m S x xs, SR p.K F Z m S H ∧ RD p.K Z m x v ∧ RDs p.K Z m xs vs ∧ Post p F Z m (RD p.K) Q E (mef .append x xs S)) := by
  intro pins s σ H x xs v us Q I rx rv h
  obtain ⟨F, Z, m, S, dx, dxs, sr, hx, hs, h⟩ := h
  unfold mef at h
  split at h
  · rename_i n d
    split at h
    · rename_i ys e
      split at h
      · rename_i hl
        rw [frL_eq] at h
        obtain ⟨a, vs, rfl, hm, ha, hv⟩ := sr.at hx e
        cases hs with
        | cons hd hn =>
          cases hn
          refine mt_append pins s σ H _ _ v us Q I rx rv ⟨a, vs, _, rfl, rfl, ha, by rw [← hv.length]; exact hl, ?_⟩
          exact h _ _ _ _ Ext.refl (sr.put e hm (hv.append (.one hd))) .non
      · exact False.elim h
    · exact False.elim h
  · exact False.elim h
/-- o[i] = d -/
theorem set_sixf {X : Cx} : PSet X (fun o i v H Q => ∃ F Z m S x y d S', SR p.K F Z m S H ∧ RD p.K Z m x o ∧ RD p.K Z m y i ∧ RD p.K Z m d v ∧ sixf x y d S = some S' ∧ ∀ H', SR p.K F Z m S' H' → Q H') := by
  intro pins s σ H o i v ov iv u Q I ro ri rv h
  obtain ⟨F, Z, m, S, dx, dy, d, S', sr, hx, hy, hd, h, q⟩ := h
  unfold sixf at h
  split at h
  · rename_i n k
    split at h
    · rename_i ys e
      split at h
      · rename_i hl
        rw [frL_eq] at h
        simp only [Bool.and_eq_true, decide_eq_true_eq] at hl
        cases h
        obtain ⟨a, vs, rfl, hm, ha, hv⟩ := sr.at hx e
        cases hy
        refine set_list pins s σ H _ _ v ov iv u Q I ro ri rv ⟨a, vs, k, k.toNat, rfl, rfl, ha, ?_, q _ (sr.put e hm (hv.set hd _))⟩
        unfold ixN
        rw [if_pos hl.1, if_pos (by rw [← hv.length]; exact hl.2)]
      · cases h
    · cases h
  · cases h
/-- name op= value -/
theorem ip_iop {X : Cx} (o : BO) : PIp X (opOf o) (fun v w H Q => ∃ F Z m S x y, SR p.K F Z m S H ∧ RD p.K Z m x v ∧ RD p.K Z m y w ∧ Post p F Z m (RD p.K) Q E (iop o x y S)) := by
  intro pins s σ H x y v u Q I rx ry h
  obtain ⟨F, Z, m, S, dx, dy, sr, hx, hy, h⟩ := h
  unfold iop at h
  split at h
  · cases hx
    cases hy
    rw [frI_eq] at h
    exact ip_add pins s σ H _ _ v u Q I rx ry ⟨_, _, rfl, rfl, h.now sr (.int _)⟩
  · cases hx
    cases hy
    rw [frI_eq] at h
    exact ip_sub pins s σ H _ _ v u Q I rx ry ⟨_, _, rfl, rfl, h.now sr (.int _)⟩
  · rename_i n
    have vy := sr.view hy
    generalize lz S dy = ey at vy h
    split at h
    · rename_i xs ys e
      split at h
      · rename_i hl
        rw [frL_eq] at h
        obtain ⟨a, vs, rfl, hm, ha, hv⟩ := sr.at hx e
        cases vy with
        | lst h1 h2 =>
          exact iop_ext pins s σ H _ _ v u Q I rx ry ⟨a, _, vs, _, rfl, rfl, ha, h1, by rw [← hv.length, ← h2.length]; exact hl, h _ _ _ _ Ext.refl (sr.put e hm (hv.append h2)) hx⟩
      · exact False.elim h
    · exact False.elim h
  · exact False.elim h
end
end Mn

/-! Where code stands; calls; targets; what is walked. -/
namespace Mn
open PySem PySem.Spec PyProof.Rows L2

/-! ### a def, called where no text is being made of a list -/
structure FnG (P : Program) (w : World) (K : PySem.W.Frag) (mg : Str → Option Value) (base : Heap) (k : Nat) (f : Addr) (sp : Sp) : Prop where
  go : ∀ (A : Around) (outer : List PySem.Env) (s : Shared) (H : Hp) (us : List Value) (vs : List V) (Q : VK) (E : XK), Room k A → A.guards = some [] →
    Env0 P w K mg base A outer s H → Vals vs us → sp vs H Q E → codeAny (model P w) A (.call (.ref f) ⟨us, []⟩) (CR (L2.CX P w) outer P w H s Q E) s
section
variable {p : Pm}
/-- what a def of the machine promises -/
def spR (p : Pm) (g : List D → Sto → R D) : Sp := fun vs H Q E => ∃ F Z m S ds, SR p.K F Z m S H ∧ RDs p.K Z m ds vs ∧ Post p F Z m (RD p.K) Q E (g ds S)
/-- where an expression stands -/
structure Cok (p : Pm) (W : WX) (lv : Nat) (X : Cx) : Prop where
  k : X.K = p.K
  calm : X.calm = true
  nd : X.N.Nodup
  room : Room lv X.A
  gd : X.A.guards = some []
  tk : Takes X W
  kind : X.env.scope.kind = .function
theorem Cok.un {W : WX} {lv : Nat} {X : Cx} (c : Cok p W lv X) : X.A.units + 66 < cLine := by
  have := c.room.un
  omega
/-- what a global name stands for -/
inductive GV where
  | fn (i : Nat) | lit (d : D) | exc (c : Nat)
structure Gok (p : Pm) (gl : List (Str × GV)) (bl : List Str) (lv : Nat) (P : Program) (w : World) (mg : Str → Option Value) (base : Heap) : Prop where
  fn : ∀ x i, gl.lookup x = some (.fn i) → ∃ f, mg x = some (.ref f) ∧ PySem.W.keepIn p.K (.ref f) = true ∧ FnG P w p.K mg base lv f (spR p (p.cl i))
  lit : ∀ x d, gl.lookup x = some (.lit d) → ∃ v u, mg x = some u ∧ RelV v u ∧ ∀ Z m, RD p.K Z m d v
  free : ∀ x, x ∈ bl → mg x = none
theorem call_fn {W : WX} {lv : Nat} {X : Cx} (c : Cok p W lv X) {f : Addr} {sp : Sp} (F : FnG X.prog X.w X.K X.mg X.base lv f sp) {pins : List (Addr × Obj)} {σ : L2.St} {H : Hp} {s : Shared} {Q : VK} {us : List Value} {vs : List V}
    (I : L2.Inv X pins σ H s) (r : Vals vs us) (h : sp vs H Q (fun cls d H' => W cls d σ H')) : wpAny (model X.prog X.w) X.A (call (.ref f) us) (EP X pins σ Q) X.xe s := by
  refine wpAny_call (codeAny_mono (F.go X.A X.stack s H us vs Q _ c.room c.gd I.env0 r h) fun e s' hq => ?_)
  cases e with
  | error e => exact passAt c.tk σ pins H s e s' I hq
  | ok fl =>
    cases fl with
    | ret u => exact I.after hq
    | next => exact False.elim hq
    | brk => exact False.elim hq
    | cont => exact False.elim hq

/-! ### slots -/
def RE (K : PySem.W.Frag) (Z : Hp) (m : Mp) (env : Env) (σ : List (Option V)) : Prop := env.length = σ.length ∧ ∀ (i : Nat) (d : D), env[i]? = some (some d) → ∃ v, σ[i]? = some (some v) ∧ RD K Z m d v
section
variable {K : PySem.W.Frag} {Z Z' : Hp} {m m' : Mp} {env : Env} {σ : L2.St}
theorem RE.mono (e : Ext Z m Z' m') (h : RE K Z m env σ) : RE K Z' m' env σ := ⟨h.1, fun i d q => by
  obtain ⟨v, h1, h2⟩ := h.2 i d q
  exact ⟨v, h1, h2.mono e⟩⟩
theorem RE.set (h : RE K Z m env σ) {d : D} {v : V} (i : Nat) (r : RD K Z m d v) : RE K Z m (env.set i (some d)) (σ.set i (some v)) := by
  refine ⟨by rw [List.length_set, List.length_set, h.1], fun j e q => ?_⟩
  by_cases hj : i = j
  · subst hj
    have hl : i < env.length := by
      have := (List.getElem?_eq_some_iff.mp q).1
      rwa [List.length_set] at this
    rw [List.getElem?_set_self hl] at q
    cases q
    exact ⟨v, List.getElem?_set_self (by rw [← h.1]; exact hl), r⟩
  · rw [List.getElem?_set_ne hj] at q
    rw [List.getElem?_set_ne hj]
    exact h.2 j e q
theorem RE.none (h : RE K Z m env σ) (i : Nat) : RE K Z m (env.set i none) (σ.set i none) := by
  refine ⟨by rw [List.length_set, List.length_set, h.1], fun j e q => ?_⟩
  by_cases hj : i = j
  · subst hj
    have hl : i < env.length := by
      have := (List.getElem?_eq_some_iff.mp q).1
      rwa [List.length_set] at this
    rw [List.getElem?_set_self hl] at q
    cases q
  · rw [List.getElem?_set_ne hj] at q
    rw [List.getElem?_set_ne hj]
    exact h.2 j e q
theorem RE.wipe (h : RE K Z m env σ) : ∀ vs : List Nat, RE K Z m (wipeE env vs) (L2.wipe σ vs)
  | [] => h
  | v :: vs => (h.wipe vs).none v
end

/-! ### targets -/
mutual
/-- the slots that a target stores -/
def tgSl : Tg → List Nat
  | .nm i => [i]
  | .tp ts => tgSls ts
def tgSls : List Tg → List Nat
  | [] => []
  | t :: ts => tgSl t ++ tgSls ts
end
/-- only these slots are others -/
def OnlyAt (l : List Nat) (σ σ' : List (Option V)) : Prop := ∀ vs : List Nat, (∀ i ∈ l, i ∈ vs) → L2.wipe σ' vs = L2.wipe σ vs
theorem wipe_set (σ : List (Option V)) : ∀ (vs : List Nat) (i : Nat) (x : Option V), i ∈ vs → L2.wipe (σ.set i x) vs = L2.wipe σ vs
  | [], _, _, h => by cases h
  | v :: vs, i, x, h => by
    unfold L2.wipe
    by_cases hi : i ∈ vs
    · rw [wipe_set σ vs i x hi]
    · rcases List.mem_cons.mp h with e | e
      · subst e
        have out : ∀ (us : List Nat) (σ : List (Option V)), i ∉ us → L2.wipe (σ.set i x) us = (L2.wipe σ us).set i x := fun us => by
          induction us with
          | nil => exact fun _ _ => rfl
          | cons u us ih =>
            intro σ hn
            unfold L2.wipe
            have h1 : i ≠ u := fun z => hn (by rw [z]; exact List.mem_cons_self)
            have h2 : i ∉ us := fun z => hn (List.mem_cons_of_mem _ z)
            rw [ih σ h2, List.set_comm _ _ h1]
        rw [out vs σ hi, List.set_set]
      · exact absurd e hi
/-- what a target asks -/
def tG (p : Pm) (t : Tg) : TG := fun v σ H Q => ∃ F Z m S env d env', RE p.K Z m env σ ∧ SR p.K F Z m S H ∧ RD p.K Z m d v ∧ bindT t d env = some env' ∧ ∀ σ', RE p.K Z m env' σ' → OnlyAt (tgSl t) σ σ' → Q σ' H
def tGs (p : Pm) (t : List Tg) : TGs := fun vs σ H Q => ∃ F Z m S env ds env', RE p.K Z m env σ ∧ SR p.K F Z m S H ∧ RDs p.K Z m ds vs ∧ bindT.bindTs t ds env = some env' ∧ ∀ σ', RE p.K Z m env' σ' → OnlyAt (tgSls t) σ σ' → Q σ' H
theorem PG.imp {X : Cx} {e : Expr} {t t' : TG} (h : PG X e t) (k : ∀ v σ H Q, t' v σ H Q → t v σ H Q) : PG X e t' := ⟨fun pins s σ H v u Q I r q => h.run pins s σ H v u Q I r (k _ _ _ _ q)⟩
theorem PGs.imp {X : Cx} {e : List Expr} {t t' : TGs} (h : PGs X e t) (k : ∀ v σ H Q, t' v σ H Q → t v σ H Q) : PGs X e t' := ⟨fun pins s σ H v u Q I r q => h.run pins s σ H v u Q I r (k _ _ _ _ q)⟩
theorem PE.imp {X : Cx} {e : Expr} {t t' : TE} (h : PE X e t) (k : ∀ σ H Q, t' σ H Q → t σ H Q) : PE X e t' := ⟨fun pins s σ H Q I q => h.run pins s σ H Q I (k _ _ _ q)⟩
theorem PT.imp {X : Cx} {e : Expr} {t t' : TT} (h : PT X e t) (k : ∀ σ H Q, t' σ H Q → t σ H Q) : PT X e t' := ⟨fun pins s σ H Q I q => h.run pins s σ H Q I (k _ _ _ q)⟩
theorem PW.imp {X : Cx} {e : Expr} {t t' : TT} (h : PW X e t) (k : ∀ σ H Q, t' σ H Q → t σ H Q) : PW X e t' := ⟨fun wh pins s σ H Q I q => h.run wh pins s σ H Q I (k _ _ _ q)⟩
theorem PA.imp {X : Cx} {e : List Expr} {t t' : TA} (h : PA X e t) (k : ∀ σ H Q, t' σ H Q → t σ H Q) : PA X e t' := ⟨fun pos pins s σ H Q I q => h.run pos pins s σ H Q I (k _ _ _ q)⟩
theorem PO.imp {X : Cx} {e : Option Expr} {t t' : TO} (h : PO X e t) (k : ∀ σ H Q, t' σ H Q → t σ H Q) : PO X e t' := ⟨fun pins s σ H Q I q => h.run pins s σ H Q I (k _ _ _ q)⟩
theorem PI.imp {X : Cx} {tg e : Expr} {t t' : TI} (h : PI X tg e t) (k : ∀ σ H Q, t' σ H Q → t σ H Q) : PI X tg e t' := ⟨fun pins s σ H Q I q => h.run pins s σ H Q I (k _ _ _ q)⟩
theorem PS.imp {X : Cx} {e : Stmt} {t t' : TS} (h : PS X e t) (k : ∀ D σ H, t' D σ H → t D σ H) : PS X e t' := ⟨fun pins s σ H D I q => h.run pins s σ H D I (k _ _ _ q)⟩
theorem PSs.imp {X : Cx} {e : List Stmt} {t t' : TS} (h : PSs X e t) (k : ∀ D σ H, t' D σ H → t D σ H) : PSs X e t' := ⟨fun pins s σ H D I q => h.run pins s σ H D I (k _ _ _ q)⟩
/-- the slot of a name -/
def slotOf (N : List Str) (x : Str) : Option Nat := N.findIdx? fun y => decide (y = x)
theorem slotOf_ok {N : List Str} {x : Str} {i : Nat} (h : slotOf N x = some i) : N[i]? = some x := by
  obtain ⟨hl, h1, _⟩ := List.findIdx?_eq_some_iff_getElem.mp h
  rw [List.getElem?_eq_getElem hl, of_decide_eq_true h1]
def okName (x : Str) : Bool := !(x == ("__debug__" : Str)) && !(x == ("__classdict__" : Str))
theorem okName_ok {x : Str} (h : okName x = true) : (x == ("__debug__" : Str)) = false ∧ (x == ("__classdict__" : Str)) = false := by
  unfold okName at h
  simpa using h
mutual
/-- a target: names of the def's own (sc: where they are stored) -/
def cT (N : List Str) (sc : Scope) : Nat → Expr → Option Tg
  | 0, _ => none
  | n + 1, .Name x _ => match sc.names.lookup x with
    | some .local | some .cell => (slotOf N x).map .nm
    | _ => none
  | n + 1, .Tuple es _ _ => (cTs N sc n es).map .tp
  | _, _ => none
def cTs (N : List Str) (sc : Scope) : Nat → List Expr → Option (List Tg)
  | 0, _ => none
  | n + 1, [] => some []
  | n + 1, e :: es => match cT N sc n e, cTs N sc n es with
    | some t, some ts => some (t :: ts)
    | _, _ => none
end
/-- where names may be stored -/
structure Sto1 (sc : Scope) (X : Cx) : Prop where
  loc : ∀ x, sc.names.lookup x = some .local → X.env.scope.names.lookup x = some .local
  cel : ∀ x, sc.names.lookup x = some .cell → X.env.scope.names.lookup x = some .cell ∧ X.fn x = true
theorem assignEach_map (env : PySem.Env) : ∀ {N : List Str} {sc : Scope} {n : Nat} {es : List Expr} {ts : List Tg}, cTs N sc n es = some ts → assignEach es env = es.map (fun e => (false, assign e env)) ∧ es.length = ts.length
  | _, _, 0, _, _, h => by cases h
  | _, _, n + 1, [], _, h => by
    cases h
    exact ⟨rfl, rfl⟩
  | N, sc, n + 1, e :: es, ts, h => by
    unfold cTs at h
    split at h
    · rename_i t us h1 h2
      cases h
      obtain ⟨e1, e2⟩ := assignEach_map env h2
      refine ⟨?_, by rw [List.length_cons, List.length_cons, e2]⟩
      have : assignEach (e :: es) env = (false, assign e env) :: assignEach es env := by
        cases n with
        | zero => cases h1
        | succ n => cases e <;> first | rfl | (unfold cT at h1; cases h1)
      rw [this, e1]
      rfl
    · cases h
mutual
theorem cT_ok {W : WX} {lv : Nat} {X : Cx} (c : Cok p W lv X) {sc : Scope} (st : Sto1 sc X) : ∀ {n : Nat} {e : Expr} {t : Tg}, cT X.N sc n e = some t → PG X e (tG p t)
  | 0, _, _, h => by cases h
  | n + 1, e, t, h => by
    cases e with
    | Name x pos =>
      have h : (match sc.names.lookup x with
        | some .local | some .cell => (slotOf X.N x).map Tg.nm
        | _ => none) = some t := h
      have fin : ∀ {i : Nat}, slotOf X.N x = some i → Loc X.env.scope x → (X.fn x = true ∨ X.env.scope.names.lookup x = some .local) → PG X (.Name x pos) (tG p (.nm i)) := fun {i} hi hx hf => by
        refine PG.imp (pg_name c.nd (slotOf_ok hi) hx hf) fun v σ H Q q => ?_
        obtain ⟨F, Z, m, S, env, d, env', re, sr, rd, hb, k⟩ := q
        have hb' : (if i < env.length then frL (env.set i (some d)) some else none) = some env' := hb
        split at hb'
        · rw [frL_eq] at hb'
          cases hb'
          exact k _ (re.set i rd) fun vs hv => wipe_set σ vs i _ (hv i List.mem_cons_self)
        · cases hb'
      split at h
      · rename_i hl
        cases e : slotOf X.N x with
        | none =>
          rw [e] at h
          cases h
        | some i =>
          rw [e] at h
          cases h
          exact fin e (.inl (st.loc x hl)) (.inr (st.loc x hl))
      · rename_i hl
        cases e : slotOf X.N x with
        | none =>
          rw [e] at h
          cases h
        | some i =>
          rw [e] at h
          cases h
          exact fin e (.inr (st.cel x hl).1) (.inl (st.cel x hl).2)
      · cases h
    | Tuple es kk pos =>
      have h : (cTs X.N sc n es).map Tg.tp = some t := h
      cases e : cTs X.N sc n es with
      | none =>
        rw [e] at h
        cases h
      | some ts =>
        rw [e] at h
        cases h
        obtain ⟨e1, e2⟩ := assignEach_map X.env e
        refine PG.imp (pg_tup (n := es.length) c.calm (cTs_ok c st e) (by rw [e1, List.length_map]) (by rw [e1]; simp)) fun v σ H Q q => ?_
        obtain ⟨F, Z, m, S, env, d, env', re, sr, rd, hb, k⟩ := q
        cases rd <;> first | (cases hb; done) | skip
        rename_i xs a vs h1 h2
        have hb2 : bindT.bindTs ts xs env = some env' := hb
        have len : ∀ {ts : List Tg} {xs : List D} {env env' : Env}, bindT.bindTs ts xs env = some env' → ts.length = xs.length := fun {ts} => by
          induction ts with
          | nil =>
            intro xs env env' h
            cases xs with
            | nil => rfl
            | cons _ _ => cases h
          | cons t ts ih =>
            intro xs env env' h
            cases xs with
            | nil => cases h
            | cons x xs =>
              have h' : (match bindT t x env with
                | some env2 => bindT.bindTs ts xs env2
                | none => none) = some env' := h
              split at h'
              · rw [List.length_cons, List.length_cons, ih h']
              · cases h'
        refine ⟨a, vs, rfl, by rw [c.k]; exact seqT sr.zs h1, by rw [← h2.length, ← len hb2, e2], F, Z, m, S, env, xs, env', re, sr, h2, hb2, k⟩
    | _ => cases h
theorem cTs_ok {W : WX} {lv : Nat} {X : Cx} (c : Cok p W lv X) {sc : Scope} (st : Sto1 sc X) : ∀ {n : Nat} {e : List Expr} {t : List Tg}, cTs X.N sc n e = some t → PGs X e (tGs p t)
  | 0, _, _, h => by cases h
  | n + 1, [], t, h => by
    cases h
    refine PGs.imp pgs_nil fun vs σ H Q q => ?_
    obtain ⟨F, Z, m, S, env, d, env', re, sr, rd, hb, k⟩ := q
    cases rd with
    | nil =>
      cases hb
      exact ⟨rfl, k _ re fun _ _ => rfl⟩
    | cons _ _ => cases hb
  | n + 1, e :: es, t, h => by
    have h0 := h
    unfold cTs at h
    split at h
    · rename_i t ts h1 h2
      cases h
      obtain ⟨e1, e2⟩ := assignEach_map X.env h0
      obtain ⟨e3, _⟩ := assignEach_map X.env h2
      refine PGs.imp (pgs_cons (cT_ok c st h1) (cTs_ok c st h2) (by rw [e1, e3]; rfl)) fun vs σ H Q q => ?_
      obtain ⟨F, Z, m, S, env, d, env', re, sr, rd, hb, k⟩ := q
      cases rd with
      | nil => cases hb
      | cons r rs =>
        rename_i d v ds vs
        have h' : (match bindT t d env with
          | some env2 => bindT.bindTs ts ds env2
          | none => none) = some env' := hb
        split at h'
        · rename_i env2 h3
          exact ⟨v, vs, rfl, F, Z, m, S, env, d, env2, re, sr, r, h3, fun σ' re' o1 => ⟨F, Z, m, S, env2, ds, env', re', sr, rs, h', fun σ2 re2 o2 => k σ2 re2 fun us hv => (o2 us fun i hi => hv i (List.mem_append_right _ hi)).trans (o1 us fun i hi => hv i (List.mem_append_left _ hi))⟩⟩
        · cases h'
    · cases h
end
end
end Mn

/-! From Python's expressions to the machine's. -/
namespace Mn
open PySem PySem.Spec PyProof.Rows L2

/-! ### what is walked follows a list -/
def Fol (K : PySem.W.Frag) (Z : Hp) (m : Mp) (J : It) (ds : List D) : Prop := ∀ (i : Nat) (H : Hp), Same Z H →
  (∀ d, ds[i]? = some d → J.go i H ∧ ∀ x H', J.yld i H x H' → (H' = H ∧ RD K Z m d x) ∨ ∃ T vs es, H T = none ∧ H' = upd H T (.tup vs) ∧ d = .tup es ∧ RDs K Z m es vs ∧ x = .ref T) ∧ (ds.length ≤ i → J.stop i H)
section
variable {K : PySem.W.Frag} {Z Z' : Hp} {m m' : Mp}
theorem Fol.mono {J : It} {ds : List D} (h : Fol K Z m J ds) (e : Ext Z m Z' m') : Fol K Z' m' J ds := fun i H s => by
  obtain ⟨h1, h2⟩ := h i H (e.z.trans s)
  refine ⟨fun d q => ?_, h2⟩
  obtain ⟨g, y⟩ := h1 d q
  refine ⟨g, fun x H' q' => ?_⟩
  rcases y x H' q' with ⟨e1, e2⟩ | ⟨T, vs, es, e1, e2, e3, e4, e5⟩
  · exact .inl ⟨e1, e2.mono e⟩
  · exact .inr ⟨T, vs, es, e1, e2, e3, e4.mono e, e5⟩
theorem fol_list {a : Addr} {ds : List D} {vs : List V} (h : Z a = some (.lst vs)) (r : RDs K Z m ds vs) : Fol K Z m (Itl K a) ds := fun i H s => by
  have hq : SqL K H a vs := .inl (.inl (s _ _ h))
  refine ⟨fun d q => ?_, fun hl => ⟨vs, hq, by rw [← r.length]; exact hl⟩⟩
  obtain ⟨w, e, rd⟩ := r.get q
  refine ⟨⟨vs, w, hq, e⟩, fun x H' y => .inl ⟨y.1, ?_⟩⟩
  have e2 := y.2 vs hq
  rw [e] at e2
  cases e2
  exact rd
theorem fol_tup {a : Addr} {ds : List D} {vs : List V} (h : SqT K Z a vs) (r : RDs K Z m ds vs) : Fol K Z m (Itt K a) ds := fun i H s => by
  have hq : SqT K H a vs := seqT s h
  refine ⟨fun d q => ?_, fun hl => ⟨vs, hq, by rw [← r.length]; exact hl⟩⟩
  obtain ⟨w, e, rd⟩ := r.get q
  refine ⟨⟨vs, w, hq, e⟩, fun x H' y => .inl ⟨y.1, ?_⟩⟩
  have e2 := y.2 vs hq
  rw [e] at e2
  cases e2
  exact rd
theorem upto_len : ∀ (n : Nat) (lo : Int), (upto lo n).length = n
  | 0, _ => rfl
  | n + 1, lo => by
    show (D.int lo :: frI (lo + 1) fun m => upto m n).length = n + 1
    rw [frI_eq, List.length_cons, upto_len n]
theorem upto_get : ∀ (n : Nat) (lo : Int) (i : Nat) (d : D), (upto lo n)[i]? = some d → i < n ∧ d = .int (lo + i)
  | 0, _, _, _, h => by
    have h' : ([] : List D)[_]? = some _ := h
    simp at h'
  | n + 1, lo, 0, d, h => by
    have h' : (D.int lo :: frI (lo + 1) fun m => upto m n)[0]? = some d := h
    cases h'
    exact ⟨Nat.succ_pos _, by simp⟩
  | n + 1, lo, i + 1, d, h => by
    have h' : (D.int lo :: frI (lo + 1) fun m => upto m n)[i + 1]? = some d := h
    rw [frI_eq, List.getElem?_cons_succ] at h'
    obtain ⟨h1, h2⟩ := upto_get n (lo + 1) i d h'
    refine ⟨by omega, ?_⟩
    rw [h2]
    congr 1
    omega
theorem fol_rng (lo : Int) (n : Nat) : Fol K Z m (Itr lo n) (upto lo n) := fun i H s => by
  refine ⟨fun d q => ?_, fun hl => by rw [upto_len] at hl; exact hl⟩
  obtain ⟨h1, h2⟩ := upto_get n lo i d q
  refine ⟨h1, fun x H' y => .inl ⟨y.1, ?_⟩⟩
  rw [y.2, h2]
  exact .int _
theorem zipD_len : ∀ (as bs : List D), (zipD as bs).length = min as.length bs.length
  | [], _ => by simp [zipD]
  | _ :: _, [] => by simp [zipD]
  | a :: as, b :: bs => by
    show (D.tup [a, b] :: zipD as bs).length = _
    rw [List.length_cons, zipD_len as bs, List.length_cons, List.length_cons]
    omega
theorem zipD_get : ∀ (as bs : List D) (i : Nat) (d : D), (zipD as bs)[i]? = some d → ∃ a b, as[i]? = some a ∧ bs[i]? = some b ∧ d = .tup [a, b]
  | [], _, _, _, h => by simp [zipD] at h
  | _ :: _, [], _, _, h => by simp [zipD] at h
  | a :: as, b :: bs, 0, d, h => by
    cases (show some (D.tup [a, b]) = some d from h)
    exact ⟨a, b, rfl, rfl, rfl⟩
  | a :: as, b :: bs, i + 1, d, h => zipD_get as bs i d h
theorem fol_zip {a b : Addr} {ds es : List D} {vs ws : List V} (h : Z a = some (.lst vs)) (h' : Z b = some (.lst ws)) (r : RDs K Z m ds vs) (r' : RDs K Z m es ws) : Fol K Z m (Itz K a b) (zipD ds es) := fun i H s => by
  have hq : SqL K H a vs := .inl (.inl (s _ _ h))
  have hq' : SqL K H b ws := .inl (.inl (s _ _ h'))
  refine ⟨fun d q => ?_, fun hl => ⟨vs, ws, hq, hq', by rw [zipD_len, r.length, r'.length] at hl; omega⟩⟩
  obtain ⟨x, y, q1, q2, rfl⟩ := zipD_get _ _ _ _ q
  obtain ⟨v, e, rd⟩ := r.get q1
  obtain ⟨w, e', rd'⟩ := r'.get q2
  refine ⟨⟨vs, ws, v, w, hq, hq', e, e'⟩, fun z H' k => .inr ?_⟩
  obtain ⟨T, x1, y1, k1, k2, k3, k4, k5⟩ := k
  have e2 := k4 vs hq
  have e3 := k5 ws hq'
  rw [e] at e2
  rw [e'] at e3
  cases e2
  cases e3
  exact ⟨T, _, _, k2, k3, rfl, .cons rd (.one rd'), k1⟩
theorem fol_zipT {a b : Addr} {ds es : List D} {vs ws : List V} (h : SqT K Z a vs) (h' : SqT K Z b ws) (r : RDs K Z m ds vs) (r' : RDs K Z m es ws) : Fol K Z m (RZ.ItzT K a b) (zipD ds es) := fun i H s => by
  have hq : SqT K H a vs := seqT s h
  have hq' : SqT K H b ws := seqT s h'
  refine ⟨fun d q => ?_, fun hl => ⟨vs, ws, hq, hq', by rw [zipD_len, r.length, r'.length] at hl; omega⟩⟩
  obtain ⟨x, y, q1, q2, rfl⟩ := zipD_get _ _ _ _ q
  obtain ⟨v, e, rd⟩ := r.get q1
  obtain ⟨w, e', rd'⟩ := r'.get q2
  refine ⟨⟨vs, ws, v, w, hq, hq', e, e'⟩, fun z H' k => .inr ?_⟩
  obtain ⟨T, x1, y1, k1, k2, k3, k4, k5⟩ := k
  have e2 := k4 vs hq
  have e3 := k5 ws hq'
  rw [e] at e2
  rw [e'] at e3
  cases e2
  cases e3
  exact ⟨T, _, _, k2, k3, rfl, .cons rd (.one rd'), k1⟩
end

/-! ### the code of an expression -/
/-- what is known of the text: the global names, the built-in names that are free, the def's names by slot, where cells are made -/
structure CS where
  gl : List (Str × GV)
  bl : List Str
  N : List Str
  cel : List (Nat × Nat)
def CS.isCel (c : CS) (pos : Pos) : Bool := c.cel.any fun q => decide (q.1 = pos.line) && decide (q.2 = pos.col)
def boOf : Operator → Option BO
  | .Add => some .add
  | .Sub => some .sub
  | .Mult => some .mul
  | .FloorDiv => some .fdiv
  | .Mod => some .mod
  | .Pow => some .pow
  | _ => none
theorem boOf_ok {o : Operator} {b : BO} (h : boOf o = some b) : o = opOf b := by
  cases o <;> (cases h; try rfl)
def coOf : CmpOp → CO
  | .Eq => .eq
  | .NotEq => .ne
  | .Lt => .lt
  | .LtE => .le
  | .Gt => .gt
  | .GtE => .ge
  | .Is => .is
  | .IsNot => .isn
  | .In => .inn
  | .NotIn => .nin
theorem coOf_ok (o : CmpOp) : o = cmpOf (coOf o) := by cases o <;> rfl
def biFor (x : Str) : Option Bi :=
  if x = ("len" : Str) then some .len else if x = ("abs" : Str) then some .abs else if x = ("int" : Str) then some .int else if x = ("list" : Str) then some .list else if x = ("tuple" : Str) then some .tuple else
    if x = ("repr" : Str) then some .repr else if x = ("sum" : Str) then some .sum else if x = ("all" : Str) then some .all else if x = ("any" : Str) then some .any else none
theorem biFor_ok {x : Str} {b : Bi} (h : biFor x = some b) : bootBuiltins x = some (biOf b) ∧ x ≠ "__name__" := by
  unfold biFor at h
  repeat' split at h
  all_goals first | (cases h; done) | skip
  all_goals (rename_i e; subst e; cases h; exact ⟨by decide +kernel, by decide⟩)
def tyFor (x : Str) : Option Ty :=
  if x = ("int" : Str) then some .int else if x = ("bool" : Str) then some .bool else if x = ("str" : Str) then some .str else if x = ("tuple" : Str) then some .tuple else if x = ("list" : Str) then some .list else none
theorem tyFor_ok {x : Str} {t : Ty} (h : tyFor x = some t) : bootBuiltins x = some (.type (tyOf t)) ∧ x ≠ "__name__" := by
  unfold tyFor at h
  repeat' split at h
  all_goals first | (cases h; done) | skip
  all_goals (rename_i e; subst e; cases h; exact ⟨by decide +kernel, by decide⟩)
/-- a global name that no def stands for -/
def CS.isB (c : CS) (sc : Scope) (x : Str) : Bool := okName x && (match sc.names.lookup x with
  | some .globalImplicit => true
  | _ => false) && decide (x ∈ c.bl)
def plainRecv : Expr → Bool
  | .Name .. | .Subscript .. | .Attribute .. => true
  | _ => false
def isSet : Expr → Bool
  | .Set .. => true
  | _ => false
/-- a comprehension's own names, by slot -/
def ownOf (N : List Str) (scope : Scope) : List (Str × Nat) := scope.names.filterMap fun y => match y.2 with
  | .local | .cell => (slotOf N y.1).map fun i => (y.1, i)
  | _ => none
mutual
theorem tgSl_own {N : List Str} {sc : Scope} : ∀ {n : Nat} {e : Expr} {t : Tg}, cT N sc n e = some t → ∀ i ∈ tgSl t, i ∈ (ownOf N sc).map (·.2)
  | 0, _, _, h => by cases h
  | n + 1, e, t, h => by
    cases e with
    | Name x pos =>
      have h : (match sc.names.lookup x with
        | some .local | some .cell => (slotOf N x).map Tg.nm
        | _ => none) = some t := h
      have fin : ∀ {k : NameKind}, sc.names.lookup x = some k → (k = .local ∨ k = .cell) → (slotOf N x).map Tg.nm = some t → ∀ i ∈ tgSl t, i ∈ (ownOf N sc).map (·.2) := fun {k} hl hk h => by
        cases e : slotOf N x with
        | none =>
          rw [e] at h
          cases h
        | some j =>
          rw [e] at h
          cases h
          intro i hi
          have hi' : i = j := by simpa [tgSl] using hi
          refine List.mem_map.mpr ⟨(x, j), List.mem_filterMap.mpr ⟨(x, k), PySem.mem_of_lookup hl, ?_⟩, hi'.symm⟩
          rcases hk with rfl | rfl <;> (dsimp only; rw [e]; rfl)
      split at h
      · rename_i hl
        exact fin hl (.inl rfl) h
      · rename_i hl
        exact fin hl (.inr rfl) h
      · cases h
    | Tuple es kk pos =>
      have h : (cTs N sc n es).map Tg.tp = some t := h
      cases e : cTs N sc n es with
      | none =>
        rw [e] at h
        cases h
      | some ts =>
        rw [e] at h
        cases h
        exact tgSls_own e
    | _ => cases h
theorem tgSls_own {N : List Str} {sc : Scope} : ∀ {n : Nat} {e : List Expr} {t : List Tg}, cTs N sc n e = some t → ∀ i ∈ tgSls t, i ∈ (ownOf N sc).map (·.2)
  | 0, _, _, h => by cases h
  | n + 1, [], t, h => by
    cases h
    intro i hi
    cases hi
  | n + 1, e :: es, t, h => by
    unfold cTs at h
    split at h
    · rename_i t ts h1 h2
      cases h
      intro i hi
      rcases List.mem_append.mp hi with hi | hi
      · exact tgSl_own h1 i hi
      · exact tgSls_own h2 i hi
    · cases h
end
section
variable (c : CS)
mutual
def cE : Nat → Scope → Expr → Option E
  | 0, _, _ => none
  | n + 1, sc, e => match e with
    | .Name x _ => if okName x then (match sc.names.lookup x with
      | some .local | some .cell | some .free => (slotOf c.N x).map .var
      | some .globalImplicit => (match c.gl.lookup x with
        | some (.lit d) => some (.lit d)
        | _ => none)
      | _ => none) else none
    | .Constant v _ _ => (match v with
      | .none => some (.lit .non)
      | .bool b => some (.lit (.bl b))
      | .int i => some (.lit (.int i))
      | .str s => some (.lit (.str s.cps.toList))
      | _ => none)
    | .UnaryOp .USub a _ => (cE n sc a).map .neg
    | .UnaryOp .Not a _ => (cE n sc a).map .bnot
    | .BinOp a o b _ => (match boOf o, cE n sc a, cE n sc b with
      | some o, some a, some b => some (.bin o a b)
      | _, _, _ => none)
    | .Compare a [o] [b] _ => if isSet b then none else (match cE n sc a, cE n sc b with
      | some a, some b => some (.cmp (coOf o) a b)
      | _, _ => none)
    | .Compare a [o, o'] [b, d] _ => if isSet d then none else (match cE n sc a, cE n sc b, cE n sc d with
      | some a, some b, some d => some (.chn (coOf o) (coOf o') a b d)
      | _, _, _ => none)
    | .BoolOp o es _ => cB n sc o es
    | .IfExp t a b _ => (match cE n sc t, cE n sc a, cE n sc b with
      | some t, some a, some b => some (.ife t a b)
      | _, _, _ => none)
    | .Tuple es _ _ => (cEs n sc es).map .tup
    | .List es pos => (cEs n sc es).map (.lst (c.isCel pos))
    | .Call (.Name x _) args [] pos => if okName x then (match sc.names.lookup x with
      | some .globalImplicit => (match c.gl.lookup x with
        | some (.fn i) => (cEs n sc args).map (.fn i)
        | some _ => none
        | none => if decide (x ∈ c.bl) then (match args with
          | [a] => (match biFor x, cE n sc a with
            | some b, some a => some (.bi b (c.isCel pos) a)
            | _, _ => none)
          | [a, .Name t _] => if decide (x = ("isinstance" : Str)) && c.isB sc t then (match tyFor t, cE n sc a with
            | some t, some a => some (.isi a t)
            | _, _ => none) else none
          | _ => none) else none)
      | _ => none) else none
    | .Call (.Attribute o m apos) [a] [] pos => if plainRecv o && decide (m = ("append" : Str)) && (apos.endLine == pos.line) then (match cE n sc o, cE n sc a with
      | some o, some a => some (.me .append o [a])
      | _, _ => none) else none
    | .Subscript a (.Slice lo hi none _) _ => (match cE n sc a, cO n sc lo, cO n sc hi with
      | some a, some lo, some hi => some (.slc a lo hi)
      | _, _, _ => none)
    | .Subscript a b _ => (match cE n sc a, cE n sc b with
      | some a, some b => some (.ix a b)
      | _, _ => none)
    | .ListComp elt [⟨tg, iter, ifs, 0⟩] scope pos => if isSet iter || !blkC c.N sc scope (ownOf c.N scope) then none else (match cT c.N scope n tg, cW n sc tg iter, cI n (relS scope sc) ifs, cE n (relS scope sc) elt with
      | some t, some (w, its), some cond, some e => some (.comp (c.isCel pos) t w its cond e ((ownOf c.N scope).map (·.2)))
      | _, _, _, _ => none)
    | _ => none
def cEs : Nat → Scope → List Expr → Option (List E)
  | 0, _, _ => none
  | _ + 1, _, [] => some []
  | n + 1, sc, e :: es => match cE n sc e, cEs n sc es with
    | some e, some es => some (e :: es)
    | _, _ => none
def cO : Nat → Scope → Option Expr → Option (Option E)
  | 0, _, _ => none
  | _ + 1, _, none => some none
  | n + 1, sc, some e => (cE n sc e).map some
def cI : Nat → Scope → List Expr → Option (Option E)
  | 0, _, _ => none
  | _ + 1, _, [] => some none
  | n + 1, sc, [e] => (cE n sc e).map some
  | _ + 1, _, _ => none
def cB : Nat → Scope → BoolOp → List Expr → Option E
  | 0, _, _, _ => none
  | n + 1, sc, _, [e] => cE n sc e
  | n + 1, sc, o, e :: d :: es => match cE n sc e, cB n sc o (d :: es) with
    | some a, some b => some (match o with
      | .And => .band a b
      | .Or => .bor a b)
    | _, _ => none
  | _ + 1, _, _, [] => none
/-- what is walked (tg: the target) -/
def cW : Nat → Scope → Expr → Expr → Option (Wt × List E)
  | 0, _, _, _ => none
  | n + 1, sc, tg, .Call (.Name x p) args [] pos => if decide (x = ("range" : Str)) && c.isB sc x then (match args with
      | [_] => (cEs n sc args).map fun as => (.rng1, as)
      | [_, _] => (cEs n sc args).map fun as => (.rng2, as)
      | _ => none)
    else if decide (x = ("zip" : Str)) && c.isB sc x then (match args, tg with
      | [_, _], .Tuple _ _ _ => (cEs n sc args).map fun as => (.zip, as)
      | _, _ => none)
    else (cE n sc (.Call (.Name x p) args [] pos)).map fun a => (.of, [a])
  | n + 1, sc, _, e => (cE n sc e).map fun a => (.of, [a])
end
end
end Mn

/-! An expression does what its code does. -/
namespace Mn
open PySem PySem.Spec PyProof.Rows L2
section
variable (p : Pm) (W : WX)
def tE (c : E) : TE := fun σ H Q => ∃ F Z m S env, RE p.K Z m env σ ∧ SR p.K F Z m S H ∧ Post p F Z m (RD p.K) Q (fun cls d H' => W cls d σ H') (evE p.cl c env S)
def tT (c : E) : TT := fun σ H Q => ∃ F Z m S env, RE p.K Z m env σ ∧ SR p.K F Z m S H ∧ Post p F Z m (fun _ _ (a b : Bool) => a = b) Q (fun cls d H' => W cls d σ H') (evC p.cl (some c) env S)
def tCo (c : Option E) : TT := fun σ H Q => ∃ F Z m S env, RE p.K Z m env σ ∧ SR p.K F Z m S H ∧ Post p F Z m (fun _ _ (a b : Bool) => a = b) Q (fun cls d H' => W cls d σ H') (evC p.cl c env S)
def tA (c : List E) : TA := fun σ H Q => ∃ F Z m S env, RE p.K Z m env σ ∧ SR p.K F Z m S H ∧ Post p F Z m (RDs p.K) Q (fun cls d H' => W cls d σ H') (evEs p.cl c env S)
def tO (c : Option E) : TO := fun σ H Q => ∃ F Z m S env, RE p.K Z m env σ ∧ SR p.K F Z m S H ∧ Post p F Z m (fun _ _ (a b : Option Int) => a = b) Q (fun cls d H' => W cls d σ H') (evO p.cl c env S)
def tI (w : Wt) (c : List E) : TI := fun σ H G => ∃ F Z m S env, RE p.K Z m env σ ∧ SR p.K F Z m S H ∧ Post p F Z m (fun Z m ds J => Fol p.K Z m J ds) G (fun cls d H' => W cls d σ H') ((evEs p.cl c env S).bind fun ws S0 => R.of S0 (walk w ws))
end
section
variable {p : Pm} {W : WX} {lv : Nat} {X : Cx}
/-! ### forms of text -/
theorem star_of {c : CS} : ∀ {n : Nat} {sc : Scope} {e : Expr} {ce : E}, cE c n sc e = some ce → ∀ es env, starEach (e :: es) env = (false, eval e env) :: starEach es env
  | 0, _, _, _, h => by cases h
  | n + 1, sc, e, ce, h => by
    intro es env
    cases e <;> first | rfl | (cases h; done)
theorem stars_of {c : CS} (env : PySem.Env) : ∀ {n : Nat} {sc : Scope} {es : List Expr} {ces : List E}, cEs c n sc es = some ces → starEach es env = es.map fun e => (false, eval e env)
  | 0, _, _, _, h => by cases h
  | n + 1, sc, [], _, h => rfl
  | n + 1, sc, e :: es, ce, h => by
    unfold cEs at h
    split at h
    · rename_i a b h1 h2
      rw [star_of h1, stars_of env h2]
      rfl
    · cases h
theorem noStar {env : PySem.Env} {es : List Expr} (pos : Pos) (h : starEach es env = es.map fun e => (false, eval e env)) : (backTo pos (starEach es env)).any (·.1) = false := by
  rw [h]
  unfold backTo
  rw [List.map_map, List.any_map]
  apply List.any_eq_false.mpr
  intro x _
  exact Bool.false_ne_true
theorem tail_stars {env : PySem.Env} {e : Expr} {es : List Expr} (h : starEach (e :: es) env = (e :: es).map fun e => (false, eval e env)) (h1 : starEach (e :: es) env = (false, eval e env) :: starEach es env) : starEach es env = es.map fun e => (false, eval e env) := by
  rw [h1, List.map_cons] at h
  exact (List.cons.inj h).2
theorem plainIx_of {c : CS} {n : Nat} {sc : Scope} {e : Expr} {ce : E} (h : cE c n sc e = some ce) : PlainIx e := by
  cases n with
  | zero => cases h
  | succ n =>
    intro o i
    cases e <;> first | rfl | (cases h; done)
theorem noMark {o : CmpOp} {b : Expr} (h : isSet b = false) : behindInMarks o b = false := by
  cases b <;> first | rfl | cases h
theorem noFold {e : Expr} (h : isSet e = false) (env : PySem.Env) (x : Value) : foldedSetIterable e env x = pure x := by
  cases e <;> first | rfl | cases h

/-! ### tests -/
theorem pt_of {e : Expr} {c : E} (h : PE X e (tE p W c)) (he : ∀ whole, isTrue e X.env whole = (do let v ← whole; standAt e.pos; holding [v] (truthy v))) : PT X e (tT p W c) := by
  refine PT.imp (pt_val h he) fun σ H Q q => ?_
  obtain ⟨F, Z, m, S, env, re, sr, h⟩ := q
  refine ⟨F, Z, m, S, env, re, sr, Post.bind h fun d S1 Z1 m1 H1 v _ _ s1 rd h1 => ?_⟩
  cases rd <;> first | exact False.elim h1 | skip
  exact ⟨_, rfl, h1.now s1 rfl⟩
theorem isTrue_ife {t a b : Expr} {pos : Pos} {tt ta tb : TT} (ht : PT X t tt) (ha : PT X a ta) (hb : PT X b tb) : PT X (.IfExp t a b pos) (fun σ H Q => tt σ H fun k H1 => if k = true then ta σ H1 Q else tb σ H1 Q) := by
  refine ⟨fun pins s σ H Q I h => ?_⟩
  show wpAny _ _ (do if ← isTrue t X.env (eval t X.env) then isTrue a X.env (eval a X.env) else isTrue b X.env (eval b X.env)) _ _ _
  refine wpAny_bind (thn (ht.run pins s σ H _ I h) fun d s1 ⟨H1, I1, q1⟩ => ?_)
  cases d with
  | true => exact ha.run pins s1 σ H1 Q I1 q1
  | false => exact hb.run pins s1 σ H1 Q I1 q1

/-! ### calls of defs -/
theorem pe_fn0 (c : Cok p W lv X) {f : Addr} {sp : Sp} {x : Str} {pos pos' : Pos} (F : FnG X.prog X.w X.K X.mg X.base lv f sp) (hg : Gl X x) (hm : X.mg x = some (.ref f)) (hk : PySem.W.keepIn X.K (.ref f) = true) (hdb : (x == ("__debug__" : Str)) = false) :
    PE X (.Call (.Name x pos') [] [] pos) (fun σ H Q => sp [] H Q (fun cls d H' => W cls d σ H')) := by
  refine ⟨fun pins s σ H Q I h => ?_⟩
  refine wpAny_Call_Name_kw (ld_glob I hg hm ?_ hdb)
  exact PySem.W.callWith_K0 I.kIn hk (call_fn (us := []) c F I .nil h)
theorem pe_fn1 (c : Cok p W lv X) {f : Addr} {sp : Sp} {x : Str} {pos pos' : Pos} {e : Expr} {es : List Expr} {t : TA} (F : FnG X.prog X.w X.K X.mg X.base lv f sp) (hg : Gl X x) (hm : X.mg x = some (.ref f)) (hk : PySem.W.keepIn X.K (.ref f) = true) (ha : PA X (e :: es) t)
    (hdb : (x == ("__debug__" : Str)) = false) (he : starEach (e :: es) X.env = (false, eval e X.env) :: starEach es X.env) (hpl : (backTo pos (starEach es X.env)).any (·.1) = false) :
    PE X (.Call (.Name x pos') (e :: es) [] pos) (fun σ H Q => t σ H fun vs H1 => sp vs H1 Q (fun cls d H' => W cls d σ H')) := by
  refine ⟨fun pins s σ H Q I h => ?_⟩
  refine wpAny_Call_Name_kw (ld_glob I hg hm ?_ hdb)
  refine PySem.W.callWith_K (h₀ := X.base) I.ok.mod.kin hk (thn (ha.run pos pins s σ H _ I h) fun us s1 ⟨vs, H1, I1, r, q⟩ => ⟨I1.kIn, ?_⟩) he hpl
  exact call_fn c F I1 r q

/-! ### comprehensions -/
theorem SR.other {K : PySem.W.Frag} {F F' Z H : Hp} {m : Mp} {S : Sto} (r : SR K F' Z m S H) (e : Same F F') : SR K F Z m S H :=
  ⟨e.trans r.fs, r.zs, fun b o q => r.dj b o (e b o q), fun n xs q => by
    obtain ⟨a, vs, h1, h2, h3, h4, h5⟩ := r.lst n xs q
    exact ⟨a, vs, h1, h2, e.free h3, h4, h5⟩, r.inj, r.nx⟩
/-- the list at D, of another's, is another one -/
theorem SR.grow {K : PySem.W.Frag} {F Z H : Hp} {m : Mp} {S : Sto} {D : Addr} {o o' : HO} (r : SR K (upd F D o) Z m S H) : SR K (upd F D o') Z m S (upd H D o') := by
  have hZ : Z D = none := r.dj D o upd_same
  refine ⟨fun b x q => ?_, fun b x q => ?_, fun b x q => ?_, fun n xs q => ?_, r.inj, r.nx⟩
  · by_cases hb : b = D
    · subst hb
      rw [upd_same] at q
      rw [upd_same]
      exact q
    · rw [upd_ne hb] at q
      rw [upd_ne hb]
      exact r.fs b x (by rw [upd_ne hb]; exact q)
  · rw [upd_ne (ne_of_none q hZ)]
    exact r.zs b x q
  · by_cases hb : b = D
    · rw [hb]
      exact hZ
    · rw [upd_ne hb] at q
      exact r.dj b x (by rw [upd_ne hb]; exact q)
  · obtain ⟨a, vs, h1, h2, h3, h4, h5⟩ := r.lst n xs q
    have ha : a ≠ D := fun z => by
      rw [z, upd_same] at h3
      cases h3
    rw [upd_ne ha] at h3
    exact ⟨a, vs, h1, by rw [upd_ne ha]; exact h2, by rw [upd_ne ha]; exact h3, h4, h5⟩
/-- .. taken over, as a list that stands still -/
theorem SR.takeZ {K : PySem.W.Frag} {F Z H : Hp} {m : Mp} {S : Sto} {D : Addr} {o : HO} (r : SR K (upd F D o) Z m S H) (hF : F D = none) : SR K F (upd Z D o) m S H ∧ Ext Z m (upd Z D o) m := by
  have hZ : Z D = none := r.dj D o upd_same
  have e : Ext Z m (upd Z D o) m := ⟨same_upd' hZ, fun _ _ q => q⟩
  refine ⟨⟨fun b x q => r.fs b x (same_upd' hF b x q), fun b x q => ?_, fun b x q => ?_, fun n xs q => ?_, r.inj, r.nx⟩, e⟩
  · by_cases hb : b = D
    · subst hb
      rw [upd_same] at q
      cases q
      exact r.fs b o upd_same
    · rw [upd_ne hb] at q
      exact r.zs b x q
  · have hb : b ≠ D := ne_of_none q hF
    rw [upd_ne hb]
    exact r.dj b x (same_upd' hF b x q)
  · obtain ⟨a, vs, h1, h2, h3, h4, h5⟩ := r.lst n xs q
    have ha : a ≠ D := fun z => by
      rw [z, upd_same] at h3
      cases h3
    rw [upd_ne ha] at h3
    exact ⟨a, vs, h1, h2, h3, by rw [upd_ne ha]; exact h4, h5.mono e⟩
/-- .. as a new cell -/
theorem SR.takeC {K : PySem.W.Frag} {F Z H : Hp} {m : Mp} {S : Sto} {D : Addr} {xs : List Mn.D} {vs : List V} (r : SR K (upd F D (.lst vs)) Z m S H) (hF : F D = none) (rd : RDs K Z m xs vs) :
    SR K F Z (mpSet m S.next D) (S.new (.lst xs)) H ∧ Ext Z m Z (mpSet m S.next D) ∧ RD K Z (mpSet m S.next D) (.ref S.next) (.ref D) := by
  have hZ : Z D = none := r.dj D _ upd_same
  have hH : H D = some (.lst vs) := r.fs D _ upd_same
  have e : Ext Z m Z (mpSet m S.next D) := ⟨Same.refl _, fun n a q => by
    have hn : n ≠ S.next := Nat.ne_of_lt (r.nx n a q)
    unfold mpSet
    rw [if_neg hn]
    exact q⟩
  have ms : mpSet m S.next D S.next = some D := by unfold mpSet; rw [if_pos rfl]
  have apart : ∀ {n : Nat} {ys : List Mn.D} {a : Addr}, S.get n = some (.lst ys) → m n = some a → a ≠ D ∧ F a = none := fun {n ys a} q k => by
    obtain ⟨b, ws, h1, h2, h3, _⟩ := r.lst n ys q
    rw [k] at h1
    cases h1
    have ha : a ≠ D := fun z => by
      rw [z, upd_same] at h3
      cases h3
    rw [upd_ne ha] at h3
    exact ⟨ha, h3⟩
  refine ⟨⟨fun b x q => r.fs b x (same_upd' hF b x q), r.zs, fun b x q => r.dj b x (same_upd' hF b x q), fun n ys q => ?_, fun n n' a ys ys' q q' k k' => ?_, fun n a q => ?_⟩, e, .ref ms⟩
  · by_cases hn : n = S.next
    · subst hn
      rw [get_new_same] at q
      cases q
      exact ⟨D, vs, ms, hH, hF, hZ, rd.mono e⟩
    · rw [get_new_ne hn] at q
      obtain ⟨a, ws, h1, h2, h3, h4, h5⟩ := r.lst n ys q
      exact ⟨a, ws, e.m _ _ h1, h2, (apart q h1).2, h4, h5.mono e⟩
  · have old : ∀ {n : Nat} {ys : List Mn.D} {a : Addr}, n ≠ S.next → (S.new (.lst xs)).get n = some (.lst ys) → mpSet m S.next D n = some a → a ≠ D ∧ S.get n = some (.lst ys) ∧ m n = some a := fun {n ys a} hn q k => by
      rw [get_new_ne hn] at q
      have k2 : m n = some a := by
        unfold mpSet at k
        rw [if_neg hn] at k
        exact k
      exact ⟨(apart q k2).1, q, k2⟩
    by_cases hn : n = S.next
    · by_cases hn' : n' = S.next
      · rw [hn, hn']
      · obtain ⟨z, _, _⟩ := old hn' q' k'
        rw [hn, ms] at k
        cases k
        exact absurd rfl z
    · by_cases hn' : n' = S.next
      · obtain ⟨z, _, _⟩ := old hn q k
        rw [hn', ms] at k'
        cases k'
        exact absurd rfl z
      · obtain ⟨_, q1, k1⟩ := old hn q k
        obtain ⟨_, q2, k2⟩ := old hn' q' k'
        exact r.inj n n' a _ _ q1 q2 k1 k2
  · show n < S.next + 1
    unfold mpSet at q
    by_cases hn : n = S.next
    · omega
    · rw [if_neg hn] at q
      have := r.nx n a q
      omega
theorem Post.takeL {F Z H : Hp} {m : Mp} {S : Sto} {D : Addr} {E : XK} {Q : VK} {k : Bool} {xs : List Mn.D} {vs : List V} (h : Post p F Z m (RD p.K) Q E (Mn.newL k xs S)) (r : SR p.K (upd F D (.lst vs)) Z m S H) (hF : F D = none) (rd : RDs p.K Z m xs vs) : Q (.ref D) H := by
  unfold Mn.newL at h
  split at h
  · cases k with
    | true =>
      obtain ⟨r1, e1, d1⟩ := r.takeC hF rd
      exact h _ _ _ _ e1 r1 d1
    | false =>
      obtain ⟨r1, e1⟩ := r.takeZ hF
      exact h _ _ _ _ e1 r1 (.lst upd_same (rd.mono e1))
  · exact False.elim h
/-- within a comprehension nothing is raised -/
theorem Post.bindN {α β γ δ : Type} {F F' Z : Hp} {m : Mp} {T : Hp → Mp → α → β → Prop} {T' : Hp → Mp → γ → δ → Prop} {Q' : δ → Hp → Prop} {E E' : XK} {r : R α} {f : α → Sto → R γ} {G : β → Hp → Prop} (h : Post p F Z m T' Q' E (r.nox.bind f))
    (k : ∀ d S1 Z1 m1 H1 v, Ext Z m Z1 m1 → SR p.K F' Z1 m1 S1 H1 → T Z1 m1 d v → Post p F Z1 m1 T' Q' E (f d S1) → G v H1) : Post p F' Z m T G E' r := by
  cases r with
  | ok d S =>
    intro Z' m' H' v e s t
    exact k d S Z' m' H' v e s t (Post.ext (r := f d S) h e)
  | exc x S => exact False.elim h
  | bad => exact False.elim h
end
end Mn

/-! Comprehensions, and the theorem of expressions. -/
namespace Mn
open PySem PySem.Spec PyProof.Rows L2
theorem R.bind_assoc {α β γ : Type} (r : R α) (f : α → Sto → R β) (g : β → Sto → R γ) : (r.bind f).bind g = r.bind fun a S => (f a S).bind g := by cases r <;> rfl
theorem R.nox_bind {α β : Type} (r : R α) (f : α → Sto → R β) : (r.bind f).nox = r.nox.bind fun a S => (f a S).nox := by cases r <;> rfl
theorem wipe_get (σ : List (Option V)) (i : Nat) : ∀ vs : List Nat, (L2.wipe σ vs)[i]? = if i ∈ vs then (σ[i]?).map fun _ => none else σ[i]?
  | [] => by simp [L2.wipe]
  | v :: vs => by
    unfold L2.wipe
    by_cases h : v = i
    · subst h
      rw [if_pos List.mem_cons_self, List.getElem?_set]
      rw [if_pos rfl, L2.wipe_length]
      by_cases hl : v < σ.length
      · rw [if_pos hl, List.getElem?_eq_getElem hl]
        rfl
      · rw [if_neg hl, List.getElem?_eq_none (by omega)]
        rfl
    · rw [List.getElem?_set_ne h, wipe_get σ i vs]
      by_cases hi : i ∈ vs
      · rw [if_pos hi, if_pos (List.mem_cons_of_mem _ hi)]
      · rw [if_neg hi, if_neg]
        intro z
        rcases List.mem_cons.mp z with e | e
        · exact h e.symm
        · exact hi e
theorem wipe_idem (σ : List (Option V)) (vs : List Nat) : L2.wipe (L2.wipe σ vs) vs = L2.wipe σ vs := by
  apply List.ext_getElem?
  intro i
  rw [wipe_get, wipe_get]
  by_cases hi : i ∈ vs
  · rw [if_pos hi, if_pos hi]
    cases σ[i]? <;> rfl
  · rw [if_neg hi, if_neg hi]
section
variable {p : Pm} {W : WX} {lv : Nat} {X : Cx}
/-- a new list that is filled -/
theorem SR.lend {K : PySem.W.Frag} {F Z H : Hp} {m : Mp} {S : Sto} {D : Addr} {o : HO} (r : SR K F Z m S H) (h : H D = none) : SR K (upd F D o) Z m S (upd H D o) := by
  obtain ⟨hF, hZ⟩ := r.free h
  refine ⟨fun b x q => ?_, r.zs.trans (same_upd' h), fun b x q => ?_, fun n xs q => ?_, r.inj, r.nx⟩
  · by_cases hb : b = D
    · subst hb
      rw [upd_same] at q
      rw [upd_same]
      exact q
    · rw [upd_ne hb] at q
      rw [upd_ne hb]
      exact r.fs b x q
  · by_cases hb : b = D
    · rw [hb]
      exact hZ
    · rw [upd_ne hb] at q
      exact r.dj b x q
  · obtain ⟨a, vs, h1, h2, h3, h4, h5⟩ := r.lst n xs q
    have ha : a ≠ D := ne_of_none h2 h
    exact ⟨a, vs, h1, by rw [upd_ne ha]; exact h2, by rw [upd_ne ha]; exact h3, h4, h5⟩
abbrev W0 : WX := fun _ _ _ _ => False
theorem Cok.blk (c : Cok p W lv X) {s : Shared} {H : Hp} {scope : Scope} {C : Addr} {cl : List (Str × Addr)} {fp : List Addr} (hk : scope.kind = .function) : Cok p W0 lv (X.blk s H scope (compEnvC scope cl C X.env) fp) :=
  ⟨c.k, c.calm, c.nd, c.room, c.gd, L2.takes0, hk⟩
/-- what a comprehension's code asks is what the rule asks -/
theorem lc_ok {k : Bool} {t : Tg} {w : Wt} {its : List E} {cond : Option E} {e : E} {own : List (Str × Nat)} (hown : ∀ i ∈ tgSl t, i ∈ own.map (·.2)) :
    (∀ σ H Q, tE p W (.comp k t w its cond e (own.map (·.2))) σ H Q → tLc (tI p W w its) (tG p t) (tCo p W0 cond) (tE p W0 e) (own.map (·.2)) σ H Q) := by
  intro σ H Q q
  obtain ⟨F, Z, m, S, env, re, sr, h⟩ := q
  generalize hf : (fun (x : D) (S2 : Sto) => (match bindT t x (wipeE env (own.map (·.2))) with
      | some env' => ((evC p.cl cond env' S2).bind fun b S3 => match b with
        | true => (evE p.cl e env' S3).bind fun d S4 => .ok (some d) S4
        | false => .ok none S3).nox
      | none => .bad : R (Option D))) = f
  have h : Post p F Z m (RD p.K) Q (fun cls d H' => W cls d σ H') ((evEs p.cl its env S).bind fun ws S0 => (R.of S0 (walk w ws)).bind fun xs S1 => (compL f xs [] S1).bind fun ds S5 => newL k ds S5) := by
    rw [← hf]
    exact h
  rw [← R.bind_assoc] at h
  refine ⟨F, Z, m, S, env, re, sr, Post.bind h fun xs S1 Z1 m1 H1 J _ e1 sr1 fol h1 D hD => ?_⟩
  have hFD : F D = none := (sr1.free hD).1
  refine ⟨fun i n H => n = xs.length - i ∧ i ≤ xs.length ∧ ∃ Zi mi Si acc vacc, Ext Z1 m1 Zi mi ∧ SR p.K (upd F D (.lst vacc)) Zi mi Si H ∧ RDs p.K Zi mi acc vacc ∧
    Post p F Zi mi (RD p.K) Q (fun cls d H' => W cls d σ H') ((compL f (xs.drop i) acc Si).bind fun ds S5 => newL k ds S5), ⟨_, rfl, Nat.zero_le _, Z1, m1, S1, [], [], Ext.refl, sr1.lend hD, .nil, h1⟩, ?_⟩
  rintro i n H2 ⟨rfl, hi2, Zi, mi, Si, acc, vacc, ei, sri, rdi, hP⟩
  obtain ⟨f1, f2⟩ := fol.mono ei i H2 sri.zs
  by_cases hl : i < xs.length
  · have hx : xs[i]? = some xs[i] := List.getElem?_eq_getElem hl
    obtain ⟨go, yl⟩ := f1 _ hx
    refine .inr ⟨go, fun H' => _, fun H' hN => ⟨xs.length - (i + 1), by omega, hN⟩, fun x H3 y => ?_⟩
    obtain ⟨Z2, e2, sr2, rd2⟩ : ∃ Z2, Ext Zi mi Z2 mi ∧ SR p.K (upd F D (.lst vacc)) Z2 mi Si H3 ∧ RD p.K Z2 mi xs[i] x := by
      rcases yl x H3 y with ⟨rfl, rd⟩ | ⟨T, vs, es, hT, rfl, e3, rds, rfl⟩
      · exact ⟨Zi, Ext.refl, sri, rd⟩
      · obtain ⟨s2, x2⟩ := sri.newZ (.tup vs) hT
        rw [e3]
        exact ⟨_, x2, s2, .tup (.inl (.inl upd_same)) (rds.mono x2)⟩
    have hP2 := Post.ext hP e2
    rw [List.drop_eq_getElem_cons hl] at hP2
    have hP3 : Post p F Z2 mi (RD p.K) Q (fun cls d H' => W cls d σ H') (((f xs[i] Si).bind fun o S1 => match o with
      | some d => if acc.length < line then compL f (xs.drop (i + 1)) (acc ++ [d]) S1 else .bad
      | none => compL f (xs.drop (i + 1)) acc S1).bind fun ds S5 => newL k ds S5) := hP2
    rw [← hf] at hP3
    dsimp only at hP3
    cases hb : bindT t xs[i] (wipeE env (own.map (·.2))) with
    | none =>
      rw [hb] at hP3
      exact False.elim hP3
    | some env' =>
      rw [hb] at hP3
      dsimp only at hP3
      rw [hf] at hP3
      refine ⟨_, Z2, mi, Si, _, xs[i], env', ((re.mono e1).mono (ei.trans e2)).wipe _, sr2, rd2, hb, fun σ2 re2 only => ⟨(only _ hown).trans (wipe_idem _ _), ?_⟩⟩
      rw [R.nox_bind, R.bind_assoc, R.bind_assoc] at hP3
      refine ⟨_, Z2, mi, Si, env', re2, sr2, Post.bindN hP3 fun b S3 Z3 m3 H4 b' e3 sr3 eb hP4 => ?_⟩
      subst eb
      cases b with
      | true =>
        rw [if_pos rfl]
        dsimp only at hP4
        rw [R.nox_bind, R.bind_assoc] at hP4
        refine ⟨_, Z3, m3, S3, env', re2.mono e3, sr3, Post.bindN hP4 fun d S4 Z4 m4 H5 v e4 sr4 rd4 hP5 => ?_⟩
        have hP6 : Post p F Z4 m4 (RD p.K) Q (fun cls d H' => W cls d σ H') ((if acc.length < line then compL f (xs.drop (i + 1)) (acc ++ [d]) S4 else .bad).bind fun ds S5 => newL k ds S5) := hP5
        split at hP6
        · rename_i hlt
          have ex := (e2.trans e3).trans e4
          refine ⟨vacc, sr4.fs D _ upd_same, by rw [← rdi.length]; exact hlt, rfl, by omega, Z4, m4, S4, acc ++ [d], vacc ++ [v], ei.trans ex, sr4.grow, (rdi.mono ex).append (.one rd4), hP6⟩
        · exact False.elim hP6
      | false =>
        rw [if_neg Bool.false_ne_true]
        have hP5 : Post p F Z3 m3 (RD p.K) Q (fun cls d H' => W cls d σ H') ((compL f (xs.drop (i + 1)) acc S3).bind fun ds S5 => newL k ds S5) := hP4
        exact ⟨rfl, by omega, Z3, m3, S3, acc, vacc, ei.trans (e2.trans e3), sr3, rdi.mono (e2.trans e3), hP5⟩
  · have hi3 : i = xs.length := by omega
    refine .inl ⟨f2 (by omega), ?_⟩
    rw [hi3, List.drop_length] at hP
    exact Post.takeL (k := k) hP sri hFD rdi
end
end Mn

/-! THE THEOREM of expressions. -/
namespace Mn
open PySem PySem.Spec PyProof.Rows L2
/-- where the code of c is looked at -/
structure Sit (p : Pm) (c : CS) (W : WX) (lv : Nat) (X : Cx) (sc : Scope) : Prop where
  ok : Cok p W lv X
  g : Gok p c.gl c.bl lv X.prog X.w X.mg X.base
  n : X.N = c.N
  s : X.env.scope = sc
structure Snd (p : Pm) (c : CS) (n : Nat) : Prop where
  e : ∀ {W : WX} {lv : Nat} {X : Cx} {sc : Scope} {e : Expr} {ce : E}, Sit p c W lv X sc → cE c n sc e = some ce → PE X e (tE p W ce) ∧ PT X e (tT p W ce)
  a : ∀ {W : WX} {lv : Nat} {X : Cx} {sc : Scope} {e : List Expr} {ce : List E}, Sit p c W lv X sc → cEs c n sc e = some ce → PA X e (tA p W ce)
  o : ∀ {W : WX} {lv : Nat} {X : Cx} {sc : Scope} {e : Option Expr} {ce : Option E}, Sit p c W lv X sc → cO c n sc e = some ce → PO X e (tO p W ce)
  i : ∀ {W : WX} {lv : Nat} {X : Cx} {sc : Scope} {e : List Expr} {ce : Option E}, Sit p c W lv X sc → cI c n sc e = some ce → PTs X e (tCo p W ce)
  b : ∀ {W : WX} {lv : Nat} {X : Cx} {sc : Scope} {o : BoolOp} {e : List Expr} {ce : E}, Sit p c W lv X sc → cB c n sc o e = some ce → ∀ pos, PE X (.BoolOp o e pos) (tE p W ce) ∧ PW X (.BoolOp o e pos) (tT p W ce)
  w : ∀ {W : WX} {lv : Nat} {X : Cx} {sc : Scope} {tg e : Expr} {w : Wt} {ce : List E}, Sit p c W lv X sc → cW c n sc tg e = some (w, ce) → PI X tg e (tI p W w ce)
section
variable {p : Pm} {c : CS} {W : WX} {lv : Nat} {X : Cx} {sc : Scope}
theorem gl_of {x : Str} (s : Sit p c W lv X sc) (h : sc.names.lookup x = some .globalImplicit) : Gl X x := by
  show X.env.scope.names.lookup x = some .globalImplicit
  rw [s.s]
  exact h
theorem isB_ok {x : Str} (s : Sit p c W lv X sc) (h : c.isB sc x = true) : Gl X x ∧ X.mg x = none ∧ (x == ("__debug__" : Str)) = false := by
  unfold CS.isB at h
  simp only [Bool.and_eq_true, decide_eq_true_eq] at h
  obtain ⟨⟨h1, h2⟩, h3⟩ := h
  refine ⟨gl_of s ?_, s.g.free x h3, (okName_ok h1).1⟩
  split at h2
  · assumption
  · cases h2
theorem pe_name (s : Sit p c W lv X sc) {x : Str} {pos : Pos} {n : Nat} {ce : E} (h : cE c (n + 1) sc (.Name x pos) = some ce) : PE X (.Name x pos) (tE p W ce) := by
  have h : (if okName x then (match sc.names.lookup x with
      | some .local | some .cell | some .free => (slotOf c.N x).map E.var
      | some .globalImplicit => (match c.gl.lookup x with
        | some (.lit d) => some (E.lit d)
        | _ => none)
      | _ => none) else none) = some ce := h
  split at h
  · rename_i hn
    obtain ⟨n1, n2⟩ := okName_ok hn
    have var : ∀ {ce : E}, Vis X.env.scope x → (slotOf c.N x).map E.var = some ce → PE X (.Name x pos) (tE p W ce) := fun {ce} hv h => by
      cases e : slotOf c.N x with
      | none =>
        rw [e] at h
        cases h
      | some i =>
        rw [e] at h
        cases h
        refine PE.imp (pe_var (i := i) (by rw [s.n]; exact slotOf_ok e) hv n1 n2) fun σ H Q q => ?_
        obtain ⟨F, Z, m, S, env, re, sr, h⟩ := q
        have h : Post p F Z m (RD p.K) Q (fun cls d H' => W cls d σ H') (match env[i]? with
          | some (some d) => .ok d S
          | _ => .bad) := h
        split at h
        · rename_i d hd
          obtain ⟨v, h1, h2⟩ := re.2 i d hd
          exact ⟨v, h1, h.now sr h2⟩
        · exact False.elim h
    split at h
    · rename_i hl
      exact var (.inl (by rw [s.s]; exact hl)) h
    · rename_i hl
      exact var (.inr (.inl (by rw [s.s]; exact hl))) h
    · rename_i hl
      exact var (.inr (.inr (by rw [s.s]; exact hl))) h
    · rename_i hl
      split at h
      · rename_i d hd
        cases h
        obtain ⟨v, u, h1, h2, h3⟩ := s.g.lit x d hd
        refine PE.imp (pe_glob (gl_of s hl) h1 h2 n1) fun σ H Q q => ?_
        obtain ⟨F, Z, m, S, env, re, sr, h⟩ := q
        exact Post.now (p := p) (T := RD p.K) (d := d) h sr (h3 Z m)
      · cases h
    · cases h
  · cases h
theorem pe_const {v : Const} {k : Nat} {pos : Pos} {n : Nat} {ce : E} (h : cE c (n + 1) sc (.Constant v k pos) = some ce) : PE X (.Constant v k pos) (tE p W ce) := by
  cases v with
  | none =>
    cases h
    refine PE.imp pe_non fun σ H Q q => ?_
    obtain ⟨F, Z, m, S, env, re, sr, h⟩ := q
    exact Post.now (p := p) (T := RD p.K) (d := Mn.D.non) h sr RD.non
  | bool b =>
    cases h
    refine PE.imp pe_bl fun σ H Q q => ?_
    obtain ⟨F, Z, m, S, env, re, sr, h⟩ := q
    exact Post.now (p := p) (T := RD p.K) (d := Mn.D.bl b) h sr (RD.bl b)
  | int i =>
    cases h
    refine PE.imp pe_int fun σ H Q q => ?_
    obtain ⟨F, Z, m, S, env, re, sr, h⟩ := q
    exact Post.now (p := p) (T := RD p.K) (d := Mn.D.int i) h sr (RD.int i)
  | str z =>
    cases h
    refine PE.imp pe_str fun σ H Q q => ?_
    obtain ⟨F, Z, m, S, env, re, sr, h⟩ := q
    have ez : z = tx z.cps.toList := by
      unfold tx
      simp
    have r : RD p.K Z m (.str z.cps.toList) (.str z) := by
      have := RD.str (K := p.K) (Z := Z) (m := m) z.cps.toList
      rw [← ez] at this
      exact this
    exact Post.now (p := p) (T := RD p.K) h sr r
  | _ => cases h
/-- where a built-in function is called with one argument -/
theorem pe_biF (s : Sit p c W lv X sc) {x : Str} {b : Bi} {k : Bool} {a : Expr} {ca : E} {pos pos' : Pos} (hx : biFor x = some b) (hg : Gl X x) (hm : X.mg x = none) (hd : (x == ("__debug__" : Str)) = false) (ha : PE X a (tE p W ca)) (hs : ∀ es env, starEach (a :: es) env = (false, eval a env) :: starEach es env) :
    PE X (.Call (.Name x pos') [a] [] pos) (tE p W (.bi b k ca)) := by
  obtain ⟨h1, h2⟩ := biFor_ok hx
  have arg : PA X [a] (tCons (tE p W ca) tNil) := pa_cons ha pa_nil (hs _ _)
  have gen : PE X (.Call (.Name x pos') [a] [] pos) (fun σ H Q => (tCons (tE p W ca) tNil) σ H fun vs H1 => rBi p (fun cls d H' => W cls d σ H') b k vs H1 Q) := by
    refine ⟨fun pins s0 σ H Q I h => ?_⟩
    have cr : CallR X (biOf b) (rBi p (fun cls d H' => W cls d σ H') b k) := call_bi s.ok.k s.ok.calm s.ok.gd s.ok.un b k
    cases b <;> first
      | exact (pe_callB cr hg hm h1 arg h2 hd (hs _ _) rfl).run pins s0 σ H Q I h
      | exact (pe_callTy cr hg hm h1 arg h2 hd (hs _ _) rfl).run pins s0 σ H Q I h
  refine PE.imp gen fun σ H Q q => ?_
  obtain ⟨F, Z, m, S, env, re, sr, h⟩ := q
  exact ⟨F, Z, m, S, env, re, sr, Post.bind h fun d S1 Z1 m1 H1 v _ _ s1 rd h1 => ⟨F, Z1, m1, S1, d, v, rfl, s1, rd, h1⟩⟩
theorem pe_isT (s : Sit p c W lv X sc) {x t : Str} {ty : Ty} {a : Expr} {ca : E} {pos pos' pos2 : Pos} (ht : tyFor t = some ty) (hx : x = ("isinstance" : Str)) (hg : Gl X x) (hm : X.mg x = none) (htb : c.isB sc t = true) (ha : PE X a (tE p W ca)) (hs : ∀ es env, starEach (a :: es) env = (false, eval a env) :: starEach es env) :
    PE X (.Call (.Name x pos') [a, .Name t pos2] [] pos) (tE p W (.isi ca ty)) := by
  subst hx
  obtain ⟨h1, h2⟩ := tyFor_ok ht
  obtain ⟨g1, g2, g3⟩ := isB_ok s htb
  have arg : PA X [a, .Name t pos2] (tCons (tE p W ca) (tCons (tC (.ty (tyOf ty))) tNil)) := pa_cons ha (pa_cons (pe_bltn g1 g2 h1 rfl h2 g3) pa_nil) (hs _ _)
  refine PE.imp (pe_callB (call_isT (p := p) s.ok.k ty) hg hm (by decide +kernel) arg (by decide) (by decide) (hs _ _) rfl) fun σ H Q q => ?_
  obtain ⟨F, Z, m, S, env, re, sr, h⟩ := q
  refine ⟨F, Z, m, S, env, re, sr, Post.bind h fun d S1 Z1 m1 H1 v _ _ s1 rd h1 => ?_⟩
  obtain ⟨k, e, h2⟩ := Post.of h1
  exact ⟨F, Z1, m1, S1, d, v, k, rfl, s1, rd, e, Post.now (p := p) (T := RD p.K) h2 s1 (RD.bl k)⟩
theorem pe_app (s : Sit p c W lv X sc) {o a : Expr} {co ca : E} {m : Str} {pos apos : Pos} (hr : plainRecv o = true) (hm : m = ("append" : Str)) (hl : (apos.endLine == pos.line) = true) (ho : PE X o (tE p W co)) (ha : PE X a (tE p W ca)) (hs : ∀ es env, starEach (a :: es) env = (false, eval a env) :: starEach es env) :
    PE X (.Call (.Attribute o m apos) [a] [] pos) (tE p W (.me .append co [ca])) := by
  subst hm
  have arg : PA X [a] (tCons (tE p W ca) tNil) := pa_cons ha pa_nil (hs _ _)
  have gen : PE X (.Call (.Attribute o "append" apos) [a] [] pos) (fun σ H Q => tBM X.K "list" (fun v vs H Q => ∃ F Z m S x xs, SR p.K F Z m S H ∧ RD p.K Z m x v ∧ RDs p.K Z m xs vs ∧ Post p F Z m (RD p.K) Q (fun cls d H' => W cls d σ H') (mef .append x xs S)) (tE p W co) (tCons (tE p W ca) tNil) σ H Q) := by
    refine ⟨fun pins s0 σ H Q I h => ?_⟩
    refine (pe_bm PySem.F.plainAttrs_list PySem.F.slot_list_append PySem.F.type_list_append (mt_mef (p := p) (E := fun cls d H' => W cls d σ H')) ho arg ?_ ?_ hl (hs _ _) rfl).run pins s0 σ H Q I h
    · cases o <;> first | rfl | cases hr
    · rw [hs]
      rfl
  refine PE.imp gen fun σ H Q q => ?_
  obtain ⟨F, Z, m, S, env, re, sr, h⟩ := q
  refine ⟨F, Z, m, S, env, re, sr, Post.bind h fun d S1 Z1 m1 H1 v _ e1 s1 rd h1 => ?_⟩
  have h1 : Post p F Z1 m1 (RD p.K) Q (fun cls d H' => W cls d σ H') (match isCl S1 d with
    | true => (evEs p.cl [ca] env S1).bind fun xs S2 => mef .append d xs S2
    | false => .bad) := h1
  split at h1
  · rename_i hc
    obtain ⟨n, ys, rfl, e⟩ := get_of_isCl hc
    obtain ⟨a, vs, rfl, _, ha, _⟩ := s1.at rd e
    refine ⟨.inl ⟨rfl, _, .inl (.inl ha)⟩, ?_⟩
    have h2 : Post p F Z1 m1 (RD p.K) Q (fun cls d H' => W cls d σ H') ((evE p.cl ca env S1).bind fun x S2 => mef .append (.ref n) [x] S2) := by
      have e3 : (evEs p.cl [ca] env S1).bind (fun xs S2 => mef .append (.ref n) xs S2) = (evE p.cl ca env S1).bind fun x S2 => mef .append (.ref n) [x] S2 := by
        show ((evE p.cl ca env S1).bind fun x S2 => (R.ok [] S2).bind fun xs S3 => .ok (x :: xs) S3).bind _ = _
        rw [R.bind_assoc]
        rfl
      rw [← e3]
      exact h1
    exact ⟨F, Z1, m1, S1, env, re.mono e1, s1, Post.bind h2 fun d S2 Z2 m2 H2 w _ e2 s2 rd2 h3 => ⟨F, Z2, m2, S2, _, _, s2, rd.mono e2, .one rd2, h3⟩⟩
  · exact False.elim h1
end
end Mn

/-! THE THEOREM of expressions: all forms. -/
namespace Mn
open PySem PySem.Spec PyProof.Rows L2
theorem opt_map {α β : Type} {f : α → β} {o : Option α} {b : β} (h : o.map f = some b) : ∃ a, o = some a ∧ f a = b := by
  cases o with
  | none => cases h
  | some a => exact ⟨a, rfl, Option.some.inj h⟩
section
variable {p : Pm} {c : CS} {W : WX} {lv : Nat} {X : Cx} {sc : Scope}
/-- (evE).bind of a truth, as a test's answer -/
theorem evC_bind {α : Type} (cl : Calls) (ce : E) (env : Env) (S : Sto) (f : Bool → Sto → R α) :
    ((evE cl ce env S).bind fun x S1 => match x with
      | .bl true => f true S1
      | .bl false => f false S1
      | _ => .bad) = (evC cl (some ce) env S).bind f := by
  show _ = ((evE cl ce env S).bind fun x S1 => match x with
      | .bl i => R.ok i S1
      | _ => .bad).bind f
  rw [R.bind_assoc]
  congr 1
  funext x S1
  cases x <;> first | rfl | (rename_i b; cases b <;> rfl)
theorem blk_sit (s : Sit p c W lv X sc) {s0 : Shared} {H : Hp} {scope : Scope} {C : Addr} {cl : List (Str × Addr)} {fp : List Addr} (hk : scope.kind = .function) : Sit p c W0 lv (X.blk s0 H scope (compEnvC scope cl C X.env) fp) (relS scope sc) :=
  ⟨s.ok.blk hk, s.g, s.n, by rw [← s.s]; rfl⟩
theorem blk_sto {s0 : Shared} {H : Hp} {scope : Scope} {C : Addr} {cl : List (Str × Addr)} {fp : List Addr} : Sto1 scope (X.blk s0 H scope (compEnvC scope cl C X.env) fp) := by
  refine ⟨fun x h => ?_, fun x h => ⟨?_, ?_⟩⟩
  · exact lookup_relS_keep (sc := X.env.scope) (by decide) h
  · exact lookup_relS_keep (sc := X.env.scope) (by decide) h
  · show (scope.names.lookup x == some .cell) = true
    rw [h]
    rfl
theorem snd_step {n : Nat} (ih : Snd p c n) : Snd p c (n + 1) where
  a := fun {W lv X sc es ces} s h => by
    cases es with
    | nil =>
      cases h
      refine PA.imp pa_nil fun σ H Q q => ?_
      obtain ⟨F, Z, m, S, env, re, sr, h⟩ := q
      exact Post.now (p := p) (T := RDs p.K) (d := []) h sr RDs.nil
    | cons e es =>
      unfold cEs at h
      split at h
      · rename_i a as h1 h2
        cases h
        refine PA.imp (pa_cons (ih.e s h1).1 (ih.a s h2) (star_of h1 _ _)) fun σ H Q q => ?_
        obtain ⟨F, Z, m, S, env, re, sr, h⟩ := q
        refine ⟨F, Z, m, S, env, re, sr, Post.bind h fun d S1 Z1 m1 H1 v _ e1 s1 rd h1 => ⟨F, Z1, m1, S1, env, re.mono e1, s1, Post.bind h1 fun ds S2 Z2 m2 H2 vs _ e2 s2 rds h2 => ?_⟩⟩
        exact Post.now (p := p) (T := RDs p.K) (d := d :: ds) h2 s2 (RDs.cons (rd.mono e2) rds)
      · cases h
  o := fun {W lv X sc e ce} s h => by
    cases e with
    | none =>
      cases h
      refine PO.imp po_none fun σ H Q q => ?_
      obtain ⟨F, Z, m, S, env, re, sr, h⟩ := q
      exact Post.now (p := p) (T := fun _ _ (a b : Option Int) => a = b) (d := none) h sr rfl
    | some e =>
      obtain ⟨a, h1, rfl⟩ := opt_map (show (cE c n sc e).map some = some ce from h)
      refine PO.imp (po_some (ih.e s h1).1) fun σ H Q q => ?_
      obtain ⟨F, Z, m, S, env, re, sr, h⟩ := q
      refine ⟨F, Z, m, S, env, re, sr, Post.bind h fun d S1 Z1 m1 H1 v _ e1 s1 rd h1 => ?_⟩
      cases rd <;> first | exact False.elim h1 | skip
      exact ⟨_, rfl, Post.now (p := p) (T := fun _ _ (a b : Option Int) => a = b) h1 s1 rfl⟩
  i := fun {W lv X sc e ce} s h => by
    cases e with
    | nil =>
      cases h
      exact ⟨fun pins s0 σ H Q I q => pts_nil.run pins s0 σ H Q I (by
        obtain ⟨F, Z, m, S, env, re, sr, h⟩ := q
        exact Post.now (p := p) (T := fun _ _ (a b : Bool) => a = b) (d := true) h sr rfl)⟩
    | cons e es =>
      cases es with
      | nil =>
        obtain ⟨a, h1, rfl⟩ := opt_map (show (cE c n sc e).map some = some ce from h)
        exact ⟨fun pins s0 σ H Q I q => (pts_one (ih.e s h1).2).run pins s0 σ H Q I q⟩
      | cons _ _ => cases h
  b := fun {W lv X sc o es ce} s h pos => by
    cases es with
    | nil => cases h
    | cons e es =>
      cases es with
      | nil =>
        have h : cE c n sc e = some ce := h
        refine ⟨pe_one (ih.e s h).1, ?_⟩
        cases o with
        | And => exact pw_and1 (ih.e s h).2
        | Or => exact pw_or1 (ih.e s h).2
      | cons d es =>
        have h : (match (generalizing := false) cE c n sc e, cB c n sc o (d :: es) with
          | some a, some b => some (match (generalizing := false) o with
            | .And => E.band a b
            | .Or => E.bor a b)
          | _, _ => none) = some ce := h
        split at h
        · rename_i a b h1 h2
          cases h
          obtain ⟨e1, e2⟩ := ih.e s h1
          obtain ⟨b1, b2⟩ := ih.b s h2 pos
          cases o with
          | And =>
            constructor
            · refine PE.imp (pe_and e1 b1) fun σ H Q q => ?_
              obtain ⟨F, Z, m, S, env, re, sr, h⟩ := q
              refine ⟨F, Z, m, S, env, re, sr, Post.bind h fun d S1 Z1 m1 H1 v _ e1 s1 rd h1 => ?_⟩
              obtain ⟨k, rfl, rfl⟩ : ∃ k, d = .bl k ∧ v = .bl k := by cases rd <;> first | exact False.elim h1 | exact ⟨_, rfl, rfl⟩
              refine ⟨k, rfl, ?_⟩
              cases k with
              | true => exact ⟨F, Z1, m1, S1, env, re.mono e1, s1, h1⟩
              | false => exact Post.now (p := p) (T := RD p.K) (d := Mn.D.bl false) h1 s1 (RD.bl false)
            · refine PW.imp (pw_and e2 b2) fun σ H Q q => ?_
              obtain ⟨F, Z, m, S, env, re, sr, h⟩ := q
              have h : Post p F Z m (fun _ _ (a b : Bool) => a = b) Q (fun cls d H' => W cls d σ H') (((evE p.cl a env S).bind fun x S1 => match x with
                | .bl true => evE p.cl b env S1
                | .bl false => .ok (.bl false) S1
                | _ => .bad).bind fun x S1 => match x with
                | .bl i => R.ok i S1
                | _ => .bad) := h
              have e3 : ((evE p.cl a env S).bind fun x S1 => match x with
                | .bl true => evE p.cl b env S1
                | .bl false => .ok (.bl false) S1
                | _ => .bad) = (evC p.cl (some a) env S).bind fun k S1 => match k with
                | true => evE p.cl b env S1
                | false => .ok (.bl false) S1 := evC_bind p.cl a env S fun k S1 => match k with
                | true => evE p.cl b env S1
                | false => .ok (.bl false) S1
              rw [e3, R.bind_assoc] at h
              refine ⟨F, Z, m, S, env, re, sr, Post.bind h fun k S1 Z1 m1 H1 v _ e1 s1 rd h1 => ?_⟩
              subst rd
              cases k with
              | true => exact ⟨F, Z1, m1, S1, env, re.mono e1, s1, h1⟩
              | false => exact Post.now (p := p) (T := fun _ _ (a b : Bool) => a = b) (d := false) h1 s1 rfl
          | Or =>
            constructor
            · refine PE.imp (pe_or e1 b1) fun σ H Q q => ?_
              obtain ⟨F, Z, m, S, env, re, sr, h⟩ := q
              refine ⟨F, Z, m, S, env, re, sr, Post.bind h fun d S1 Z1 m1 H1 v _ e1 s1 rd h1 => ?_⟩
              obtain ⟨k, rfl, rfl⟩ : ∃ k, d = .bl k ∧ v = .bl k := by cases rd <;> first | exact False.elim h1 | exact ⟨_, rfl, rfl⟩
              refine ⟨k, rfl, ?_⟩
              cases k with
              | false => exact ⟨F, Z1, m1, S1, env, re.mono e1, s1, h1⟩
              | true => exact Post.now (p := p) (T := RD p.K) (d := Mn.D.bl true) h1 s1 (RD.bl true)
            · refine PW.imp (pw_or e2 b2) fun σ H Q q => ?_
              obtain ⟨F, Z, m, S, env, re, sr, h⟩ := q
              have h : Post p F Z m (fun _ _ (a b : Bool) => a = b) Q (fun cls d H' => W cls d σ H') (((evE p.cl a env S).bind fun x S1 => match x with
                | .bl true => .ok (.bl true) S1
                | .bl false => evE p.cl b env S1
                | _ => .bad).bind fun x S1 => match x with
                | .bl i => R.ok i S1
                | _ => .bad) := h
              have e3 : ((evE p.cl a env S).bind fun x S1 => match x with
                | .bl true => .ok (.bl true) S1
                | .bl false => evE p.cl b env S1
                | _ => .bad) = (evC p.cl (some a) env S).bind fun k S1 => match k with
                | true => .ok (.bl true) S1
                | false => evE p.cl b env S1 := evC_bind p.cl a env S fun k S1 => match k with
                | true => .ok (.bl true) S1
                | false => evE p.cl b env S1
              rw [e3, R.bind_assoc] at h
              refine ⟨F, Z, m, S, env, re, sr, Post.bind h fun k S1 Z1 m1 H1 v _ e1 s1 rd h1 => ?_⟩
              subst rd
              cases k with
              | false => exact ⟨F, Z1, m1, S1, env, re.mono e1, s1, h1⟩
              | true => exact Post.now (p := p) (T := fun _ _ (a b : Bool) => a = b) (d := true) h1 s1 rfl
        · cases h
  w := fun {W lv X sc tg e w ce} s h => by
    have plain : ∀ {e : Expr} {a : E}, cE c n sc e = some a → PI X tg e (tI p W .of [a]) := fun {e a} h1 => by
      have he := (ih.e s h1).1
      refine ⟨fun pins s0 σ H G I q => ?_⟩
      obtain ⟨F, Z, m, S, env, re, sr, h⟩ := q
      have h2 : Post p F Z m (fun Z m ds J => Fol p.K Z m J ds) G (fun cls d H' => W cls d σ H') ((evE p.cl a env S).bind fun x S1 => R.of S1 (walk .of [x])) := by
        have e3 : (evEs p.cl [a] env S).bind (fun ws S0 => R.of S0 (walk .of ws)) = (evE p.cl a env S).bind fun x S2 => R.of S2 (walk .of [x]) := by
          show ((evE p.cl a env S).bind fun x S2 => (R.ok [] S2).bind fun xs S3 => .ok (x :: xs) S3).bind _ = _
          rw [R.bind_assoc]
          rfl
        rw [← e3]
        exact h
      -- a list or a tuple: by what it is
      cases er : evE p.cl a env S with
      | bad =>
        rw [er] at h2
        exact False.elim h2
      | exc x S1 =>
        rw [er] at h2
        exact (pi_list he).run pins s0 σ H G I ⟨F, Z, m, S, env, re, sr, by rw [er]; exact h2⟩
      | ok d S1 =>
        rw [er] at h2
        cases d with
        | lst xs =>
          refine (pi_list he).run pins s0 σ H G I ⟨F, Z, m, S, env, re, sr, by
            rw [er]
            intro Z1 m1 H1 v e1 s1 rd
            cases rd with
            | lst q1 q2 =>
              rename_i a0 vs
              refine ⟨a0, rfl, ⟨vs, .inl (.inl (s1.zs _ _ q1))⟩, ?_⟩
              rw [s.ok.k]
              exact h2 Z1 m1 H1 _ e1 s1 (fol_list q1 q2)⟩
        | tup xs =>
          refine (pi_tup he).run pins s0 σ H G I ⟨F, Z, m, S, env, re, sr, by
            rw [er]
            intro Z1 m1 H1 v e1 s1 rd
            cases rd with
            | tup q1 q2 =>
              rename_i a0 vs
              refine ⟨a0, rfl, ⟨vs, by rw [s.ok.k]; exact seqT s1.zs q1⟩, ?_⟩
              rw [s.ok.k]
              exact h2 Z1 m1 H1 _ e1 s1 (fol_tup q1 q2)⟩
        | _ => exact False.elim h2
    have other : ∀ {e : Expr}, (∀ x p args pos, e ≠ .Call (.Name x p) args [] pos) → cW c (n + 1) sc tg e = some (w, ce) → PI X tg e (tI p W w ce) := fun {e} hne h => by
      have h : (cE c n sc e).map (fun a => (Wt.of, [a])) = some (w, ce) := by
        cases e <;> first | exact h | skip
        rename_i f args kws pos
        cases f <;> first | exact h | skip
        rename_i x px
        cases kws with
        | nil => exact absurd rfl (hne _ _ _ _)
        | cons _ _ => exact h
      obtain ⟨a, h1, h2⟩ := opt_map h
      cases h2
      exact plain h1
    by_cases hc : ∃ x p args pos, e = .Call (.Name x p) args [] pos
    · obtain ⟨x, px, args, pos, rfl⟩ := hc
      replace h : (if (decide (x = ("range" : Str)) && c.isB sc x) = true then (match (generalizing := false) args with
          | [_] => (cEs c n sc args).map fun as => (Wt.rng1, as)
          | [_, _] => (cEs c n sc args).map fun as => (Wt.rng2, as)
          | _ => none)
        else if (decide (x = ("zip" : Str)) && c.isB sc x) = true then (match (generalizing := false) args, tg with
          | [_, _], .Tuple _ _ _ => (cEs c n sc args).map fun as => (Wt.zip, as)
          | _, _ => none)
        else (cE c n sc (.Call (.Name x px) args [] pos)).map fun a => (Wt.of, [a])) = some (w, ce) := h
      split at h
      · rename_i hx
        simp only [Bool.and_eq_true, decide_eq_true_eq] at hx
        obtain ⟨rfl, hb⟩ := hx
        obtain ⟨g1, g2, g3⟩ := isB_ok s hb
        split at h
        · rename_i a1
          obtain ⟨as, h1, h2⟩ := opt_map h
          cases h2
          have hst := stars_of X.env h1
          refine PI.imp (pi_range1 g1 g2 (ih.a s h1) hst) fun σ H G q => ?_
          obtain ⟨F, Z, m, S, env, re, sr, h⟩ := q
          refine ⟨F, Z, m, S, env, re, sr, Post.bind h fun ds S1 Z1 m1 H1 vs _ e1 s1 rds h1 => ?_⟩
          cases rds with
          | nil => exact False.elim h1
          | @cons d1 v1 _ _ r1 r2 =>
            cases r2 with
            | cons _ _ => cases r1 <;> exact False.elim h1
            | nil =>
              obtain ⟨j, rfl, rfl⟩ : ∃ j, d1 = .int j ∧ v1 = .int j := by cases r1 <;> first | exact False.elim h1 | exact ⟨_, rfl, rfl⟩
              have h1 : Post p F Z1 m1 (fun Z m ds J => Fol p.K Z m J ds) G (fun cls d H' => W cls d σ H') (R.of S1 (if small62 j then some (upto 0 j.toNat) else none)) := h1
              split at h1
              · rename_i hs
                simp only [small62, Bool.and_eq_true, decide_eq_true_eq] at hs
                exact ⟨j, rfl, by omega, by omega, h1 Z1 m1 H1 _ Ext.refl s1 (fol_rng 0 _)⟩
              · exact False.elim h1
        · rename_i a1 a2
          obtain ⟨as, h1, h2⟩ := opt_map h
          cases h2
          have hst := stars_of X.env h1
          refine PI.imp (pi_range2 g1 g2 (ih.a s h1) hst (tail_stars hst (by
            have h3 := h1
            cases n with
            | zero => cases h3
            | succ n =>
              unfold cEs at h3
              split at h3
              · rename_i h4 _
                exact star_of h4 _ _
              · cases h3))) fun σ H G q => ?_
          obtain ⟨F, Z, m, S, env, re, sr, h⟩ := q
          refine ⟨F, Z, m, S, env, re, sr, Post.bind h fun ds S1 Z1 m1 H1 vs _ e1 s1 rds h1 => ?_⟩
          cases rds with
          | nil => exact False.elim h1
          | @cons d1 v1 _ _ r1 r2 =>
            cases r2 with
            | nil => cases r1 <;> exact False.elim h1
            | @cons d2 v2 _ _ r3 r4 =>
              cases r4 with
              | cons _ _ => cases r1 <;> cases r3 <;> exact False.elim h1
              | nil =>
                obtain ⟨i, j, rfl, rfl, rfl, rfl⟩ : ∃ i j, d1 = .int i ∧ v1 = .int i ∧ d2 = .int j ∧ v2 = .int j := by cases r1 <;> cases r3 <;> first | exact False.elim h1 | exact ⟨_, _, rfl, rfl, rfl, rfl⟩
                have h1 : Post p F Z1 m1 (fun Z m ds J => Fol p.K Z m J ds) G (fun cls d H' => W cls d σ H') (R.of S1 (if (small62 i && small62 j) = true then some (upto i (j - i).toNat) else none)) := h1
                split at h1
                · rename_i hs
                  simp only [small62, Bool.and_eq_true, decide_eq_true_eq] at hs
                  exact ⟨i, j, rfl, by omega, h1 Z1 m1 H1 _ Ext.refl s1 (fol_rng i _)⟩
                · exact False.elim h1
        · cases h
      · split at h
        · rename_i hx
          simp only [Bool.and_eq_true, decide_eq_true_eq] at hx
          obtain ⟨rfl, hb⟩ := hx
          obtain ⟨g1, g2, g3⟩ := isB_ok s hb
          split at h
          · rename_i a1 a2 els kk tpos
            obtain ⟨as, h1, h2⟩ := opt_map h
            cases h2
            have hst := stars_of X.env h1
            have hst1 : starEach [a1, a2] X.env = (false, eval a1 X.env) :: starEach [a2] X.env := by
              have h3 := h1
              cases n with
              | zero => cases h3
              | succ n =>
                unfold cEs at h3
                split at h3
                · rename_i h4 _
                  exact star_of h4 _ _
                · cases h3
            refine PI.imp (RZ.pi_zipA g1 g2 (ih.a s h1) hst1 (noStar pos (tail_stars hst hst1))) fun σ H G q => ?_
            obtain ⟨F, Z, m, S, env, re, sr, h⟩ := q
            refine ⟨F, Z, m, S, env, re, sr, Post.bind h fun ds S1 Z1 m1 H1 vs _ e1 s1 rds h1 => ?_⟩
            cases rds with
            | nil => exact False.elim h1
            | cons r1 r2 =>
              cases r2 with
              | nil => cases r1 <;> exact False.elim h1
              | cons r3 r4 =>
                cases r4 with
                | cons _ _ => cases r1 <;> cases r3 <;> exact False.elim h1
                | nil =>
                  cases r1 with
                  | @tup xs1 b1 ws1 q1 q2 =>
                    cases r3 with
                    | @tup xs2 b2 ws2 q3 q4 =>
                      refine ⟨b1, b2, ws1, ws2, rfl, .inr ⟨by rw [s.ok.k]; exact seqT s1.zs q1, by rw [s.ok.k]; exact seqT s1.zs q3, ?_⟩⟩
                      rw [s.ok.k]
                      exact h1 Z1 m1 H1 _ Ext.refl s1 (fol_zipT q1 q3 q2 q4)
                    | _ => exact False.elim h1
                  | @lst xs1 b1 ws1 q1 q2 =>
                    cases r3 with
                    | @lst xs2 b2 ws2 q3 q4 =>
                      refine ⟨b1, b2, ws1, ws2, rfl, .inl ⟨.inl (.inl (s1.zs _ _ q1)), .inl (.inl (s1.zs _ _ q3)), ?_⟩⟩
                      rw [s.ok.k]
                      exact h1 Z1 m1 H1 _ Ext.refl s1 (fol_zip q1 q3 q2 q4)
                    | _ => exact False.elim h1
                  | _ => cases r3 <;> exact False.elim h1
          · cases h
        · obtain ⟨a, h1, h2⟩ := opt_map h
          cases h2
          exact plain h1
    · exact other (fun x px args pos z => hc ⟨x, px, args, pos, z⟩) h
  e := fun {W lv X sc e ce} s h => by
    cases e with
    | Name x pos => 
      have h1 := pe_name s h
      exact ⟨h1, pt_of h1 fun _ => rfl⟩
    | Constant v k pos =>
      have h1 := pe_const (W := W) (X := X) (p := p) h
      exact ⟨h1, pt_of h1 fun _ => rfl⟩
    | UnaryOp o a pos =>
      cases o with
      | USub =>
        obtain ⟨ca, h1, rfl⟩ := opt_map (show (cE c n sc a).map E.neg = some ce from h)
        have g : PE X (.UnaryOp .USub a pos) (tE p W (.neg ca)) := by
          refine PE.imp (pe_un un_neg (ih.e s h1).1) fun σ H Q q => ?_
          obtain ⟨F, Z, m, S, env, re, sr, h⟩ := q
          refine ⟨F, Z, m, S, env, re, sr, Post.bind h fun d S1 Z1 m1 H1 v _ e1 s1 rd h1 => ?_⟩
          obtain ⟨j, rfl, rfl⟩ : ∃ j, d = .int j ∧ v = .int j := by cases rd <;> first | exact False.elim h1 | exact ⟨_, rfl, rfl⟩
          dsimp only at h1
          rw [frI_eq] at h1
          exact ⟨j, rfl, h1.now s1 (.int _)⟩
        exact ⟨g, pt_of g fun _ => rfl⟩
      | Not =>
        obtain ⟨ca, h1, rfl⟩ := opt_map (show (cE c n sc a).map E.bnot = some ce from h)
        obtain ⟨e1, e2⟩ := ih.e s h1
        constructor
        · refine PE.imp (pe_not e1) fun σ H Q q => ?_
          obtain ⟨F, Z, m, S, env, re, sr, h⟩ := q
          refine ⟨F, Z, m, S, env, re, sr, Post.bind h fun d S1 Z1 m1 H1 v _ e1 s1 rd h1 => ?_⟩
          obtain ⟨k, rfl, rfl⟩ : ∃ k, d = .bl k ∧ v = .bl k := by cases rd <;> first | exact False.elim h1 | exact ⟨_, rfl, rfl⟩
          exact ⟨k, rfl, Post.now (p := p) (T := RD p.K) (d := Mn.D.bl (!k)) h1 s1 (.bl _)⟩
        · refine PT.imp (pt_not e2) fun σ H Q q => ?_
          obtain ⟨F, Z, m, S, env, re, sr, h⟩ := q
          have h : Post p F Z m (fun _ _ (a b : Bool) => a = b) Q (fun cls d H' => W cls d σ H') (((evE p.cl ca env S).bind fun x S1 => match x with
            | .bl k => R.ok (Mn.D.bl (!k)) S1
            | _ => .bad).bind fun x S1 => match x with
            | .bl i => R.ok i S1
            | _ => .bad) := h
          have e3 : (((evE p.cl ca env S).bind fun x S1 => match x with
            | .bl k => R.ok (Mn.D.bl (!k)) S1
            | _ => .bad).bind fun x S1 => match x with
            | .bl i => R.ok i S1
            | _ => .bad) = (evC p.cl (some ca) env S).bind fun k S1 => R.ok (!k) S1 := by
            show _ = ((evE p.cl ca env S).bind fun x S1 => match x with
              | .bl i => R.ok i S1
              | _ => .bad).bind _
            rw [R.bind_assoc, R.bind_assoc]
            congr 1
            funext x S1
            cases x <;> rfl
          rw [e3] at h
          refine ⟨F, Z, m, S, env, re, sr, Post.bind h fun k S1 Z1 m1 H1 v _ e1 s1 rd h1 => ?_⟩
          subst rd
          exact Post.now (p := p) (T := fun _ _ (a b : Bool) => a = b) (d := !k) h1 s1 rfl
      | _ => cases h
    | BinOp a o b pos =>
      have h : (match (generalizing := false) boOf o, cE c n sc a, cE c n sc b with
        | some o, some a, some b => some (E.bin o a b)
        | _, _, _ => none) = some ce := h
      split at h
      · rename_i bo ca cb h1 h2 h3
        cases h
        have eo := boOf_ok h1
        subst eo
        have g : PE X (.BinOp a (opOf bo) b pos) (tE p W (.bin bo ca cb)) := by
          have gen : PE X (.BinOp a (opOf bo) b pos) (fun σ H Q => tOp (rBop p (fun cls d H' => W cls d σ H') bo) (tE p W ca) (tE p W cb) σ H Q) :=
            ⟨fun pins s0 σ H Q I q => (pe_op (op_bop (E := fun cls d H' => W cls d σ H') s.ok.k bo) (ih.e s h2).1 (ih.e s h3).1).run pins s0 σ H Q I q⟩
          refine PE.imp gen fun σ H Q q => ?_
          obtain ⟨F, Z, m, S, env, re, sr, h⟩ := q
          refine ⟨F, Z, m, S, env, re, sr, Post.bind h fun d S1 Z1 m1 H1 v _ e1 s1 rd h1 => ⟨F, Z1, m1, S1, env, re.mono e1, s1, Post.bind h1 fun d2 S2 Z2 m2 H2 v2 _ e2 s2 rd2 h2 => ?_⟩⟩
          exact ⟨F, Z2, m2, S2, d, d2, s2, rd.mono e2, rd2, h2⟩
        exact ⟨g, pt_of g fun _ => rfl⟩
      · cases h
    | BoolOp o es pos =>
      obtain ⟨h1, h2⟩ := ih.b s (show cB c n sc o es = some ce from h) pos
      exact ⟨h1, h2.pt⟩
    | IfExp t a b pos =>
      have h : (match (generalizing := false) cE c n sc t, cE c n sc a, cE c n sc b with
        | some t, some a, some b => some (E.ife t a b)
        | _, _, _ => none) = some ce := h
      split at h
      · rename_i ct ca cb h1 h2 h3
        cases h
        obtain ⟨a1, a2⟩ := ih.e s h2
        obtain ⟨b1, b2⟩ := ih.e s h3
        constructor
        · refine PE.imp (pe_ifExp (ih.e s h1).2 a1 b1) fun σ H Q q => ?_
          obtain ⟨F, Z, m, S, env, re, sr, h⟩ := q
          have h : Post p F Z m (RD p.K) Q (fun cls d H' => W cls d σ H') ((evE p.cl ct env S).bind fun x S1 => match x with
            | .bl true => evE p.cl ca env S1
            | .bl false => evE p.cl cb env S1
            | _ => .bad) := h
          rw [evC_bind p.cl ct env S fun k S1 => match k with
            | true => evE p.cl ca env S1
            | false => evE p.cl cb env S1] at h
          refine ⟨F, Z, m, S, env, re, sr, Post.bind h fun k S1 Z1 m1 H1 v _ e1 s1 rd h1 => ?_⟩
          subst rd
          cases k with
          | true => exact ⟨F, Z1, m1, S1, env, re.mono e1, s1, h1⟩
          | false => exact ⟨F, Z1, m1, S1, env, re.mono e1, s1, h1⟩
        · refine PT.imp (isTrue_ife (ih.e s h1).2 a2 b2) fun σ H Q q => ?_
          obtain ⟨F, Z, m, S, env, re, sr, h⟩ := q
          have h : Post p F Z m (fun _ _ (a b : Bool) => a = b) Q (fun cls d H' => W cls d σ H') (((evE p.cl ct env S).bind fun x S1 => match x with
            | .bl true => evE p.cl ca env S1
            | .bl false => evE p.cl cb env S1
            | _ => .bad).bind fun x S1 => match x with
            | .bl i => R.ok i S1
            | _ => .bad) := h
          rw [evC_bind p.cl ct env S fun k S1 => match k with
            | true => evE p.cl ca env S1
            | false => evE p.cl cb env S1, R.bind_assoc] at h
          refine ⟨F, Z, m, S, env, re, sr, Post.bind h fun k S1 Z1 m1 H1 v _ e1 s1 rd h1 => ?_⟩
          subst rd
          cases k with
          | true => exact ⟨F, Z1, m1, S1, env, re.mono e1, s1, h1⟩
          | false => exact ⟨F, Z1, m1, S1, env, re.mono e1, s1, h1⟩
      · cases h
    | Tuple es kk pos =>
      obtain ⟨ces, h1, rfl⟩ := opt_map (show (cEs c n sc es).map E.tup = some ce from h)
      have g : PE X (.Tuple es kk pos) (tE p W (.tup ces)) := by
        refine PE.imp (pe_tup (ih.a s h1)) fun σ H Q q => ?_
        obtain ⟨F, Z, m, S, env, re, sr, h⟩ := q
        refine ⟨F, Z, m, S, env, re, sr, Post.bind h fun ds S1 Z1 m1 H1 vs _ e1 s1 rds h1 => ?_⟩
        split at h1
        · rename_i hl
          refine ⟨by rw [← rds.length]; exact hl, fun a ha => ?_⟩
          exact h1.newZ s1 (fun Z' b e hb => .tup (.inl (.inl hb)) (rds.mono e)) a ha
        · exact False.elim h1
      exact ⟨g, pt_of g fun _ => rfl⟩
    | List es pos =>
      obtain ⟨ces, h1, rfl⟩ := opt_map (show (cEs c n sc es).map (E.lst (c.isCel pos)) = some ce from h)
      have g : PE X (.List es pos) (tE p W (.lst (c.isCel pos) ces)) := by
        refine PE.imp (pe_lst (ih.a s h1)) fun σ H Q q => ?_
        obtain ⟨F, Z, m, S, env, re, sr, h⟩ := q
        exact ⟨F, Z, m, S, env, re, sr, Post.bind h fun ds S1 Z1 m1 H1 vs _ e1 s1 rds h1 => h1.newL s1 rds⟩
      exact ⟨g, pt_of g fun _ => rfl⟩
    | Subscript a b pos =>
      have gen : (match (generalizing := false) cE c n sc a, cE c n sc b with
        | some a, some b => some (E.ix a b)
        | _, _ => none) = some ce → PE X (.Subscript a b pos) (tE p W ce) ∧ PT X (.Subscript a b pos) (tT p W ce) := fun h => by
        split at h
        · rename_i ca cb h1 h2
          cases h
          have g : PE X (.Subscript a b pos) (tE p W (.ix ca cb)) := by
            refine PE.imp (pe_ix (ix_ixf (p := p) s.ok.k) (ih.e s h1).1 (ih.e s h2).1 (plainIx_of h2)) fun σ H Q q => ?_
            obtain ⟨F, Z, m, S, env, re, sr, h⟩ := q
            refine ⟨F, Z, m, S, env, re, sr, Post.bind h fun d S1 Z1 m1 H1 v _ e1 s1 rd h1 => ⟨F, Z1, m1, S1, env, re.mono e1, s1, Post.bind h1 fun d2 S2 Z2 m2 H2 v2 _ e2 s2 rd2 h2 => ?_⟩⟩
            cases e : ixf d d2 S2 with
            | none =>
              rw [e] at h2
              exact False.elim h2
            | some r =>
              rw [e] at h2
              exact ⟨F, Z2, m2, S2, d, d2, r, s2, rd.mono e2, rd2, e, fun u hu => h2.now s2 hu⟩
          exact ⟨g, pt_of g fun _ => rfl⟩
        · cases h
      cases b with
      | Slice lo hi st p2 =>
        cases st with
        | some _ => exact gen h
        | none =>
          have h : (match (generalizing := false) cE c n sc a, cO c n sc lo, cO c n sc hi with
            | some a, some lo, some hi => some (E.slc a lo hi)
            | _, _, _ => none) = some ce := h
          split at h
          · rename_i ca clo chi h1 h2 h3
            cases h
            have g : PE X (.Subscript a (.Slice lo hi none p2) pos) (tE p W (.slc ca clo chi)) := by
              have gen : PE X (.Subscript a (.Slice lo hi none p2) pos) (fun σ H Q => tSl _ (tE p W ca) (tO p W clo) (tO p W chi) σ H Q) :=
                ⟨fun pins s0 σ H Q I q => (pe_slice (sl_cut (p := p) (E := fun cls d H' => W cls d σ H') s.ok.k) (ih.e s h1).1 (ih.o s h2) (ih.o s h3)).run pins s0 σ H Q I q⟩
              refine PE.imp gen fun σ H Q q => ?_
              obtain ⟨F, Z, m, S, env, re, sr, h⟩ := q
              refine ⟨F, Z, m, S, env, re, sr, Post.bind h fun d S1 Z1 m1 H1 v _ e1 s1 rd h1 => ⟨F, Z1, m1, S1, env, re.mono e1, s1, Post.bind h1 fun l S2 Z2 m2 H2 l' _ e2 s2 rl h2 => ?_⟩⟩
              subst rl
              refine ⟨F, Z2, m2, S2, env, (re.mono e1).mono e2, s2, Post.bind h2 fun u S3 Z3 m3 H3 u' _ e3 s3 ru h3 => ?_⟩
              subst ru
              cases e : cutf d l u S3 with
              | none =>
                rw [e] at h3
                exact False.elim h3
              | some r =>
                rw [e] at h3
                exact ⟨F, Z3, m3, S3, d, r, s3, rd.mono (e2.trans e3), e, h3⟩
            exact ⟨g, pt_of g fun _ => rfl⟩
          · cases h
      | _ => exact gen h
    | ListComp elt gens scope pos =>
      cases gens with
      | nil => cases h
      | cons g gs =>
        cases gs with
        | cons _ _ =>
          obtain ⟨_, _, _, ⟨_ | _⟩ | _⟩ := g <;> cases h
        | nil =>
          obtain ⟨tg, iter, ifs, ⟨_ | _⟩ | _⟩ := g <;> first | (cases h; done) | skip
          · 
            have h : (if (isSet iter || !blkC c.N sc scope (ownOf c.N scope)) = true then none else (match (generalizing := false) cT c.N scope n tg, cW c n sc tg iter, cI c n (relS scope sc) ifs, cE c n (relS scope sc) elt with
              | some t, some (w, its), some cond, some e => some (E.comp (c.isCel pos) t w its cond e ((ownOf c.N scope).map (·.2)))
              | _, _, _, _ => none)) = some ce := h
            split at h
            · cases h
            · rename_i hb
              split at h
              · rename_i t w its cond ce2 h1 h2 h3 h4
                cases h
                simp only [Bool.or_eq_true, Bool.not_eq_true', not_or, Bool.not_eq_false, Bool.not_eq_true] at hb
                obtain ⟨b1, b2⟩ := hb
                have hown : ∀ i ∈ tgSl t, i ∈ (ownOf c.N scope).map (·.2) := tgSl_own h1
                have ok : BlkOk X.N X.env.scope scope (ownOf c.N scope) := by
                  rw [s.n, s.s]
                  exact blkOk_by b2
                have h1 : cT X.N scope n tg = some t := by
                  rw [s.n]
                  exact h1
                have g : PE X (.ListComp elt [⟨tg, iter, ifs, 0⟩] scope pos) (tE p W (.comp (c.isCel pos) t w its cond ce2 ((ownOf c.N scope).map (·.2)))) := by
                  refine PE.imp (pe_lc (g := tG p t) (tt := tCo p W0 cond) (te := tE p W0 ce2) s.ok.calm s.ok.nd (ih.w s h2) ok (fun s0 H C cl fp => ?_) (fun s0 H C cl fp => ?_) (fun s0 H C cl fp => ?_) (noFold b1 _)) (lc_ok hown)
                  · exact cT_ok (s.ok.blk ok.kind) blk_sto h1
                  · exact ih.i (blk_sit s ok.kind) h3
                  · exact (ih.e (blk_sit s ok.kind) h4).1
                exact ⟨g, pt_of g fun _ => rfl⟩
              · cases h
    | Compare a os bs pos =>
      cases os with
      | nil => cases h
      | cons o os =>
        cases bs with
        | nil => cases os <;> first | cases h | (rename_i os; cases os <;> cases h)
        | cons b bs =>
          cases os with
          | nil =>
            cases bs with
            | cons _ _ => cases h
            | nil =>
              have h : (if isSet b = true then none else (match (generalizing := false) cE c n sc a, cE c n sc b with
                | some a, some b => some (E.cmp (coOf o) a b)
                | _, _ => none)) = some ce := h
              split at h
              · cases h
              · rename_i hb
                replace hb : isSet b = false := by simpa using hb
                split at h
                · rename_i ca cb h1 h2
                  cases h
                  have hop : OpR X (compareOp o) (rCop p (coOf o)) := by
                    have := op_cop (p := p) s.ok.k (by have := s.ok.un; omega) (coOf o)
                    rw [← coOf_ok o] at this
                    exact this
                  have rd : ∀ σ H Q, tE p W (.cmp (coOf o) ca cb) σ H Q → tOp (rCop p (coOf o)) (tE p W ca) (tE p W cb) σ H Q := fun σ H Q q => by
                    obtain ⟨F, Z, m, S, env, re, sr, h⟩ := q
                    refine ⟨F, Z, m, S, env, re, sr, Post.bind h fun d S1 Z1 m1 H1 v _ e1 s1 rd h1 => ⟨F, Z1, m1, S1, env, re.mono e1, s1, Post.bind h1 fun d2 S2 Z2 m2 H2 v2 _ e2 s2 rd2 h2 => ?_⟩⟩
                    obtain ⟨k, e, h3⟩ := Post.of h2
                    exact ⟨F, Z2, m2, S2, d, d2, k, s2, rd.mono e2, rd2, e, Post.now (p := p) (T := RD p.K) (d := Mn.D.bl k) h3 s2 (.bl k)⟩
                  refine ⟨PE.imp (pe_cmpR hop (ih.e s h1).1 (ih.e s h2).1 (noMark hb)) rd, PT.imp (pt_cmpR hop (ih.e s h1).1 (ih.e s h2).1 (noMark hb)) fun σ H Q q => ?_⟩
                  refine rd σ H _ ?_
                  obtain ⟨F, Z, m, S, env, re, sr, h⟩ := q
                  refine ⟨F, Z, m, S, env, re, sr, Post.bind h fun d S1 Z1 m1 H1 v _ e1 s1 rd h1 => ?_⟩
                  obtain ⟨k, rfl, rfl⟩ : ∃ k, d = .bl k ∧ v = .bl k := by cases rd <;> first | exact False.elim h1 | exact ⟨_, rfl, rfl⟩
                  exact ⟨k, rfl, Post.now (p := p) (T := fun _ _ (a b : Bool) => a = b) (d := k) h1 s1 rfl⟩
                · cases h
          | cons o' os =>
            cases os with
            | cons _ _ => cases bs <;> first | cases h | (rename_i bs; cases bs <;> cases h)
            | nil =>
              cases bs with
              | nil => cases h
              | cons d bs =>
                cases bs with
                | cons _ _ => cases h
                | nil =>
                  have h : (if isSet d = true then none else (match (generalizing := false) cE c n sc a, cE c n sc b, cE c n sc d with
                    | some a, some b, some d => some (E.chn (coOf o) (coOf o') a b d)
                    | _, _, _ => none)) = some ce := h
                  split at h
                  · cases h
                  · rename_i hb
                    replace hb : isSet d = false := by simpa using hb
                    split at h
                    · rename_i ca cb cd h1 h2 h3
                      cases h
                      have hop : ∀ o, OpR X (compareOp o) (rCop p (coOf o)) := fun o => by
                        have := op_cop (p := p) s.ok.k (by have := s.ok.un; omega) (coOf o)
                        rw [← coOf_ok o] at this
                        exact this
                      have hm : lastMarks [o, o'] [b, d] = false := by
                        show behindInMarks o' d = false
                        exact noMark hb
                      have rd : ∀ σ H Q, tE p W (.chn (coOf o) (coOf o') ca cb cd) σ H Q → tChain (rCop p (coOf o)) (rCop p (coOf o')) (tE p W ca) (tE p W cb) (tE p W cd) σ H Q := fun σ H Q q => by
                        obtain ⟨F, Z, m, S, env, re, sr, h⟩ := q
                        refine ⟨F, Z, m, S, env, re, sr, Post.bind h fun d S1 Z1 m1 H1 v _ e1 s1 rd h1 => ⟨F, Z1, m1, S1, env, re.mono e1, s1, Post.bind h1 fun d2 S2 Z2 m2 H2 v2 _ e2 s2 rd2 h2 => ?_⟩⟩
                        obtain ⟨k, e, h3⟩ := Post.of h2
                        refine ⟨F, Z2, m2, S2, d, d2, k, s2, rd.mono e2, rd2, e, k, rfl, ?_⟩
                        cases k with
                        | false => exact Post.now (p := p) (T := RD p.K) (d := Mn.D.bl false) h3 s2 (.bl false)
                        | true =>
                          refine ⟨F, Z2, m2, S2, env, (re.mono e1).mono e2, s2, Post.bind h3 fun d3 S3 Z3 m3 H3 v3 _ e3 s3 rd3 h4 => ?_⟩
                          obtain ⟨k, e, h5⟩ := Post.of h4
                          exact ⟨F, Z3, m3, S3, d2, d3, k, s3, rd2.mono e3, rd3, e, Post.now (p := p) (T := RD p.K) (d := Mn.D.bl k) h5 s3 (.bl k)⟩
                      refine ⟨PE.imp (pe_chain (hop o) (hop o') (ih.e s h1).1 (ih.e s h2).1 (ih.e s h3).1 hm) rd, PT.imp (pt_chain (hop o) (hop o') (ih.e s h1).1 (ih.e s h2).1 (ih.e s h3).1 hm) fun σ H Q q => ?_⟩
                      refine rd σ H _ ?_
                      obtain ⟨F, Z, m, S, env, re, sr, h⟩ := q
                      refine ⟨F, Z, m, S, env, re, sr, Post.bind h fun d S1 Z1 m1 H1 v _ e1 s1 rd h1 => ?_⟩
                      obtain ⟨k, rfl, rfl⟩ : ∃ k, d = .bl k ∧ v = .bl k := by cases rd <;> first | exact False.elim h1 | exact ⟨_, rfl, rfl⟩
                      exact ⟨k, rfl, Post.now (p := p) (T := fun _ _ (a b : Bool) => a = b) (d := k) h1 s1 rfl⟩
                    · cases h
    | Call f args kws pos =>
      cases kws with
      | cons _ _ => cases f <;> first | cases h | (cases args <;> first | cases h | (rename_i _ as; cases as <;> cases h))
      | nil =>
        cases f with
        | Name x px =>
          have h : (if okName x = true then (match (generalizing := false) sc.names.lookup x with
            | some .globalImplicit => (match (generalizing := false) c.gl.lookup x with
              | some (.fn i) => (cEs c n sc args).map (E.fn i)
              | some _ => none
              | none => if decide (x ∈ c.bl) = true then (match (generalizing := false) args with
                | [a] => (match (generalizing := false) biFor x, cE c n sc a with
                  | some b, some a => some (E.bi b (c.isCel pos) a)
                  | _, _ => none)
                | [a, .Name t _] => if (decide (x = ("isinstance" : Str)) && c.isB sc t) = true then (match (generalizing := false) tyFor t, cE c n sc a with
                  | some t, some a => some (E.isi a t)
                  | _, _ => none) else none
                | _ => none) else none)
            | _ => none) else none) = some ce := h
          suffices g : PE X (.Call (.Name x px) args [] pos) (tE p W ce) from ⟨g, pt_of g fun _ => rfl⟩
          split at h
          · rename_i hn
            obtain ⟨n1, n2⟩ := okName_ok hn
            split at h
            · rename_i hl
              have hg : Gl X x := gl_of s hl
              split at h
              · rename_i i hi
                obtain ⟨as, h1, rfl⟩ := opt_map h
                obtain ⟨f, g1, g2, g3⟩ := s.g.fn x i hi
                have g2 : PySem.W.keepIn X.K (.ref f) = true := by
                  rw [s.ok.k]
                  exact g2
                have g3 : FnG X.prog X.w X.K X.mg X.base lv f (spR p (p.cl i)) := by
                  rw [s.ok.k]
                  exact g3
                cases args with
                | nil =>
                  refine PE.imp (pe_fn0 s.ok g3 hg g1 g2 n1) fun σ H Q q => ?_
                  obtain ⟨F, Z, m, S, env, re, sr, h9⟩ := q
                  cases n with
                  | zero => cases h1
                  | succ n =>
                    cases h1
                    exact ⟨F, Z, m, S, [], sr, .nil, h9⟩
                | cons e es =>
                  have hst := stars_of X.env h1
                  have hst1 : starEach (e :: es) X.env = (false, eval e X.env) :: starEach es X.env := by
                    have h3 := h1
                    cases n with
                    | zero => cases h3
                    | succ n =>
                      unfold cEs at h3
                      split at h3
                      · rename_i h4 _
                        exact star_of h4 _ _
                      · cases h3
                  refine PE.imp (pe_fn1 s.ok g3 hg g1 g2 (ih.a s h1) n1 hst1 (noStar pos (tail_stars hst hst1))) fun σ H Q q => ?_
                  obtain ⟨F, Z, m, S, env, re, sr, h⟩ := q
                  exact ⟨F, Z, m, S, env, re, sr, Post.bind h fun ds S1 Z1 m1 H1 vs _ e1 s1 rds h1 => ⟨F, Z1, m1, S1, ds, s1, rds, h1⟩⟩
              · cases h
              · rename_i hi
                split at h
                · rename_i hb
                  have hm : X.mg x = none := s.g.free x (of_decide_eq_true hb)
                  split at h
                  · rename_i a
                    split at h
                    · rename_i b ca h1 h2
                      cases h
                      exact pe_biF s h1 hg hm n1 (ih.e s h2).1 (star_of h2)
                    · cases h
                  · rename_i a t pt
                    split at h
                    · rename_i hx
                      simp only [Bool.and_eq_true, decide_eq_true_eq] at hx
                      split at h
                      · rename_i ty ca h1 h2
                        cases h
                        exact pe_isT s h1 hx.1 hg hm hx.2 (ih.e s h2).1 (star_of h2)
                      · cases h
                    · cases h
                  · cases h
                · cases h
            · cases h
          · cases h
        | Attribute o m apos =>
          cases args with
          | nil => cases h
          | cons a as =>
            cases as with
            | cons _ _ => cases h
            | nil =>
              have h : (if (plainRecv o && decide (m = ("append" : Str)) && (apos.endLine == pos.line)) = true then (match (generalizing := false) cE c n sc o, cE c n sc a with
                | some o, some a => some (E.me .append o [a])
                | _, _ => none) else none) = some ce := h
              split at h
              · rename_i hc
                simp only [Bool.and_eq_true, decide_eq_true_eq] at hc
                split at h
                · rename_i co ca h1 h2
                  cases h
                  have g := pe_app (pos := pos) s hc.1.1 hc.1.2 hc.2 (ih.e s h1).1 (ih.e s h2).1 (star_of h2)
                  exact ⟨g, pt_of g fun _ => rfl⟩
                · cases h
              · cases h
        | _ => cases h
    | _ => cases h
theorem snd_all : ∀ n : Nat, Snd p c n
  | 0 => { e := fun _ h => (by cases h), a := fun _ h => (by cases h), o := fun _ h => (by cases h), i := fun _ h => (by cases h), b := fun _ h => (by cases h), w := fun _ h => (by cases h) }
  | n + 1 => snd_step (snd_all n)
end
end Mn

/-! Statements: what their code does. -/
namespace Mn
open PySem PySem.Spec PyProof.Rows L2
/-- what is wanted of a statement's end -/
def PostS (p : Pm) (F Z : Hp) (m : Mp) (D : Ends) (E : WX) : RS → Prop
  | .nx env S => ∀ Z' m' H' σ', Ext Z m Z' m' → SR p.K F Z' m' S H' → RE p.K Z' m' env σ' → D.nx σ' H'
  | .rt d S => ∀ Z' m' H' v, Ext Z m Z' m' → SR p.K F Z' m' S H' → RD p.K Z' m' d v → D.rt v H'
  | .bk env S => ∀ Z' m' H' σ', Ext Z m Z' m' → SR p.K F Z' m' S H' → RE p.K Z' m' env σ' → D.bk σ' H'
  | .ct env S => ∀ Z' m' H' σ', Ext Z m Z' m' → SR p.K F Z' m' S H' → RE p.K Z' m' env σ' → D.ct σ' H'
  | .exc x env S => ∀ Z' m' H' σ' cls d, Ext Z m Z' m' → SR p.K F Z' m' S H' → RE p.K Z' m' env σ' → XRel p.ca x cls d → E cls d σ' H'
  | .bad => False
section
variable {α β : Type} {p : Pm} {F Z Z1 : Hp} {m m1 : Mp} {D : Ends} {E : WX}
theorem PostS.ext {r : RS} (h : PostS p F Z m D E r) (e : Ext Z m Z1 m1) : PostS p F Z1 m1 D E r := by
  cases r with
  | nx env S => exact fun Z' m' H' σ' e' => h Z' m' H' σ' (e.trans e')
  | rt d S => exact fun Z' m' H' σ' e' => h Z' m' H' σ' (e.trans e')
  | bk env S => exact fun Z' m' H' σ' e' => h Z' m' H' σ' (e.trans e')
  | ct env S => exact fun Z' m' H' σ' e' => h Z' m' H' σ' (e.trans e')
  | exc x env S => exact fun Z' m' H' σ' c d e' => h Z' m' H' σ' c d (e.trans e')
  | bad => exact h
theorem PostS.to {T : Hp → Mp → α → β → Prop} {r : R α} {env : Env} {σ : L2.St} {f : α → Sto → RS} {G : β → Hp → Prop} (h : PostS p F Z m D E (r.to env f)) (re : RE p.K Z m env σ)
    (k : ∀ d S1 Z1 m1 H1 v, r = .ok d S1 → Ext Z m Z1 m1 → SR p.K F Z1 m1 S1 H1 → T Z1 m1 d v → PostS p F Z1 m1 D E (f d S1) → G v H1) : Post p F Z m T G (fun cls d H' => E cls d σ H') r := by
  cases r with
  | ok d S =>
    intro Z' m' H' v e s t
    exact k d S Z' m' H' v rfl e s t (PostS.ext (r := f d S) h e)
  | exc x S =>
    intro Z' m' H' cls d e s xr
    exact h Z' m' H' σ cls d e s (re.mono e) xr
  | bad => exact h
theorem PostS.bind {r : RS} {f : Env → Sto → RS} {N : L2.St → Hp → Prop} (h : PostS p F Z m D E (r.bind f))
    (k : ∀ env S1 Z1 m1 H1 σ1, Ext Z m Z1 m1 → SR p.K F Z1 m1 S1 H1 → RE p.K Z1 m1 env σ1 → PostS p F Z1 m1 D E (f env S1) → N σ1 H1) : PostS p F Z m { D with nx := N } E r := by
  cases r with
  | nx env S =>
    intro Z' m' H' σ' e s t
    exact k env S Z' m' H' σ' e s t (PostS.ext (r := f env S) h e)
  | rt d S => exact h
  | bk env S => exact h
  | ct env S => exact h
  | exc x env S => exact h
  | bad => exact h
end
theorem R.to_bind {α γ : Type} (r : R α) (env : Env) (f : α → Sto → R γ) (g : γ → Sto → RS) : (r.bind f).to env g = r.to env fun a S => (f a S).to env g := by cases r <;> rfl
theorem evC_to (cl : Calls) (ce : E) (env env' : Env) (S : Sto) (f : Bool → Sto → RS) :
    ((evE cl ce env S).to env' fun x S1 => match x with
      | .bl true => f true S1
      | .bl false => f false S1
      | _ => .bad) = (evC cl (some ce) env S).to env' f := by
  show _ = ((evE cl ce env S).bind fun x S1 => match x with
      | .bl i => R.ok i S1
      | _ => .bad).to env' f
  rw [R.to_bind]
  congr 1
  funext x S1
  cases x <;> first | rfl | (rename_i b; cases b <;> rfl)
section
variable (p : Pm) (W : WX)
def tS (c : S) : TS := fun D σ H => ∃ F Z m S env, RE p.K Z m env σ ∧ SR p.K F Z m S H ∧ PostS p F Z m D W (exS p.sub p.cl c env S)
def tSs (c : List S) : TS := fun D σ H => ∃ F Z m S env, RE p.K Z m env σ ∧ SR p.K F Z m S H ∧ PostS p F Z m D W (exSs p.sub p.cl c env S)
end
/-- the classes of exceptions -/
structure Exk (p : Pm) (gl : List (Str × GV)) (mg : Str → Option Value) : Prop where
  exc : ∀ x i, gl.lookup x = some (.exc i) → mg x = some (.ref (p.ca i)) ∧ PySem.W.keepIn p.K (.ref (p.ca i)) = true ∧ PySem.W.subIn p.K (.ref (p.ca i)) (.type "BaseException") = some true ∧ PySem.W.typeIn p.K (.ref (p.ca i)) = some (.type "type") ∧
    (∀ j, PySem.W.exmOne p.K (.ref (p.ca j)) (.ref (p.ca i)) = some (p.sub j i)) ∧ (∀ j, PySem.W.kitOne p.K (.ref (p.ca j)) (.ref (p.ca i)) = some (p.sub j i)) ∧
    ∃ (bmB : List Value) (B newId initId : String), ExcBaseFacts B newId initId bmB ∧ PySem.W.excIn p.K (p.ca i) bmB newId = true
  all : ∀ i, ExcC p.K (p.ca i)
/-- where statements stand -/
structure SitS (p : Pm) (c : CS) (W : WX) (lv : Nat) (X : Cx) (sc : Scope) : Prop extends Sit p c W lv X sc where
  po : PassesOwn (model X.prog X.w) X.A X.env X.xe
  st : X.stack = X.env :: X.outer
  fr : X.env.frame = some X.env.locals
  sto : Sto1 sc X
  xk : Exk p c.gl X.mg
theorem SitS.tr {p : Pm} {c : CS} {W W' : WX} {lv : Nat} {X : Cx} {sc : Scope} (s : SitS p c W lv X sc) {pn : List (Addr × Obj)} {xe : Value → Shared → Prop} (tk : Takes (X.tr pn xe) W') (po : PassesOwn (model X.prog X.w) X.A X.env xe) : SitS p c W' lv (X.tr pn xe) sc :=
  ⟨⟨⟨s.ok.k, s.ok.calm, s.ok.nd, s.ok.room, s.ok.gd, tk, s.ok.kind⟩, s.g, s.n, s.s⟩, po, s.st, s.fr, ⟨s.sto.loc, s.sto.cel⟩, s.xk⟩

/-! ### the code of statements -/
def isCompE : Expr → Bool
  | .ListComp .. | .SetComp .. | .DictComp .. => true
  | _ => false
/-- name = [..] : the list of the comprehension itself is stored -/
def lcSame (sc : Scope) (x : Str) (px : Pos) (scope : Scope) (pos : Pos) : Bool := (sc.names.lookup x == some .local) && (px.line == pos.line) && !(scope.names.any fun (n, k) => n == x && (k == .local || k == .cell))
/-- which stores go from the right; none: not told -/
def parN (sc : Scope) (ts vs : List Expr) : Option (Option (List Str)) :=
  if !(ts.length == 2 || ts.length == 3) || vs.length != ts.length then some none
  else if (vs.any fun | .Starred .. => true | _ => false) = true then some none
  else
    let line := (ts.head?.map (·.pos.line)).getD 0
    let names := ts.filterMap fun
      | .Name id pos => if sc.names.lookup id == some .local && pos.line == line then some id else none
      | _ => none
    if (names.length != ts.length || names.eraseDups.length != names.length) = true then some none
    else if vs.all (foldedForSure 8) = true then some none
    else if vs.all (constantsAlone 8) = true then none
    else some (some names)
def isNameE : Expr → Bool
  | .Name .. => true
  | _ => false
section
variable (c : CS) (sc : Scope)
def exI (x : Str) : Option Nat := if okName x then (match sc.names.lookup x with
  | some .globalImplicit => (match c.gl.lookup x with
    | some (.exc i) => some i
    | _ => none)
  | _ => none) else none
def locI (x : Str) : Option Nat := if okName x then (match sc.names.lookup x with
  | some .local => slotOf c.N x
  | some .cell => slotOf c.N x
  | _ => none) else none
def cH : List ExceptHandler → Option (List (Nat × HX))
  | [] => some []
  | .ExceptHandler (some (.Name x _)) none [.Return (some (.Constant v k q)) _] _ :: r => (match exI c sc x, cE c 1 sc (.Constant v k q), cH r with
    | some i, some (E.lit d), some r => some ((i, HX.lit d) :: r)
    | _, _, _ => none)
  | .ExceptHandler (some (.Name x _)) none [.Return (some (.Name y _)) _] _ :: r => (match exI c sc x, locI c sc y, cH r with
    | some i, some v, some r => some ((i, HX.vr v) :: r)
    | _, _, _ => none)
  | _ => none
/-- except x as nm: return f(e, y) -/
def tryAs : List ExceptHandler → Option (Str × Str × Str × Str × Str)
  | [.ExceptHandler (some (.Name x _)) (some nm) [.Return (some (.Call (.Name f _) [.Name e _, .Name y _] [] _)) _] _] => some (x, nm, f, e, y)
  | _ => none
theorem tryAs_ok {hs : List ExceptHandler} {x nm f e y : Str} (h : tryAs hs = some (x, nm, f, e, y)) : ∃ q1 q2 q3 q4 q5 q6 q7, hs = [.ExceptHandler (some (.Name x q1)) (some nm) [.Return (some (.Call (.Name f q2) [.Name e q3, .Name y q4] [] q5)) q6] q7] := by
  unfold tryAs at h
  split at h
  · cases h
    exact ⟨_, _, _, _, _, _, _, rfl⟩
  · cases h
mutual
def cS : Nat → Stmt → Option S
  | 0, _ => none
  | n + 1, s => match s with
    | .Expr e _ => (match e with
      | .Constant (.str _) _ _ => some .pas
      | e => if isCompE e then none else (cE c n sc e).map .ex)
    | .Assign [tg] e _ => (match tg with
      | .Name x px => (match e with
        | .ListComp _ _ scope pos => (match lcSame sc x px scope pos, cT c.N sc n tg, cE c n sc e with
          | true, some (.nm i), some e => some (.asg (.nm i) e)
          | false, some t, some e => some (.asg t e)
          | _, _, _ => none)
        | e => if isCompE e then none else (match cT c.N sc n tg, cE c n sc e with
          | some t, some e => some (.asg t e)
          | _, _ => none))
      | .Subscript o i _ => (match cE c n sc e, cE c n sc o, cE c n sc i with
        | some e, some o, some i => some (.six o i e)
        | _, _, _ => none)
      | .Tuple ts _ _ => (match e with
        | .Tuple vs _ _ => (match parN sc ts vs with
          | some none => (match cT c.N sc n tg, cE c n sc e with
            | some t, some e => some (.asg t e)
            | _, _ => none)
          | some (some ns) => (match ts, vs with
            | [.Name x _, .Name y _], [_, _] => if ns = [x, y] ∧ sc.names.lookup x = some .local ∧ sc.names.lookup y = some .local then (match slotOf c.N x, slotOf c.N y, cEs c n sc vs with
              | some i, some j, some es => if i = j then none else some (.asg (.tp [.nm i, .nm j]) (.tup es))
              | _, _, _ => none) else none
            | [.Name x _, .Name y _, .Name z _], [_, _, _] => if ns = [x, y, z] ∧ sc.names.lookup x = some .local ∧ sc.names.lookup y = some .local ∧ sc.names.lookup z = some .local then (match slotOf c.N x, slotOf c.N y, slotOf c.N z, cEs c n sc vs with
              | some i, some j, some l, some es => if i = j ∨ i = l ∨ j = l then none else some (.asg (.tp [.nm i, .nm j, .nm l]) (.tup es))
              | _, _, _, _ => none) else none
            | _, _ => none)
          | none => none)
        | e => (match cT c.N sc n tg, cE c n sc e with
          | some t, some e => some (.asg t e)
          | _, _ => none))
      | _ => none)
    | .AugAssign (.Name x _) o e _ => (match locI c sc x, boOf o, cE c n sc e with
      | some i, some o, some e => some (.aug i o e)
      | _, _, _ => none)
    | .If t a b _ => (match cE c n sc t, cSs n a, cSs n b with
      | some t, some a, some b => some (.ifs t a b)
      | _, _, _ => none)
    | .For tg iter body [] _ => if isSet iter then none else (match cT c.N sc n tg, cW c n sc tg iter, cSs n body with
      | some t, some (w, its), some b => some (.forr t w its b)
      | _, _, _ => none)
    | .While t body [] _ => (match cE c n sc t, cSs n body with
      | some t, some b => some (.whl 100000 t b)
      | _, _ => none)
    | .Return none _ => some .retn
    | .Return (some e) _ => (cE c n sc e).map .ret
    | .Break _ => some .brk
    | .Continue _ => some .cnt
    | .Pass _ => some .pas
    | .Raise (some (.Call (.Name x _) [.Constant (.str _) _ _] [] _)) none _ => (exI c sc x).map .rais
    | .Try body hs [] [] _ => (match tryAs hs with
      | some (x, nm, f, e, y) => if decide (f = ("isinstance" : Str)) && c.isB sc f && decide (e = nm) && okName nm && decide (sc.names.lookup nm = some .local) then (match exI c sc x, exI c sc y, slotOf c.N nm, cSs n body with
        | some i, some j, some sl, some b => some (.tryo b [(i, .isx sl j)])
        | _, _, _, _ => none) else none
      | none => (match hs, cSs n body, cH c sc hs with
        | _ :: _, some b, some h => some (.tryo b h)
        | _, _, _ => none))
    | _ => none
def cSs : Nat → List Stmt → Option (List S)
  | 0, _ => none
  | _ + 1, [] => some []
  | n + 1, s :: ss => match cS n s, cSs n ss with
    | some s, some ss => some (s :: ss)
    | _, _ => none
end
end
end Mn

/-! Statements: the theorem. -/
namespace Mn
open PySem PySem.Spec PyProof.Rows L2
section
variable {p : Pm} {c : CS} {W : WX} {lv : Nat} {X : Cx} {sc : Scope}
theorem rd_asg {t : Tg} {e : E} : ∀ D σ H, tS p W (.asg t e) D σ H → tAsg (tE p W e) (tG p t) D σ H := fun D σ H q => by
  obtain ⟨F, Z, m, S, env, re, sr, h⟩ := q
  refine ⟨F, Z, m, S, env, re, sr, PostS.to h re fun d S1 Z1 m1 H1 v _ e1 s1 rd h1 => ?_⟩
  cases hb : bindT t d env with
  | none =>
    rw [hb] at h1
    exact False.elim h1
  | some env' =>
    rw [hb] at h1
    exact ⟨F, Z1, m1, S1, env, d, env', re.mono e1, s1, rd, hb, fun σ' re' _ => h1 _ _ _ _ Ext.refl s1 re'⟩
theorem rd_asgN {i : Nat} {e : E} {t : TE} (hi : i < X.N.length) (k : ∀ σ H Q, tE p W e σ H Q → t σ H Q) : ∀ D σ H, tS p W (.asg (.nm i) e) D σ H → tAsg t (gName i) D σ H := fun D σ H q => by
  refine k σ H _ ?_
  obtain ⟨F, Z, m, S, env, re, sr, h⟩ := q
  refine ⟨F, Z, m, S, env, re, sr, PostS.to h re fun d S1 Z1 m1 H1 v _ e1 s1 rd h1 => ?_⟩
  have h2 : PostS p F Z1 m1 D W (match (if i < env.length then frL (env.set i (some d)) some else none : Option Env) with
    | some env' => .nx env' S1
    | none => .bad) := h1
  split at h2
  · rename_i env' he
    split at he
    · rw [frL_eq] at he
      cases he
      exact h2 _ _ _ _ Ext.refl s1 ((re.mono e1).set i rd)
    · cases he
  · exact False.elim h2
theorem sw_plain {e : Expr} {t : Option Expr} {l : Nat} {env : PySem.Env} (h : isCompE e = false) : swapsWith e t l env = pure false := by
  cases e <;> first | rfl | cases h
theorem sw_tg {e t : Expr} {l : Nat} {env : PySem.Env} (h : isNameE t = false) : swapsWith e (some t) l env = pure false := by
  cases e <;> first | rfl | (cases t <;> first | rfl | cases h)
theorem sw_lc {elt : Expr} {gs : List Comprehension} {scope : Scope} {pos px : Pos} {x : Str} {l : Nat} {env : PySem.Env} (hk : env.scope.kind = .function) : swapsWith (.ListComp elt gs scope pos) (some (.Name x px)) l env = pure (lcSame env.scope x px scope pos) := by
  have hb : env.blockKind = .function := by unfold PySem.Env.blockKind; rw [hk]; rfl
  have ky : env.kindOf x = env.scope.names.lookup x := rfl
  unfold swapsWith lcSame
  simp only [hb, ky, Expr.pos]
  rfl
theorem sws_one {t e : Expr} {l : Nat} {env : PySem.Env} : swapsWithSole [t] e l env = swapsWith e (some t) l env := rfl
theorem par_eq {ts vs : List Expr} {kt : Nat} {pt : Pos} {k2 : Nat} {pt2 : Pos} {env : PySem.Env} {r : Option (List Str)} (hk : env.scope.kind = .function) (h : parN env.scope ts vs = some r) : swappedStores [.Tuple ts kt pt] (.Tuple vs k2 pt2) env = pure r := by
  have hb : (env.blockKind != .function) = false := by unfold PySem.Env.blockKind; rw [hk]; rfl
  have ky : ∀ x, env.kindOf x = env.scope.names.lookup x := fun _ => rfl
  unfold parN at h
  unfold swappedStores
  simp only [hb, ky, Bool.or_false]
  split at h
  · rename_i h1
    cases h
    split
    · rfl
    · rename_i g
      exact absurd h1 g
  · rename_i h1
    split
    · rename_i g
      exact absurd g h1
    · split at h
      · rename_i h2
        cases h
        split
        · rfl
        · rename_i g
          exact absurd h2 g
      · rename_i h2
        dsimp only at h
        split
        · rename_i g
          exact absurd g h2
        · split at h
          · rename_i h3
            cases h
            split
            · rfl
            · rename_i g
              exact absurd h3 g
          · rename_i h3
            split
            · rename_i g
              exact absurd g h3
            · split at h
              · rename_i h4
                cases h
                split
                · rfl
                · rename_i g
                  exact absurd h4 g
              · rename_i h4
                split
                · rename_i g
                  exact absurd g h4
                · split at h
                  · cases h
                  · rename_i h5
                    cases h
                    split
                    · rename_i g
                      exact absurd g h5
                    · rfl

theorem lc_inv {elt : Expr} {gens : List Comprehension} {scope : Scope} {pos : Pos} {n : Nat} {ce : E} (h : cE c (n + 1) sc (.ListComp elt gens scope pos) = some ce) : ∃ tg iter ifs t w its cond ce2, gens = [⟨tg, iter, ifs, 0⟩] ∧ ce = .comp (c.isCel pos) t w its cond ce2 ((ownOf c.N scope).map (·.2)) ∧ isSet iter = false ∧ blkC c.N sc scope (ownOf c.N scope) = true ∧
    cT c.N scope n tg = some t ∧ cW c n sc tg iter = some (w, its) ∧ cI c n (relS scope sc) ifs = some cond ∧ cE c n (relS scope sc) elt = some ce2 := by
  cases gens with
  | nil => cases h
  | cons g gs =>
    cases gs with
    | cons _ _ =>
      obtain ⟨_, _, _, ⟨_ | _⟩ | _⟩ := g <;> cases h
    | nil =>
      obtain ⟨tg, iter, ifs, ⟨_ | _⟩ | _⟩ := g <;> first | (cases h; done) | skip
      have h : (if (isSet iter || !blkC c.N sc scope (ownOf c.N scope)) = true then none else (match (generalizing := false) cT c.N scope n tg, cW c n sc tg iter, cI c n (relS scope sc) ifs, cE c n (relS scope sc) elt with
        | some t, some (w, its), some cond, some e => some (E.comp (c.isCel pos) t w its cond e ((ownOf c.N scope).map (·.2)))
        | _, _, _, _ => none)) = some ce := h
      split at h
      · cases h
      · rename_i hb
        split at h
        · rename_i t w its cond ce2 h1 h2 h3 h4
          cases h
          simp only [Bool.or_eq_true, Bool.not_eq_true', not_or, Bool.not_eq_false, Bool.not_eq_true] at hb
          exact ⟨tg, iter, ifs, t, w, its, cond, ce2, rfl, rfl, hb.1, hb.2, h1, h2, h3, h4⟩
        · cases h
theorem exI_ok (s : SitS p c W lv X sc) {x : Str} {i : Nat} (h : exI c sc x = some i) : Gl X x ∧ (x == ("__debug__" : Str)) = false ∧ c.gl.lookup x = some (.exc i) := by
  unfold exI at h
  split at h
  · rename_i hn
    split at h
    · rename_i hl
      split at h
      · rename_i i' he
        cases h
        exact ⟨gl_of s.toSit hl, (okName_ok hn).1, he⟩
      · cases h
    · cases h
  · cases h
theorem locI_ok (s : SitS p c W lv X sc) {x : Str} {i : Nat} (h : locI c sc x = some i) : X.N[i]? = some x ∧ Loc X.env.scope x ∧ (X.fn x = true ∨ X.env.scope.names.lookup x = some .local) ∧ (x == ("__debug__" : Str)) = false ∧ (x == ("__classdict__" : Str)) = false := by
  unfold locI at h
  split at h
  · rename_i hn
    obtain ⟨n1, n2⟩ := okName_ok hn
    split at h
    · rename_i hl
      refine ⟨?_, .inl (s.sto.loc x hl), .inr (s.sto.loc x hl), n1, n2⟩
      rw [s.n]
      exact slotOf_ok h
    · rename_i hl
      refine ⟨?_, .inr (s.sto.cel x hl).1, .inl (s.sto.cel x hl).2, n1, n2⟩
      rw [s.n]
      exact slotOf_ok h
    · cases h
  · cases h
theorem Loc.vis {sc : Scope} {x : Str} (h : Loc sc x) : Vis sc x := h.elim .inl fun h => .inr (.inl h)
theorem Exk.names (s : SitS p c W lv X sc) {x : Str} {i : Nat} (h : exI c sc x = some i) : Names X x (.ref (p.ca i)) := by
  obtain ⟨h1, h2, h3⟩ := exI_ok s h
  exact ⟨h1, h2, .inl (s.xk.exc x i h3).1⟩
/-! ### loops -/
theorem rd_for {t : Tg} {w : Wt} {its : List E} {b : List S} : ∀ D σ H, tS p W (.forr t w its b) D σ H → tFor (tI p W w its) (tG p t) (tSs p W b) D σ H := fun D σ H q => by
  obtain ⟨F, Z, m, S, env, re, sr, h⟩ := q
  have h : PostS p F Z m D W ((evEs p.cl its env S).to env fun ws S0 => (R.of S0 (walk w ws)).to env fun xs S1 => forL (fun x env1 S2 => match bindT t x env1 with
    | some env2 => exSs p.sub p.cl b env2 S2
    | none => .bad) xs env S1) := h
  rw [← R.to_bind] at h
  generalize hf : (fun (x : Mn.D) (env1 : Env) (S2 : Sto) => (match bindT t x env1 with
    | some env2 => exSs p.sub p.cl b env2 S2
    | none => .bad : RS)) = f at h
  refine ⟨F, Z, m, S, env, re, sr, PostS.to h re fun xs S1 Z1 m1 H1 J _ e1 sr1 fol h1 => ?_⟩
  refine ⟨fun i n σ H => n = xs.length - i ∧ i ≤ xs.length ∧ ∃ Zi mi Si envi, Ext Z1 m1 Zi mi ∧ RE p.K Zi mi envi σ ∧ SR p.K F Zi mi Si H ∧ PostS p F Zi mi D W (forL f (xs.drop i) envi Si), ⟨_, rfl, Nat.zero_le _, Z1, m1, S1, env, Ext.refl, re.mono e1, sr1, h1⟩, ?_⟩
  rintro i n σ2 H2 ⟨rfl, hi2, Zi, mi, Si, envi, ei, rei, sri, hP⟩
  obtain ⟨f1, f2⟩ := fol.mono ei i H2 sri.zs
  by_cases hl : i < xs.length
  · have hx : xs[i]? = some xs[i] := List.getElem?_eq_getElem hl
    obtain ⟨go, yl⟩ := f1 _ hx
    refine .inr ⟨go, fun σ' H' => _, fun σ' H' hN => ⟨xs.length - (i + 1), by omega, hN⟩, fun x H3 y => ?_⟩
    obtain ⟨Z2, e2, sr2, rd2⟩ : ∃ Z2, Ext Zi mi Z2 mi ∧ SR p.K F Z2 mi Si H3 ∧ RD p.K Z2 mi xs[i] x := by
      rcases yl x H3 y with ⟨rfl, rd⟩ | ⟨T, vs, es, hT, rfl, e3, rds, rfl⟩
      · exact ⟨Zi, Ext.refl, sri, rd⟩
      · obtain ⟨s2, x2⟩ := sri.newZ (.tup vs) hT
        rw [e3]
        exact ⟨_, x2, s2, .tup (.inl (.inl upd_same)) (rds.mono x2)⟩
    have hP2 := PostS.ext hP e2
    rw [List.drop_eq_getElem_cons hl] at hP2
    have hP3 : PostS p F Z2 mi D W (match f xs[i] envi Si with
      | .nx env' S' => forL f (xs.drop (i + 1)) env' S'
      | .ct env' S' => forL f (xs.drop (i + 1)) env' S'
      | .bk env' S' => .nx env' S'
      | r => r) := hP2
    cases hb : bindT t xs[i] envi with
    | none =>
      have e : f xs[i] envi Si = .bad := by
        rw [← hf]
        dsimp only
        rw [hb]
      rw [e] at hP3
      exact False.elim hP3
    | some env' =>
      have e : f xs[i] envi Si = exSs p.sub p.cl b env' Si := by
        rw [← hf]
        dsimp only
        rw [hb]
      rw [e] at hP3
      refine ⟨F, Z2, mi, Si, envi, xs[i], env', rei.mono e2, sr2, rd2, hb, fun σ2 re2 _ => ⟨F, Z2, mi, Si, env', re2, sr2, ?_⟩⟩
      generalize exSs p.sub p.cl b env' Si = r at hP3 ⊢
      cases r with
      | nx env3 S3 =>
        intro Z3 m3 H4 σ4 e3 sr3 re3
        exact ⟨rfl, by omega, Z3, m3, S3, env3, ei.trans (e2.trans e3), re3, sr3, PostS.ext hP3 e3⟩
      | ct env3 S3 =>
        intro Z3 m3 H4 σ4 e3 sr3 re3
        exact ⟨rfl, by omega, Z3, m3, S3, env3, ei.trans (e2.trans e3), re3, sr3, PostS.ext hP3 e3⟩
      | bk env3 S3 => exact hP3
      | rt d S3 => exact hP3
      | exc x env3 S3 => exact hP3
      | bad => exact hP3
  · have hi3 : i = xs.length := by omega
    refine .inl ⟨f2 (by omega), ?_⟩
    rw [hi3, List.drop_length] at hP
    exact hP _ _ _ _ Ext.refl sri rei
theorem rd_whl {n : Nat} {e : E} {b : List S} : ∀ D σ H, tS p W (.whl n e b) D σ H → tWhile (tT p W e) (tSs p W b) D σ H := fun D σ H q => by
  obtain ⟨F, Z, m, S, env, re, sr, h⟩ := q
  have h : PostS p F Z m D W (whL (fun env1 S1 => evC p.cl (some e) env1 S1) (fun env1 S1 => exSs p.sub p.cl b env1 S1) n env S) := h
  refine ⟨fun k σ H => ∃ Zi mi Si envi, RE p.K Zi mi envi σ ∧ SR p.K F Zi mi Si H ∧ PostS p F Zi mi D W (whL (fun env1 S1 => evC p.cl (some e) env1 S1) (fun env1 S1 => exSs p.sub p.cl b env1 S1) k envi Si), ⟨n, Z, m, S, env, re, sr, h⟩, ?_⟩
  rintro k σ1 H1 ⟨Zi, mi, Si, envi, rei, sri, hP⟩
  cases k with
  | zero => exact False.elim hP
  | succ k =>
    have hP : PostS p F Zi mi D W ((evC p.cl (some e) envi Si).to envi fun k' S1 => match k' with
      | true => (match exSs p.sub p.cl b envi S1 with
        | .nx env' S' => whL (fun env1 S1 => evC p.cl (some e) env1 S1) (fun env1 S1 => exSs p.sub p.cl b env1 S1) k env' S'
        | .ct env' S' => whL (fun env1 S1 => evC p.cl (some e) env1 S1) (fun env1 S1 => exSs p.sub p.cl b env1 S1) k env' S'
        | .bk env' S' => .nx env' S'
        | r => r)
      | false => .nx envi S1) := hP
    refine ⟨F, Zi, mi, Si, envi, rei, sri, PostS.to hP rei fun d S1 Z1 m1 H1 v _ e1 s1 rd h1 => ?_⟩
    subst rd
    cases d with
    | false => exact h1 _ _ _ _ Ext.refl s1 (rei.mono e1)
    | true =>
      refine ⟨fun σ' H' => ∃ Zi mi Si envi, RE p.K Zi mi envi σ' ∧ SR p.K F Zi mi Si H' ∧ PostS p F Zi mi D W (whL (fun env1 S1 => evC p.cl (some e) env1 S1) (fun env1 S1 => exSs p.sub p.cl b env1 S1) k envi Si), fun σ' H' q => ⟨k, Nat.lt_succ_self k, q⟩, F, Z1, m1, S1, envi, rei.mono e1, s1, ?_⟩
      dsimp only at h1
      generalize exSs p.sub p.cl b envi S1 = r at h1 ⊢
      cases r with
      | nx env3 S3 =>
        intro Z3 m3 H4 σ4 e3 sr3 re3
        exact ⟨Z3, m3, S3, env3, re3, sr3, PostS.ext h1 e3⟩
      | ct env3 S3 =>
        intro Z3 m3 H4 σ4 e3 sr3 re3
        exact ⟨Z3, m3, S3, env3, re3, sr3, PostS.ext h1 e3⟩
      | bk env3 S3 => exact h1
      | rt d S3 => exact h1
      | exc x env3 S3 => exact h1
      | bad => exact h1
end
end Mn

/-! Statements: all forms. -/
namespace Mn
open PySem PySem.Spec PyProof.Rows L2
structure SndS (p : Pm) (c : CS) (n : Nat) : Prop where
  s : ∀ {W : WX} {lv : Nat} {X : Cx} {sc : Scope} {e : Stmt} {ce : S}, SitS p c W lv X sc → cS c sc n e = some ce → PS X e (tS p W ce)
  ss : ∀ {W : WX} {lv : Nat} {X : Cx} {sc : Scope} {e : List Stmt} {ce : List S}, SitS p c W lv X sc → cSs c sc n e = some ce → PSs X e (tSs p W ce)
section
variable {p : Pm} {c : CS} {W : WX} {lv : Nat} {X : Cx} {sc : Scope}
theorem rd_ex {e : E} : ∀ D σ H, tS p W (.ex e) D σ H → tDrop (tE p W e) D σ H := fun D σ H q => by
  obtain ⟨F, Z, m, S, env, re, sr, h⟩ := q
  exact ⟨F, Z, m, S, env, re, sr, PostS.to h re fun d S1 Z1 m1 H1 v _ e1 s1 rd h1 => h1 _ _ _ _ Ext.refl s1 (re.mono e1)⟩
theorem rd_ret {e : E} : ∀ D σ H, tS p W (.ret e) D σ H → tRet (tE p W e) D σ H := fun D σ H q => by
  obtain ⟨F, Z, m, S, env, re, sr, h⟩ := q
  exact ⟨F, Z, m, S, env, re, sr, PostS.to h re fun d S1 Z1 m1 H1 v _ e1 s1 rd h1 => h1 _ _ _ _ Ext.refl s1 rd⟩
theorem rd_pas {D : Ends} {σ : L2.St} {H : Hp} (q : tS p W .pas D σ H) : D.nx σ H := by
  obtain ⟨F, Z, m, S, env, re, sr, h⟩ := q
  exact h _ _ _ _ Ext.refl sr re
theorem rd_if {e : E} {a b : List S} : ∀ D σ H, tS p W (.ifs e a b) D σ H → tIfS (tT p W e) (tSs p W a) (tSs p W b) D σ H := fun D σ H q => by
  obtain ⟨F, Z, m, S, env, re, sr, h⟩ := q
  have h : PostS p F Z m D W ((evE p.cl e env S).to env fun x S1 => match x with
    | .bl true => exSs p.sub p.cl a env S1
    | .bl false => exSs p.sub p.cl b env S1
    | _ => .bad) := h
  have e3 : ((evE p.cl e env S).to env fun x S1 => match x with
    | .bl true => exSs p.sub p.cl a env S1
    | .bl false => exSs p.sub p.cl b env S1
    | _ => .bad) = (evC p.cl (some e) env S).to env fun k S1 => match k with
    | true => exSs p.sub p.cl a env S1
    | false => exSs p.sub p.cl b env S1 := evC_to p.cl e env env S fun k S1 => match k with
    | true => exSs p.sub p.cl a env S1
    | false => exSs p.sub p.cl b env S1
  rw [e3] at h
  refine ⟨F, Z, m, S, env, re, sr, PostS.to h re fun k S1 Z1 m1 H1 v _ e1 s1 rd h1 => ?_⟩
  subst rd
  cases k with
  | true => exact ⟨F, Z1, m1, S1, env, re.mono e1, s1, h1⟩
  | false => exact ⟨F, Z1, m1, S1, env, re.mono e1, s1, h1⟩
theorem rd_aug {i : Nat} {o : BO} {e : E} : ∀ D σ H, tS p W (.aug i o e) D σ H → tAug i (tE p W e) (fun v w H Q => ∃ F Z m S x y, SR p.K F Z m S H ∧ RD p.K Z m x v ∧ RD p.K Z m y w ∧ Post p F Z m (RD p.K) Q (fun cls d H' => W cls d σ H') (iop o x y S)) D σ H := fun D σ H q => by
  obtain ⟨F, Z, m, S, env, re, sr, h⟩ := q
  have h : PostS p F Z m D W (match env[i]? with
    | some (some x) => (evE p.cl e env S).to env fun y S1 => (iop o x y S1).to env fun z S2 => frL (env.set i (some z)) fun e2 => .nx e2 S2
    | _ => .bad) := h
  split at h
  · rename_i x hx
    obtain ⟨v, h1, h2⟩ := re.2 i x hx
    refine ⟨v, h1, F, Z, m, S, env, re, sr, PostS.to h re fun y S1 Z1 m1 H1 w _ e1 s1 rd h3 => ⟨F, Z1, m1, S1, x, y, s1, h2.mono e1, rd, PostS.to h3 (re.mono e1) fun z S2 Z2 m2 H2 u _ e2 s2 rd2 h4 => ?_⟩⟩
    rw [frL_eq] at h4
    exact h4 _ _ _ _ Ext.refl s2 (((re.mono e1).mono e2).set i rd2)
  · exact False.elim h
theorem rd_six {o i e : E} : ∀ D σ H, tS p W (.six o i e) D σ H → tAsg (tE p W e) (gSub (tE p W o) (tE p W i) (fun o i v H Q => ∃ F Z m S x y d S', SR p.K F Z m S H ∧ RD p.K Z m x o ∧ RD p.K Z m y i ∧ RD p.K Z m d v ∧ sixf x y d S = some S' ∧ ∀ H', SR p.K F Z m S' H' → Q H')) D σ H := fun D σ H q => by
  obtain ⟨F, Z, m, S, env, re, sr, h⟩ := q
  refine ⟨F, Z, m, S, env, re, sr, PostS.to h re fun d S1 Z1 m1 H1 v _ e1 s1 rd h1 => ⟨F, Z1, m1, S1, env, re.mono e1, s1, PostS.to h1 (re.mono e1) fun x S2 Z2 m2 H2 ov _ e2 s2 rx h2 => ⟨F, Z2, m2, S2, env, (re.mono e1).mono e2, s2, PostS.to h2 ((re.mono e1).mono e2) fun y S3 Z3 m3 H3 iv _ e3 s3 ry h3 => ?_⟩⟩⟩
  cases hs : sixf x y d S3 with
  | none =>
    rw [hs] at h3
    exact False.elim h3
  | some S4 =>
    rw [hs] at h3
    exact ⟨F, Z3, m3, S3, x, y, d, S4, s3, rx.mono e3, ry, rd.mono (e2.trans e3), hs, fun H' s4 => h3 _ _ _ _ Ext.refl s4 (((re.mono e1).mono e2).mono e3)⟩
theorem rd_par {i j : Nat} {es : List E} : ∀ D σ H, tS p W (.asg (.tp [.nm i, .nm j]) (.tup es)) D σ H → tPar i j (tA p W es) D σ H := fun D σ H q => by
  obtain ⟨F, Z, m, S, env, re, sr, h⟩ := q
  have h : PostS p F Z m D W (((evEs p.cl es env S).bind fun xs S1 => if xs.length ≤ line then R.ok (Mn.D.tup xs) S1 else .bad).to env fun d S1 => match bindT (.tp [.nm i, .nm j]) d env with
    | some env' => RS.nx env' S1
    | none => .bad) := h
  rw [R.to_bind] at h
  refine ⟨F, Z, m, S, env, re, sr, PostS.to h re fun xs S1 Z1 m1 H1 vs _ e1 s1 rds h1 => ?_⟩
  split at h1
  · have h2 : PostS p F Z1 m1 D W (match bindT (.tp [.nm i, .nm j]) (.tup xs) env with
      | some env' => RS.nx env' S1
      | none => .bad) := h1
    cases hb : bindT (.tp [.nm i, .nm j]) (.tup xs) env with
    | none =>
      rw [hb] at h2
      exact False.elim h2
    | some env' =>
      rw [hb] at h2
      cases rds with
      | nil => cases hb
      | @cons d1 v1 _ _ r1 rs =>
        have hb : (match (if i < env.length then frL (env.set i (some d1)) some else none : Option Env) with
          | some env2 => bindT.bindTs [.nm j] _ env2
          | none => none) = some env' := hb
        rw [frL_eq] at hb
        split at hb
        · rename_i env2 he
          split at he
          · cases he
            cases rs with
            | nil => cases hb
            | @cons d2 v2 _ _ r2 rs =>
              have hb : (match (if j < (env.set i (some d1)).length then frL ((env.set i (some d1)).set j (some d2)) some else none : Option Env) with
                | some env2 => bindT.bindTs [] _ env2
                | none => none) = some env' := hb
              rw [frL_eq] at hb
              split at hb
              · rename_i env3 he
                split at he
                · cases he
                  cases rs with
                  | cons _ _ => cases hb
                  | nil =>
                    cases hb
                    exact ⟨v1, v2, rfl, h2 _ _ _ _ Ext.refl s1 (((re.mono e1).set i r1).set j r2)⟩
                · cases he
              · cases hb
          · cases he
        · cases hb
  · exact False.elim h1
theorem rd_par3 {i j l : Nat} {es : List E} : ∀ D σ H, tS p W (.asg (.tp [.nm i, .nm j, .nm l]) (.tup es)) D σ H → tPar3 i j l (tA p W es) D σ H := fun D σ H q => by
  obtain ⟨F, Z, m, S, env, re, sr, h⟩ := q
  have h : PostS p F Z m D W (((evEs p.cl es env S).bind fun xs S1 => if xs.length ≤ line then R.ok (Mn.D.tup xs) S1 else .bad).to env fun d S1 => match bindT (.tp [.nm i, .nm j, .nm l]) d env with
    | some env' => RS.nx env' S1
    | none => .bad) := h
  rw [R.to_bind] at h
  refine ⟨F, Z, m, S, env, re, sr, PostS.to h re fun xs S1 Z1 m1 H1 vs _ e1 s1 rds h1 => ?_⟩
  split at h1
  · have h2 : PostS p F Z1 m1 D W (match bindT (.tp [.nm i, .nm j, .nm l]) (.tup xs) env with
      | some env' => RS.nx env' S1
      | none => .bad) := h1
    cases hb : bindT (.tp [.nm i, .nm j, .nm l]) (.tup xs) env with
    | none =>
      rw [hb] at h2
      exact False.elim h2
    | some env' =>
      rw [hb] at h2
      cases rds with
      | nil => cases hb
      | @cons d1 v1 _ _ r1 rs =>
        have hb : (match (if i < env.length then frL (env.set i (some d1)) some else none : Option Env) with
          | some env2 => bindT.bindTs [.nm j, .nm l] _ env2
          | none => none) = some env' := hb
        rw [frL_eq] at hb
        split at hb
        · rename_i env2 he
          split at he
          · cases he
            cases rs with
            | nil => cases hb
            | @cons d2 v2 _ _ r2 rs =>
              have hb : (match (if j < (env.set i (some d1)).length then frL ((env.set i (some d1)).set j (some d2)) some else none : Option Env) with
                | some env2 => bindT.bindTs [.nm l] _ env2
                | none => none) = some env' := hb
              rw [frL_eq] at hb
              split at hb
              · rename_i env3 he
                split at he
                · cases he
                  cases rs with
                  | nil => cases hb
                  | @cons d3 v3 _ _ r3 rs =>
                    have hb : (match (if l < ((env.set i (some d1)).set j (some d2)).length then frL (((env.set i (some d1)).set j (some d2)).set l (some d3)) some else none : Option Env) with
                      | some env2 => bindT.bindTs [] _ env2
                      | none => none) = some env' := hb
                    rw [frL_eq] at hb
                    split at hb
                    · rename_i env4 he
                      split at he
                      · cases he
                        cases rs with
                        | cons _ _ => cases hb
                        | nil =>
                          cases hb
                          exact ⟨v1, v2, v3, rfl, h2 _ _ _ _ Ext.refl s1 ((((re.mono e1).set i r1).set j r2).set l r3)⟩
                      · cases he
                    · cases hb
                · cases he
              · cases hb
          · cases he
        · cases hb
  · exact False.elim h1

/-! ### except suites -/
def tRV (d : Mn.D) (i : Option Nat) : TS := fun D σ H => True
/-- isinstance(e, y) handed back, e the exception -/
def tsIsx (p : Pm) (i j : Nat) : Addr → Value → Option Addr → TS := fun a cls d D σ H => ∃ x, cls = .ref (p.ca x) ∧ d = none ∧ σ[i]? = some (some (.ref a)) ∧ D.rt (.bl (p.sub x j)) H
theorem suite_isx (s : SitS p c W lv X sc) {nm y f : Str} {i j : Nat} {p1 p2 p3 pos rpos : Pos} (hf : f = ("isinstance" : Str)) (hb : c.isB sc f = true) (hi : X.N[i]? = some nm) (hl : X.env.scope.names.lookup nm = some .local) (hn : okName nm = true) (hy : exI c sc y = some j)
    {a : Addr} {oe : Obj} {cls : Value} {d : Option Addr} {pn : List (Addr × Obj)} (hz : Zc cls d oe) (hd : ∃ vs, oe.data = .fields vs) :
    PSs (X.suite a ((a, oe) :: pn)) [.Return (some (.Call (.Name f p1) [.Name nm p2, .Name y p3] [] pos)) rpos] (tsIsx p i j a cls d) := by
  refine ⟨fun pins s0 σ H D I q => ?_⟩
  obtain ⟨x, rfl, rfl, hs, q⟩ := q
  subst hf
  obtain ⟨g1, g2, g3⟩ := isB_ok s.toSit hb
  obtain ⟨n1, n2⟩ := okName_ok hn
  obtain ⟨y1, y2, y3⟩ := exI_ok s hy
  obtain ⟨y4, y5, y6, y7, y8, y9, y10⟩ := s.xk.exc y j y3
  have hE : ExcC X.K (p.ca x) := by
    rw [s.ok.k]
    exact s.xk.all x
  have arg : PA (X.suite a ((a, oe) :: pn)) [.Name nm p2, .Name y p3] (tCons (tVar i) (tCons (tC (.ref (p.ca j))) tNil)) :=
    pa_cons (pe_var (X := X.suite a ((a, oe) :: pn)) hi (.inl hl) n1 n2) (pa_cons (pe_glob (X := X.suite a ((a, oe) :: pn)) y1 y4 rfl y2) pa_nil)
  refine (pss_one (ps_ret (pe_callB (call_isE hE hz hd) g1 g2 (by decide +kernel) arg (by decide) (by decide)))).run pins s0 σ H D I ?_
  refine ⟨.ref a, hs, .ref (p.ca j), .ref (p.ca j), p.sub x j, rfl, fun u hu => hu, ?_, q⟩
  rw [s.ok.k]
  exact y9 x

/-- the clauses of a try -/
theorem hds_ok (s : SitS p c W lv X sc) : ∀ {hs : List ExceptHandler} {hx : List (Nat × HX)}, cH c sc hs = some hx → ∃ l, HdsOk X hs l ∧
    ∀ (D : Ends) (F Z : Hp) (m : Mp) (x : Ex) (env : Env) (S : Sto), PostS p F Z m D W (hdls p.sub x env S hx) →
      ∀ Z' m' H' σ' cls d, Ext Z m Z' m' → SR p.K F Z' m' S H' → RE p.K Z' m' env σ' → XRel p.ca x cls d → wMany X.K W D l cls d σ' H'
  | [], hx, h => by
    cases h
    exact ⟨[], .nil, fun D F Z m x env S hP => hP⟩
  | .ExceptHandler ty nm body pos :: r, hx, h => by
    have fin : ∀ {y : Str} {py rp : Pos} {e : Expr} {i : Nat} {hr : List (Nat × HX)} {h1 : HX} {ts : TS}, exI c sc y = some i → cH c sc r = some hr →
        (∀ (a : Addr) (oe : Obj) (pn : List (Addr × Obj)), PSs (X.suite a ((a, oe) :: pn)) [.Return (some e) rp] ts) →
        (∀ (D : Ends) (F Z : Hp) (m : Mp) (x : Ex) (env : Env) (S : Sto) (dd : Mn.D), hdl p.sub x env h1 = some dd → (∀ Z' m' H' v, Ext Z m Z' m' → SR p.K F Z' m' S H' → RD p.K Z' m' dd v → D.rt v H') → ∀ Z' m' H' σ', Ext Z m Z' m' → SR p.K F Z' m' S H' → RE p.K Z' m' env σ' → ts D σ' H') →
        ∃ l, HdsOk X (.ExceptHandler (some (.Name y py)) none [.Return (some e) rp] pos :: r) l ∧
          ∀ (D : Ends) (F Z : Hp) (m : Mp) (x : Ex) (env : Env) (S : Sto), PostS p F Z m D W (hdls p.sub x env S ((i, h1) :: hr)) →
            ∀ Z' m' H' σ' cls d, Ext Z m Z' m' → SR p.K F Z' m' S H' → RE p.K Z' m' env σ' → XRel p.ca x cls d → wMany X.K W D l cls d σ' H' := fun {y py rp e i hr h1 ts} hy hc hs hts => by
      obtain ⟨l, hl, k⟩ := hds_ok s hc
      refine ⟨(.ref (p.ca i), fun _ _ _ => ts) :: l, .cons (Exk.names s hy) (fun a oe cls d pn _ _ => hs a oe pn) hl, fun D F Z m x env S hP Z' m' H' σ' cls d e sr re xr => ?_⟩
      obtain ⟨_, _, hg⟩ := exI_ok s hy
      refine ⟨p.sub x.cls i, ?_, fun hb a ha => ?_, fun hb => ?_⟩
      · rw [s.ok.k, xr.1]
        exact (s.xk.exc y i hg).2.2.2.2.1 x.cls
      · have hP : PostS p F Z m D W (if p.sub x.cls i = true then (match hdl p.sub x env h1 with
          | some d => RS.rt d S
          | none => .bad) else hdls p.sub x env S hr) := hP
        rw [if_pos hb] at hP
        cases hd : hdl p.sub x env h1 with
        | none =>
          rw [hd] at hP
          exact False.elim hP
        | some dd =>
          rw [hd] at hP
          exact hts D F Z m x env S dd hd hP _ _ _ _ e sr re
      · have hP : PostS p F Z m D W (if p.sub x.cls i = true then (match hdl p.sub x env h1 with
          | some d => RS.rt d S
          | none => .bad) else hdls p.sub x env S hr) := hP
        rw [if_neg (by rw [hb]; exact Bool.false_ne_true)] at hP
        exact k D F Z m x env S hP _ _ _ _ _ _ e sr re xr
    cases ty with
    | none => cases h
    | some ty =>
      cases ty <;> first | (cases h; done) | skip
      rename_i y py
      cases nm with
      | some _ => cases h
      | none =>
        cases body with
        | nil => cases h
        | cons b bs =>
          cases b <;> first | (cases h; done) | skip
          rename_i oe rp
          cases oe with
          | none => cases h
          | some e =>
            cases bs with
            | cons _ _ => cases e <;> cases h
            | nil =>
              cases e <;> first | (cases h; done) | skip
              · rename_i v k q
                have h : (match (generalizing := false) exI c sc y, cE c 1 sc (.Constant v k q), cH c sc r with
                  | some i, some (E.lit d), some r => some ((i, HX.lit d) :: r)
                  | _, _, _ => none) = some hx := h
                split at h
                · rename_i i d hr h1 h2 h3
                  cases h
                  refine fin (ts := tRet (tE p W (.lit d))) h1 h3 (fun a oe pn => pss_one (ps_ret (pe_const (sc := sc) (c := c) (n := 0) h2))) fun D F Z m x env S dd hd q Z' m' H' σ' e sr re => ?_
                  cases hd
                  exact ⟨F, Z', m', S, env, re, sr, fun Z2 m2 H2 v e2 s2 r2 => q _ _ _ _ (e.trans e2) s2 r2⟩
                · cases h
              · rename_i v q
                have h : (match (generalizing := false) exI c sc y, locI c sc v, cH c sc r with
                  | some i, some v, some r => some ((i, HX.vr v) :: r)
                  | _, _, _ => none) = some hx := h
                split at h
                · rename_i i vi hr h1 h2 h3
                  cases h
                  obtain ⟨l1, l2, l3, l4, l5⟩ := locI_ok s h2
                  refine fin (ts := tRet (tVar vi)) h1 h3 (fun a oe pn => pss_one (ps_ret (pe_var (X := X.suite a ((a, oe) :: pn)) l1 (Mn.Loc.vis l2) l4 l5))) fun D F Z m x env S dd hd q Z' m' H' σ' e sr re => ?_
                  have hd : (match env[vi]? with
                    | some (some d) => some d
                    | _ => none) = some dd := hd
                  split at hd
                  · rename_i d he
                    rw [Option.some.inj hd] at he
                    obtain ⟨w, w1, w2⟩ := re.2 vi dd he
                    exact ⟨w, w1, q _ _ _ _ e sr w2⟩
                  · cases hd
                · cases h
end
end Mn

/-! Statements: the induction. -/
namespace Mn
open PySem PySem.Spec PyProof.Rows L2
section
variable {p : Pm} {c : CS} {W : WX} {lv : Nat} {X : Cx} {sc : Scope}
theorem cT_at (s : SitS p c W lv X sc) {n : Nat} {e : Expr} {t : Tg} (h : cT c.N sc n e = some t) : PG X e (tG p t) := by
  refine cT_ok s.ok s.sto (n := n) ?_
  rw [s.n]
  exact h
theorem slot_at (s : SitS p c W lv X sc) {x : Str} {i : Nat} (h : slotOf c.N x = some i) : X.N[i]? = some x := by
  rw [s.n]
  exact slotOf_ok h
theorem ps_plain (s : SitS p c W lv X sc) {n : Nat} {tg e : Expr} {t : Tg} {ce : E} {pos : Pos} (h1 : cT c.N sc n tg = some t) (h2 : cE c n sc e = some ce) (hs : swapsWith e (some tg) pos.line X.env = pure false) (hw : swappedStores [tg] e X.env = pure none)
    (ha : (assignEach [tg] X.env).map (·.2) = [assign tg X.env]) : PS X (.Assign [tg] e pos) (tS p W (.asg t ce)) :=
  PS.imp (ps_asg ((snd_all n).e s.toSit h2).1 (cT_at s h1) hs hw ha) rd_asg
theorem asgName (s : SitS p c W lv X sc) {n : Nat} {x : Str} {px : Pos} {e : Expr} {pos : Pos} {cs : S} (h : cS c sc (n + 1) (.Assign [.Name x px] e pos) = some cs) : PS X (.Assign [.Name x px] e pos) (tS p W cs) := by
  have gen : isCompE e = false → (match (generalizing := false) cT c.N sc n (.Name x px), cE c n sc e with
      | some t, some e => some (S.asg t e)
      | _, _ => none) = some cs → PS X (.Assign [.Name x px] e pos) (tS p W cs) := fun hc h => by
    split at h
    · rename_i t ce h1 h2
      cases h
      exact ps_plain s h1 h2 (sw_plain hc) (by cases e <;> rfl) rfl
    · cases h
  cases e with
  | ListComp elt gens scope pos2 =>
    have h : (match (generalizing := false) lcSame sc x px scope pos2, cT c.N sc n (.Name x px), cE c n sc (.ListComp elt gens scope pos2) with
      | true, some (.nm i), some e => some (S.asg (.nm i) e)
      | false, some t, some e => some (S.asg t e)
      | _, _, _ => none) = some cs := h
    have hsw : ∀ l, swapsWith (.ListComp elt gens scope pos2) (some (.Name x px)) l X.env = pure (lcSame sc x px scope pos2) := fun l => by
      rw [sw_lc s.ok.kind, s.s]
    split at h
    · rename_i i ce hl h1 h2
      cases h
      cases n with
      | zero => cases h2
      | succ n =>
        obtain ⟨tg, iter, ifs, t, w, its, cond, ce2, rfl, rfl, b1, b2, k1, k2, k3, k4⟩ := lc_inv h2
        have hx : sc.names.lookup x = some .local := by
          have hl2 := hl
          unfold lcSame at hl2
          simp only [Bool.and_eq_true] at hl2
          exact eq_of_beq hl2.1.1
        have hi : slotOf c.N x = some i := by
          have h3 : (match (generalizing := false) sc.names.lookup x with
            | some .local | some .cell => (slotOf c.N x).map Tg.nm
            | _ => none) = some (.nm i) := h1
          rw [hx] at h3
          obtain ⟨j, h4, h5⟩ := opt_map h3
          cases h5
          exact h4
        have hown : ∀ i ∈ tgSl t, i ∈ (ownOf c.N scope).map (·.2) := tgSl_own k1
        have ok : BlkOk X.N X.env.scope scope (ownOf c.N scope) := by
          rw [s.n, s.s]
          exact blkOk_by b2
        have k1 : cT X.N scope n tg = some t := by
          rw [s.n]
          exact k1
        have hN := slot_at s hi
        refine PS.imp (ps_setLc (g := tG p t) (tt := tCo p W0 cond) (te := tE p W0 ce2) s.ok.calm s.ok.nd hN (s.sto.loc x hx) ((hsw _).trans (by rw [hl])) ((snd_all n).w s.toSit k2) ok (fun s0 H C cl fp => ?_) (fun s0 H C cl fp => ?_) (fun s0 H C cl fp => ?_) (noFold b1 _)) (rd_asgN (X := X) (List.getElem?_eq_some_iff.mp hN).1 (lc_ok hown))
        · exact cT_ok (s.ok.blk ok.kind) blk_sto k1
        · exact (snd_all n).i (blk_sit s.toSit ok.kind) k3
        · exact ((snd_all n).e (blk_sit s.toSit ok.kind) k4).1
    · rename_i t ce hl h1 h2
      cases h
      exact ps_plain s h1 h2 ((hsw _).trans (by rw [hl])) rfl rfl
    · cases h
  | SetComp _ _ _ _ => cases h
  | DictComp _ _ _ _ _ => cases h
  | _ => exact gen rfl h
theorem asgTup (s : SitS p c W lv X sc) {n : Nat} {ts : List Expr} {kt : Nat} {pt : Pos} {e : Expr} {pos : Pos} {cs : S} (h : cS c sc (n + 1) (.Assign [.Tuple ts kt pt] e pos) = some cs) : PS X (.Assign [.Tuple ts kt pt] e pos) (tS p W cs) := by
  have gen : swappedStores [.Tuple ts kt pt] e X.env = pure none → (match (generalizing := false) cT c.N sc n (.Tuple ts kt pt), cE c n sc e with
      | some t, some e => some (S.asg t e)
      | _, _ => none) = some cs → PS X (.Assign [.Tuple ts kt pt] e pos) (tS p W cs) := fun hc h => by
    split at h
    · rename_i t ce h1 h2
      cases h
      exact ps_plain s h1 h2 (sw_tg rfl) hc rfl
    · cases h
  cases e with
  | Tuple vs k2 p2 =>
    have h : (match (generalizing := false) parN sc ts vs with
      | some none => (match (generalizing := false) cT c.N sc n (.Tuple ts kt pt), cE c n sc (.Tuple vs k2 p2) with
        | some t, some e => some (S.asg t e)
        | _, _ => none)
      | some (some ns) => (match (generalizing := false) ts, vs with
        | [.Name x _, .Name y _], [_, _] => if ns = [x, y] ∧ sc.names.lookup x = some .local ∧ sc.names.lookup y = some .local then (match (generalizing := false) slotOf c.N x, slotOf c.N y, cEs c n sc vs with
          | some i, some j, some es => if i = j then none else some (S.asg (.tp [.nm i, .nm j]) (.tup es))
          | _, _, _ => none) else none
        | [.Name x _, .Name y _, .Name z _], [_, _, _] => if ns = [x, y, z] ∧ sc.names.lookup x = some .local ∧ sc.names.lookup y = some .local ∧ sc.names.lookup z = some .local then (match (generalizing := false) slotOf c.N x, slotOf c.N y, slotOf c.N z, cEs c n sc vs with
          | some i, some j, some l, some es => if i = j ∨ i = l ∨ j = l then none else some (S.asg (.tp [.nm i, .nm j, .nm l]) (.tup es))
          | _, _, _, _ => none) else none
        | _, _ => none)
      | none => none) = some cs := h
    have par : ∀ {r}, parN sc ts vs = some r → swappedStores [.Tuple ts kt pt] (.Tuple vs k2 p2) X.env = pure r := fun {r} h => by
      refine par_eq s.ok.kind ?_
      rw [s.s]
      exact h
    split at h
    · rename_i hp
      exact gen (par hp) h
    · rename_i ns hp
      split at h
      · rename_i x px y py a b
        split at h
        · rename_i hh
          obtain ⟨rfl, hx, hy⟩ := hh
          split at h
          · rename_i i j es h1 h2 h3
            split at h
            · cases h
            · rename_i hij
              cases h
              exact PS.imp (ps_par s.ok.calm s.ok.nd (slot_at s h1) (slot_at s h2) hij (s.sto.loc _ hx) (s.sto.loc _ hy) ((snd_all n).a s.toSit h3) (par hp)) rd_par
          · cases h
        · cases h
      · rename_i x px y py z pz a b d
        split at h
        · rename_i hh
          obtain ⟨rfl, hx, hy, hz⟩ := hh
          split at h
          · rename_i i j l es h1 h2 h4 h3
            split at h
            · cases h
            · rename_i hij
              cases h
              simp only [not_or] at hij
              exact PS.imp (ps_par3 s.ok.calm s.ok.nd (slot_at s h1) (slot_at s h2) (slot_at s h4) hij.1 hij.2.1 hij.2.2 (s.sto.loc _ hx) (s.sto.loc _ hy) (s.sto.loc _ hz) ((snd_all n).a s.toSit h3) (par hp)) rd_par3
          · cases h
        · cases h
      · cases h
    · cases h
  | _ => exact gen rfl h
theorem asgSub (s : SitS p c W lv X sc) {n : Nat} {o i : Expr} {p2 : Pos} {e : Expr} {pos : Pos} {cs : S} (h : cS c sc (n + 1) (.Assign [.Subscript o i p2] e pos) = some cs) : PS X (.Assign [.Subscript o i p2] e pos) (tS p W cs) := by
  have h : (match (generalizing := false) cE c n sc e, cE c n sc o, cE c n sc i with
    | some e, some o, some i => some (S.six o i e)
    | _, _, _ => none) = some cs := h
  split at h
  · rename_i ce co ci h1 h2 h3
    cases h
    have ha : ∀ v, assign (.Subscript o i p2) X.env v = (do
        let ov ← holding [v] (eval o X.env)
        let iv ← holding [v, ov] (eval i X.env)
        standAt p2
        holding [v, ov, iv] (setItem ov iv v)
        release [v, ov, iv] []) := fun v => by
      cases n with
      | zero => cases h3
      | succ n => cases i <;> first | rfl | (cases h3; done)
    exact PS.imp (ps_asg ((snd_all n).e s.toSit h1).1 (pg_sub ((snd_all n).e s.toSit h2).1 ((snd_all n).e s.toSit h3).1 (set_sixf (p := p)) ha) (sws_one.trans (sw_tg (t := .Subscript o i p2) rfl)) (by cases e <;> rfl) rfl) rd_six
  · cases h

theorem snds_step {n : Nat} (ih : SndS p c n) : SndS p c (n + 1) where
  ss := fun {W lv X sc e ce} s h => by
    cases e with
    | nil =>
      cases h
      refine PSs.imp pss_nil fun D σ H q => ?_
      obtain ⟨F, Z, m, S, env, re, sr, h⟩ := q
      exact h _ _ _ _ Ext.refl sr re
    | cons e es =>
      unfold cSs at h
      split at h
      · rename_i a as h1 h2
        cases h
        refine PSs.imp (pss_cons (ih.s s h1) (ih.ss s h2)) fun D σ H q => ?_
        obtain ⟨F, Z, m, S, env, re, sr, h⟩ := q
        exact ⟨F, Z, m, S, env, re, sr, PostS.bind h fun env S1 Z1 m1 H1 σ1 e1 s1 re1 h1 => ⟨F, Z1, m1, S1, env, re1, s1, h1⟩⟩
      · cases h
  s := fun {W lv X sc e ce} s h => by
    cases e with
    | Expr e pos =>
      have gen : (if isCompE e then none else (cE c n sc e).map S.ex) = some ce → PS X (.Expr e pos) (tS p W ce) := fun h => by
        split at h
        · cases h
        · rename_i hc
          obtain ⟨a, h1, rfl⟩ := opt_map h
          exact PS.imp (ps_expr ((snd_all n).e s.toSit h1).1 (sw_plain (by simpa using hc))) rd_ex
      cases e with
      | Constant v k q =>
        cases v with
        | str x =>
          cases h
          exact PS.imp ps_doc fun D σ H q => rd_pas q
        | _ => exact gen h
      | _ => exact gen h
    | Assign tgs e pos =>
      cases tgs with
      | nil => cases h
      | cons tg tgs =>
        cases tgs with
        | cons _ _ => cases h
        | nil =>
          cases tg with
          | Name x px => exact asgName s h
          | Tuple ts k q => exact asgTup s h
          | Subscript o i q => exact asgSub s h
          | _ => cases h
    | AugAssign tg o e pos =>
      cases tg with
      | Name x px =>
        have h : (match (generalizing := false) locI c sc x, boOf o, cE c n sc e with
          | some i, some o, some e => some (S.aug i o e)
          | _, _, _ => none) = some ce := h
        split at h
        · rename_i i bo ce h1 h2 h3
          cases h
          obtain ⟨l1, l2, l3, l4, l5⟩ := locI_ok s h1
          have eo := boOf_ok h2
          subst eo
          have gen : PS X (.AugAssign (.Name x px) (opOf bo) e pos) (fun D σ H => tAug i (tE p W ce) (fun v w H Q => ∃ F Z m S x y, SR p.K F Z m S H ∧ RD p.K Z m x v ∧ RD p.K Z m y w ∧ Post p F Z m (RD p.K) Q (fun cls d H' => W cls d σ H') (iop bo x y S)) D σ H) :=
            ⟨fun pins s0 σ H D I q => (ps_aug s.ok.nd l1 l2 ((snd_all n).e s.toSit h3).1 (ip_iop (p := p) (E := fun cls d H' => W cls d σ H') bo) l3).run pins s0 σ H D I q⟩
          exact PS.imp gen rd_aug
        · cases h
      | _ => cases h
    | If t a b pos =>
      have h : (match (generalizing := false) cE c n sc t, cSs c sc n a, cSs c sc n b with
        | some t, some a, some b => some (S.ifs t a b)
        | _, _, _ => none) = some ce := h
      split at h
      · rename_i ct ca cb h1 h2 h3
        cases h
        exact PS.imp (ps_if ((snd_all n).e s.toSit h1).2 (ih.ss s h2) (ih.ss s h3)) rd_if
      · cases h
    | For tg iter body orelse pos =>
      cases orelse with
      | cons _ _ => cases h
      | nil =>
        have h : (if isSet iter = true then none else (match (generalizing := false) cT c.N sc n tg, cW c n sc tg iter, cSs c sc n body with
          | some t, some (w, its), some b => some (S.forr t w its b)
          | _, _, _ => none)) = some ce := h
        split at h
        · cases h
        · rename_i hb
          split at h
          · rename_i t w its b h1 h2 h3
            cases h
            exact PS.imp (ps_for s.po s.ok.calm ((snd_all n).w s.toSit h2) (cT_at s h1) (ih.ss s h3) (noFold (by simpa using hb) _)) rd_for
          · cases h
    | While t body orelse pos =>
      cases orelse with
      | cons _ _ => cases h
      | nil =>
        have h : (match (generalizing := false) cE c n sc t, cSs c sc n body with
          | some t, some b => some (S.whl 100000 t b)
          | _, _ => none) = some ce := h
        split at h
        · rename_i ct b h1 h2
          cases h
          exact PS.imp (ps_while s.po ((snd_all n).e s.toSit h1).2 (ih.ss s h2)) rd_whl
        · cases h
    | Return oe pos =>
      cases oe with
      | none =>
        cases h
        refine PS.imp ps_retN fun D σ H q => ?_
        obtain ⟨F, Z, m, S, env, re, sr, h⟩ := q
        exact h _ _ _ _ Ext.refl sr RD.non
      | some e =>
        obtain ⟨a, h1, rfl⟩ := opt_map (show (cE c n sc e).map S.ret = some ce from h)
        exact PS.imp (ps_ret ((snd_all n).e s.toSit h1).1) rd_ret
    | Break pos =>
      cases h
      refine PS.imp ps_break fun D σ H q => ?_
      obtain ⟨F, Z, m, S, env, re, sr, h⟩ := q
      exact h _ _ _ _ Ext.refl sr re
    | Continue pos =>
      cases h
      refine PS.imp ps_continue fun D σ H q => ?_
      obtain ⟨F, Z, m, S, env, re, sr, h⟩ := q
      exact h _ _ _ _ Ext.refl sr re
    | Pass pos =>
      cases h
      exact PS.imp ps_pass fun D σ H q => rd_pas q
    | Raise oe cause pos =>
      cases oe with
      | none => cases h
      | some e =>
        cases e <;> first | (cases h; done) | skip
        rename_i f args kws cpos
        cases f <;> first | (cases h; done) | skip
        rename_i x px
        cases args with
        | nil => cases h
        | cons a as =>
          cases a <;> first | (cases h; done) | skip
          rename_i v k q
          cases v <;> first | (cases h; done) | skip
          rename_i z
          cases as with
          | cons _ _ => cases h
          | nil =>
            cases kws with
            | cons _ _ => cases h
            | nil =>
              cases cause with
              | some _ => cases h
              | none =>
                obtain ⟨i, h1, rfl⟩ := opt_map (show (exI c sc x).map S.rais = some ce from h)
                obtain ⟨g1, g2, g3⟩ := exI_ok s h1
                obtain ⟨y4, y5, y6, y7, y8, y9, bmB, B, nI, iI, y10, y11⟩ := s.xk.exc x i g3
                have y5 : PySem.W.keepIn X.K (.ref (p.ca i)) = true := by
                  rw [s.ok.k]
                  exact y5
                have y11 : PySem.W.excIn X.K (p.ca i) bmB nI = true := by
                  rw [s.ok.k]
                  exact y11
                have rs : Raises X (.ref (p.ca i)) := by
                  refine raises_own ?_ ?_
                  · rw [s.ok.k]
                    exact y6
                  · rw [s.ok.k]
                    exact y7
                refine PS.imp (ps_raise s.ok.calm s.ok.tk (pmk_own y10 y11 y4 y5 rs g1 g2)) fun D σ H q => ?_
                obtain ⟨F, Z, m, S, env, re, sr, h⟩ := q
                exact h _ _ _ _ _ _ Ext.refl sr re ⟨rfl, fun _ => rfl⟩
    | Try body hs orelse fin pos =>
      cases orelse with
      | cons _ _ => cases h
      | nil =>
        cases fin with
        | cons _ _ => cases h
        | nil =>
          replace h : (match (generalizing := false) tryAs hs with
            | some (x, nm, f, e, y) => if (decide (f = ("isinstance" : Str)) && c.isB sc f && decide (e = nm) && okName nm && decide (sc.names.lookup nm = some .local)) = true then (match (generalizing := false) exI c sc x, exI c sc y, slotOf c.N nm, cSs c sc n body with
              | some i, some j, some sl, some b => some (S.tryo b [(i, .isx sl j)])
              | _, _, _, _ => none) else none
            | none => (match (generalizing := false) hs, cSs c sc n body, cH c sc hs with
              | _ :: _, some b, some h => some (S.tryo b h)
              | _, _, _ => none)) = some ce := h
          have hb : ∀ {b : List S}, cSs c sc n body = some b → ∀ (W' : WX) (pn : List (Addr × Obj)) (xe : Value → Shared → Prop), Takes (X.tr pn xe) W' → PassesOwn (model X.prog X.w) X.A X.env xe → PSs (X.tr pn xe) body (tSs p W' b) := fun {b} hb W' pn xe tk po => ih.ss (s.tr tk po) hb
          split at h
          · rename_i x nm f e y ht
            obtain ⟨q1, q2, q3, q4, q5, q6, q7, rfl⟩ := tryAs_ok ht
            split at h
            · rename_i hh
              simp only [Bool.and_eq_true, decide_eq_true_eq] at hh
              obtain ⟨⟨⟨⟨hf, hB⟩, rfl⟩, hok⟩, hl⟩ := hh
              split at h
              · rename_i i j sl b h1 h2 h3 h4
                cases h
                have hN := slot_at s h3
                have hloc := s.sto.loc _ hl
                refine PS.imp (ps_try_as s.st s.fr s.ok.nd hN hloc (Exk.names s h1) s.ok.tk (hb h4) (fun a oe cls d pn hz hd => suite_isx s (W := W) (i := sl) hf hB hN hloc hok h2 hz hd)) fun D σ H q => ?_
                obtain ⟨F, Z, m, S, env, re, sr, h⟩ := q
                refine ⟨F, Z, m, S, env, re, sr, ?_⟩
                have h : PostS p F Z m D W (match exSs p.sub p.cl b env S with
                  | .exc x env1 S1 => hdls p.sub x env1 S1 [(i, .isx sl j)]
                  | r => r) := h
                generalize exSs p.sub p.cl b env S = r at h ⊢
                cases r with
                | exc x env1 S1 =>
                  intro Z' m' H' σ' cls d e sr re xr
                  obtain ⟨_, _, hg⟩ := exI_ok s h1
                  have h : PostS p F Z m D W (if p.sub x.cls i = true then (match hdl p.sub x env1 (.isx sl j) with
                    | some d => RS.rt d S1
                    | none => .bad) else .exc x env1 S1) := h
                  refine ⟨p.sub x.cls i, ?_, fun hb a ha => ?_, fun hb => ?_⟩
                  · rw [s.ok.k, xr.1]
                    exact (s.xk.exc _ i hg).2.2.2.2.1 x.cls
                  · rw [if_pos hb] at h
                    have hfs : x.fs = [] := by
                      cases hfs : x.fs with
                      | nil => rfl
                      | cons _ _ =>
                        have e : hdl p.sub x env1 (.isx sl j) = none := by
                          unfold hdl
                          rw [hfs]
                        rw [e] at h
                        exact False.elim h
                    have e3 : hdl p.sub x env1 (.isx sl j) = if sl < env1.length then some (.bl (p.sub x.cls j)) else none := by
                      unfold hdl
                      rw [hfs]
                    rw [e3] at h
                    by_cases hlt : sl < env1.length
                    · rw [if_pos hlt] at h
                      exact ⟨x.cls, xr.1, xr.2 hfs, List.getElem?_set_self (by rw [← re.1]; exact hlt), h _ _ _ _ e sr (RD.bl _)⟩
                    · rw [if_neg hlt] at h
                      exact False.elim h
                  · rw [if_neg (by rw [hb]; exact Bool.false_ne_true)] at h
                    exact h _ _ _ _ _ _ e sr re xr
                | nx _ _ => exact h
                | rt _ _ => exact h
                | bk _ _ => exact h
                | ct _ _ => exact h
                | bad => exact h
              · cases h
            · cases h
          · obtain ⟨b, hx, h0, hs, h1, h2, rfl, rfl⟩ : ∃ b hx h0 t, cSs c sc n body = some b ∧ cH c sc hs = some hx ∧ hs = h0 :: t ∧ S.tryo b hx = ce := by
              split at h
              · exact ⟨_, _, _, _, ‹_›, ‹_›, rfl, Option.some.inj h⟩
              · cases h
            · obtain ⟨l, hl, k⟩ := hds_ok s h2
              refine PS.imp (ps_try_many s.st s.fr s.ok.tk (hb h1) hl) fun D σ H q => ?_
              obtain ⟨F, Z, m, S, env, re, sr, h⟩ := q
              refine ⟨F, Z, m, S, env, re, sr, ?_⟩
              have h : PostS p F Z m D W (match exSs p.sub p.cl b env S with
                | .exc x env1 S1 => hdls p.sub x env1 S1 hx
                | r => r) := h
              generalize exSs p.sub p.cl b env S = r at h ⊢
              cases r with
              | exc x env1 S1 =>
                intro Z' m' H' σ' cls d e sr re xr
                exact k D F Z m x env1 S1 h _ _ _ _ _ _ e sr re xr
              | nx _ _ => exact h
              | rt _ _ => exact h
              | bk _ _ => exact h
              | ct _ _ => exact h
              | bad => exact h
    | _ => cases h
theorem snds_all : ∀ n : Nat, SndS p c n
  | 0 => { s := fun _ h => (by cases h), ss := fun _ h => (by cases h) }
  | n + 1 => snds_step (snds_all n)
end
end Mn

/-! Defs: what the machine's run of them answers, they answer. -/
namespace Mn
open PySem PySem.Spec PyProof.Rows L2
/-- of a def: its parameters, its names by slot, whether what it made goes at its end -/
structure Dn where
  ps : List Str
  N : List Str
  fr : Bool
def fsB (N ps : List Str) (sc : Scope) : Bool := (match sc.kind with
  | .function => true
  | _ => false) && (!sc.isCoroutine && (!sc.isGenerator && (decide N.Nodup && (decide (N.take ps.length = ps) && ((ps.all fun x => match sc.names.lookup x with
  | some .local => true
  | some .cell => true
  | _ => false) && sc.names.all fun y => match y.2 with
  | .free => false
  | _ => true)))))
theorem fsB_ok {N ps : List Str} {sc : Scope} (h : fsB N ps sc = true) : FnScope N ps sc := by
  unfold fsB at h
  simp only [Bool.and_eq_true, decide_eq_true_eq, List.all_eq_true, Bool.not_eq_true'] at h
  obtain ⟨h1, h2, h3, h4, h5, h6, h7⟩ := h
  refine ⟨?_, h2, h3, h4, h5, fun x hx => ?_, fun y hy z => ?_⟩
  · split at h1
    · assumption
    · cases h1
  · have := h6 x hx
    split at this
    · exact .inl ‹_›
    · exact .inr ‹_›
    · cases this
  · have := h7 y hy
    rw [z] at this
    cases this
def cDf (gl : List (Str × GV)) (bl : List Str) (cel : List (Nat × Nat)) (d : He.DefD) (n : Dn) : Option Df :=
  if (fsB n.N n.ps d.scope && d.dfl.isEmpty && d.kwd.isEmpty) = true then (match cSs ⟨gl, bl, n.N, cel⟩ d.scope 400 d.body with
    | some b => some ⟨n.ps.length, n.N.length, b, n.fr⟩
    | none => none) else none
def compAll (gl : List (Str × GV)) (bl : List Str) (cel : List (Nat × Nat)) : List He.DefD → List Dn → Option (List Df)
  | [], [] => some []
  | d :: fn, n :: dn => match cDf gl bl cel d n, compAll gl bl cel fn dn with
    | some f, some fs => some (f :: fs)
    | _, _ => none
  | _, _ => none
theorem compAll_at {gl : List (Str × GV)} {bl : List Str} {cel : List (Nat × Nat)} : ∀ {fn : List He.DefD} {dn : List Dn} {ds : List Df}, compAll gl bl cel fn dn = some ds → ∀ {i : Nat} {f : Df}, ds[i]? = some f → ∃ d n, fn[i]? = some d ∧ dn[i]? = some n ∧ cDf gl bl cel d n = some f
  | [], [], ds, h, i, f, e => by
    cases h
    simp at e
  | [], _ :: _, ds, h, i, f, e => by cases h
  | _ :: _, [], ds, h, i, f, e => by cases h
  | d :: fn, n :: dn, ds, h, i, f, e => by
    unfold compAll at h
    split at h
    · rename_i f0 fs h1 h2
      cases h
      cases i with
      | zero =>
        cases e
        exact ⟨d, n, rfl, rfl, h1⟩
      | succ i => exact compAll_at h2 (i := i) e
    · cases h
section
variable {P : Program} {w : World} {K : PySem.W.Frag} {mg : Str → Option Value} {base : Heap} {ca : Nat → Addr} {sub : Nat → Nat → Bool} {gl : List (Str × GV)} {bl : List Str} {cel : List (Nat × Nat)}
theorem start_env {N : List Str} {ds : List Mn.D} {vs : List V} {Z : Hp} {m : Mp} (h : RDs K Z m ds vs) : RE K Z m (ds.map some ++ List.replicate (N.length - ds.length) none) (L2.start N vs) := by
  have hl := h.length
  refine ⟨?_, fun i d q => ?_⟩
  · unfold L2.start
    simp [hl]
  · by_cases hi : i < ds.length
    · rw [List.getElem?_append_left (by simpa using hi), List.getElem?_map] at q
      obtain ⟨e, he, he2⟩ := Option.map_eq_some_iff.mp q
      cases he2
      obtain ⟨v, h1, h2⟩ := h.get he
      refine ⟨v, ?_, h2⟩
      unfold L2.start
      rw [List.getElem?_append_left (by simpa [← hl] using hi), List.getElem?_map, h1]
      rfl
    · rw [List.getElem?_append_right (by simpa using Nat.le_of_not_lt hi)] at q
      obtain ⟨_, q2⟩ := List.getElem?_eq_some_iff.mp q
      simp at q2
/-- one def, one level up -/
theorem def_step {lv : Nat} {cl : Calls} {d : He.DefD} {n : Dn} {f : Df} {fd : FuncData} {fa : Addr} (hf : cDf gl bl cel d n = some f) (F : FunD K d.name d.qual d.params d.body d.scope (d.dvs K) (d.kws K) fa fd)
    (hb : ∀ (kV doc pm : Value) (an : Option Addr) (cdv ct : Value) (us : List Value), us.length = n.ps.length → bindArgs (PySem.W.fnOf d.name d.qual d.params d.body d.scope .none kV doc pm an cdv ct) ⟨us, []⟩ = pure (n.ps.zip us))
    (G : Gok ⟨K, sub, cl, ca⟩ gl bl lv P w mg base) (xk : Exk ⟨K, sub, cl, ca⟩ gl mg) {p : Pm} (hp : p.K = K) (hpc : p.ca = ca) : FnG P w K mg base (lv + 1) fa (spR p (f.run sub cl)) := by
  unfold cDf at hf
  split at hf
  · rename_i hh
    simp only [Bool.and_eq_true, List.isEmpty_iff] at hh
    obtain ⟨⟨hs, hd⟩, hk⟩ := hh
    split at hf
    · rename_i code hcd
      cases hf
      have S := fsB_ok hs
      refine ⟨fun A outer s H us vs Q E hr hg e0 r h => ?_⟩
      obtain ⟨F', Z, m, St, ds, sr, rds, h⟩ := h
      rw [hp] at sr rds
      have bd : BindsTo s fd ⟨us, []⟩ (n.ps.zip us) ∨ us.length ≠ n.ps.length := by
        by_cases hl : us.length = n.ps.length
        · refine .inl ?_
          have e1 : d.dvs K = [] := by unfold He.DefD.dvs; rw [hd]; rfl
          rw [e1] at F
          exact F.bindsA hb s us hl
        · exact .inr hl
      have lens : ds.length = us.length := rds.length.trans r.length
      have h : Post p F' Z m (RD p.K) Q E (if ds.length = n.ps.length then (match exSs sub cl code (ds.map some ++ List.replicate (n.N.length - n.ps.length) none) St with
        | .rt d S1 => R.ok d (if n.fr then S1.trim St.next else S1)
        | .nx _ S1 => .ok .non (if n.fr then S1.trim St.next else S1)
        | .exc x _ S1 => .exc x (if n.fr then S1.trim St.next else S1)
        | _ => .bad) else .bad) := h
      split at h
      · rename_i hl
        have bd2 : BindsTo s fd ⟨us, []⟩ (n.ps.zip us) := bd.elim id fun z => absurd (lens.symm.trans hl) z
        obtain ⟨oc, od, dV, kV, doc, pm, an, cdv, ct, osl, rfl, lk, hcd2, _, _⟩ := F.ex
        refine LamX.run_ofS lk hcd2 S hr e0 bd2 r ((r.length.trans (lens.symm.trans hl))) fun hroom => ⟨tSs ⟨K, sub, cl, ca⟩ (fun cls d _ H => E cls d H) code, ?_, ?_⟩
        · refine (snds_all (p := ⟨K, sub, cl, ca⟩) (c := ⟨gl, bl, n.N, cel⟩) 400).ss (lv := lv) (sc := d.scope) ?_ hcd
          exact ⟨⟨⟨rfl, rfl, S.nd, hroom, hg, takes_of rfl rfl rfl rfl, S.kind⟩, G, rfl, rfl⟩, passes_of rfl, rfl, rfl, ⟨fun _ h => h, fun _ h => ⟨h, rfl⟩⟩, xk⟩
        · refine ⟨F', Z, m, St, _, start_env (N := n.N) rds, sr, ?_⟩
          rw [hl]
          have tr : ∀ {Z' : Hp} {m' : Mp} {S1 : Sto} {H' : Hp}, SR K F' Z' m' S1 H' → SR p.K F' Z' m' (if n.fr = true then S1.trim St.next else S1) H' := fun {Z' m' S1 H'} q => by
            rw [hp]
            split
            · exact q.trim _
            · exact q
          generalize exSs sub cl code (ds.map some ++ List.replicate (n.N.length - n.ps.length) none) St = res at h ⊢
          cases res with
          | nx env S1 => exact fun Z' m' H' σ' e1 s1 _ => h Z' m' H' .non e1 (tr s1) .non
          | rt x S1 => exact fun Z' m' H' v e1 s1 r1 => h Z' m' H' v e1 (tr s1) (by rw [hp]; exact r1)
          | exc x env S1 => exact fun Z' m' H' σ' cls dd e1 s1 _ xr => h Z' m' H' cls dd e1 (tr s1) (by rw [hpc]; exact xr)
          | bk _ _ => exact False.elim h
          | ct _ _ => exact False.elim h
          | bad => exact False.elim h
      · exact False.elim h
    · cases hf
  · cases hf
end
end Mn

/-! A law's end. -/
namespace Mn
open PySem PySem.Spec PyProof.Rows L2
/-! ### every level -/
section
variable {P : Program} {w : World} {K : PySem.W.Frag} {mg : Str → Option Value} {base : Heap} {ca : Nat → Addr} {sub : Nat → Nat → Bool} {gl : List (Str × GV)} {bl : List Str} {cel : List (Nat × Nat)}
theorem fn_bad {lv : Nat} {fa : Addr} {p : Pm} {g : List Mn.D → Sto → R Mn.D} (h : ∀ xs S, g xs S = .bad) : FnG P w K mg base lv fa (spR p g) := by
  refine ⟨fun A outer s H us vs Q E hr hg e0 r q => ?_⟩
  obtain ⟨F, Z, m, S, ds, sr, rds, q⟩ := q
  rw [h] at q
  exact False.elim q
theorem levels {fn : List He.DefD} {dn : List Dn} {ds : List Df} (hc : compAll gl bl cel fn dn = some ds)
    (hfn : ∀ (i : Nat) (d : He.DefD), fn[i]? = some d → ∃ fd, FunD K d.name d.qual d.params d.body d.scope (d.dvs K) (d.kws K) (He.fAd K d.at_) fd)
    (hb : ∀ (i : Nat) (d : He.DefD) (n : Dn), fn[i]? = some d → dn[i]? = some n → ∀ (kV doc pm : Value) (an : Option Addr) (cdv ct : Value) (us : List Value), us.length = n.ps.length → bindArgs (PySem.W.fnOf d.name d.qual d.params d.body d.scope .none kV doc pm an cdv ct) ⟨us, []⟩ = pure (n.ps.zip us))
    (hgl : ∀ x i, gl.lookup x = some (.fn i) → ∃ d, fn[i]? = some d ∧ mg x = some (.ref (He.fAd K d.at_)) ∧ PySem.W.keepIn K (.ref (He.fAd K d.at_)) = true)
    (hlit : ∀ x d, gl.lookup x = some (.lit d) → ∃ v u, mg x = some u ∧ RelV v u ∧ ∀ Z m, RD K Z m d v) (hfree : ∀ x, x ∈ bl → mg x = none) (xk : ∀ cl, Exk ⟨K, sub, cl, ca⟩ gl mg) :
    ∀ (k i : Nat) (d : He.DefD) (cl : Calls), fn[i]? = some d → FnG P w K mg base k (He.fAd K d.at_) (spR ⟨K, sub, cl, ca⟩ (run sub ds k i))
  | 0, i, d, cl, hd => fn_bad fun _ _ => rfl
  | k + 1, i, d, cl, hd => by
    cases hf : ds[i]? with
    | none =>
      refine fn_bad fun xs S => ?_
      show (match ds[i]? with
        | some f => f.run sub (run sub ds k) xs S
        | none => .bad) = .bad
      rw [hf]
    | some f =>
      obtain ⟨d', n, h1, h2, h3⟩ := compAll_at hc hf
      rw [hd] at h1
      cases h1
      obtain ⟨fd, F⟩ := hfn i d hd
      have e : run sub ds (k + 1) i = f.run sub (run sub ds k) := by
        funext xs S
        show (match ds[i]? with
          | some f => f.run sub (run sub ds k) xs S
          | none => .bad) = _
        rw [hf]
      rw [e]
      refine def_step h3 F (hb i d n hd h2) ⟨fun x j hx => ?_, hlit, hfree⟩ (xk _) rfl rfl
      obtain ⟨dj, g1, g2, g3⟩ := hgl x j hx
      exact ⟨_, g2, g3, levels hc hfn hb hgl hlit hfree xk k j dj _ g1⟩
end
/-! ### constants of the module -/
mutual
def litB (K : PySem.W.Frag) : Mn.D → Value → Bool
  | .non, .none => true
  | .bl b, .bool c => b == c
  | .int i, .int j _ => decide (i = j)
  | .str s, .str y _ => decide (tx s = y)
  | .tup xs, .ref a => (match K.lookup a with
    | some ⟨.type c, _, .seq its _, _⟩ => decide (c = "tuple") && (decide (its.size ≤ sizeLine) && litBs K xs its.toList)
    | _ => false)
  | _, _ => false
def litBs (K : PySem.W.Frag) : List Mn.D → List Value → Bool
  | [], [] => true
  | d :: ds, u :: us => litB K d u && litBs K ds us
  | _, _ => false
end
mutual
theorem litB_ok {K : PySem.W.Frag} : ∀ {d : Mn.D} {u : Value}, litB K d u = true → ∃ v, RelV v u ∧ ∀ Z m, RD K Z m d v
  | .non, u, h => by
    cases u <;> first | exact ⟨.non, rfl, fun _ _ => .non⟩ | cases h
  | .bl b, u, h => by
    cases u <;> first | cases h | skip
    rename_i c
    have e : b = c := eq_of_beq (show (b == c) = true from h)
    subst e
    exact ⟨.bl b, rfl, fun _ _ => .bl b⟩
  | .int i, u, h => by
    cases u <;> first | cases h | skip
    rename_i j t
    have e : i = j := of_decide_eq_true h
    subst e
    exact ⟨.int i, ⟨t, rfl⟩, fun _ _ => .int i⟩
  | .str s, u, h => by
    cases u <;> first | cases h | skip
    rename_i y t
    have e : tx s = y := of_decide_eq_true h
    subst e
    exact ⟨.str (tx s), ⟨t, rfl⟩, fun _ _ => .str s⟩
  | .tup xs, u, h => by
    cases u <;> first | cases h | skip
    rename_i a
    have h : (match K.lookup a with
      | some ⟨.type c, _, .seq its _, _⟩ => decide (c = "tuple") && (decide (its.size ≤ sizeLine) && litBs K xs its.toList)
      | _ => false) = true := h
    split at h
    · rename_i c od its n sl q
      simp only [Bool.and_eq_true, decide_eq_true_eq] at h
      obtain ⟨rfl, h2, h3⟩ := h
      obtain ⟨vs, h4, h5⟩ := litBs_ok h3
      exact ⟨.ref a, rfl, fun Z m => .tup (.inr ⟨_, its, n, q, rfl, rfl, h2, h4⟩) (h5 Z m)⟩
    · cases h
  | .rep _, u, h => by cases u <;> cases h
  | .lst _, u, h => by cases u <;> cases h
  | .ref _, u, h => by cases u <;> cases h
  | .scr _, u, h => by cases u <;> cases h
theorem litBs_ok {K : PySem.W.Frag} : ∀ {d : List Mn.D} {u : List Value}, litBs K d u = true → ∃ v, Vals v u ∧ ∀ Z m, RDs K Z m d v
  | [], [], _ => ⟨[], .nil, fun _ _ => .nil⟩
  | [], _ :: _, h => by cases h
  | _ :: _, [], h => by cases h
  | d :: ds, u :: us, h => by
    obtain ⟨h1, h2⟩ := Bool.and_eq_true_iff.mp (show (litB K d u && litBs K ds us) = true from h)
    obtain ⟨v, q1, q2⟩ := litB_ok h1
    obtain ⟨vs, q3, q4⟩ := litBs_ok h2
    exact ⟨v :: vs, .cons q1 q3, fun Z m => .cons (q2 Z m) (q4 Z m)⟩
end
/-! ### what the head tells -/
def subT (T : List (List Bool)) (i j : Nat) : Bool := ((if i < T.length then T.getD i [] else T.getD 0 [])).getD j false
def xName (xs : List Str) (i : Nat) : Str := if i < xs.length then xs.getD i Str.empty else xs.getD 0 Str.empty
def excCB (K : PySem.W.Frag) (D : Addr) : Bool := He.eqO (PySem.W.findIn K (.ref D) "__getattribute__") (some (some (.builtin "BaseException.__getattribute__"))) && (He.eqO (PySem.W.findIn K (.ref D) "__getattr__") (some none) && (decide (PySem.W.subIn K (.ref D) (.type "BaseException") = some true) &&
  (PySem.W.hasDictIn K D && (He.eqO (PySem.W.findIn K (.ref D) "__class__") (some (some (.builtin "object.__class__"))) && (He.eqO (PySem.W.specialIn K (.builtin "object.__class__") "__get__") (some (some (.builtin "getset_descriptor.__get__"))) &&
  (decide (PySem.W.takesIn K (.builtin "object.__class__") = some true) && decide (PySem.W.mroIn K D (.type "object") = some true)))))))
theorem excCB_ok {K : PySem.W.Frag} {D : Addr} (h : excCB K D = true) : ExcC K D := by
  unfold excCB at h
  simp only [Bool.and_eq_true, decide_eq_true_eq] at h
  obtain ⟨h1, h2, h3, h4, h5, h6, h7, h8⟩ := h
  exact ⟨He.eqO_ok h1, He.eqO_ok h2, h3, h4, He.eqO_ok h5, He.eqO_ok h6, h7, h8⟩
def glB (fn : List He.DefD) (xs : List Str) (K : PySem.W.Frag) (e : Str × GV) : Bool := match e.2 with
  | .fn i => (match fn[i]? with
    | some d => decide (d.at_ = (e.1, none)) && He.Fa.ok K (.glo e.1)
    | none => false)
  | .lit d => (match PySem.W.nsIn K mainGlobals e.1 with
    | some (some u) => litB K d u
    | _ => false)
  | .exc i => decide (i < xs.length) && (decide (xName xs i = e.1) && (He.Fa.ok K (.glo e.1) && He.Fa.ok K (.exc e.1)))
def xB (xs : List Str) (T : List (List Bool)) (K : PySem.W.Frag) : Bool := decide (xs.length = T.length) && (xs.all (fun x => excCB K (He.ga K x)) && ((List.range xs.length).all fun i => (List.range xs.length).all fun j =>
  decide (PySem.W.exmOne K (.ref (He.ga K (xName xs i))) (.ref (He.ga K (xName xs j))) = some (subT T i j)) && decide (PySem.W.kitOne K (.ref (He.ga K (xName xs i))) (.ref (He.ga K (xName xs j))) = some (subT T i j))))
def factB (gl : List (Str × GV)) (bl : List Str) (fn : List He.DefD) (xs : List Str) (T : List (List Bool)) (K : PySem.W.Frag) : Bool :=
  gl.all (glB fn xs K) && ((bl.all fun x => He.Fa.ok K (.free x)) && (if xs.isEmpty then true else xB xs T K))
abbrev AlM : Type := He.AlD × Bool
def obsM (n : Nat) (gl : List (Str × GV)) (bl : List Str) (fn : List He.DefD) (xs : List Str) (T : List (List Bool)) (g : Addr → Option Obj) : AlM := (He.obsD [] fn (He.frG g (He.asD g n)), factB gl bl fn xs T (He.frG g (He.asD g n)))
def hookM (n : Nat) (gl : List (Str × GV)) (bl : List Str) (fn : List He.DefD) (xs : List Str) (T : List (List Bool)) : PySem.W.Hook where
  α := AlM
  obs := fun s => obsM n gl bl fn xs T s.heap.get?
  val := fun _ => (He.valD fn, true)
  says := fun _ h => ∃ K : PySem.W.Frag, K.In h ∧ He.SaysD [] fn K ∧ factB gl bl fn xs T K = true
  of := fun _ _ e => ⟨_, He.frG_in, congrArg (fun z : AlM => z.1) e, congrArg (fun z : AlM => z.2) e⟩
  keeps := fun _ _ _ ⟨K, hK, c⟩ k => ⟨K, PySem.W.Frag.In.keeps hK k, c⟩
theorem obsM_eq {n : Nat} {gl : List (Str × GV)} {bl : List Str} {fn : List He.DefD} {xs : List Str} {T : List (List Bool)} {g : Addr → Option Obj} {s : Shared} (h : ∀ a, g a = s.heap.get? a) : obsM n gl bl fn xs T g = (hookM n gl bl fn xs T).obs s := by
  have e : g = s.heap.get? := funext h
  rw [e] <;> rfl
section
variable {gl : List (Str × GV)} {bl : List Str} {fn : List He.DefD} {xs : List Str} {T : List (List Bool)} {K : PySem.W.Frag} {h : Heap} {mg : Str → Option Value}
theorem mem_lookup {x : Str} {g : GV} (e : gl.lookup x = some g) : (x, g) ∈ gl := PySem.mem_of_lookup e
theorem xName_in {i : Nat} (h : xs ≠ []) : xName xs i ∈ xs := by
  have h0 : 0 < xs.length := List.length_pos_iff.mpr h
  unfold xName
  split
  · rename_i hi
    rw [List.getD_eq_getElem?_getD, List.getElem?_eq_getElem hi]
    exact List.getElem_mem hi
  · rw [List.getD_eq_getElem?_getD, List.getElem?_eq_getElem h0]
    exact List.getElem_mem h0
theorem exk_of (X : K.In h) (G : h.Ns mainGlobals mg) (hx : xs ≠ []) (f : factB gl bl fn xs T K = true) (cl : Calls) : Exk ⟨K, subT T, cl, fun i => He.ga K (xName xs i)⟩ gl mg := by
  unfold factB at f
  have hx2 : xs.isEmpty = false := by cases xs <;> first | rfl | exact absurd rfl hx
  rw [hx2, if_neg Bool.false_ne_true] at f
  obtain ⟨f1, f2⟩ := He.ba f
  obtain ⟨_, f3⟩ := He.ba f2
  unfold xB at f3
  obtain ⟨f4, f5⟩ := He.ba f3
  obtain ⟨f6, f7⟩ := He.ba f5
  have hlen := of_decide_eq_true f4
  have h0 : 0 < xs.length := List.length_pos_iff.mpr hx
  have at2 : ∀ i j, j < xs.length → PySem.W.exmOne K (.ref (He.ga K (xName xs i))) (.ref (He.ga K (xName xs j))) = some (subT T i j) ∧ PySem.W.kitOne K (.ref (He.ga K (xName xs i))) (.ref (He.ga K (xName xs j))) = some (subT T i j) := fun i j hj => by
    have key : ∀ i, i < xs.length → PySem.W.exmOne K (.ref (He.ga K (xName xs i))) (.ref (He.ga K (xName xs j))) = some (subT T i j) ∧ PySem.W.kitOne K (.ref (He.ga K (xName xs i))) (.ref (He.ga K (xName xs j))) = some (subT T i j) := fun i hi => by
      have := List.all_eq_true.mp (List.all_eq_true.mp f7 i (List.mem_range.mpr hi)) j (List.mem_range.mpr hj)
      obtain ⟨a, b⟩ := He.ba this
      exact ⟨of_decide_eq_true a, of_decide_eq_true b⟩
    by_cases hi : i < xs.length
    · exact key i hi
    · have e1 : xName xs i = xName xs 0 := by
        unfold xName
        rw [if_neg hi, if_pos h0]
      have e2 : subT T i j = subT T 0 j := by
        unfold subT
        rw [if_neg (by rw [← hlen]; exact hi), if_pos (by rw [← hlen]; exact h0)]
      rw [e1, e2]
      exact key 0 h0
  refine ⟨fun x i e => ?_, fun i => excCB_ok (List.all_eq_true.mp f6 _ (xName_in hx))⟩
  have := List.all_eq_true.mp f1 _ (mem_lookup e)
  have this : (decide (i < xs.length) && (decide (xName xs i = x) && (He.Fa.ok K (.glo x) && He.Fa.ok K (.exc x)))) = true := this
  obtain ⟨a1, a2⟩ := He.ba this
  obtain ⟨a3, a4⟩ := He.ba a2
  obtain ⟨a5, a6⟩ := He.ba a4
  have hi := of_decide_eq_true a1
  have hn := of_decide_eq_true a3
  obtain ⟨b1, b2, b3, b4⟩ := He.exc_ok a6
  show mg x = some (.ref (He.ga K (xName xs i))) ∧ PySem.W.keepIn K (.ref (He.ga K (xName xs i))) = true ∧ PySem.W.subIn K (.ref (He.ga K (xName xs i))) (.type "BaseException") = some true ∧ PySem.W.typeIn K (.ref (He.ga K (xName xs i))) = some (.type "type") ∧
    (∀ j, PySem.W.exmOne K (.ref (He.ga K (xName xs j))) (.ref (He.ga K (xName xs i))) = some (subT T j i)) ∧ (∀ j, PySem.W.kitOne K (.ref (He.ga K (xName xs j))) (.ref (He.ga K (xName xs i))) = some (subT T j i)) ∧ _
  refine ⟨?_, ?_, ?_, ?_, fun j => (at2 j i hi).1, fun j => (at2 j i hi).2, ?_⟩
  · rw [hn]
    exact He.glo_ok X G a5
  · rw [hn]
    exact b2
  · rw [hn]
    exact b3
  · rw [hn]
    exact b4
  · refine ⟨_, _, _, _, PySem.F.excBase_ValueError, ?_⟩
    show PySem.W.excIn K (He.ga K (xName xs i)) _ _ = true
    rw [hn]
    exact b1

end
/-! ### the call -/
section
variable {P : Program} {w : World} {K : PySem.W.Frag} {mg mb : Str → Option Value} {k : Nat} {fa a : Addr} {sp : Sp} {s₁ : Shared} {vs : List Value} {ns : List Int}
theorem at_base {H : Hp} (hr : Room k callerA) (KX : K.In s₁.heap) (ng : s₁.heap.Ns mainGlobals mg) (nb : s₁.heap.Ns builtinsNs mb) (bb : ∀ x : Str, x ≠ "__name__" → mb x = bootBuiltins x) (lim : s₁.heap.NoLimit) (gn : s₁.gens = #[])
    (ob : s₁.heap.get? a = some { cls := .type "list", data := .seq vs.toArray }) (only : ∀ b, H b = none ∨ b = a ∧ K.lookup a = none) (ok : HOk P w H s₁.heap) (frz : ∀ b u, H b = some u → ∃ o xs, u = .frz o (.lst xs))
    (F : ∀ base : Heap, K.In base → base.Ns mainGlobals mg → FnG P w K mg base k fa sp) (q : sp [.ref a] H (fun v _ => v = .bl true) fun _ _ _ => False) :
    codeAny (model P w) callerA (.call (.ref fa) ⟨[.ref a], []⟩) (fun r s' => r = .ok (.ret (.bool true)) ∧ OldK s₁.heap s'.heap ∧ s'.os = s₁.os ∧ AllBare s'.gens) s₁ := by
  have keep : ∀ {b : Addr} {o : Obj}, s₁.heap.get? b = some o → (∀ us n, o.data ≠ .seq us n) → (hidT s₁.heap H).get? b = some o := fun {b o} e hd => by
    rcases only b with z | ⟨rfl, _⟩
    · exact hidT_get e z
    · rw [ob] at e
      cases e
      exact absurd rfl (hd _ _)
  have dict : ∀ {b : Addr} {m : Str → Option Value}, s₁.heap.Ns b m → (hidT s₁.heap H).Ns b m := fun ⟨o, es, ep, e, d, r⟩ => ⟨o, es, ep, keep e (fun us n z => by rw [d] at z; cases z), d, r⟩
  have inB : K.In (hidT s₁.heap H) := fun b o e => by
    rcases only b with z | ⟨rfl, z⟩
    · exact hidT_get (KX b o e) z
    · rw [z] at e
      cases e
  have md : L2.Mod K mg (hidT s₁.heap H) := ⟨inB, dict ng, ⟨mb, dict nb, bb⟩, by
    obtain ⟨mc, l1, l2⟩ := lim
    exact ⟨mc, dict l1, l2⟩⟩
  have en : Env0 P w K mg (hidT s₁.heap H) callerA [] s₁ H := ⟨rfl, md, fun _ _ e => of_hidT e, Nat.le_of_eq (hidT_size _ _), trivial, (fun b hb => by cases hb), ok, .of_eq gn⟩
  have rv : Vals [V.ref a] [Value.ref a] := .cons rfl .nil
  refine codeAny_mono ((F _ inB (dict ng)).go callerA [] s₁ H _ _ _ _ hr rfl en rv q) fun r s' hres => ?_
  cases r with
  | error e =>
    obtain ⟨_, _, _, _, _, _, _, _, _, _, _, _, z⟩ := hres
    exact False.elim z
  | ok fl =>
    cases fl <;> first | exact False.elim hres | skip
    rename_i u
    obtain ⟨v, H', os, bare, un, ok', ru, ev⟩ := hres
    have ev : v = V.bl true := ev
    rw [ev] at ru
    have eu : u = Value.bool true := ru
    rw [eu]
    refine ⟨rfl, OldK.of_keep fun b o e => ?_, os, bare⟩
    cases hb : H b with
    | none => exact un.keep b o e hb (fun z => by cases z) (fun z => by cases z)
    | some x =>
      obtain ⟨o2, xs, ex⟩ := frz b x hb
      subst ex
      have g1 := (ok b _ hb).1
      have g2 := (ok' b _ (un.frzs b o2 _ hb)).1
      rw [e] at g1
      cases g1
      exact g2
theorem scr_call (hr : Room k callerA) (KX : K.In s₁.heap) (ng : s₁.heap.Ns mainGlobals mg) (nb : s₁.heap.Ns builtinsNs mb) (bb : ∀ x : Str, x ≠ "__name__" → mb x = bootBuiltins x) (lim : s₁.heap.NoLimit) (gn : s₁.gens = #[])
    (ob : s₁.heap.get? a = some { cls := .type "list", data := .seq vs.toArray }) (ni : IntsAre vs ns) (nl : ns.length ≤ sizeLine)
    (F : ∀ base : Heap, K.In base → base.Ns mainGlobals mg → FnG P w K mg base k fa sp) (hsp : ∀ H : Hp, SqL K H a (ns.map V.int) → sp [.ref a] H (fun v _ => v = .bl true) fun _ _ _ => False) :
    codeAny (model P w) callerA (.call (.ref fa) ⟨[.ref a], []⟩) (fun r s' => r = .ok (.ret (.bool true)) ∧ OldK s₁.heap s'.heap ∧ s'.os = s₁.os ∧ AllBare s'.gens) s₁ := by
  have rel := vals_ints ni
  cases lk : K.lookup a with
  | some o =>
    have own := KX a o lk
    rw [ob] at own
    cases own
    have sq : SqL K (fun _ => none) a (ns.map V.int) := .inr ⟨_, vs.toArray, _, lk, rfl, rfl, rfl, by rw [List.size_toArray, ni.length]; exact nl, by rw [List.toList_toArray]; exact rel⟩
    exact at_base (H := fun _ => none) hr KX ng nb bb lim gn ob (fun _ => .inl rfl) (fun b u z => by cases (show (none : Option HO) = some u from z)) (fun b u z => by cases (show (none : Option HO) = some u from z)) F (hsp _ sq)
  | none =>
    generalize hH : (fun b => if b = a then some (HO.frz { cls := .type "list", data := .seq vs.toArray } (.lst (ns.map V.int))) else none : Hp) = H
    have hat : H a = some (HO.frz { cls := .type "list", data := .seq vs.toArray } (.lst (ns.map V.int))) := by
      rw [← hH]
      exact if_pos rfl
    have hno : ∀ b, b ≠ a → H b = none := fun b hb => by
      rw [← hH]
      exact if_neg hb
    have only : ∀ b, H b = none ∨ b = a ∧ K.lookup a = none := fun b => by
      by_cases hb : b = a
      · exact .inr ⟨hb, lk⟩
      · exact .inl (hno b hb)
    have is : ∀ b u, H b = some u → b = a ∧ u = HO.frz { cls := .type "list", data := .seq vs.toArray } (.lst (ns.map V.int)) := fun b u e => by
      by_cases hb : b = a
      · subst hb
        rw [hat] at e
        exact ⟨rfl, (Option.some.inj e).symm⟩
      · rw [hno b hb] at e
        cases e
    refine at_base hr KX ng nb bb lim gn ob only (fun b u e => ?_) (fun b u e => ⟨_, _, (is b u e).2⟩) F (hsp _ (.inl (.inr ⟨_, hat⟩)))
    obtain ⟨rfl, rfl⟩ := is b u e
    exact ⟨ob, by rw [List.length_map]; exact nl, vs, _, rel, ob⟩
end
/-- the law's walk -/
theorem walkM {l : PySem.W.OpenLaw} {n k : Nat} {q : Program} {loose : List Str} {XP : (Str → Option Value) → Heap → Prop} {YP : World → Heap → Prop} {d : DefRec} (hn : l.most = some n) (hn2 : n ≤ sizeLine) (hdf : d.params.defaults = []) (hr : Room k callerA)
    (F : ∀ (w : World) (mg : Str → Option Value) (fa : Addr) (h : Heap), YP w h → h.Ns mainGlobals mg → mg d.name = some (.ref fa) → ∃ (K : PySem.W.Frag) (sp : Sp), K.In h ∧
      (∀ (H : Hp) (a : Addr) (ns : List Int), ns.length ≤ n → SqL K H a (ns.map V.int) → sp [.ref a] H (fun v _ => v = .bl true) fun _ _ _ => False) ∧ ∀ base : Heap, K.In base → base.Ns mainGlobals mg → FnG l.prog w K mg base k fa sp) :
    PySem.W.WalkO q loose XP YP l.row.toRowW d [] (fun f vs => PySem.call f vs) := by
  refine Att.attach_call hn hdf fun w s₀ s₁ mg mb fa o pm cd doc a vs ns G Y ho hd hcd hmg hobj hints hlen hg => ?_
  obtain ⟨K, sp, KX, h1, h2⟩ := F w mg fa _ Y G.T.g hmg
  exact scr_call hr KX G.T.g G.T.b G.T.builtins G.T.nolimit hg hobj hints (Nat.le_trans hlen hn2) h2 fun H z => h1 H a ns hlen z
/-- a law whose defs are fn (the law's own the j-th), by the machine -/
theorem walkL {l : PySem.W.OpenLaw} {n k j nh : Nat} {q : Program} {loose : List Str} {XP : (Str → Option Value) → Heap → Prop} {d : DefRec} {gl : List (Str × GV)} {bl : List Str} {fn : List He.DefD} {xs : List Str} {T : List (List Bool)} {dn : List Dn} {cel : List (Nat × Nat)} {ds : List Df} {dl : He.DefD}
    (hn : l.most = some n) (hn2 : n ≤ sizeLine) (hdf : d.params.defaults = []) (hr : Room k callerA) (hx : xs ≠ []) (hc : compAll gl bl cel fn dn = some ds) (hj : fn[j]? = some dl) (hdl : gl.lookup d.name = some (.fn j))
    (hb : ∀ (i : Nat) (d : He.DefD) (n : Dn), fn[i]? = some d → dn[i]? = some n → ∀ (kV doc pm : Value) (an : Option Addr) (cdv ct : Value) (us : List Value), us.length = n.ps.length → bindArgs (PySem.W.fnOf d.name d.qual d.params d.body d.scope .none kV doc pm an cdv ct) ⟨us, []⟩ = pure (n.ps.zip us))
    (go : ∀ ns : List Int, ns.length ≤ n → ∃ S', run (subT T) ds k j [.scr ns] ⟨0, []⟩ = .ok (.bl true) S') :
    PySem.W.WalkO q loose XP (hookM nh gl bl fn xs T).says l.row.toRowW d [] (fun f vs => PySem.call f vs) := by
  refine walkM (k := k) hn hn2 hdf hr fun w mg fa h Y G hmg => ?_
  obtain ⟨K, KX, c, f⟩ := Y
  have f0 := f
  unfold factB at f0
  obtain ⟨f1, f2⟩ := He.ba f0
  obtain ⟨f3, _⟩ := He.ba f2
  have hfn : ∀ (i : Nat) (d : He.DefD), fn[i]? = some d → ∃ fd, FunD K d.name d.qual d.params d.body d.scope (d.dvs K) (d.kws K) (He.fAd K d.at_) fd := fun i d e => c.def_ i e
  have hgl : ∀ x i, gl.lookup x = some (.fn i) → ∃ d, fn[i]? = some d ∧ mg x = some (.ref (He.fAd K d.at_)) ∧ PySem.W.keepIn K (.ref (He.fAd K d.at_)) = true := fun x i e => by
    have h1 : (match fn[i]? with
      | some d => decide (d.at_ = (x, none)) && He.Fa.ok K (.glo x)
      | none => false) = true := List.all_eq_true.mp f1 _ (mem_lookup e)
    split at h1
    · rename_i d hd
      obtain ⟨h2, h3⟩ := He.ba h1
      obtain ⟨fd, F⟩ := hfn i d hd
      refine ⟨d, hd, ?_, F.kp⟩
      have e2 : d.at_ = (x, none) := of_decide_eq_true h2
      rw [e2]
      exact He.glo_ok KX G h3
    · cases h1
  have hlit : ∀ x d, gl.lookup x = some (.lit d) → ∃ v u, mg x = some u ∧ RelV v u ∧ ∀ Z m, RD K Z m d v := fun x d e => by
    have h1 : (match PySem.W.nsIn K mainGlobals x with
      | some (some u) => litB K d u
      | _ => false) = true := List.all_eq_true.mp f1 _ (mem_lookup e)
    split at h1
    · rename_i u hu
      obtain ⟨v, h2, h3⟩ := litB_ok h1
      exact ⟨v, u, PySem.W.mg_of KX G hu, h2, h3⟩
    · cases h1
  have hfree : ∀ x, x ∈ bl → mg x = none := fun x e => He.free_ok KX G (List.all_eq_true.mp f3 x e)
  refine ⟨K, spR ⟨K, subT T, fun _ _ _ => .bad, fun i => He.ga K (xName xs i)⟩ (run (subT T) ds k j), KX, fun H a ns hl sq => ?_, fun base bK bG => ?_⟩
  · obtain ⟨S', e⟩ := go ns hl
    refine ⟨fun _ => none, H, fun _ => none, ⟨0, []⟩, [.scr ns], ?_, .cons (.scr sq) .nil, ?_⟩
    · refine ⟨fun b o z => ?_, Same.refl _, fun b o z => ?_, fun n xs z => ?_, fun n n' a xs xs' z => ?_, fun n a z => ?_⟩
      · cases (show (none : Option HO) = some o from z)
      · cases (show (none : Option HO) = some o from z)
      · cases z
      · cases z
      · cases (show (none : Option Addr) = some a from z)
    · rw [e]
      intro Z' m' H' v _ _ rd
      cases rd
      rfl
  · have hL := levels (base := base) (w := w) (P := l.prog) hc hfn hb hgl hlit hfree (fun cl => exk_of KX G hx f cl) k j dl (fun _ _ _ => .bad) hj
    obtain ⟨d', h1, h2, _⟩ := hgl _ _ hdl
    rw [hj] at h1
    cases h1
    rw [hmg] at h2
    cases h2
    exact hL
end Mn

namespace Law
open PySem PySem.Spec PyProof.Rows L2 Mn
def top (i : Nat) : Stmt := PySem.Challenge.pw_gasahead_k14_sums_of_rows.main.body.getD i (.Pass ⟨0, 0, 0, 0⟩)
def d0 : He.DefD := ⟨("is_whole", none), "is_whole", "is_whole", defArgs (top 4), defBody (top 4), defScope (top 4), [], []⟩
def d1 : He.DefD := ⟨("need_bytes", none), "need_bytes", "need_bytes", defArgs (top 7), defBody (top 7), defScope (top 7), [], []⟩
def d2 : He.DefD := ⟨("sum_of", none), "sum_of", "sum_of", defArgs (top 8), defBody (top 8), defScope (top 8), [], []⟩
def d3 : He.DefD := ⟨("sum_bytes", none), "sum_bytes", "sum_bytes", defArgs (top 9), defBody (top 9), defScope (top 9), [], []⟩
def d4 : He.DefD := ⟨("_law_cup", none), "_law_cup", "_law_cup", defArgs (top 11), defBody (top 11), defScope (top 11), [], []⟩
def d5 : He.DefD := ⟨("_law_roll", none), "_law_roll", "_law_roll", defArgs (top 12), defBody (top 12), defScope (top 12), [], []⟩
def d6 : He.DefD := ⟨("_law_some", none), "_law_some", "_law_some", defArgs (top 13), defBody (top 13), defScope (top 13), [], []⟩
def d7 : He.DefD := ⟨("_law_sum", none), "_law_sum", "_law_sum", defArgs (top 14), defBody (top 14), defScope (top 14), [], []⟩
def d8 : He.DefD := ⟨("_law_is_refused", none), "_law_is_refused", "_law_is_refused", defArgs (top 15), defBody (top 15), defScope (top 15), [], []⟩
def d9 : He.DefD := ⟨("law", none), "law", "law", defArgs (top 16), defBody (top 16), defScope (top 16), [], []⟩
def fn : List He.DefD := [d0, d1, d2, d3, d4, d5, d6, d7, d8, d9]
def n0 : Dn := ⟨["value", "low", "high"], ["value", "low", "high"], false⟩
def n1 : Dn := ⟨["value"], ["value", "one"], false⟩
def n2 : Dn := ⟨["row"], ["row", "one", "first", "second"], false⟩
def n3 : Dn := ⟨["row"], ["row"], false⟩
def n4 : Dn := ⟨["script"], ["script", "cell"], false⟩
def n5 : Dn := ⟨["cup", "many"], ["cup", "many", "deep", "found"], false⟩
def n6 : Dn := ⟨["cup", "things"], ["cup", "things"], false⟩
def n7 : Dn := ⟨["row"], ["row", "many", "first", "second", "k"], false⟩
def n8 : Dn := ⟨["value"], ["value", "e", "found"], false⟩
def n9 : Dn := ⟨["script"], ["script", "cup", "row", "at", "bad", "given", "due", "k"], false⟩
def dn : List Dn := [n0, n1, n2, n3, n4, n5, n6, n7, n8, n9]
def gl : List (Str × GV) := [("is_whole", .fn 0), ("need_bytes", .fn 1), ("sum_of", .fn 2), ("sum_bytes", .fn 3), ("_law_cup", .fn 4), ("_law_roll", .fn 5), ("_law_some", .fn 6), ("_law_sum", .fn 7), ("_law_is_refused", .fn 8), ("law", .fn 9), ("SUM_BASE", .lit (.int (32749))), ("GasError", .exc 0), ("InvalidBytes", .exc 1)]
def bl : List Str := ["abs", "all", "bool", "int", "isinstance", "len", "list", "range", "repr", "sum", "tuple"]
def cel : List (Nat × Nat) := [(26, 11)]
def xs : List Str := ["GasError", "InvalidBytes"]
def T : List (List Bool) := [[true, false], [true, true]]
def loose0 : List Str := ["GasError", "InvalidBytes", "is_whole", "SUM_BASE", "need_bytes", "sum_of", "sum_bytes", "_law_cup", "_law_roll", "_law_some", "_law_sum", "_law_is_refused"]
def loose : List Str := loose0
theorem b0 (kV doc pm : Value) (an : Option Addr) (cdv ct : Value) (us : List Value) (hl : us.length = n0.ps.length) : bindArgs (PySem.W.fnOf d0.name d0.qual d0.params d0.body d0.scope .none kV doc pm an cdv ct) ⟨us, []⟩ = pure (n0.ps.zip us) :=
  match us, hl with
  | [_, _, _], _ => rfl
theorem b1 (kV doc pm : Value) (an : Option Addr) (cdv ct : Value) (us : List Value) (hl : us.length = n1.ps.length) : bindArgs (PySem.W.fnOf d1.name d1.qual d1.params d1.body d1.scope .none kV doc pm an cdv ct) ⟨us, []⟩ = pure (n1.ps.zip us) :=
  match us, hl with
  | [_], _ => rfl
theorem b2 (kV doc pm : Value) (an : Option Addr) (cdv ct : Value) (us : List Value) (hl : us.length = n2.ps.length) : bindArgs (PySem.W.fnOf d2.name d2.qual d2.params d2.body d2.scope .none kV doc pm an cdv ct) ⟨us, []⟩ = pure (n2.ps.zip us) :=
  match us, hl with
  | [_], _ => rfl
theorem b3 (kV doc pm : Value) (an : Option Addr) (cdv ct : Value) (us : List Value) (hl : us.length = n3.ps.length) : bindArgs (PySem.W.fnOf d3.name d3.qual d3.params d3.body d3.scope .none kV doc pm an cdv ct) ⟨us, []⟩ = pure (n3.ps.zip us) :=
  match us, hl with
  | [_], _ => rfl
theorem b4 (kV doc pm : Value) (an : Option Addr) (cdv ct : Value) (us : List Value) (hl : us.length = n4.ps.length) : bindArgs (PySem.W.fnOf d4.name d4.qual d4.params d4.body d4.scope .none kV doc pm an cdv ct) ⟨us, []⟩ = pure (n4.ps.zip us) :=
  match us, hl with
  | [_], _ => rfl
theorem b5 (kV doc pm : Value) (an : Option Addr) (cdv ct : Value) (us : List Value) (hl : us.length = n5.ps.length) : bindArgs (PySem.W.fnOf d5.name d5.qual d5.params d5.body d5.scope .none kV doc pm an cdv ct) ⟨us, []⟩ = pure (n5.ps.zip us) :=
  match us, hl with
  | [_, _], _ => rfl
theorem b6 (kV doc pm : Value) (an : Option Addr) (cdv ct : Value) (us : List Value) (hl : us.length = n6.ps.length) : bindArgs (PySem.W.fnOf d6.name d6.qual d6.params d6.body d6.scope .none kV doc pm an cdv ct) ⟨us, []⟩ = pure (n6.ps.zip us) :=
  match us, hl with
  | [_, _], _ => rfl
theorem b7 (kV doc pm : Value) (an : Option Addr) (cdv ct : Value) (us : List Value) (hl : us.length = n7.ps.length) : bindArgs (PySem.W.fnOf d7.name d7.qual d7.params d7.body d7.scope .none kV doc pm an cdv ct) ⟨us, []⟩ = pure (n7.ps.zip us) :=
  match us, hl with
  | [_], _ => rfl
theorem b8 (kV doc pm : Value) (an : Option Addr) (cdv ct : Value) (us : List Value) (hl : us.length = n8.ps.length) : bindArgs (PySem.W.fnOf d8.name d8.qual d8.params d8.body d8.scope .none kV doc pm an cdv ct) ⟨us, []⟩ = pure (n8.ps.zip us) :=
  match us, hl with
  | [_], _ => rfl
theorem b9 (kV doc pm : Value) (an : Option Addr) (cdv ct : Value) (us : List Value) (hl : us.length = n9.ps.length) : bindArgs (PySem.W.fnOf d9.name d9.qual d9.params d9.body d9.scope .none kV doc pm an cdv ct) ⟨us, []⟩ = pure (n9.ps.zip us) :=
  match us, hl with
  | [_], _ => rfl
theorem bs : ∀ (i : Nat) (d : He.DefD) (n : Dn), fn[i]? = some d → dn[i]? = some n → ∀ (kV doc pm : Value) (an : Option Addr) (cdv ct : Value) (us : List Value), us.length = n.ps.length → bindArgs (PySem.W.fnOf d.name d.qual d.params d.body d.scope .none kV doc pm an cdv ct) ⟨us, []⟩ = pure (n.ps.zip us)
  | 0, _, _, rfl, rfl => b0
  | 1, _, _, rfl, rfl => b1
  | 2, _, _, rfl, rfl => b2
  | 3, _, _, rfl, rfl => b3
  | 4, _, _, rfl, rfl => b4
  | 5, _, _, rfl, rfl => b5
  | 6, _, _, rfl, rfl => b6
  | 7, _, _, rfl, rfl => b7
  | 8, _, _, rfl, rfl => b8
  | 9, _, _, rfl, rfl => b9
  | n + 10, _, _, h, _ => by simp [fn] at h
abbrev rowO : PySem.W.OpenRow := PySem.W.OpenLaw.row PySem.Challenge.rw_gasahead_k14_sums_of_rows
abbrev hk : PySem.W.Hook := hookM 4 gl bl fn xs T
def ob (s : PySem.W.SharedT) : AlM := obsM 4 gl bl fn xs T (HandSHeadRun.getT s)
theorem ob_eq (s : PySem.W.SharedT) : ob s = hk.obs s.abs := obsM_eq (HandSHeadRun.getT_eq s)
theorem run (w : World) : HandSHeadRun.RunEq rowO (PySem.W.view rowO.prog [16]) hk ob 4000 loose w := by
  intro os
  kernel_rfl
end Law
namespace Law
open PySem PySem.W PySem.Calls PyProof.Rows Mn
theorem holds (ds : List Df) (hc : compAll gl bl cel fn dn = some ds) (go : ∀ ns : List Int, ns.length ≤ 63 → ∃ S', Mn.run (subT T) ds 60 9 [.scr ns] ⟨0, []⟩ = .ok (.bl true) S') : PySem.Challenge.rw_gasahead_k14_sums_of_rows.Holds := by
  w_on; o_law
  refine HandSHeadRun.head_any (r := OpenLaw.row PySem.Challenge.rw_gasahead_k14_sums_of_rows) (q := view (OpenLaw.row PySem.Challenge.rw_gasahead_k14_sums_of_rows).prog [16]) (H := hk) (ob := ob) (M := 4000) (loose := loose) (d := HandSHeadRun.topDef (OpenLaw.row PySem.Challenge.rw_gasahead_k14_sums_of_rows).prog 16) (kwd := []) ob_eq
    (by kernel_rfl) (fun s => by kernel_rfl) run (by kernel_rfl) (by kernel_rfl) (by kernel_rfl) (by rfl) (by first | assumption | decide +kernel) (by decide +kernel) ⟨rfl, rfl, rfl, rfl, rfl, by decide +kernel⟩ ?hw ?hc
  case hw => w_witness2
  case hc =>
    exact walkL (l := PySem.Challenge.rw_gasahead_k14_sums_of_rows) (n := 63) (k := 60) (j := 9) (fn := fn) (dn := dn) (cel := cel) rfl (by decide) (by kernel_rfl) ⟨rfl, by decide, by decide⟩ (by decide) hc rfl (by kernel_rfl) bs go
end Law

namespace Law
open PySem PySem.Spec PyProof.Rows L2 Mn
/-- is_whole -/
def f0 : Df := ⟨3, 3, [Mn.S.ret (Mn.E.band (Mn.E.isi (Mn.E.var 0) (Mn.Ty.int)) (Mn.E.band (Mn.E.bnot (Mn.E.isi (Mn.E.var 0) (Mn.Ty.bool))) (Mn.E.chn (Mn.CO.le) (Mn.CO.le) (Mn.E.var 1) (Mn.E.var 0) (Mn.E.var 2))))], false⟩
/-- need_bytes -/
def f1 : Df := ⟨1, 2, [Mn.S.ifs (Mn.E.bor (Mn.E.bnot (Mn.E.isi (Mn.E.var 0) (Mn.Ty.tuple))) (Mn.E.bnot (Mn.E.bi (Mn.Bi.all) false (Mn.E.comp false (Mn.Tg.nm 1) (Mn.Wt.of) [Mn.E.var 0] none (Mn.E.fn 0 [Mn.E.var 1, Mn.E.lit (Mn.D.int 0), Mn.E.lit (Mn.D.int 255)]) [1])))) [Mn.S.rais 1] []], false⟩
/-- sum_of -/
def f2 : Df := ⟨1, 4, [Mn.S.asg (Mn.Tg.tp [Mn.Tg.nm 2, Mn.Tg.nm 3]) (Mn.E.tup [Mn.E.lit (Mn.D.int 1), Mn.E.lit (Mn.D.int 0)]), Mn.S.forr (Mn.Tg.nm 1) (Mn.Wt.of) [Mn.E.var 0] [Mn.S.asg (Mn.Tg.nm 2) (Mn.E.bin (Mn.BO.mod) (Mn.E.bin (Mn.BO.add) (Mn.E.var 2) (Mn.E.var 1)) (Mn.E.lit (Mn.D.int 32749))), Mn.S.asg (Mn.Tg.nm 3) (Mn.E.bin (Mn.BO.mod) (Mn.E.bin (Mn.BO.add) (Mn.E.var 3) (Mn.E.var 2)) (Mn.E.lit (Mn.D.int 32749)))], Mn.S.ret (Mn.E.tup [Mn.E.bin (Mn.BO.fdiv) (Mn.E.var 2) (Mn.E.lit (Mn.D.int 256)), Mn.E.bin (Mn.BO.mod) (Mn.E.var 2) (Mn.E.lit (Mn.D.int 256)), Mn.E.bin (Mn.BO.fdiv) (Mn.E.var 3) (Mn.E.lit (Mn.D.int 256)), Mn.E.bin (Mn.BO.mod) (Mn.E.var 3) (Mn.E.lit (Mn.D.int 256))])], false⟩
/-- sum_bytes -/
def f3 : Df := ⟨1, 1, [Mn.S.ex (Mn.E.fn 1 [Mn.E.var 0]), Mn.S.ret (Mn.E.fn 2 [Mn.E.var 0])], false⟩
/-- _law_cup -/
def f4 : Df := ⟨1, 2, [Mn.S.asg (Mn.Tg.nm 1) (Mn.E.bi (Mn.Bi.abs) false (Mn.E.ix (Mn.E.bin (Mn.BO.add) (Mn.E.bi (Mn.Bi.list) false (Mn.E.var 0)) (Mn.E.lst false [Mn.E.lit (Mn.D.int 0)])) (Mn.E.lit (Mn.D.int 0)))), Mn.S.ret (Mn.E.lst true [Mn.E.ife (Mn.E.cmp (Mn.CO.ge) (Mn.E.var 1) (Mn.E.bin (Mn.BO.pow) (Mn.E.lit (Mn.D.int 10)) (Mn.E.lit (Mn.D.int 18)))) (Mn.E.bin (Mn.BO.fdiv) (Mn.E.var 1) (Mn.E.lit (Mn.D.int 71))) (Mn.E.lit (Mn.D.int 0)), Mn.E.bin (Mn.BO.add) (Mn.E.bin (Mn.BO.mod) (Mn.E.bi (Mn.Bi.int) false (Mn.E.bin (Mn.BO.add) (Mn.E.bin (Mn.BO.mul) (Mn.E.var 1) (Mn.E.lit (Mn.D.int 281))) (Mn.E.lit (Mn.D.int 2707)))) (Mn.E.lit (Mn.D.int 2077503151))) (Mn.E.lit (Mn.D.int 167))])], false⟩
/-- _law_roll -/
def f5 : Df := ⟨2, 4, [Mn.S.ifs (Mn.E.cmp (Mn.CO.gt) (Mn.E.ix (Mn.E.var 0) (Mn.E.lit (Mn.D.int 0))) (Mn.E.lit (Mn.D.int 0))) [Mn.S.asg (Mn.Tg.nm 3) (Mn.E.bin (Mn.BO.mod) (Mn.E.bi (Mn.Bi.int) false (Mn.E.ix (Mn.E.var 0) (Mn.E.lit (Mn.D.int 0)))) (Mn.E.var 1)), Mn.S.six (Mn.E.var 0) (Mn.E.lit (Mn.D.int 0)) (Mn.E.bin (Mn.BO.fdiv) (Mn.E.ix (Mn.E.var 0) (Mn.E.lit (Mn.D.int 0))) (Mn.E.var 1)), Mn.S.ret (Mn.E.var 3)] [], Mn.S.six (Mn.E.var 0) (Mn.E.lit (Mn.D.int 1)) (Mn.E.bin (Mn.BO.mod) (Mn.E.bi (Mn.Bi.int) false (Mn.E.bin (Mn.BO.add) (Mn.E.bin (Mn.BO.mul) (Mn.E.ix (Mn.E.var 0) (Mn.E.lit (Mn.D.int 1))) (Mn.E.lit (Mn.D.int 31051))) (Mn.E.lit (Mn.D.int 8009)))) (Mn.E.lit (Mn.D.int 2147483529))), Mn.S.asg (Mn.Tg.nm 2) (Mn.E.bin (Mn.BO.mod) (Mn.E.bi (Mn.Bi.int) false (Mn.E.bin (Mn.BO.mul) (Mn.E.ix (Mn.E.var 0) (Mn.E.lit (Mn.D.int 1))) (Mn.E.bin (Mn.BO.add) (Mn.E.ix (Mn.E.var 0) (Mn.E.lit (Mn.D.int 1))) (Mn.E.lit (Mn.D.int 233))))) (Mn.E.lit (Mn.D.int 2147483587))), Mn.S.ret (Mn.E.bin (Mn.BO.mod) (Mn.E.bi (Mn.Bi.int) false (Mn.E.bin (Mn.BO.fdiv) (Mn.E.var 2) (Mn.E.lit (Mn.D.int 823)))) (Mn.E.var 1))], false⟩
/-- _law_some -/
def f6 : Df := ⟨2, 2, [Mn.S.ret (Mn.E.ix (Mn.E.var 1) (Mn.E.fn 5 [Mn.E.var 0, Mn.E.bi (Mn.Bi.len) false (Mn.E.var 1)]))], false⟩
/-- _law_sum -/
def f7 : Df := ⟨1, 5, [Mn.S.asg (Mn.Tg.nm 1) (Mn.E.bi (Mn.Bi.len) false (Mn.E.var 0)), Mn.S.asg (Mn.Tg.nm 2) (Mn.E.bin (Mn.BO.mod) (Mn.E.bi (Mn.Bi.int) false (Mn.E.bin (Mn.BO.add) (Mn.E.lit (Mn.D.int 1)) (Mn.E.bi (Mn.Bi.sum) false (Mn.E.var 0)))) (Mn.E.lit (Mn.D.int 32749))), Mn.S.asg (Mn.Tg.nm 3) (Mn.E.bin (Mn.BO.mod) (Mn.E.bi (Mn.Bi.int) false (Mn.E.bin (Mn.BO.add) (Mn.E.var 1) (Mn.E.bi (Mn.Bi.sum) false (Mn.E.comp false (Mn.Tg.nm 4) (Mn.Wt.rng1) [Mn.E.var 1] none (Mn.E.bin (Mn.BO.mul) (Mn.E.bin (Mn.BO.sub) (Mn.E.var 1) (Mn.E.var 4)) (Mn.E.ix (Mn.E.var 0) (Mn.E.var 4))) [4])))) (Mn.E.lit (Mn.D.int 32749))), Mn.S.ret (Mn.E.lst false [Mn.E.bin (Mn.BO.fdiv) (Mn.E.var 2) (Mn.E.lit (Mn.D.int 256)), Mn.E.bin (Mn.BO.mod) (Mn.E.bi (Mn.Bi.int) false (Mn.E.var 2)) (Mn.E.lit (Mn.D.int 256)), Mn.E.bin (Mn.BO.fdiv) (Mn.E.var 3) (Mn.E.lit (Mn.D.int 256)), Mn.E.bin (Mn.BO.mod) (Mn.E.bi (Mn.Bi.int) false (Mn.E.var 3)) (Mn.E.lit (Mn.D.int 256))])], false⟩
/-- _law_is_refused -/
def f8 : Df := ⟨1, 3, [Mn.S.tryo [Mn.S.asg (Mn.Tg.nm 2) (Mn.E.fn 3 [Mn.E.var 0])] [(0, Mn.HX.isx 1 1)], Mn.S.ret (Mn.E.lit (Mn.D.bl false))], false⟩
/-- law -/
def f9 : Df := ⟨1, 8, [Mn.S.asg (Mn.Tg.nm 1) (Mn.E.fn 4 [Mn.E.var 0]), Mn.S.asg (Mn.Tg.nm 2) (Mn.E.comp false (Mn.Tg.nm 7) (Mn.Wt.rng1) [Mn.E.fn 5 [Mn.E.var 1, Mn.E.lit (Mn.D.int 40)]] none (Mn.E.fn 5 [Mn.E.var 1, Mn.E.lit (Mn.D.int 256)]) [7]), Mn.S.ifs (Mn.E.cmp (Mn.CO.eq) (Mn.E.fn 5 [Mn.E.var 1, Mn.E.lit (Mn.D.int 5)]) (Mn.E.lit (Mn.D.int 0))) [Mn.S.asg (Mn.Tg.nm 2) (Mn.E.bin (Mn.BO.add) (Mn.E.var 2) (Mn.E.bin (Mn.BO.mul) (Mn.E.lst false [Mn.E.fn 5 [Mn.E.var 1, Mn.E.lit (Mn.D.int 256)]]) (Mn.E.fn 5 [Mn.E.var 1, Mn.E.lit (Mn.D.int 700)])))] [], Mn.S.asg (Mn.Tg.tp [Mn.Tg.nm 5, Mn.Tg.nm 6]) (Mn.E.tup [Mn.E.bi (Mn.Bi.tuple) false (Mn.E.var 2), Mn.E.bi (Mn.Bi.repr) false (Mn.E.bi (Mn.Bi.tuple) false (Mn.E.fn 7 [Mn.E.var 2]))]), Mn.S.ifs (Mn.E.bor (Mn.E.cmp (Mn.CO.ne) (Mn.E.bi (Mn.Bi.repr) false (Mn.E.fn 3 [Mn.E.var 5])) (Mn.E.var 6)) (Mn.E.cmp (Mn.CO.ne) (Mn.E.var 5) (Mn.E.bi (Mn.Bi.tuple) false (Mn.E.var 2)))) [Mn.S.ret (Mn.E.lit (Mn.D.bl false))] [], Mn.S.asg (Mn.Tg.nm 3) (Mn.E.fn 5 [Mn.E.var 1, Mn.E.bin (Mn.BO.add) (Mn.E.bi (Mn.Bi.len) false (Mn.E.var 2)) (Mn.E.lit (Mn.D.int 1))]), Mn.S.asg (Mn.Tg.nm 4) (Mn.E.fn 6 [Mn.E.var 1, Mn.E.lst false [Mn.E.lit (Mn.D.int 256), Mn.E.neg (Mn.E.lit (Mn.D.int 1)), Mn.E.lit (Mn.D.bl true), Mn.E.lit (Mn.D.str [49]), Mn.E.lit (Mn.D.non), Mn.E.tup [Mn.E.lit (Mn.D.int 1)], Mn.E.bin (Mn.BO.mul) (Mn.E.bin (Mn.BO.pow) (Mn.E.lit (Mn.D.int 10)) (Mn.E.lit (Mn.D.int 60))) (Mn.E.bin (Mn.BO.pow) (Mn.E.lit (Mn.D.int 10)) (Mn.E.lit (Mn.D.int 20)))]]), Mn.S.ifs (Mn.E.bor (Mn.E.bnot (Mn.E.fn 8 [Mn.E.bi (Mn.Bi.tuple) false (Mn.E.bin (Mn.BO.add) (Mn.E.bin (Mn.BO.add) (Mn.E.slc (Mn.E.var 2) none (some (Mn.E.var 3))) (Mn.E.lst false [Mn.E.var 4])) (Mn.E.slc (Mn.E.var 2) (some (Mn.E.var 3)) none))])) (Mn.E.bnot (Mn.E.fn 8 [Mn.E.var 2]))) [Mn.S.ret (Mn.E.lit (Mn.D.bl false))] [], Mn.S.ret (Mn.E.cmp (Mn.CO.eq) (Mn.E.bi (Mn.Bi.repr) false (Mn.E.fn 3 [Mn.E.bi (Mn.Bi.tuple) false (Mn.E.var 2)])) (Mn.E.var 6))], false⟩
def ds : List Df := [f0, f1, f2, f3, f4, f5, f6, f7, f8, f9]
theorem hc : compAll gl bl cel fn dn = some ds := by kernel_rfl
end Law


/-! The cup of a law. -/
namespace Mn
def dfCup : Df := { np := 1, ns := 2, body := [S.asg (.nm 1) (.bi .abs false (.ix (.bin .add (.bi .list false (.var 0)) (.lst false [.lit (.int 0)])) (.lit (.int 0)))),
  .ret (.lst true [.ife (.cmp .ge (.var 1) (.bin .pow (.lit (.int 10)) (.lit (.int 18)))) (.bin .fdiv (.var 1) (.lit (.int 71))) (.lit (.int 0)),
    .bin .add (.bin .mod (.bi .int false (.bin .add (.bin .mul (.var 1) (.lit (.int 281))) (.lit (.int 2707)))) (.lit (.int 2077503151))) (.lit (.int 167))])], fr := false }
def dfRoll : Df := { np := 2, ns := 4, body := [.ifs (.cmp .gt (.ix (.var 0) (.lit (.int 0))) (.lit (.int 0)))
    [.asg (.nm 3) (.bin .mod (.bi .int false (.ix (.var 0) (.lit (.int 0)))) (.var 1)),
     .six (.var 0) (.lit (.int 0)) (.bin .fdiv (.ix (.var 0) (.lit (.int 0))) (.var 1)),
     .ret (.var 3)] [],
   .six (.var 0) (.lit (.int 1)) (.bin .mod (.bi .int false (.bin .add (.bin .mul (.ix (.var 0) (.lit (.int 1))) (.lit (.int 31051))) (.lit (.int 8009)))) (.lit (.int 2147483529))),
   .asg (.nm 2) (.bin .mod (.bi .int false (.bin .mul (.ix (.var 0) (.lit (.int 1))) (.bin .add (.ix (.var 0) (.lit (.int 1))) (.lit (.int 233))))) (.lit (.int 2147483587))),
   .ret (.bin .mod (.bi .int false (.bin .fdiv (.var 2) (.lit (.int 823)))) (.var 1))], fr := false }
/-- the cup's cell -/
def Cup (n : Nat) (S : Sto) : Prop := ∃ a b : Int, S.get n = some (.lst [.int a, .int b]) ∧ 0 ≤ a ∧ 0 ≤ b ∧ b < 2147483648
/-- nothing but the cell n is another -/
structure Upc (n : Nat) (S S' : Sto) : Prop where
  next : S'.next = S.next
  get : ∀ m, m ≠ n → S'.get m = S.get m
theorem Upc.refl (n : Nat) (S : Sto) : Upc n S S := ⟨rfl, fun _ _ => rfl⟩
theorem Upc.trans {n : Nat} {S S1 S2 : Sto} (a : Upc n S S1) (b : Upc n S1 S2) : Upc n S S2 := ⟨b.next.trans a.next, fun m h => (b.get m h).trans (a.get m h)⟩
theorem look_put {n m : Nat} {c : C} : ∀ cs : List (Nat × C), look m (putC n c cs) = if m = n then (look n cs).map fun _ => c else look m cs
  | [] => by simp [look, putC]
  | (k, d) :: r => by
    unfold putC look
    by_cases h : k = n
    · subst h
      by_cases hm : k = m
      · subst hm
        simp [look]
      · simp [look, hm, Ne.symm hm]
    · by_cases hm : k = m
      · subst hm
        simp [look, h]
      · simp [look, h, hm, look_put r]
theorem get_put {n m : Nat} {c : C} {S : Sto} : (S.put n c).get m = if m = n then (S.get n).map fun _ => c else S.get m := look_put S.cs
theorem upc_put {n : Nat} {c : C} {S : Sto} : Upc n S (S.put n c) := ⟨rfl, fun m h => by rw [get_put, if_neg h]⟩
theorem lz_cell {n : Nat} {S : Sto} {xs : List D} (h : S.get n = some (.lst xs)) : lz S (.ref n) = .lst xs := by
  show (match S.get n with
    | some (.lst xs) => D.lst xs
    | none => D.ref n) = _
  rw [h]
theorem nth0 {α : Type} {x : α} {xs : List α} : nth (x :: xs) 0 = some x := rfl
theorem nth1 {α : Type} {x y : α} {xs : List α} : nth (x :: y :: xs) 1 = some y := rfl
theorem R.bind_ok {α β : Type} {a : α} {S : Sto} {f : α → Sto → R β} : (R.ok a S).bind f = f a S := rfl
theorem R.to_ok {α : Type} {a : α} {S : Sto} {env : Env} {f : α → Sto → RS} : (R.ok a S).to env f = f a S := rfl
theorem R.of_some {α : Type} {a : α} {S : Sto} : R.of S (some a) = .ok a S := rfl
section
variable {sub : Nat → Nat → Bool} {cl : Calls}
theorem roll_ok {n : Nat} {S : Sto} (h : Cup n S) {many : Int} (h1 : 0 < many) (h2 : many < 1073741824) : ∃ r S', dfRoll.run sub cl [.ref n, .int many] S = .ok (.int r) S' ∧ 0 ≤ r ∧ r < many ∧ Cup n S' ∧ Upc n S S' := by
  obtain ⟨a, b, hg, ha, hb, hb2⟩ := h
  by_cases hp : 0 < a
  · refine ⟨a % many, S.put n (.lst [.int (a / many), .int b]), ?_, Int.emod_nonneg _ (by omega), Int.emod_lt_of_pos _ h1, ⟨a / many, b, by rw [get_put, if_pos rfl, hg]; rfl, Int.ediv_nonneg ha (by omega), hb, hb2⟩, upc_put⟩
    simp [Df.run, dfRoll, exSs, exS, evE, R.bind, R.to, R.of, RS.bind, ixf, lz_cell hg, lz, nth, cop, biF, bop, frI_eq, frL_eq, frN_eq, hp, h1, h2, bindT, sixf, hg]
  · have ha0 : a = 0 := by omega
    subst ha0
    have hb3 : 0 ≤ (b * 31051 + 8009) % 2147483529 := Int.emod_nonneg _ (by omega)
    have hb4 : (b * 31051 + 8009) % 2147483529 < 2147483529 := Int.emod_lt_of_pos _ (by omega)
    have hs : sml ((b * 31051 + 8009) % 2147483529) = true := by
      unfold sml
      rw [decide_eq_true_eq]
      omega
    have hs2 : sml b = true := by
      unfold sml
      rw [decide_eq_true_eq]
      omega
    have hg2 : (S.put n (.lst [.int 0, .int ((b * 31051 + 8009) % 2147483529)])).get n = some (.lst [.int 0, .int ((b * 31051 + 8009) % 2147483529)]) := by
      rw [get_put, if_pos rfl, hg]
      rfl
    refine ⟨((b * 31051 + 8009) % 2147483529 * ((b * 31051 + 8009) % 2147483529 + 233) % 2147483587 / 823) % many, S.put n (.lst [.int 0, .int ((b * 31051 + 8009) % 2147483529)]), ?_, Int.emod_nonneg _ (by omega), Int.emod_lt_of_pos _ h1, ⟨0, _, hg2, by omega, hb3, by omega⟩, upc_put⟩
    have e1 : (0 : Int) < 2147483529 := by decide
    generalize hc : (b * 31051 + 8009) % 2147483529 = c at hs hg2
    simp [Df.run, dfRoll, exSs, exS, evE, R.bind, R.to, R.of, RS.bind, ixf, lz_cell hg, lz_cell hg2, lz, nth, cop, biF, bop, frI_eq, frL_eq, frN_eq, h1, h2, bindT, sixf, hg, hg2, hs, hs2, hc]

theorem get_new {S : Sto} {c : C} {m : Nat} : (S.new c).get m = if S.next = m then some c else S.get m := rfl
theorem cup_ok {ns : List Int} (hn : ns.length ≤ 63) (S : Sto) : ∃ S', dfCup.run sub cl [.scr ns] S = .ok (.ref S.next) S' ∧ Cup S.next S' ∧ S'.next = S.next + 1 ∧ ∀ m, m ≠ S.next → S'.get m = S.get m := by
  obtain ⟨c, hc, hc0⟩ : ∃ c : Int, (nth (ns.map D.int ++ [D.int 0]) 0 = some (.int c) ∨ nth (ns.map D.int ++ [D.int 0]) 0 = some (.int (-c))) ∧ 0 ≤ c := by
    have : ∀ x : Int, ∃ c : Int, (some (D.int x) = some (D.int c) ∨ some (D.int x) = some (.int (-c))) ∧ 0 ≤ c := fun x => by
      by_cases hx : 0 ≤ x
      · exact ⟨x, .inl rfl, hx⟩
      · exact ⟨-x, .inr (by rw [Int.neg_neg]), by omega⟩
    cases ns with
    | nil => exact this 0
    | cons x xs => exact this x
  have hl : (ns.map D.int ++ [D.int 0]).length ≤ line := by
    rw [List.length_append, List.length_map]
    show ns.length + 1 ≤ 16777216
    omega
  have hl1 : ns.length ≤ line := by
    show ns.length ≤ 16777216
    omega
  have hl2 : ns.length + 1 ≤ line := by
    show ns.length + 1 ≤ 16777216
    omega
  have ha : (if (if (10 : Int) ^ 18 ≤ c then c / 71 else 0) < 0 then false else true) = true := by
    have : ¬ ((if (10 : Int) ^ 18 ≤ c then c / 71 else 0) < 0) := by
      split
      · have := Int.ediv_nonneg hc0 (show (0 : Int) ≤ 71 by decide)
        omega
      · omega
    rw [if_neg this]
  have hs : sml 281 = true := by decide
  have fin : ∀ x : Int, (if x < 0 then -x else x) = c → nth (ns.map D.int ++ [D.int 0]) 0 = some (.int x) →
      dfCup.run sub cl [.scr ns] S = .ok (.ref S.next) (S.new (.lst [.int (if (10 : Int) ^ 18 ≤ c then c / 71 else 0), .int ((c * 281 + 2707) % 2077503151 + 167)])) := fun x hx hn => by
    by_cases h18 : (10 : Int) ^ 18 ≤ c
    · have h18' : (1000000000000000000 : Int) ≤ c := h18
      simp [Df.run, dfCup, exSs, exS, evE, evEs, R.bind, R.to, R.of, RS.bind, ixf, lz, cop, biF, bop, frI_eq, frL_eq, frN_eq, bindT, newL, hl1, hl2, hn, hx, hs, h18', show 1 ≤ line from by decide, show sml 10 = true from by decide, show 2 ≤ line from by decide]
    · have h18' : ¬ (1000000000000000000 : Int) ≤ c := h18
      simp [Df.run, dfCup, exSs, exS, evE, evEs, R.bind, R.to, R.of, RS.bind, ixf, lz, cop, biF, bop, frI_eq, frL_eq, frN_eq, bindT, newL, hl1, hl2, hn, hx, hs, h18', show 1 ≤ line from by decide, show sml 10 = true from by decide, show 2 ≤ line from by decide]
  have cup : Cup S.next (S.new (.lst [.int (if (10 : Int) ^ 18 ≤ c then c / 71 else 0), .int ((c * 281 + 2707) % 2077503151 + 167)])) := by
    refine ⟨_, _, by rw [get_new, if_pos rfl], ?_, ?_, ?_⟩
    · split
      · exact Int.ediv_nonneg hc0 (by decide)
      · omega
    · omega
    · omega
  refine ⟨_, ?_, cup, rfl, fun m hm => by rw [get_new, if_neg (Ne.symm hm)]⟩
  rcases hc with hc | hc
  · exact fin c (if_neg (by omega)) hc
  · refine fin (-c) ?_ hc
    by_cases h0 : c = 0
    · subst h0
      rfl
    · rw [if_pos (by omega), Int.neg_neg]
end
end Mn

/-! Facts of the machine, for laws. -/
namespace Mn
/-- a comprehension that reckons without a change -/
theorem compL_pure {f : D → Sto → R (Option D)} {g : D → D} {S : Sto} : ∀ (xs acc : List D), (∀ x ∈ xs, f x S = .ok (some (g x)) S) → acc.length + xs.length ≤ line → compL f xs acc S = .ok (acc ++ xs.map g) S
  | [], acc, _, _ => by simp [compL]
  | x :: xs, acc, h, hl => by
    have h1 := h x List.mem_cons_self
    have hl' : acc.length < line := by simp at hl; omega
    unfold compL
    rw [h1]
    show (if acc.length < line then compL f xs (acc ++ [g x]) S else .bad) = _
    rw [if_pos hl', compL_pure xs (acc ++ [g x]) (fun y hy => h y (List.mem_cons_of_mem _ hy)) (by simp at hl ⊢; omega)]
    simp
/-- .. that draws -/
theorem compL_draw {f : D → Sto → R (Option D)} {n : Nat} {P : Int → Prop} (h : ∀ x S, Cup n S → ∃ (r : Int) (S' : Sto), f x S = .ok (some (.int r)) S' ∧ P r ∧ Cup n S' ∧ Upc n S S') :
    ∀ (xs acc : List D) (S : Sto), Cup n S → acc.length + xs.length ≤ line → ∃ (rs : List Int) (S' : Sto), compL f xs acc S = .ok (acc ++ rs.map D.int) S' ∧ rs.length = xs.length ∧ (∀ r ∈ rs, P r) ∧ Cup n S' ∧ Upc n S S'
  | [], acc, S, c, _ => ⟨[], S, by simp [compL], rfl, (fun _ h => by cases h), c, Upc.refl n S⟩
  | x :: xs, acc, S, c, hl => by
    obtain ⟨r, S1, h1, hP, c1, u1⟩ := h x S c
    have hl' : acc.length < line := by simp at hl; omega
    obtain ⟨rs, S2, h2, hl2, hP2, c2, u2⟩ := compL_draw h xs (acc ++ [.int r]) S1 c1 (by simp at hl ⊢; omega)
    refine ⟨r :: rs, S2, ?_, by simp [hl2], fun y hy => ?_, c2, u1.trans u2⟩
    · unfold compL
      rw [h1]
      show (if acc.length < line then compL f xs (acc ++ [.int r]) S1 else .bad) = _
      rw [if_pos hl', h2]
      simp
    · rcases List.mem_cons.mp hy with e | e
      · rw [e]
        exact hP
      · exact hP2 y e
theorem upto_length : ∀ (n : Nat) (lo : Int), (upto lo n).length = n
  | 0, _ => rfl
  | n + 1, lo => by
    show (D.int lo :: frI (lo + 1) fun m => upto m n).length = n + 1
    rw [frI_eq, List.length_cons, upto_length n]
theorem ints_map : ∀ zs : List Int, intsO (zs.map D.int) = some zs
  | [] => rfl
  | z :: zs => by
    show (intsO (zs.map D.int)).map (z :: ·) = _
    rw [ints_map zs]
    rfl
theorem bools_map : ∀ bs : List Bool, boolsO (bs.map D.bl) = some bs
  | [] => rfl
  | z :: zs => by
    show (boolsO (zs.map D.bl)).map (z :: ·) = _
    rw [bools_map zs]
    rfl
theorem okDs_int : ∀ zs : List Int, okDs (zs.map D.int) = true
  | [] => rfl
  | z :: zs => by
    show (okD (.int z) && okDs (zs.map D.int)) = true
    rw [okDs_int zs]
    rfl
theorem dpts_int : ∀ zs : List Int, dpts (zs.map D.int) = 0
  | [] => rfl
  | z :: zs => by
    show max (dpt (.int z)) (dpts (zs.map D.int)) = 0
    rw [dpts_int zs]
    rfl
theorem peqs_int : ∀ zs : List Int, peqs (zs.map D.int) (zs.map D.int) = true
  | [] => rfl
  | z :: zs => by
    show (peq (.int z) (.int z) && peqs (zs.map D.int) (zs.map D.int)) = true
    rw [peqs_int zs]
    simp [peq]
theorem log2_lt {i : Int} {n : Nat} (h : 0 ≤ i) (h2 : i < 2 ^ n) : i.natAbs.log2 < n ∨ i = 0 := by
  by_cases h0 : i = 0
  · exact .inr h0
  · left
    have h3 : i.natAbs ≠ 0 := by omega
    have h4 : i.natAbs < 2 ^ n := by
      have : (i.natAbs : Int) < 2 ^ n := by
        rw [Int.natAbs_of_nonneg h]
        exact h2
      exact_mod_cast this
    exact (Nat.log2_lt h3).mpr h4

theorem R.assoc {α β γ : Type} (r : R α) (f : α → Sto → R β) (g : β → Sto → R γ) : (r.bind f).bind g = r.bind fun a S => (f a S).bind g := by cases r <;> rfl
section
variable {cl : Calls} {k : Bool} {t : Tg} {w : Wt} {its : List E} {cond : Option E} {e : E} {own : List Nat} {env : Env} {S : Sto}
theorem ev_comp (xs : List D) (S1 : Sto) (h1 : ((evEs cl its env S).bind fun ws S0 => R.of S0 (walk w ws)) = .ok xs S1) : evE cl (.comp k t w its cond e own) env S = (compL (fun x S2 => match bindT t x (wipeE env own) with
      | some env' => ((evC cl cond env' S2).bind fun b S3 => match b with
        | true => (evE cl e env' S3).bind fun d S4 => .ok (some d) S4
        | false => .ok none S3).nox
      | none => .bad) xs [] S1).bind fun ds S5 => newL k ds S5 := by
  show ((evEs cl its env S).bind fun ws S0 => (R.of S0 (walk w ws)).bind fun xs S1 => _) = _
  rw [← R.assoc, h1]
  rfl
theorem comp_pure {g : D → D} {xs : List D} {S1 : Sto} (h1 : ((evEs cl its env S).bind fun ws S0 => R.of S0 (walk w ws)) = .ok xs S1)
    (h2 : ∀ x ∈ xs, ∃ env', bindT t x (wipeE env own) = some env' ∧ evC cl cond env' S1 = .ok true S1 ∧ evE cl e env' S1 = .ok (g x) S1) (hl : xs.length ≤ line) : evE cl (.comp k t w its cond e own) env S = newL k (xs.map g) S1 := by
  rw [ev_comp xs S1 h1, compL_pure (g := g) xs [] (fun x hx => ?_) (by simpa using hl)]
  · rfl
  · obtain ⟨env', e1, e2, e3⟩ := h2 x hx
    rw [e1]
    dsimp only
    rw [e2]
    show ((evE cl e env' S1).bind fun d S4 => R.ok (some d) S4).nox = _
    rw [e3]
    rfl
theorem comp_draw {n : Nat} {P : Int → Prop} {xs : List D} {S1 : Sto} (h1 : ((evEs cl its env S).bind fun ws S0 => R.of S0 (walk w ws)) = .ok xs S1) (c : Cup n S1)
    (h2 : ∀ x S, Cup n S → ∃ (env' : Env) (r : Int) (S' : Sto), bindT t x (wipeE env own) = some env' ∧ evC cl cond env' S = .ok true S ∧ evE cl e env' S = .ok (.int r) S' ∧ P r ∧ Cup n S' ∧ Upc n S S') (hl : xs.length ≤ line) :
    ∃ (rs : List Int) (S' : Sto), evE cl (.comp false t w its cond e own) env S = .ok (.lst (rs.map D.int)) S' ∧ rs.length = xs.length ∧ (∀ r ∈ rs, P r) ∧ Cup n S' ∧ Upc n S1 S' := by
  obtain ⟨rs, S', e1, e2, e3, e4, e5⟩ := compL_draw (n := n) (P := P) (f := fun x S2 => match bindT t x (wipeE env own) with
      | some env' => ((evC cl cond env' S2).bind fun b S3 => match b with
        | true => (evE cl e env' S3).bind fun d S4 => .ok (some d) S4
        | false => .ok none S3).nox
      | none => .bad) (fun x S2 c2 => by
    obtain ⟨env', r, S', e1, e2, e3, e4, e5, e6⟩ := h2 x S2 c2
    refine ⟨r, S', ?_, e4, e5, e6⟩
    rw [e1]
    dsimp only
    rw [e2]
    show ((evE cl e env' S2).bind fun d S4 => R.ok (some d) S4).nox = _
    rw [e3]
    rfl) xs [] S1 c (by simpa using hl)
  refine ⟨rs, S', ?_, e2, e3, e4, e5⟩
  rw [ev_comp xs S1 h1, e1]
  show newL false ([] ++ rs.map D.int) S' = _
  unfold newL
  rw [if_pos (by simp; omega)]
  rfl
end

section
variable {sub : Nat → Nat → Bool} {cl : Calls} {env env1 : Env} {S S1 : Sto}
theorem sq {s : Mn.S} {ss : List Mn.S} (h : exS sub cl s env S = .nx env1 S1) : exSs sub cl (s :: ss) env S = exSs sub cl ss env1 S1 := by
  show (exS sub cl s env S).bind _ = _
  rw [h]
  rfl
theorem sq_rt {s : Mn.S} {ss : List Mn.S} {d : D} (h : exS sub cl s env S = .rt d S1) : exSs sub cl (s :: ss) env S = .rt d S1 := by
  show (exS sub cl s env S).bind _ = _
  rw [h]
  rfl
theorem sq_exc {s : Mn.S} {ss : List Mn.S} {x : Ex} (h : exS sub cl s env S = .exc x env1 S1) : exSs sub cl (s :: ss) env S = .exc x env1 S1 := by
  show (exS sub cl s env S).bind _ = _
  rw [h]
  rfl
theorem asg_nm {i : Nat} {e : E} {d : D} (h : evE cl e env S = .ok d S1) (hi : i < env.length) : exS sub cl (.asg (.nm i) e) env S = .nx (env.set i (some d)) S1 := by
  show (evE cl e env S).to env _ = _
  rw [h]
  show (match (if i < env.length then frL (env.set i (some d)) some else none : Option Env) with
    | some env' => RS.nx env' S1
    | none => .bad) = _
  rw [if_pos hi, frL_eq]
theorem ret_ok {e : E} {d : D} (h : evE cl e env S = .ok d S1) : exS sub cl (.ret e) env S = .rt d S1 := by
  show (evE cl e env S).to env _ = _
  rw [h]
  rfl
theorem ifs_t {c : E} {a b : List Mn.S} (h : evE cl c env S = .ok (.bl true) S1) : exS sub cl (.ifs c a b) env S = exSs sub cl a env S1 := by
  show (evE cl c env S).to env _ = _
  rw [h]
  rfl
theorem ifs_f {c : E} {a b : List Mn.S} (h : evE cl c env S = .ok (.bl false) S1) : exS sub cl (.ifs c a b) env S = exSs sub cl b env S1 := by
  show (evE cl c env S).to env _ = _
  rw [h]
  rfl
theorem ex_ok {e : E} {d : D} (h : evE cl e env S = .ok d S1) : exS sub cl (.ex e) env S = .nx env S1 := by
  show (evE cl e env S).to env _ = _
  rw [h]
  rfl
theorem ex_exc {e : E} {x : Ex} (h : evE cl e env S = .exc x S1) : exS sub cl (.ex e) env S = .exc x env S1 := by
  show (evE cl e env S).to env _ = _
  rw [h]
  rfl
/-- a def that hands d back -/
theorem df_rt {f : Df} {xs : List D} {d : D} (hx : xs.length = f.np) (hf : f.fr = false) (h : exSs sub cl f.body (xs.map some ++ List.replicate (f.ns - f.np) none) S = .rt d S1) : f.run sub cl xs S = .ok d S1 := by
  unfold Df.run
  rw [if_pos hx, h, hf]
  rfl
theorem df_nx {f : Df} {xs : List D} (hx : xs.length = f.np) (hf : f.fr = false) (h : exSs sub cl f.body (xs.map some ++ List.replicate (f.ns - f.np) none) S = .nx env1 S1) : f.run sub cl xs S = .ok .non S1 := by
  unfold Df.run
  rw [if_pos hx, h, hf]
  rfl
theorem df_exc {f : Df} {xs : List D} {x : Ex} (hx : xs.length = f.np) (hf : f.fr = false) (h : exSs sub cl f.body (xs.map some ++ List.replicate (f.ns - f.np) none) S = .exc x env1 S1) : f.run sub cl xs S = .exc x S1 := by
  unfold Df.run
  rw [if_pos hx, h, hf]
  rfl
end

section
variable {sub : Nat → Nat → Bool} {cl : Calls} {env env1 : Env} {S S1 S2 S3 : Sto} {e e1 e2 e3 : E} {x y z : D} {k : Bool}
theorem ev_bi {b : Bi} {r : R D} (h : evE cl e env S = .ok x S1) (h2 : biF b k x S1 = r) : evE cl (.bi b k e) env S = r := by
  show (evE cl e env S).bind _ = _
  rw [h]
  exact h2
theorem ev_bin {o : BO} {r : R D} (h : evE cl e1 env S = .ok x S1) (h2 : evE cl e2 env S1 = .ok y S2) (h3 : bop o x y S2 = r) : evE cl (.bin o e1 e2) env S = r := by
  show (evE cl e1 env S).bind _ = _
  rw [h]
  show (evE cl e2 env S1).bind _ = _
  rw [h2]
  exact h3
theorem ev_cmp {o : CO} {b : Bool} (h : evE cl e1 env S = .ok x S1) (h2 : evE cl e2 env S1 = .ok y S2) (h3 : cop o x y S2 = some b) : evE cl (.cmp o e1 e2) env S = .ok (.bl b) S2 := by
  show (evE cl e1 env S).bind _ = _
  rw [h]
  show (evE cl e2 env S1).bind _ = _
  rw [h2]
  show (R.of S2 (cop o x y S2)).bind _ = _
  rw [h3]
  rfl
theorem ev_fn1 {i : Nat} {r : R D} (h : evE cl e env S = .ok x S1) (h2 : cl i [x] S1 = r) : evE cl (.fn i [e]) env S = r := by
  show ((evE cl e env S).bind _).bind _ = _
  rw [h]
  exact h2
theorem ev_fn2 {i : Nat} {r : R D} (h : evE cl e1 env S = .ok x S1) (h2 : evE cl e2 env S1 = .ok y S2) (h3 : cl i [x, y] S2 = r) : evE cl (.fn i [e1, e2]) env S = r := by
  show ((evE cl e1 env S).bind _).bind _ = _
  rw [h]
  show (((evE cl e2 env S1).bind _).bind _).bind _ = _
  rw [h2]
  exact h3
theorem ev_tup2 (h : evE cl e1 env S = .ok x S1) (h2 : evE cl e2 env S1 = .ok y S2) : evE cl (.tup [e1, e2]) env S = .ok (.tup [x, y]) S2 := by
  show ((evE cl e1 env S).bind _).bind _ = _
  rw [h]
  show (((evE cl e2 env S1).bind _).bind _).bind _ = _
  rw [h2]
  rfl
theorem ev_lst1 (h : evE cl e env S = .ok x S1) : evE cl (.lst false [e]) env S = .ok (.lst [x]) S1 := by
  show ((evE cl e env S).bind _).bind _ = _
  rw [h]
  rfl
theorem ev_borF (h : evE cl e1 env S = .ok (.bl false) S1) {r : R D} (h2 : evE cl e2 env S1 = r) : evE cl (.bor e1 e2) env S = r := by
  show (evE cl e1 env S).bind _ = _
  rw [h]
  exact h2
theorem ev_borT (h : evE cl e1 env S = .ok (.bl true) S1) : evE cl (.bor e1 e2) env S = .ok (.bl true) S1 := by
  show (evE cl e1 env S).bind _ = _
  rw [h]
  rfl
theorem ev_bandT (h : evE cl e1 env S = .ok (.bl true) S1) {r : R D} (h2 : evE cl e2 env S1 = r) : evE cl (.band e1 e2) env S = r := by
  show (evE cl e1 env S).bind _ = _
  rw [h]
  exact h2
theorem ev_not {b : Bool} (h : evE cl e env S = .ok (.bl b) S1) : evE cl (.bnot e) env S = .ok (.bl (!b)) S1 := by
  show (evE cl e env S).bind _ = _
  rw [h]
  rfl
theorem ev_slcL {i : Int} (h : evE cl e env S = .ok x S1) (h2 : evE cl e2 env S1 = .ok (.int i) S2) (h3 : cutf x none (some i) S2 = some y) : evE cl (.slc e none (some e2)) env S = .ok y S2 := by
  show (evE cl e env S).bind _ = _
  rw [h]
  show ((evE cl e2 env S1).bind _).bind _ = _
  rw [h2]
  show R.of S2 (cutf x none (some i) S2) = _
  rw [h3]
  rfl
theorem ev_slcH {i : Int} (h : evE cl e env S = .ok x S1) (h2 : evE cl e2 env S1 = .ok (.int i) S2) (h3 : cutf x (some i) none S2 = some y) : evE cl (.slc e (some e2) none) env S = .ok y S2 := by
  show (evE cl e env S).bind _ = _
  rw [h]
  show ((evE cl e2 env S1).bind _).bind _ = _
  rw [h2]
  show R.of S2 (cutf x (some i) none S2) = _
  rw [h3]
  rfl
theorem asg_tp2 {i j : Nat} (h : evE cl e env S = .ok (.tup [x, y]) S1) (hi : i < env.length) (hj : j < env.length) : exS sub cl (.asg (.tp [.nm i, .nm j]) e) env S = .nx ((env.set i (some x)).set j (some y)) S1 := by
  show (evE cl e env S).to env _ = _
  rw [h]
  have b1 : bindT (.nm i) x env = some (env.set i (some x)) := by
    show (if i < env.length then frL (env.set i (some x)) some else none) = _
    rw [if_pos hi, frL_eq]
  have b2 : bindT (.nm j) y (env.set i (some x)) = some ((env.set i (some x)).set j (some y)) := by
    show (if j < (env.set i (some x)).length then frL ((env.set i (some x)).set j (some y)) some else none) = _
    rw [if_pos (by simpa using hj), frL_eq]
  have b3 : bindT (.tp [.nm i, .nm j]) (.tup [x, y]) env = some ((env.set i (some x)).set j (some y)) := by
    show (match bindT (.nm i) x env with
      | some env' => bindT.bindTs [.nm j] [y] env'
      | none => none) = _
    rw [b1]
    show (match bindT (.nm j) y (env.set i (some x)) with
      | some env' => bindT.bindTs [] [] env'
      | none => none) = _
    rw [b2]
    rfl
  show (match bindT (.tp [.nm i, .nm j]) (.tup [x, y]) env with
    | some env' => RS.nx env' S1
    | none => .bad) = _
  rw [b3]
theorem add_lst {a b : List D} (h : a.length + b.length ≤ line) : bop .add (.lst a) (.lst b) S = .ok (.lst (a ++ b)) S := by
  show (if a.length + b.length ≤ line then frL (a ++ b) fun r => R.ok (D.lst r) S else .bad) = _
  rw [if_pos h, frL_eq]
theorem add_int {a b : Int} : bop .add (.int a) (.int b) S = .ok (.int (a + b)) S := by
  show frI (a + b) (fun r => R.ok (D.int r) S) = _
  rw [frI_eq]
theorem rep_tup {a : List D} (h : shwD (.tup a) = true) : biF .repr k (.tup a) S = .ok (.rep (.tup a)) S := by
  show (if shwD (.tup a) = true then R.ok (D.rep (.tup a)) S else .bad) = _
  rw [if_pos h]
theorem len_lst {a : List D} : biF .len k (.lst a) S = .ok (.int a.length) S := by
  show frN a.length (fun n => R.ok (D.int n) S) = _
  rw [frN_eq]
end
end Mn

namespace LawP
open Mn Law
/-- within the bounds -/
def wh (lo hi : Int) : D → Bool
  | .int i => decide (lo ≤ i) && decide (i ≤ hi)
  | _ => false
def known : D → Bool
  | .rep _ | .ref _ | .scr _ => false
  | _ => true
section
variable {sub : Nat → Nat → Bool} {cl : Calls} {S : Sto}
theorem f0_ok {x : D} {lo hi : Int} (h : known x = true) : f0.run sub cl [x, .int lo, .int hi] S = .ok (.bl (wh lo hi x)) S := by
  cases x with
  | int i =>
    by_cases h1 : lo ≤ i
    · simp [Df.run, f0, exSs, exS, evE, R.bind, R.to, R.of, RS.bind, isT, cop, wh, h1]
    · simp [Df.run, f0, exSs, exS, evE, R.bind, R.to, R.of, RS.bind, isT, cop, wh, h1]
  | rep _ => cases h
  | ref _ => cases h
  | scr _ => cases h
  | _ => simp [Df.run, f0, exSs, exS, evE, R.bind, R.to, R.of, RS.bind, isT, cop, wh]
theorem f1_ok {xs : List D} (h : ∀ x ∈ xs, known x = true) (hl : xs.length ≤ line) (hc : ∀ x, known x = true → cl 0 [x, .int 0, .int 255] S = .ok (.bl (wh 0 255 x)) S) :
    f1.run sub cl [.tup xs] S = if xs.all (wh 0 255) = true then .ok .non S else .exc ⟨1, []⟩ S := by
  have e : evE cl (.bi .all false (.comp false (.nm 1) .of [.var 0] none (.fn 0 [.var 1, .lit (.int 0), .lit (.int 255)]) [1])) [some (.tup xs), none] S = .ok (.bl (xs.all (wh 0 255))) S := by
    show ((evE cl (.comp false (.nm 1) .of [.var 0] none (.fn 0 [.var 1, .lit (.int 0), .lit (.int 255)]) [1]) [some (.tup xs), none] S).bind fun x S1 => biF .all false x S1) = _
    rw [comp_pure (g := fun x => D.bl (wh 0 255 x)) (xs := xs) (S1 := S) rfl (fun x hx => ⟨[some (.tup xs), some x], by simp [bindT, wipeE, frL_eq], rfl, by simp [evE, evEs, R.bind, hc x (h x hx)]⟩) hl]
    have hb : boolsO (xs.map fun x => D.bl (wh 0 255 x)) = some (xs.map (wh 0 255)) := by
      have := bools_map (xs.map (wh 0 255))
      rw [List.map_map] at this
      exact this
    simp [R.bind, newL, hl, biF, lz, hb, List.all_map]
  unfold f1
  generalize (E.bi .all false (.comp false (.nm 1) .of [.var 0] none (.fn 0 [.var 1, .lit (.int 0), .lit (.int 255)]) [1])) = ce at e ⊢
  by_cases ha : xs.all (wh 0 255) = true
  · rw [ha] at e
    simp [Df.run, exSs, exS, evE, R.bind, R.to, R.of, RS.bind, isT, e]
    simpa using ha
  · have ha2 : xs.all (wh 0 255) = false := by simpa using ha
    rw [ha2] at e
    rw [if_neg ha]
    simp [Df.run, exSs, exS, evE, R.bind, R.to, R.of, RS.bind, isT, e]
theorem f1_lst {xs : List D} : f1.run sub cl [.lst xs] S = .exc ⟨1, []⟩ S := by
  simp [Df.run, f1, exSs, exS, evE, R.bind, R.to, R.of, RS.bind, isT]
/-- the sums, one by one -/
def s1 : Int → List Int → Int
  | a, [] => a
  | a, z :: zs => s1 ((a + z) % 32749) zs
def s2 : Int → Int → List Int → Int
  | _, b, [] => b
  | a, b, z :: zs => s2 ((a + z) % 32749) ((b + (a + z) % 32749) % 32749) zs
theorem forL_sum : ∀ (zs : List Int) (a b : Int) (x y : Option D), ∃ y', forL (fun x env1 S2 => match bindT (.nm 1) x env1 with
    | some env2 => exSs sub cl [Mn.S.asg (.nm 2) (.bin .mod (.bin .add (.var 2) (.var 1)) (.lit (.int 32749))), Mn.S.asg (.nm 3) (.bin .mod (.bin .add (.var 3) (.var 2)) (.lit (.int 32749)))] env2 S2
    | none => .bad) (zs.map D.int) [x, y, some (.int a), some (.int b)] S = .nx [x, y', some (.int (s1 a zs)), some (.int (s2 a b zs))] S
  | [], a, b, x, y => ⟨y, rfl⟩
  | z :: zs, a, b, x, y => by
    obtain ⟨y', h⟩ := forL_sum zs ((a + z) % 32749) ((b + (a + z) % 32749) % 32749) x (some (.int z))
    refine ⟨y', ?_⟩
    rw [List.map_cons]
    unfold forL
    have e : (match bindT (.nm 1) (D.int z) [x, y, some (.int a), some (.int b)] with
      | some env2 => exSs sub cl [Mn.S.asg (.nm 2) (.bin .mod (.bin .add (.var 2) (.var 1)) (.lit (.int 32749))), Mn.S.asg (.nm 3) (.bin .mod (.bin .add (.var 3) (.var 2)) (.lit (.int 32749)))] env2 S
      | none => .bad) = .nx [x, some (.int z), some (.int ((a + z) % 32749)), some (.int ((b + (a + z) % 32749) % 32749))] S := by
      simp [bindT, frL_eq, exSs, exS, evE, R.bind, R.to, RS.bind, bop, lz, frI_eq]
    rw [e]
    exact h
theorem f2_ok {zs : List Int} : f2.run sub cl [.tup (zs.map D.int)] S = .ok (.tup [.int (s1 1 zs / 256), .int (s1 1 zs % 256), .int (s2 1 0 zs / 256), .int (s2 1 0 zs % 256)]) S := by
  obtain ⟨y, h⟩ := forL_sum (sub := sub) (cl := cl) (S := S) zs 1 0 (some (.tup (zs.map D.int))) none
  unfold f2
  have e : exS sub cl (.forr (.nm 1) .of [.var 0] [Mn.S.asg (.nm 2) (.bin .mod (.bin .add (.var 2) (.var 1)) (.lit (.int 32749))), Mn.S.asg (.nm 3) (.bin .mod (.bin .add (.var 3) (.var 2)) (.lit (.int 32749)))]) [some (.tup (zs.map D.int)), none, some (.int 1), some (.int 0)] S = .nx [some (.tup (zs.map D.int)), y, some (.int (s1 1 zs)), some (.int (s2 1 0 zs))] S := by
    rw [← h]
    rfl
  generalize (Mn.S.forr (.nm 1) .of [.var 0] [Mn.S.asg (.nm 2) (.bin .mod (.bin .add (.var 2) (.var 1)) (.lit (.int 32749))), Mn.S.asg (.nm 3) (.bin .mod (.bin .add (.var 3) (.var 2)) (.lit (.int 32749)))]) = st at e ⊢
  simp [Df.run, exSs, exS, evE, evEs, R.bind, R.to, R.of, RS.bind, bindT, bindT.bindTs, frL_eq, frI_eq, e, bop, lz, show 2 ≤ line from by decide, show 4 ≤ line from by decide]

/-- the weighed sum -/
def wt : List Int → Int
  | [] => 0
  | z :: zs => ((zs.length : Int) + 1) * z + wt zs
theorem s1_eq : ∀ (zs : List Int) (a : Int), 0 ≤ a → a < 32749 → s1 a zs = (a + zs.sum) % 32749
  | [], a, h1, h2 => by
    show a = (a + 0) % 32749
    omega
  | z :: zs, a, h1, h2 => by
    show s1 ((a + z) % 32749) zs = _
    rw [s1_eq zs _ (by omega) (by omega), List.sum_cons]
    omega
theorem s2_eq : ∀ (zs : List Int) (a b : Int), 0 ≤ b → b < 32749 → s2 a b zs = (b + zs.length * a + wt zs) % 32749
  | [], a, b, h1, h2 => by
    show b = (b + ((0 : Nat) : Int) * a + 0) % 32749
    have : ((0 : Nat) : Int) * a = 0 := by simp
    omega
  | z :: zs, a, b, h1, h2 => by
    show s2 ((a + z) % 32749) ((b + (a + z) % 32749) % 32749) zs = _
    rw [s2_eq zs _ _ (by omega) (by omega)]
    show _ = (b + ((zs.length + 1 : Nat) : Int) * a + (((zs.length : Int) + 1) * z + wt zs)) % 32749
    have e1 : ∃ q, (a + z) % 32749 = a + z - 32749 * q := ⟨(a + z) / 32749, by omega⟩
    obtain ⟨q, e1⟩ := e1
    have e2 : ∃ q2, (b + (a + z) % 32749) % 32749 = b + (a + z) % 32749 - 32749 * q2 := ⟨(b + (a + z) % 32749) / 32749, by omega⟩
    obtain ⟨q2, e2⟩ := e2
    have hc : ((zs.length + 1 : Nat) : Int) = (zs.length : Int) + 1 := by omega
    rw [e2, e1, hc]
    generalize (zs.length : Int) = L at *
    have : b + (a + z - 32749 * q) - 32749 * q2 + L * (a + z - 32749 * q) + wt zs = (b + (L + 1) * a + ((L + 1) * z + wt zs)) + 32749 * (- q - q2 - L * q) := by
      simp only [Int.mul_add, Int.add_mul, Int.mul_sub, Int.sub_mul, Int.mul_neg, Int.one_mul]
      have : L * (32749 * q) = 32749 * (L * q) := by rw [← Int.mul_assoc, Int.mul_comm L 32749, Int.mul_assoc]
      rw [this]
      omega
    rw [this, Int.add_mul_emod_self_left]
def gk (zs : List Int) (L : Int) : D → D
  | .int k => .int ((L - k) * zs.getD k.toNat 0)
  | d => d
def wts (L : Int) : Int → List Int → List Int
  | _, [] => []
  | lo, z :: zs => (L - lo) * z :: wts L (lo + 1) zs
theorem upto_mem : ∀ (n : Nat) (lo : Int) (x : D), x ∈ upto lo n → ∃ k, x = .int k ∧ lo ≤ k ∧ k < lo + n
  | 0, lo, x, h => by cases h
  | n + 1, lo, x, h => by
    have h : x ∈ D.int lo :: frI (lo + 1) fun m => upto m n := h
    rw [frI_eq] at h
    rcases List.mem_cons.mp h with e | e
    · exact ⟨lo, e, by omega, by omega⟩
    · obtain ⟨k, h1, h2, h3⟩ := upto_mem n (lo + 1) x e
      exact ⟨k, h1, by omega, by omega⟩
theorem map_gk (row : List Int) (L : Int) : ∀ (zs : List Int) (i : Nat), row.drop i = zs → (upto i zs.length).map (gk row L) = (wts L i zs).map D.int
  | [], i, h => rfl
  | z :: zs, i, h => by
    show (D.int i :: frI ((i : Int) + 1) fun m => upto m zs.length).map (gk row L) = _
    have hd : row.getD i 0 = z := by
      rw [List.getD_eq_getElem?_getD]
      have : row[i]? = some z := by
        have e : (row.drop i)[0]? = some z := by rw [h]; rfl
        rw [List.getElem?_drop] at e
        exact e
      rw [this]
      rfl
    have ih := map_gk row L zs (i + 1) (by
      have : row.drop (i + 1) = (row.drop i).drop 1 := by rw [List.drop_drop, Nat.add_comm]
      rw [this, h]
      rfl)
    rw [frI_eq, List.map_cons]
    have e2 : ((i + 1 : Nat) : Int) = (i : Int) + 1 := by omega
    rw [e2] at ih
    rw [ih]
    show D.int ((L - (i : Int)) * row.getD (i : Int).toNat 0) :: _ = D.int ((L - (i : Int)) * z) :: _
    rw [Int.toNat_natCast, hd]
theorem wts_sum (L : Int) : ∀ (zs : List Int) (lo : Int), L - lo = zs.length → (wts L lo zs).sum = wt zs
  | [], lo, h => rfl
  | z :: zs, lo, h => by
    show ((L - lo) * z :: wts L (lo + 1) zs).sum = _
    rw [List.sum_cons, wts_sum L zs (lo + 1) (by rw [List.length_cons] at h; omega), h]
    rfl
theorem walk_rng {n : Int} {x y z w : Option D} (h62 : small62 n = true) : ((evEs cl [.var 1] [x, some (.int n), y, z, w] S).bind fun ws S0 => R.of S0 (walk .rng1 ws)) = .ok (upto 0 n.toNat) S := by
  have e : walk .rng1 [.int n] = if small62 n = true then some (upto 0 n.toNat) else none := rfl
  show R.of S (walk .rng1 [.int n]) = _
  rw [e, if_pos h62]
  rfl
theorem f7_e {zs : List Int} (hl : zs.length ≤ 1000) : ∀ x : Option D, evE cl (.comp false (.nm 4) .rng1 [.var 1] none (.bin .mul (.bin .sub (.var 1) (.var 4)) (.ix (.var 0) (.var 4))) [4]) [some (.lst (zs.map D.int)), some (.int zs.length), x, none, none] S = .ok (.lst ((wts zs.length 0 zs).map D.int)) S := fun x => by
  have hl2 : zs.length ≤ line := Nat.le_trans hl (by decide)
  have h62 : small62 (zs.length : Int) = true := by
    unfold small62
    rw [Bool.and_eq_true, decide_eq_true_eq, decide_eq_true_eq]
    omega
  rw [comp_pure (g := gk zs zs.length) (xs := upto 0 zs.length) (S1 := S) (walk_rng h62) (fun x hx => ?_) (by rw [upto_length]; exact hl2)]
  · have := map_gk zs zs.length zs 0 rfl
    rw [show ((0 : Nat) : Int) = 0 from rfl] at this
    rw [this]
    unfold newL
    have hw : ∀ (L : Int) (zs : List Int) (lo : Int), (wts L lo zs).length = zs.length := fun L zs => by
      induction zs with
      | nil => exact fun _ => rfl
      | cons z zs ih =>
        intro lo
        show (wts L (lo + 1) zs).length + 1 = zs.length + 1
        rw [ih]
    rw [if_pos (by rw [List.length_map, hw]; exact hl2)]
    rfl
  · obtain ⟨k, rfl, h1, h2⟩ := upto_mem _ _ _ hx
    refine ⟨[some (.lst (zs.map D.int)), some (.int zs.length), _, none, some (.int k)], by simp [bindT, wipeE, frL_eq]; rfl, rfl, ?_⟩
    have hn : nth (zs.map D.int) k = some (.int (zs.getD k.toNat 0)) := by
      unfold nth
      rw [if_pos h1, List.getElem?_map]
      have hk : k.toNat < zs.length := by omega
      rw [List.getD_eq_getElem?_getD, List.getElem?_eq_getElem hk]
      rfl
    have hs : sml ((zs.length : Int) - k) = true := by
      unfold sml
      rw [decide_eq_true_eq]
      omega
    simp [evE, R.bind, R.of, bop, lz, frI_eq, ixf, hn, hs, gk]

theorem f7_c {n : Int} {ws : List Int} {x y z w : Option D} {ce : E} (e : evE cl ce [y, some (.int n), x, z, w] S = .ok (.lst (ws.map D.int)) S) :
    evE cl (.bin .mod (.bi .int false (.bin .add (.var 1) (.bi .sum false ce))) (.lit (.int 32749))) [y, some (.int n), x, z, w] S = .ok (.int ((n + ws.sum) % 32749)) S := by
  simp [evE, R.bind, bop, lz, biF, ints_map, frI_eq, e]
theorem f7_ok {zs : List Int} (hl : zs.length ≤ 1000) : f7.run sub cl [.lst (zs.map D.int)] S = .ok (.lst [.int ((1 + zs.sum) % 32749 / 256), .int ((1 + zs.sum) % 32749 % 256), .int (((zs.length : Int) + wt zs) % 32749 / 256), .int (((zs.length : Int) + wt zs) % 32749 % 256)]) S := by
  refine df_rt rfl rfl ?_
  show exSs sub cl f7.body [some (.lst (zs.map D.int)), none, none, none, none] S = _
  unfold f7
  refine (sq (asg_nm (d := .int zs.length) (S1 := S) (by simp [evE, R.bind, biF, lz, frN_eq]) (by simp))).trans ?_
  refine (sq (asg_nm (d := .int ((1 + zs.sum) % 32749)) (S1 := S) (by simp [evE, R.bind, bop, lz, biF, ints_map, frI_eq]) (by simp))).trans ?_
  have e := f7_e (cl := cl) (S := S) hl (some (.int ((1 + zs.sum) % 32749)))
  have e2 := wts_sum zs.length zs 0 (by omega)
  have e3 := f7_c e
  rw [e2] at e3
  replace e3 : evE cl _ (([some (D.lst (List.map D.int zs)), none, none, none, none].set 1 (some (D.int ↑zs.length))).set 2 (some (D.int ((1 + zs.sum) % 32749)))) S = _ := e3
  refine (sq (asg_nm e3 (by simp))).trans ?_
  · show exSs sub cl _ [some (.lst (zs.map D.int)), some (.int zs.length), some (.int ((1 + zs.sum) % 32749)), some (.int (((zs.length : Int) + wt zs) % 32749)), none] S = _
    generalize (zs.length : Int) = n
    generalize (1 + zs.sum) % 32749 = A
    generalize (n + wt zs) % 32749 = B
    refine sq_rt (ret_ok ?_)
    simp [evE, evEs, R.bind, biF, lz, bop, frI_eq, newL, show 4 ≤ line from by decide]
end
end LawP

namespace LawP
open Mn Law
abbrev rn := run (subT T) ds
theorem sum_of_eq {zs : List Int} : (s1 1 zs / 256 = (1 + zs.sum) % 32749 / 256 ∧ s1 1 zs % 256 = (1 + zs.sum) % 32749 % 256) ∧ (s2 1 0 zs / 256 = ((zs.length : Int) + wt zs) % 32749 / 256 ∧ s2 1 0 zs % 256 = ((zs.length : Int) + wt zs) % 32749 % 256) := by
  rw [s1_eq zs 1 (by omega) (by omega), s2_eq zs 1 0 (by omega) (by omega)]
  have e : (0 : Int) + zs.length * 1 + wt zs = zs.length + wt zs := by omega
  rw [e]
  exact ⟨⟨rfl, rfl⟩, rfl, rfl⟩
/-- the four bytes -/
def four (zs : List Int) : List D := [.int ((1 + zs.sum) % 32749 / 256), .int ((1 + zs.sum) % 32749 % 256), .int (((zs.length : Int) + wt zs) % 32749 / 256), .int (((zs.length : Int) + wt zs) % 32749 % 256)]
section
variable {k : Nat} {S : Sto}
theorem r0 {x : D} {lo hi : Int} (h : known x = true) : rn (k + 1) 0 [x, .int lo, .int hi] S = .ok (.bl (wh lo hi x)) S := f0_ok h
theorem r1 {xs : List D} (h : ∀ x ∈ xs, known x = true) (hl : xs.length ≤ line) : rn (k + 2) 1 [.tup xs] S = if xs.all (wh 0 255) = true then .ok .non S else .exc ⟨1, []⟩ S := f1_ok (cl := rn (k + 1)) h hl fun x hx => r0 hx
theorem r1l {xs : List D} : rn (k + 2) 1 [.lst xs] S = .exc ⟨1, []⟩ S := f1_lst (sub := subT T) (cl := rn (k + 1))
theorem r2 {zs : List Int} : rn (k + 1) 2 [.tup (zs.map D.int)] S = .ok (.tup (four zs)) S := by
  obtain ⟨⟨e1, e2⟩, e3, e4⟩ := sum_of_eq (zs := zs)
  have := f2_ok (sub := subT T) (cl := rn k) (S := S) (zs := zs)
  rw [e1, e2, e3, e4] at this
  exact this
theorem f3_ok {cl : Calls} {x y d : D} (h1 : cl 1 [x] S = .ok y S) (h2 : cl 2 [x] S = .ok d S) : f3.run (subT T) cl [x] S = .ok d S :=
  df_rt rfl rfl ((sq (ex_ok (d := y) (S1 := S) (by simp [evE, evEs, R.bind, h1]))).trans (sq_rt (ret_ok (by simp [evE, evEs, R.bind, h2]))))
theorem f3_exc {cl : Calls} {x : D} (h1 : cl 1 [x] S = .exc ⟨1, []⟩ S) : f3.run (subT T) cl [x] S = .exc ⟨1, []⟩ S :=
  df_exc rfl rfl (sq_exc (ex_exc (by simp [evE, evEs, R.bind, h1])))
theorem known_int (zs : List Int) : ∀ x ∈ zs.map D.int, known x = true := fun x hx => by
  obtain ⟨z, _, rfl⟩ := List.mem_map.mp hx
  rfl
theorem all_int {zs : List Int} (h : ∀ z ∈ zs, 0 ≤ z ∧ z < 256) : (zs.map D.int).all (wh 0 255) = true := by
  rw [List.all_eq_true]
  intro x hx
  obtain ⟨z, hz, rfl⟩ := List.mem_map.mp hx
  have := h z hz
  unfold wh
  rw [Bool.and_eq_true, decide_eq_true_eq, decide_eq_true_eq]
  omega
theorem r3 {zs : List Int} (h : ∀ z ∈ zs, 0 ≤ z ∧ z < 256) (hl : zs.length ≤ 1000) : rn (k + 3) 3 [.tup (zs.map D.int)] S = .ok (.tup (four zs)) S := by
  refine f3_ok (cl := rn (k + 2)) (y := .non) ?_ r2
  rw [r1 (known_int zs) (by rw [List.length_map]; exact Nat.le_trans hl (by decide)), if_pos (all_int h)]
theorem r3x {xs : List D} (h : ∀ x ∈ xs, known x = true) (hl : xs.length ≤ line) (hb : xs.all (wh 0 255) = false) : rn (k + 3) 3 [.tup xs] S = .exc ⟨1, []⟩ S := by
  refine f3_exc (cl := rn (k + 2)) ?_
  rw [r1 h hl, hb]
  rfl
theorem f8_exc {cl : Calls} {x : D} (h : cl 3 [x] S = .exc ⟨1, []⟩ S) : f8.run (subT T) cl [x] S = .ok (.bl true) S := by
  refine df_rt rfl rfl (sq_rt ?_)
  have e : exSs (subT T) cl [Mn.S.asg (.nm 2) (.fn 3 [.var 0])] ([x].map some ++ List.replicate (f8.ns - f8.np) none) S = .exc ⟨1, []⟩ [some x, none, none] S := by
    refine sq_exc ?_
    show (evE cl (.fn 3 [.var 0]) [some x, none, none] S).to _ _ = _
    rw [show evE cl (.fn 3 [.var 0]) [some x, none, none] S = .exc ⟨1, []⟩ S by simp [evE, evEs, R.bind, h]]
    rfl
  show (match exSs (subT T) cl [Mn.S.asg (.nm 2) (.fn 3 [.var 0])] ([x].map some ++ List.replicate (f8.ns - f8.np) none) S with
    | .exc x env1 S1 => hdls (subT T) x env1 S1 [(0, .isx 1 1)]
    | r => r) = _
  rw [e]
  rfl
theorem r8 {xs : List D} (h : ∀ x ∈ xs, known x = true) (hl : xs.length ≤ line) (hb : xs.all (wh 0 255) = false) : rn (k + 4) 8 [.tup xs] S = .ok (.bl true) S := f8_exc (cl := rn (k + 3)) (r3x h hl hb)
theorem r8l {xs : List D} : rn (k + 4) 8 [.lst xs] S = .ok (.bl true) S := f8_exc (cl := rn (k + 3)) (f3_exc (cl := rn (k + 2)) r1l)
theorem r7 {zs : List Int} (hl : zs.length ≤ 1000) : rn (k + 1) 7 [.lst (zs.map D.int)] S = .ok (.lst (four zs)) S := f7_ok (cl := rn k) hl
theorem r5 {n : Nat} (h : Cup n S) {many : Int} (h1 : 0 < many) (h2 : many < 1073741824) : ∃ r S', rn (k + 1) 5 [.ref n, .int many] S = .ok (.int r) S' ∧ 0 ≤ r ∧ r < many ∧ Cup n S' ∧ Upc n S S' := roll_ok (cl := rn k) h h1 h2
theorem r4 {ns : List Int} (hn : ns.length ≤ 63) : ∃ S', rn (k + 1) 4 [.scr ns] S = .ok (.ref S.next) S' ∧ Cup S.next S' ∧ S'.next = S.next + 1 ∧ ∀ m, m ≠ S.next → S'.get m = S.get m := cup_ok (cl := rn k) hn S
theorem r6 {n : Nat} (h : Cup n S) {ts : List D} (h1 : 0 < ts.length) (h2 : ts.length ≤ 1000) : ∃ d S', rn (k + 2) 6 [.ref n, .lst ts] S = .ok d S' ∧ d ∈ ts ∧ Cup n S' ∧ Upc n S S' := by
  obtain ⟨r, S', e, a, b, c, u⟩ := r5 (k := k) h (many := ts.length) (by omega) (by omega)
  have hr : r.toNat < ts.length := by omega
  refine ⟨ts[r.toNat], S', df_rt rfl rfl (sq_rt (ret_ok ?_)), List.getElem_mem hr, c, u⟩
  have hn : nth ts r = some ts[r.toNat] := by
    unfold nth
    rw [if_pos a, List.getElem?_eq_getElem hr]
  show (R.ok (D.lst ts) S).bind _ = _
  show (evE (rn (k + 1)) (.fn 5 [.var 0, .bi .len false (.var 1)]) [some (.ref n), some (.lst ts)] S).bind (fun y S2 => R.of S2 (ixf (.lst ts) y S2)) = _
  have e2 : evE (rn (k + 1)) (.fn 5 [.var 0, .bi .len false (.var 1)]) [some (.ref n), some (.lst ts)] S = .ok (.int r) S' := by
    rw [← e]
    generalize rn (k + 1) = cl
    simp [evE, evEs, R.bind, biF, lz, frN_eq]
  rw [e2]
  show R.of S' (nth ts r) = _
  rw [hn]
  rfl

end
theorem four_okD (zs : List Int) : shwD (.tup (four zs)) = true := by
  have lg : ∀ i : Int, 0 ≤ i → i < 256 → i.natAbs.log2 < 8 := fun i h1 h2 => by
    rcases log2_lt (n := 8) h1 (by simpa using h2) with h | h
    · exact h
    · subst h
      decide
  have b : ∀ x : Int, (0 ≤ x % 32749 / 256 ∧ x % 32749 / 256 < 256) ∧ (0 ≤ x % 32749 % 256 ∧ x % 32749 % 256 < 256) := fun x => by omega
  obtain ⟨⟨a1, a2⟩, a3, a4⟩ := b (1 + zs.sum)
  obtain ⟨⟨c1, c2⟩, c3, c4⟩ := b ((zs.length : Int) + wt zs)
  unfold four
  have l1 := lg _ a1 a2
  have l2 := lg _ a3 a4
  have l3 := lg _ c1 c2
  have l4 := lg _ c3 c4
  generalize (1 + zs.sum) % 32749 / 256 = A at *
  generalize (1 + zs.sum) % 32749 % 256 = B at *
  generalize ((zs.length : Int) + wt zs) % 32749 / 256 = C at *
  generalize ((zs.length : Int) + wt zs) % 32749 % 256 = E at *
  have f1 : decide (A.natAbs.log2 < 1920) = true := decide_eq_true (by omega)
  have f2 : decide (B.natAbs.log2 < 1920) = true := decide_eq_true (by omega)
  have f3 : decide (C.natAbs.log2 < 1920) = true := decide_eq_true (by omega)
  have f4 : decide (E.natAbs.log2 < 1920) = true := decide_eq_true (by omega)
  have e1 : smD (.tup [.int A, .int B, .int C, .int E]) = true := by
    show (decide (A.natAbs.log2 < 1920) && (decide (B.natAbs.log2 < 1920) && (decide (C.natAbs.log2 < 1920) && (decide (E.natAbs.log2 < 1920) && true)))) = true
    rw [f1, f2, f3, f4]
    rfl
  have e2 : shL (.tup [.int A, .int B, .int C, .int E]) ≤ 16777216 := by
    show (A.natAbs.log2 + 3) + 2 + ((B.natAbs.log2 + 3) + 2 + ((C.natAbs.log2 + 3) + 2 + ((E.natAbs.log2 + 3) + 2 + 0))) + 4 ≤ 16777216
    omega
  unfold shwD
  rw [e1, decide_eq_true e2]
  rfl
theorem eq_rep (x : D) (S : Sto) : cop .eq (.rep x) (.rep x) S = some true := by
  show (if D.beq x x = true then some true else none) = some true
  rw [if_pos (D.beq_rfl x)]
theorem ne_rep (x : D) (S : Sto) : cop .ne (.rep x) (.rep x) S = some false := by
  show (if D.beq x x = true then some true else none).map not = some false
  rw [if_pos (D.beq_rfl x)]
  rfl
theorem ne_ints (zs : List Int) (S : Sto) : cop .ne (.tup (zs.map D.int)) (.tup (zs.map D.int)) S = some false := by
  have e : eqOf (.tup (zs.map D.int)) (.tup (zs.map D.int)) = some true := by
    unfold eqOf
    have h1 : okD (.tup (zs.map D.int)) = true := okDs_int zs
    have h2 : dpt (.tup (zs.map D.int)) = 1 := by
      show dpts (zs.map D.int) + 1 = 1
      rw [dpts_int]
    have h3 : peq (.tup (zs.map D.int)) (.tup (zs.map D.int)) = true := peqs_int zs
    rw [h1, h2, h3]
    rfl
  show (eqD (.tup (zs.map D.int)) (.tup (zs.map D.int))).map not = some false
  show (eqOf (.tup (zs.map D.int)) (.tup (zs.map D.int))).map not = some false
  rw [e]
  rfl
section
variable {k : Nat} {S : Sto}
theorem bnd_len {n : Nat} {r : Int} (h1 : 0 ≤ r) (h2 : r < n + 1) (d : Nat) : bnd n d (some r) = r.toNat := by
  unfold bnd
  dsimp only
  rw [if_neg (by omega)]
  split
  · rfl
  · omega
theorem cut_lo {xs : List D} {r : Int} (h1 : 0 ≤ r) (h2 : r < xs.length + 1) : cut xs none (some r) = xs.take r.toNat := by
  unfold cut
  rw [bnd_len h1 h2]
  show (xs.drop 0).take (r.toNat - 0) = _
  rw [List.drop_zero, Nat.sub_zero]
theorem cut_hi {xs : List D} {r : Int} (h1 : 0 ≤ r) (h2 : r < xs.length + 1) : cut xs (some r) none = xs.drop r.toNat := by
  unfold cut
  rw [bnd_len h1 h2]
  show (xs.drop r.toNat).take (xs.length - r.toNat) = _
  rw [List.take_of_length_le (by rw [List.length_drop]; omega)]
def bads : List D := [.int 256, .int (-1), .bl true, .str [49], .non, .tup [.int 1], .int (10 ^ 60 * 10 ^ 20)]
theorem bad_known : ∀ d ∈ bads, known d = true ∧ wh 0 255 d = false := by
  intro d hd
  simp only [bads, List.mem_cons, List.not_mem_nil, or_false] at hd
  rcases hd with rfl | rfl | rfl | rfl | rfl | rfl | rfl <;> decide
theorem tail_gen {cl : Calls} {xs fo : List D} {sc d : D} {S S1 S2 : Sto} {r : Int} {n : Nat} (hln : xs.length = n)
    (er : cl 5 [D.ref 0, D.int ((n : Int) + 1)] S = R.ok (D.int r) S1) (ed : cl 6 [D.ref 0, D.lst bads] S1 = R.ok d S2) (n2 : cop CO.ne (D.tup xs) (D.tup xs) S = some false) (cl1 : cut xs none (some r) = List.take r.toNat xs) (cl2 : cut xs (some r) none = List.drop r.toNat xs)
    (w1 : (List.take r.toNat xs).length + 1 ≤ line) (w2 : (List.take r.toNat xs).length + 1 + (List.drop r.toNat xs).length ≤ line) (h8 : cl 8 [D.tup (List.take r.toNat xs ++ [d] ++ List.drop r.toNat xs)] S2 = R.ok (D.bl true) S2) (h8l : cl 8 [D.lst xs] S2 = R.ok (D.bl true) S2)
    (sh : shwD (D.tup fo) = true) (n1 : cop CO.ne (D.tup fo).rep (D.tup fo).rep S = some false) (n3 : cop CO.eq (D.tup fo).rep (D.tup fo).rep S2 = some true) (h7 : cl 7 [D.lst xs] S = R.ok (D.lst fo) S) (h3 : cl 3 [D.tup xs] S = R.ok (D.tup fo) S) (h3b : cl 3 [D.tup xs] S2 = R.ok (D.tup fo) S2) :
    exSs (subT T) cl (f9.body.drop 3) [some sc, some (.ref 0), some (.lst xs), none, none, none, none, none] S = .rt (.bl true) S2 := by
  have v : ∀ (i : Nat) {env : Env} {d : D} {S : Sto}, env[i]? = some (some d) → evE cl (.var i) env S = .ok d S := fun i env d S h => by
    show (match env[i]? with
      | some (some d) => R.ok d S
      | _ => .bad) = _
    rw [h]
  refine (sq (asg_tp2 (x := .tup xs) (y := .rep (.tup fo)) (S1 := S) (ev_tup2 (ev_bi (v 2 rfl) rfl) (ev_bi (ev_bi (ev_fn1 (v 2 rfl) h7) rfl) (rep_tup sh))) (by simp) (by simp))).trans ?_
  show exSs (subT T) cl _ [some sc, some (.ref 0), some (.lst xs), none, none, some (.tup xs), some (.rep (.tup fo)), none] S = _
  refine (sq ((ifs_f (S1 := S) (ev_borF (ev_cmp (ev_bi (ev_fn1 (v 5 rfl) h3) (rep_tup sh)) (v 6 rfl) n1) (ev_cmp (v 5 rfl) (ev_bi (v 2 rfl) rfl) n2))).trans rfl)).trans ?_
  have er2 : cl 5 [D.ref 0, D.int ((xs.length : Int) + 1)] S = R.ok (D.int r) S1 := by rw [hln]; exact er
  refine (sq (asg_nm (d := .int r) (S1 := S1) (ev_fn2 (v 1 rfl) (ev_bin (ev_bi (v 2 rfl) len_lst) rfl add_int) er2) (by simp))).trans ?_
  show exSs (subT T) cl _ [some sc, some (.ref 0), some (.lst xs), some (.int r), none, some (.tup xs), some (.rep (.tup fo)), none] S1 = _
  refine (sq (asg_nm (d := d) (S1 := S2) (ev_fn2 (y := .lst bads) (v 1 rfl) rfl ed) (by simp))).trans ?_
  show exSs (subT T) cl _ [some sc, some (.ref 0), some (.lst xs), some (.int r), some d, some (.tup xs), some (.rep (.tup fo)), none] S2 = _
  have w3 : (xs.take r.toNat ++ [d]).length + (xs.drop r.toNat).length ≤ line := by
    rw [List.length_append]
    exact w2
  have c1 : cutf (.lst xs) none (some r) S2 = some (.lst (xs.take r.toNat)) := by
    show some (D.lst (cut xs none (some r))) = _
    rw [cl1]
  have c2 : cutf (.lst xs) (some r) none S2 = some (.lst (xs.drop r.toNat)) := by
    show some (D.lst (cut xs (some r) none)) = _
    rw [cl2]
  refine (sq ((ifs_f (S1 := S2) (ev_borF (ev_not (ev_fn1 (ev_bi (ev_bin (ev_bin (ev_slcL (v 2 rfl) (v 3 rfl) c1) (ev_lst1 (v 4 rfl)) (add_lst w1)) (ev_slcH (v 2 rfl) (v 3 rfl) c2) (add_lst w3)) rfl) h8)) (ev_not (ev_fn1 (v 2 rfl) h8l)))).trans rfl)).trans ?_
  exact sq_rt (ret_ok (ev_cmp (ev_bi (ev_fn1 (ev_bi (v 2 rfl) rfl) h3b) (rep_tup sh)) (v 6 rfl) n3))
/-- behind the row -/
theorem tail_ok {zs : List Int} {sc : D} (hz : ∀ z ∈ zs, 0 ≤ z ∧ z < 256) (hl : zs.length ≤ 800) (c : Cup 0 S) : ∃ S', exSs (subT T) (rn (k + 9)) (f9.body.drop 3) [some sc, some (.ref 0), some (.lst (zs.map D.int)), none, none, none, none, none] S = .rt (.bl true) S' := by
  have hln : (zs.map D.int).length = zs.length := List.length_map _
  obtain ⟨r, S1, er, a1, b1, c1, u1⟩ := r5 (k := k + 8) c (many := (zs.length : Int) + 1) (by omega) (by omega)
  obtain ⟨d, S2, ed, hd, c2, u2⟩ := r6 (k := k + 7) c1 (ts := bads) (by decide) (by decide)
  obtain ⟨hk, hw⟩ := bad_known d hd
  have h7 := r7 (k := k + 8) (S := S) (zs := zs) (by omega)
  have h3 := r3 (k := k + 6) (S := S) hz (by omega)
  have h3b := r3 (k := k + 6) (S := S2) hz (by omega)
  have sh := four_okD zs
  refine ⟨S2, ?_⟩
  have row : ∀ x ∈ (zs.map D.int).take r.toNat ++ [d] ++ (zs.map D.int).drop r.toNat, known x = true := fun x hx => by
    rw [List.mem_append, List.mem_append] at hx
    rcases hx with (hx | hx) | hx
    · exact known_int zs x (List.mem_of_mem_take hx)
    · rw [List.mem_singleton.mp hx]
      exact hk
    · exact known_int zs x (List.mem_of_mem_drop hx)
  have rowl : ((zs.map D.int).take r.toNat ++ [d] ++ (zs.map D.int).drop r.toNat).length ≤ 1000 := by
    simp
    omega
  have rowb : ((zs.map D.int).take r.toNat ++ [d] ++ (zs.map D.int).drop r.toNat).all (wh 0 255) = false := by
    rw [List.all_append, List.all_append]
    have : [d].all (wh 0 255) = false := by simp [hw]
    rw [this, Bool.and_false, Bool.false_and]
  have h8 := r8 (k := k + 5) (S := S2) row (Nat.le_trans rowl (by decide)) rowb
  have h8l := r8l (k := k + 5) (S := S2) (xs := zs.map D.int)
  have n1 := ne_rep (.tup (four zs)) S
  have n2 := ne_ints zs S
  have n3 := eq_rep (.tup (four zs)) S2
  have cl1 : cut (zs.map D.int) none (some r) = (zs.map D.int).take r.toNat := cut_lo a1 (by rw [hln]; omega)
  have cl2 : cut (zs.map D.int) (some r) none = (zs.map D.int).drop r.toNat := cut_hi a1 (by rw [hln]; omega)
  have w1 : ((zs.map D.int).take r.toNat).length + 1 ≤ line := Nat.le_trans (by simp; omega) (show 1000 ≤ line by decide)
  have w2 : ((zs.map D.int).take r.toNat).length + 1 + ((zs.map D.int).drop r.toNat).length ≤ line := Nat.le_trans (by simp; omega) (show 1000 ≤ line by decide)
  exact tail_gen hln er ed n2 cl1 cl2 w1 w2 h8 h8l sh n1 n3 h7 h3 h3b

theorem go (ns : List Int) (hn : ns.length ≤ 63) : ∃ S', rn 60 9 [.scr ns] ⟨0, []⟩ = .ok (.bl true) S' := by
  obtain ⟨S1, e1, c1, _⟩ := r4 (k := 58) (S := ⟨0, []⟩) hn
  have c1 : Cup 0 S1 := c1
  obtain ⟨r, S2, e2, a2, b2, c2, u2⟩ := r5 (k := 58) c1 (many := 40) (by decide) (by decide)
  have v : ∀ (i : Nat) {env : Env} {d : D} {S : Sto}, env[i]? = some (some d) → evE (rn 59) (.var i) env S = .ok d S := fun i env d S h => by
    show (match env[i]? with
      | some (some d) => R.ok d S
      | _ => .bad) = _
    rw [h]
  have h62 : small62 r = true := by
    unfold small62
    rw [Bool.and_eq_true, decide_eq_true_eq, decide_eq_true_eq]
    omega
  have hits : ((evEs (rn 59) [.fn 5 [.var 1, .lit (.int 40)]] [some (.scr ns), some (.ref 0), none, none, none, none, none, none] S1).bind fun ws S0 => R.of S0 (walk .rng1 ws)) = .ok (upto 0 r.toNat) S2 := by
    have q : evE (rn 59) (.fn 5 [.var 1, .lit (.int 40)]) [some (.scr ns), some (.ref 0), none, none, none, none, none, none] S1 = .ok (.int r) S2 := ev_fn2 (v 1 rfl) rfl e2
    have w : walk .rng1 [.int r] = if small62 r = true then some (upto 0 r.toNat) else none := rfl
    show (((evE (rn 59) (.fn 5 [.var 1, .lit (.int 40)]) _ S1).bind _).bind _) = _
    rw [q]
    show R.of S2 (walk .rng1 [.int r]) = _
    rw [w, if_pos h62]
    rfl
  obtain ⟨zs, S3, e3, l3, p3, c3, u3⟩ := comp_draw (cl := rn 59) (t := .nm 7) (cond := none) (e := .fn 5 [.var 1, .lit (.int 256)]) (own := [7]) (n := 0) (P := fun z => 0 ≤ z ∧ z < 256) hits c2 (fun x S c => by
    obtain ⟨z, S', q, a, b, c', u⟩ := r5 (k := 58) c (many := 256) (by decide) (by decide)
    refine ⟨[some (.scr ns), some (.ref 0), none, none, none, none, none, some x], z, S', ?_, rfl, ev_fn2 (v 1 rfl) rfl q, ⟨a, b⟩, c', u⟩
    show (if 7 < 8 then frL _ some else none) = _
    rw [if_pos (by decide), frL_eq]
    rfl) (by
    rw [upto_length]
    show r.toNat ≤ 16777216
    omega)
  rw [upto_length] at l3
  obtain ⟨t, S4, e4, a4, b4, c4, u4⟩ := r5 (k := 58) c3 (many := 5) (by decide) (by decide)
  have he : rn 60 9 [.scr ns] ⟨0, []⟩ = f9.run (subT T) (rn 59) [.scr ns] ⟨0, []⟩ := rfl
  rw [he]
  have main : ∀ (ws : List Int) (S : Sto), (∀ z ∈ ws, 0 ≤ z ∧ z < 256) → ws.length ≤ 800 → Cup 0 S →
      exS (subT T) (rn 59) (f9.body.getD 2 .pas) [some (.scr ns), some (.ref 0), some (.lst (zs.map D.int)), none, none, none, none, none] S3 = .nx [some (.scr ns), some (.ref 0), some (.lst (ws.map D.int)), none, none, none, none, none] S → ∃ S', f9.run (subT T) (rn 59) [.scr ns] ⟨0, []⟩ = .ok (.bl true) S' := fun ws S hw hl c h => by
    obtain ⟨S', e⟩ := tail_ok (k := 50) (sc := .scr ns) hw hl c
    refine ⟨S', df_rt rfl rfl ?_⟩
    refine (sq (asg_nm (d := .ref 0) (S1 := S1) (ev_fn1 (v 0 rfl) e1) (by simp [f9]))).trans ?_
    refine (sq (asg_nm (d := .lst (zs.map D.int)) (S1 := S3) e3 (by simp [f9]))).trans ?_
    exact (sq h).trans e
  by_cases ht : t = 0
  · subst ht
    obtain ⟨z, S5, e5, a5, b5, c5, u5⟩ := r5 (k := 58) c4 (many := 256) (by decide) (by decide)
    obtain ⟨m, S6, e6, a6, b6, c6, u6⟩ := r5 (k := 58) c5 (many := 700) (by decide) (by decide)
    have hrep : repD m.toNat [D.int z] = (List.replicate m.toNat z).map D.int := by
      unfold repD
      rw [List.map_replicate]
      induction m.toNat with
      | zero => rfl
      | succ n ih => rw [List.replicate_succ, List.flatten_cons, ih, List.replicate_succ]; rfl
    refine main (zs ++ List.replicate m.toNat z) S6 (fun w hw => ?_) (by simp; omega) c6 ?_
    · rcases List.mem_append.mp hw with h | h
      · exact p3 w h
      · rw [(List.mem_replicate.mp h).2]
        exact ⟨a5, b5⟩
    · have q : evE (rn 59) (.cmp .eq (.fn 5 [.var 1, .lit (.int 5)]) (.lit (.int 0))) [some (.scr ns), some (.ref 0), some (.lst (zs.map D.int)), none, none, none, none, none] S3 = .ok (.bl true) S4 := ev_cmp (ev_fn2 (v 1 rfl) rfl e4) rfl rfl
      have hm : bop .mul (.lst [.int z]) (.int m) S6 = .ok (.lst ((List.replicate m.toNat z).map D.int)) S6 := by
        have : (decide (-9223372036854775808 ≤ m) && decide (m < 9223372036854775808) && decide ([D.int z].length * m.toNat ≤ line)) = true := by
          rw [Bool.and_eq_true, Bool.and_eq_true, decide_eq_true_eq, decide_eq_true_eq, decide_eq_true_eq]
          refine ⟨⟨by omega, by omega⟩, ?_⟩
          show 1 * m.toNat ≤ 16777216
          omega
        show (if (decide (-9223372036854775808 ≤ m) && decide (m < 9223372036854775808) && decide ([D.int z].length * m.toNat ≤ line)) = true then frL (repD m.toNat [D.int z]) fun r => R.ok (D.lst r) S6 else .bad) = _
        rw [if_pos this, frL_eq, hrep]
      refine (ifs_t q).trans ?_
      refine (sq (asg_nm (d := .lst ((zs ++ List.replicate m.toNat z).map D.int)) (S1 := S6) (ev_bin (v 2 rfl) (ev_bin (ev_lst1 (ev_fn2 (v 1 rfl) rfl e5)) (ev_fn2 (v 1 rfl) rfl e6) hm) ?_) (by simp))).trans rfl
      rw [add_lst, List.map_append]
      rw [List.length_map, List.length_map, List.length_replicate]
      show _ ≤ 16777216
      omega
  · refine main zs S4 p3 (by omega) c4 ?_
    have q : evE (rn 59) (.cmp .eq (.fn 5 [.var 1, .lit (.int 5)]) (.lit (.int 0))) [some (.scr ns), some (.ref 0), some (.lst (zs.map D.int)), none, none, none, none, none] S3 = .ok (.bl false) S4 := by
      refine ev_cmp (ev_fn2 (v 1 rfl) rfl e4) rfl ?_
      show some (decide (t = 0)) = some false
      rw [decide_eq_false ht]
    exact (ifs_f q).trans rfl
end
end LawP
theorem PySem.Challenge.cw_gasahead_k14_sums_of_rows_holds : PySem.Challenge.rw_gasahead_k14_sums_of_rows.Holds := by
  exact Law.holds Law.ds Law.hc LawP.go

