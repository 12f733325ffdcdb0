import PyProof.Rows.All
import Wide.All
import OpenK.AllK
import Wide.FinOn
import PySem.Syntax
import HandS.HeadHook1
import HandS.ForMost
import HandS.Exc
import HandS.ExcOwn
import HandS.TryOnly
import HandS.WordsExc
import HandS.IsInst
import HandS.ExcIs
import HandS.Zip
import HandS.TupAny
import HandS.Wide
import HandS.Style
import PyProof.ReprRoads
import HandS.TupMul
import HandS.Text
import PyProof.StrLawsRepr
import PyProof.FitsInt
import HandS.Lambda
import HandS.Defaults
import HandS.More
import PyProof.EqAt
import KE.GoesMore
import HandS.Strs
import HandS.TryMany
import KE.KStateDown
import HandS.Ends
import HandS.Head0
import HandS.Head1
import HandS.Head2
import HandS.HeadEnd
import HandS.HeadHook2
import HandS.HeadHook3
import PySem.Challenge.RW_gasahead_k28_whole_orders_of_statements
set_option Elab.async false
set_option linter.all false
set_option autoImplicit false
set_option maxRecDepth 100000
set_option maxHeartbeats 0
/-! A small machine: values as trees, a store of cells, code with slots. -/
namespace Mn

inductive D where
  | non | bl (b : Bool) | int (i : Int) | str (s : List Nat) | rep (d : D) | tup (k : Bool) (xs : List D) | lst (xs : List D) | ref (n : Nat) | scr (ns : List Int)

mutual
def D.beq : D → D → Bool
  | .non, .non => true
  | .bl a, .bl b => a == b
  | .int a, .int b => decide (a = b)
  | .str a, .str b => decide (a = b)
  | .rep a, .rep b => D.beq a b
  | .tup _ a, .tup _ b => D.beqs a b
  | .lst a, .lst b => D.beqs a b
  | .ref a, .ref b => decide (a = b)
  | .scr a, .scr b => decide (a = b)
  | _, _ => false
def D.beqs : List D → List D → Bool
  | [], [] => true
  | a :: as, b :: bs => D.beq a b && D.beqs as bs
  | _, _ => false
end
mutual
theorem D.beq_rfl : ∀ a : D, D.beq a a = true
  | .non => rfl
  | .bl a => by simp [D.beq]
  | .int a => by simp [D.beq]
  | .str a => by simp [D.beq]
  | .rep a => by simp [D.beq, D.beq_rfl a]
  | .tup _ a => by simp [D.beq, D.beqs_rfl a]
  | .lst a => by simp [D.beq, D.beqs_rfl a]
  | .ref a => by simp [D.beq]
  | .scr a => by simp [D.beq]
theorem D.beqs_rfl : ∀ a : List D, D.beqs a a = true
  | [] => rfl
  | a :: as => by simp [D.beqs, D.beq_rfl a, D.beqs_rfl as]
end

/-- Python's == on data -/
def eqI (i : Int) (b : Bool) : Bool := decide (i = if b then 1 else 0)
mutual
def peq : D → D → Bool
  | .non, .non => true
  | .bl a, .bl b => a == b
  | .bl a, .int j => eqI j a
  | .int i, .bl b => eqI i b
  | .int i, .int j => decide (i = j)
  | .str a, .str b => decide (a = b)
  | .tup _ a, .tup _ b => peqs a b
  | .lst a, .lst b => peqs a b
  | _, _ => false
def peqs : List D → List D → Bool
  | [], [] => true
  | a :: as, b :: bs => peq a b && peqs as bs
  | _, _ => false
end
mutual
/-- data alone, texts within Unicode -/
def okD : D → Bool
  | .non | .bl _ | .int _ => true
  | .str s => s.all (· < 0x110000)
  | .tup _ xs | .lst xs => okDs xs
  | .rep _ | .ref _ | .scr _ => false
def okDs : List D → Bool
  | [] => true
  | x :: xs => okD x && okDs xs
end
mutual
def dpt : D → Nat
  | .tup _ xs | .lst xs => dpts xs + 1
  | _ => 0
def dpts : List D → Nat
  | [] => 0
  | x :: xs => max (dpt x) (dpts xs)
end
mutual
/-- whole numbers in it have fewer than 1920 bits -/
def smD : D → Bool
  | .int i => decide (i.natAbs.log2 < 1920)
  | .tup _ xs | .lst xs => smDs xs
  | _ => true
def smDs : List D → Bool
  | [] => true
  | x :: xs => smD x && smDs xs
end
mutual
/-- no fewer signs than its text has -/
def shL : D → Nat
  | .int i => i.natAbs.log2 + 3
  | .str s => 10 * s.length + 2
  | .tup _ xs | .lst xs => shLs xs + 4
  | _ => 5
def shLs : List D → Nat
  | [] => 0
  | x :: xs => shL x + 2 + shLs xs
end
def shwD (x : D) : Bool := okD x && smD x && decide (dpt x ≤ 64) && decide (shL x ≤ 16777216)
def eqOf (x y : D) : Option Bool := if okD x && okD y && decide (dpt x ≤ 64) && decide (dpt y ≤ 64) then some (peq x y) else none
def eqD : D → D → Option Bool
  | .rep a, .rep b => if D.beq a b then some true else none
  | x, y => eqOf x y

/-! ### the store -/
/-- an exception: its class, its own fields -/
structure Ex where
  cls : Nat
  fs : List (List Nat × D)
inductive C where
  | lst (xs : List D) | ins (cls : List Nat) (fs : List (List Nat × D))
structure Sto where
  next : Nat
  cs : List (Nat × C)
def look (n : Nat) : List (Nat × C) → Option C
  | [] => none
  | (k, c) :: r => if k = n then some c else look n r
def putC (n : Nat) (c : C) : List (Nat × C) → List (Nat × C)
  | [] => []
  | (k, d) :: r => if k = n then (k, c) :: r else (k, d) :: putC n c r
def Sto.get (S : Sto) (n : Nat) : Option C := look n S.cs
def Sto.put (S : Sto) (n : Nat) (c : C) : Sto := ⟨S.next, putC n c S.cs⟩
def Sto.new (S : Sto) (c : C) : Sto := ⟨S.next + 1, (S.next, c) :: S.cs⟩
/-- what was made from n on is forgotten -/
def trim (n : Nat) : List (Nat × C) → List (Nat × C)
  | [] => []
  | (k, c) :: r => if n ≤ k then trim n r else (k, c) :: trim n r
mutual
/-- no cell from n on is told -/
def belD (n : Nat) : D → Bool
  | .ref k => decide (k < n)
  | .tup _ xs | .lst xs => belDs n xs
  | _ => true
def belDs (n : Nat) : List D → Bool
  | [] => true
  | x :: xs => belD n x && belDs n xs
end
def belF (n : Nat) (fs : List (List Nat × D)) : Bool := fs.all fun f => belD n f.2
def belC (n : Nat) : C → Bool
  | .lst xs => belDs n xs
  | .ins _ fs => belF n fs
/-- .. and their numbers are given out anew, if nothing (b: of what is handed back) tells them -/
def Sto.trim (S : Sto) (n : Nat) (b : Bool) : Sto := if b && (Mn.trim n S.cs).all (fun c => belC n c.2) then ⟨n, Mn.trim n S.cs⟩ else ⟨S.next, Mn.trim n S.cs⟩

/-- what is handed back: a new list's cell is a list that stands still -/
def Sto.out (S : Sto) (n : Nat) : D → D
  | .ref k => if n ≤ k then (match S.get k with
    | some (.lst xs) => .lst xs
    | _ => .ref k) else .ref k
  | d => d
inductive R (α : Type) where
  | ok (a : α) (S : Sto)
  | exc (x : Ex) (S : Sto)
  | bad
def R.bind {α β : Type} : R α → (α → Sto → R β) → R β
  | .ok a S, f => f a S
  | .exc x S, _ => .exc x S
  | .bad, _ => .bad
def R.of {α : Type} (S : Sto) : Option α → R α
  | some a => .ok a S
  | none => .bad
/-- nothing is raised here -/
def R.nox {α : Type} : R α → R α
  | .exc _ _ => .bad
  | r => r

/-! ### code -/
inductive Ty where
  | int | bool | str | tuple | list
inductive BO where
  | add | sub | mul | fdiv | mod | pow
inductive CO where
  | eq | ne | lt | le | gt | ge | is | isn | inn | nin
inductive Bi where
  | len | abs | int | list | tuple | repr | sum | all | any | ord
inductive Me where
  | append | pop
/-- what is walked: a list or tuple, range(a), range(a, b), zip(a, b) -/
inductive Wt where
  | of | rng1 | rng2 | zip | enm
inductive Tg where
  | nm (i : Nat) | tp (ts : List Tg)
inductive E where
  | var (i : Nat) | lit (d : D) | neg (a : E)
  | bin (o : BO) (a b : E) | addc (a b : E) | cmp (o : CO) (a b : E) | chn (o p : CO) (a b c : E)
  | band (a b : E) | bor (a b : E) | bnot (a : E) | ife (c a b : E)
  | tup (es : List E) | lst (cl : Bool) (es : List E)
  | fn (i : Nat) (es : List E) | bi (b : Bi) (cl : Bool) (a : E) | me (m : Me) (o : E) (es : List E)
  | isi (a : E) (t : Ty)
  | ix (a b : E) | slc (a : E) (lo hi : Option E)
  | fld (cs : List (List Nat)) (f : List Nat) (o : E) | mth (tab : List (List Nat × Nat)) (m : List Nat) (o : E) (es : List E)
  | mk (x : List Nat) (i : Nat) (es : List E)
  | lset (a : E) | cnt (a b : E) | kget (kvs : List (List Nat × D)) (a b : E)
  | kin (neg : Bool) (kvs : List (List Nat × D)) (a : E) | kix (kvs : List (List Nat × D)) (a : E)
  | comp (cl : Bool) (tg : Tg) (w : Wt) (it : List E) (cond : Option E) (elt : E) (own : List Nat)
  | comp2 (cl : Bool) (tg : Tg) (w : Wt) (it : List E) (cond : Option E) (tg1 : Tg) (w1 : Wt) (it1 : List E) (cond1 : Option E) (elt : E) (own vs1 : List Nat)
/-- what an except suite hands back -/
inductive HX where
  | lit (d : D) | vr (i : Nat) | isx (i c : Nat)
inductive S where
  | ex (e : E) | asg (t : Tg) (e : E) | aug (i : Nat) (o : BO) (e : E) | six (o i e : E) | sfl (cs : List (List Nat)) (f : List Nat) (o e : E)
  | ifs (c : E) (a b : List S) | forr (t : Tg) (w : Wt) (it : List E) (b : List S) | whl (n : Nat) (c : E) (b : List S)
  | ret (e : E) | retn | brk | cnt | pas | rais (c : Nat) | bad
  | tryo (b : List S) (h : List (Nat × HX))

/-! ### what is reckoned at once (for the kernel): each of these is «k of it» -/
def frN {β : Type} (n : Nat) (k : Nat → β) : β := match n with
  | 0 => k 0
  | m + 1 => k (m + 1)
def frI {β : Type} (i : Int) (k : Int → β) : β := match i with
  | .ofNat n => frN n fun m => k (.ofNat m)
  | .negSucc n => frN n fun m => k (.negSucc m)
def frL {α β : Type} (l : List α) (k : List α → β) : β := match l with
  | [] => k []
  | x :: xs => frL xs fun ys => k (x :: ys)
theorem frN_eq {β : Type} (n : Nat) (k : Nat → β) : frN n k = k n := by cases n <;> rfl
theorem frI_eq {β : Type} : ∀ (i : Int) (k : Int → β), frI i k = k i
  | .ofNat n, k => frN_eq n fun m => k (.ofNat m)
  | .negSucc n, k => frN_eq n fun m => k (.negSucc m)
theorem frL_eq {α β : Type} (l : List α) (k : List α → β) : frL l k = k l := by
  induction l generalizing k with
  | nil => rfl
  | cons x xs ih => unfold frL; rw [ih]
/-! ### operations -/
def line : Nat := 16777216
/-- a list: a value, or a cell's -/
def lz (S : Sto) : D → D
  | .ref n => match S.get n with
    | some (.lst xs) => .lst xs
    | _ => .ref n
  | d => d
def sml (i : Int) : Bool := decide (i.natAbs < 18446744073709551616)
def fitB (i j : Int) : Bool := decide (i.natAbs.log2 + j.natAbs.log2 < 900000)
def repD {α : Type} (n : Nat) (xs : List α) : List α := (List.replicate n xs).flatten
def bop (o : BO) (x y : D) (S : Sto) : R D := match o, lz S x, lz S y with
  | .add, .int i, .int j => frI (i + j) fun r => .ok (.int r) S
  | .add, .lst a, .lst b => if a.length + b.length ≤ line then frL (a ++ b) fun r => .ok (.lst r) S else .bad
  | .add, .tup _ a, .tup _ b => if a.length + b.length ≤ line then frL (a ++ b) fun r => .ok (.tup false r) S else .bad
  | .add, .str a, .str b => if a.length + b.length ≤ line then frL (a ++ b) fun r => .ok (.str r) S else .bad
  | .sub, .int i, .int j => frI (i - j) fun r => .ok (.int r) S
  | .mul, .int i, .int j => if sml i || sml j || fitB i j then frI (i * j) fun r => .ok (.int r) S else .bad
  | .mul, .lst a, .int j => if decide (-9223372036854775808 ≤ j) && decide (j < 9223372036854775808) && decide (a.length * j.toNat ≤ line) then frL (repD j.toNat a) fun r => .ok (.lst r) S else .bad
  | .mul, .tup _ a, .int j => if decide (2 ≤ j) && decide (j ≤ 1000) && decide (0 < a.length) && decide (a.length ≤ 1000) then frL (repD j.toNat a) fun r => .ok (.tup false r) S else .bad
  | .fdiv, .int i, .int j => if decide (0 < j) && decide (j < 1073741824) then frI (i / j) fun r => .ok (.int r) S else .bad
  | .mod, .int i, .int j => if decide (0 < j) then frI (i % j) fun r => .ok (.int r) S else .bad
  | .pow, .int i, .int j => if decide (0 ≤ j) && decide (j ≤ 1000000) && sml i then frI (i ^ j.toNat) fun r => .ok (.int r) S else .bad
  | _, _, _ => .bad
def isD : D → D → Option Bool
  | x, .non => some (match x with
    | .non => true
    | _ => false)
  | .bl a, .bl b => some (a == b)
  | _, _ => none
def flatD : D → Bool
  | .non | .bl _ | .int _ | .str _ => true
  | _ => false
/-- x in y -/
def inD (x y : D) : Option Bool := match y with
  | .lst ys => if flatD x && ys.all flatD then some (ys.any fun z => peq z x) else none
  | .tup _ ys => if flatD x && ys.all flatD then some (ys.any fun z => peq z x) else none
  | .str z => (match x with
    | .str [c] => some (z.any fun d => decide (d = c))
    | _ => none)
  | _ => none
def cop (o : CO) (x y : D) (S : Sto) : Option Bool := match o with
  | .eq => eqD (lz S x) (lz S y)
  | .ne => (eqD (lz S x) (lz S y)).map not
  | .is => isD x y
  | .isn => (isD x y).map not
  | .lt => match x, y with
    | .int i, .int j => some (decide (i < j))
    | _, _ => none
  | .le => match x, y with
    | .int i, .int j => some (decide (i ≤ j))
    | _, _ => none
  | .gt => match x, y with
    | .int i, .int j => some (decide (j < i))
    | _, _ => none
  | .ge => match x, y with
    | .int i, .int j => some (decide (j ≤ i))
    | _, _ => none
  | .inn => inD x (lz S y)
  | .nin => (inD x (lz S y)).map not
def newL (cl : Bool) (xs : List D) (S : Sto) : R D := if xs.length ≤ line then (if cl then .ok (.ref S.next) (S.new (.lst xs)) else .ok (.lst xs) S) else .bad
/-- a sum of lists, as a cell -/
def addcf (x y : D) (S : Sto) : R D := match lz S x, lz S y with
  | .lst a, .lst b => if a.length + b.length ≤ line then frL (a ++ b) fun r => .ok (.ref S.next) (S.new (.lst r)) else .bad
  | _, _ => .bad
def intsO : List D → Option (List Int)
  | [] => some []
  | .int i :: r => (intsO r).map (i :: ·)
  | _ :: _ => none
def boolsO : List D → Option (List Bool)
  | [] => some []
  | .bl i :: r => (boolsO r).map (i :: ·)
  | _ :: _ => none
def biF (b : Bi) (cl : Bool) (x : D) (S : Sto) : R D := match b, lz S x with
  | .len, .lst a => frN a.length fun n => .ok (.int n) S
  | .len, .tup _ a => frN a.length fun n => .ok (.int n) S
  | .len, .str a => if a.length ≤ line then frN a.length fun n => .ok (.int n) S else .bad
  | .abs, .int i => frI (if i < 0 then -i else i) fun r => .ok (.int r) S
  | .int, .int i => .ok (.int i) S
  | .int, .bl k => .ok (.int (if k then 1 else 0)) S
  | .list, .lst a => newL cl a S
  | .list, .tup _ a => newL cl a S
  | .list, .scr ns => newL cl (ns.map .int) S
  | .tuple, .lst a => .ok (.tup false a) S
  | .tuple, .tup k a => .ok (.tup k a) S
  | .repr, .tup k a => if shwD (.tup k a) then .ok (.rep (.tup k a)) S else .bad
  | .repr, .lst a => if shwD (.lst a) then .ok (.rep (.lst a)) S else .bad
  | .sum, .lst a => match intsO a with
    | some ns => frI ns.sum fun r => .ok (.int r) S
    | none => .bad
  | .all, .lst a => match boolsO a with
    | some bs => .ok (.bl (bs.all id)) S
    | none => .bad
  | .any, .lst a => match boolsO a with
    | some bs => .ok (.bl (bs.any id)) S
    | none => .bad
  | .ord, .str [c] => frN c fun n => .ok (.int n) S
  | _, _ => .bad
/-- a written dict -/
def kfind (s : List Nat) : List (List Nat × D) → Option D
  | [] => none
  | (k, d) :: r => if k = s then some d else kfind s r
/-- texts alone -/
def strsO : List D → Option (List (List Nat))
  | [] => some []
  | .str i :: r => (strsO r).map (i :: ·)
  | _ :: _ => none
/-- how many of xs are unlike those ahead of them, seen among these -/
def fewer (seen : List (List Nat)) : List (List Nat) → Nat
  | [] => 0
  | x :: xs => if seen.any fun y => decide (y = x) then fewer seen xs else fewer (x :: seen) xs + 1
def lsetf (x : D) (S : Sto) : R D := match lz S x with
  | .lst a => (match strsO a with
    | some ns => if decide (ns.length < 1000) then frN (fewer [] ns) fun n => .ok (.int (.ofNat n)) S else .bad
    | none => .bad)
  | _ => .bad
def cntf (ys : List D) (y : D) (S : Sto) : R D := if flatD y && ys.all flatD then frN (ys.countP fun z => peq z y) fun n => .ok (.int (.ofNat n)) S else .bad
def kgetf (kvs : List (List Nat × D)) (x y : D) (S : Sto) : R D := match x with
  | .str s => .ok ((kfind s kvs).getD y) S
  | _ => .bad
/-- a cell with a list -/
def isCl (S : Sto) : D → Bool
  | .ref n => match S.get n with
    | some (.lst _) => true
    | _ => false
  | _ => false
def mef (m : Me) (x : D) (xs : List D) (S : Sto) : R D := match m, x, xs with
  | .append, .ref n, [d] => match S.get n with
    | some (.lst ys) => if ys.length < line then frL (ys ++ [d]) fun r => .ok .non (S.put n (.lst r)) else .bad
    | _ => .bad
  | .pop, .ref n, [] => match S.get n with
    | some (.lst ys) => (match ys[ys.length - 1]? with
      | some y => frL ys.dropLast fun r => .ok y (S.put n (.lst r))
      | none => .bad)
    | _ => .bad
  | _, _, _ => .bad
def isT (t : Ty) (x : D) : Option Bool := match t, x with
  | .int, .int _ | .int, .bl _ => some true
  | .bool, .bl _ => some true
  | .str, .str _ => some true
  | .tuple, .tup _ _ => some true
  | .list, .lst _ => some true
  | _, .rep _ | _, .ref _ | _, .scr _ => none
  | _, _ => some false
def nth {α : Type} (xs : List α) (i : Int) : Option α := if 0 ≤ i then xs[i.toNat]? else if 0 ≤ i + xs.length then xs[(i + xs.length).toNat]? else none
def ixf (x y : D) (S : Sto) : Option D := match lz S x, y with
  | .lst a, .int i => nth a i
  | .tup _ a, .int i => nth a i
  | .str a, .int i => if a.length ≤ line then (nth a i).map fun c => .str [c] else none
  | _, _ => none
/-- a bound of a slice, brought within 0 .. n -/
def bnd (n : Nat) (d : Nat) : Option Int → Nat
  | none => d
  | some i => if i < 0 then (if i + n < 0 then 0 else (i + n).toNat) else if i < n then i.toNat else n
def cut {α : Type} (xs : List α) (lo hi : Option Int) : List α := (xs.drop (bnd xs.length 0 lo)).take (bnd xs.length xs.length hi - bnd xs.length 0 lo)
def cutf (x : D) (lo hi : Option Int) (S : Sto) : Option D := match lz S x with
  | .lst a => some (.lst (cut a lo hi))
  | .tup _ a => some (.tup false (cut a lo hi))
  | _ => none
def small62 (i : Int) : Bool := decide (-4611686018427387904 ≤ i) && decide (i < 4611686018427387904)
def upto (lo : Int) : Nat → List D
  | 0 => []
  | n + 1 => .int lo :: frI (lo + 1) fun m => upto m n
def zipD : List D → List D → List D
  | a :: as, b :: bs => .tup false [a, b] :: zipD as bs
  | _, _ => []
/-- the items with their numbers -/
def enumD : List D → Nat → List D
  | [], _ => []
  | x :: xs, i => .tup false [.int (.ofNat i), x] :: frN (i + 1) fun j => enumD xs j
def walk : Wt → List D → Option (List D)
  | .rng1, [.int b] => if small62 b then some (upto 0 b.toNat) else none
  | .rng2, [.int a, .int b] => if small62 a && small62 b then some (upto a (b - a).toNat) else none
  | .enm, [.lst xs] => some (enumD xs 0)
  | .enm, [.tup _ xs] => some (enumD xs 0)
  | .zip, [.lst xs, .lst ys] => some (zipD xs ys)
  | .zip, [.tup _ xs, .tup _ ys] => some (zipD xs ys)
  | .of, [.lst xs] => some xs
  | .of, [.tup _ xs] => some xs
  | .of, [.str z] => some (z.map fun c => .str [c])
  | _, _ => none

abbrev Env := List (Option D)
/-- a target's store -/
def bindT : Tg → D → Env → Option Env
  | .nm i, d, env => if i < env.length then frL (env.set i (some d)) some else none
  | .tp ts, .tup _ ds, env => bindTs ts ds env
  | .tp _, _, _ => none
where bindTs : List Tg → List D → Env → Option Env
  | [], [], env => some env
  | t :: ts, d :: ds, env => match bindT t d env with
    | some env' => bindTs ts ds env'
    | none => none
  | _, _, _ => none
def wipeE (env : Env) : List Nat → Env
  | [] => env
  | v :: vs => (wipeE env vs).set v none
/-- a comprehension's turns -/
def compL (f : D → Sto → R (Option D)) : List D → List D → Sto → R (List D)
  | [], acc, S => .ok acc S
  | x :: xs, acc, S => (f x S).bind fun o S1 => match o with
    | some d => if acc.length < line then compL f xs (acc ++ [d]) S1 else .bad
    | none => compL f xs acc S1
/-- .. of a comprehension within one -/
def compA (g : D → List D → Sto → R (List D)) : List D → List D → Sto → R (List D)
  | [], acc, S => .ok acc S
  | x :: xs, acc, S => (g x acc S).bind fun acc1 S1 => compA g xs acc1 S1
def truth : D → Option Bool
  | .bl b => some b
  | _ => none

abbrev Calls := Nat → List D → Sto → R D
section
variable (cl : Calls)
mutual
def evE : E → Env → Sto → R D
  | .var i, env, S => match env[i]? with
    | some (some d) => .ok d S
    | _ => .bad
  | .lit d, _, S => .ok d S
  | .neg a, env, S => (evE a env S).bind fun x S1 => match x with
    | .int i => frI (-i) fun r => .ok (.int r) S1
    | _ => .bad
  | .bin o a b, env, S => (evE a env S).bind fun x S1 => (evE b env S1).bind fun y S2 => bop o x y S2
  | .addc a b, env, S => (evE a env S).bind fun x S1 => (evE b env S1).bind fun y S2 => addcf x y S2
  | .cmp o a b, env, S => (evE a env S).bind fun x S1 => (evE b env S1).bind fun y S2 => (R.of S2 (cop o x y S2)).bind fun k S3 => .ok (.bl k) S3
  | .chn o p a b c, env, S => (evE a env S).bind fun x S1 => (evE b env S1).bind fun y S2 => (R.of S2 (cop o x y S2)).bind fun k S3 => match k with
    | true => (evE c env S3).bind fun z S4 => (R.of S4 (cop p y z S4)).bind fun k S5 => .ok (.bl k) S5
    | false => .ok (.bl false) S3
  | .band a b, env, S => (evE a env S).bind fun x S1 => match x with
    | .bl true => evE b env S1
    | .bl false => .ok (.bl false) S1
    | _ => .bad
  | .bor a b, env, S => (evE a env S).bind fun x S1 => match x with
    | .bl true => .ok (.bl true) S1
    | .bl false => evE b env S1
    | _ => .bad
  | .bnot a, env, S => (evE a env S).bind fun x S1 => match x with
    | .bl k => .ok (.bl (!k)) S1
    | _ => .bad
  | .ife c a b, env, S => (evE c env S).bind fun x S1 => match x with
    | .bl true => evE a env S1
    | .bl false => evE b env S1
    | _ => .bad
  | .tup es, env, S => (evEs es env S).bind fun xs S1 => if xs.length ≤ line then .ok (.tup true xs) S1 else .bad
  | .lst k es, env, S => (evEs es env S).bind fun xs S1 => newL k xs S1
  | .fn i es, env, S => (evEs es env S).bind fun xs S1 => cl i xs S1
  | .bi b k a, env, S => (evE a env S).bind fun x S1 => biF b k x S1
  | .me m o es, env, S => (evE o env S).bind fun x S1 => match isCl S1 x with
    | true => (evEs es env S1).bind fun xs S2 => mef m x xs S2
    | false => .bad
  | .isi a t, env, S => (evE a env S).bind fun x S1 => (R.of S1 (isT t x)).bind fun k S2 => .ok (.bl k) S2
  | .ix a b, env, S => (evE a env S).bind fun x S1 => (evE b env S1).bind fun y S2 => R.of S2 (ixf x y S2)
  | .slc a lo hi, env, S => (evE a env S).bind fun x S1 => (evO lo env S1).bind fun l S2 => (evO hi env S2).bind fun h S3 => R.of S3 (cutf x l h S3)
  | .fld cs f o, env, S => (evE o env S).bind fun x S1 => match x with
    | .ref n => (match S1.get n with
      | some (.ins c fs) => if c ∈ cs then R.of S1 (kfind f fs) else .bad
      | _ => .bad)
    | _ => .bad
  | .mth tab m o es, env, S => (evE o env S).bind fun x S1 => match x with
    | .ref n => (match S1.get n with
      | some (.ins c fs) => (match tab.lookup c, kfind m fs with
        | some i, none => (evEs es env S1).bind fun xs S2 => cl i (.ref n :: xs) S2
        | _, _ => .bad)
      | _ => .bad)
    | _ => .bad
  | .mk x i es, env, S => (evEs es env S).bind fun xs S1 => (cl (1000000 + i) (.ref S1.next :: xs) (S1.new (.ins x []))).bind fun d S2 => match d with
    | .non => .ok (.ref S1.next) S2
    | _ => .bad
  | .lset a, env, S => (evE a env S).bind fun x S1 => lsetf x S1
  | .cnt a b, env, S => (evE a env S).bind fun x S1 => match x with
    | .tup true ys => (evE b env S1).bind fun y S2 => cntf ys y S2
    | _ => .bad
  | .kget kvs a b, env, S => (evE a env S).bind fun x S1 => (evE b env S1).bind fun y S2 => kgetf kvs x y S2
  | .kin neg kvs a, env, S => (evE a env S).bind fun x S1 => match x with
    | .str s => .ok (.bl (match kfind s kvs with
      | some _ => !neg
      | none => neg)) S1
    | _ => .bad
  | .kix kvs a, env, S => (evE a env S).bind fun x S1 => match x with
    | .str s => R.of S1 (kfind s kvs)
    | _ => .bad
  | .comp k tg w it cond elt own, env, S => (evEs it env S).bind fun ws S0 => (R.of S0 (walk w ws)).bind fun xs S1 => (compL (fun x S2 => match bindT tg x (wipeE env own) with
      | some env' => ((evC cond env' S2).bind fun b S3 => match b with
        | true => (evE elt env' S3).bind fun d S4 => .ok (some d) S4
        | false => .ok none S3).nox
      | none => .bad) xs [] S1).bind fun ds S5 => newL k ds S5
  | .comp2 k tg w it cond tg1 w1 it1 cond1 elt own vs1, env, S => (evEs it env S).bind fun ws S0 => (R.of S0 (walk w ws)).bind fun xs S1 => (compA (fun x acc S2 => match bindT tg x (wipeE env own) with
      | some env1 => ((evC cond env1 S2).bind fun b S3 => match b with
        | true => ((evEs it1 env1 S3).bind fun ws1 S4 => R.of S4 (walk w1 ws1)).bind fun ys S5 => compL (fun y S6 => match bindT tg1 y (wipeE env1 vs1) with
          | some env2 => (evC cond1 env2 S6).bind fun b1 S7 => match b1 with
            | true => (evE elt env2 S7).bind fun d S8 => .ok (some d) S8
            | false => .ok none S7
          | none => .bad) ys acc S5
        | false => .ok acc S3).nox
      | none => .bad) xs [] S1).bind fun ds S5 => newL k ds S5
def evEs : List E → Env → Sto → R (List D)
  | [], _, S => .ok [] S
  | e :: es, env, S => (evE e env S).bind fun x S1 => (evEs es env S1).bind fun xs S2 => .ok (x :: xs) S2
def evO : Option E → Env → Sto → R (Option Int)
  | none, _, S => .ok none S
  | some e, env, S => (evE e env S).bind fun x S1 => match x with
    | .int i => .ok (some i) S1
    | _ => .bad
def evC : Option E → Env → Sto → R Bool
  | none, _, S => .ok true S
  | some e, env, S => (evE e env S).bind fun x S1 => match x with
    | .bl i => .ok i S1
    | _ => .bad
end
end

inductive RS where
  | nx (env : Env) (S : Sto) | rt (d : D) (S : Sto) | bk (env : Env) (S : Sto) | ct (env : Env) (S : Sto) | exc (x : Ex) (env : Env) (S : Sto) | bad
/-- an expression's end, then a statement's -/
def R.to {α : Type} (env : Env) : R α → (α → Sto → RS) → RS
  | .ok a S, f => f a S
  | .exc x S, _ => .exc x env S
  | .bad, _ => .bad
def RS.bind : RS → (Env → Sto → RS) → RS
  | .nx env S, f => f env S
  | r, _ => r
def forL (f : D → Env → Sto → RS) : List D → Env → Sto → RS
  | [], env, S => .nx env S
  | x :: xs, env, S => match f x env S with
    | .nx env' S' => forL f xs env' S'
    | .ct env' S' => forL f xs env' S'
    | .bk env' S' => .nx env' S'
    | r => r
def whL (c : Env → Sto → R Bool) (f : Env → Sto → RS) : Nat → Env → Sto → RS
  | 0, _, _ => .bad
  | n + 1, env, S => (c env S).to env fun k S1 => match k with
    | true => (match f env S1 with
      | .nx env' S' => whL c f n env' S'
      | .ct env' S' => whL c f n env' S'
      | .bk env' S' => .nx env' S'
      | r => r)
    | false => .nx env S1
/-- name op= value -/
def iop (o : BO) (x y : D) (S : Sto) : R D := match o, x, y with
  | .add, .int i, .int j => frI (i + j) fun r => .ok (.int r) S
  | .sub, .int i, .int j => frI (i - j) fun r => .ok (.int r) S
  | .add, .ref n, y => match S.get n, lz S y with
    | some (.lst a), .lst b => if a.length + b.length ≤ line then frL (a ++ b) fun r => .ok (.ref n) (S.put n (.lst r)) else .bad
    | _, _ => .bad
  | _, _, _ => .bad
/-- o[i] = d -/
def sixf (o i d : D) (S : Sto) : Option Sto := match o, i with
  | .ref n, .int i => match S.get n with
    | some (.lst a) => if decide (0 ≤ i) && decide (i < a.length) then frL (a.set i.toNat d) fun r => some (S.put n (.lst r)) else none
    | _ => none
  | _, _ => none
/-- o.f = d -/
def putK (f : List Nat) (d : D) : List (List Nat × D) → List (List Nat × D)
  | [] => [(f, d)]
  | (g, x) :: r => if g = f then (g, d) :: r else (g, x) :: putK f d r
def sflf (cs : List (List Nat)) (f : List Nat) (o d : D) (S : Sto) : Option Sto := match o with
  | .ref n => match S.get n with
    | some (.ins c fs) => if c ∈ cs ∧ fs.length < 1000 then some (S.put n (.ins c (putK f d fs))) else none
    | _ => none
  | _ => none
/-- what a handler does: it hands back a value that is reckoned of the exception -/
def hdl (sub : Nat → Nat → Bool) (x : Ex) (env : Env) : HX → Option D
  | .lit d => some d
  | .vr i => match env[i]? with
    | some (some d) => some d
    | _ => none
  | .isx i c => match x.fs with
    | [] => if i < env.length then some (.bl (sub x.cls c)) else none
    | _ => none
def hdls (sub : Nat → Nat → Bool) (x : Ex) (env : Env) (S : Sto) : List (Nat × HX) → RS
  | [] => .exc x env S
  | (c, h) :: r => if sub x.cls c then (match hdl sub x env h with
      | some d => .rt d S
      | none => .bad) else hdls sub x env S r
section
variable (sub : Nat → Nat → Bool) (cl : Calls)
mutual
def exS : S → Env → Sto → RS
  | .ex e, env, S => (evE cl e env S).to env fun _ S1 => .nx env S1
  | .asg t e, env, S => (evE cl e env S).to env fun d S1 => match bindT t d env with
    | some env' => .nx env' S1
    | none => .bad
  | .aug i o e, env, S => match env[i]? with
    | some (some x) => (evE cl e env S).to env fun y S1 => (iop o x y S1).to env fun z S2 => frL (env.set i (some z)) fun e2 => .nx e2 S2
    | _ => .bad
  | .six o i e, env, S => (evE cl e env S).to env fun d S1 => (evE cl o env S1).to env fun x S2 => (evE cl i env S2).to env fun y S3 => match sixf x y d S3 with
    | some S4 => .nx env S4
    | none => .bad
  | .sfl cs f o e, env, S => (evE cl e env S).to env fun d S1 => (evE cl o env S1).to env fun x S2 => match sflf cs f x d S2 with
    | some S3 => .nx env S3
    | none => .bad
  | .ifs c a b, env, S => (evE cl c env S).to env fun x S1 => match x with
    | .bl true => exSs a env S1
    | .bl false => exSs b env S1
    | _ => .bad
  | .forr t w it b, env, S => (evEs cl it env S).to env fun ws S0 => (R.of S0 (walk w ws)).to env fun xs S1 => forL (fun x env1 S2 => match bindT t x env1 with
    | some env2 => exSs b env2 S2
    | none => .bad) xs env S1
  | .whl n c b, env, S => whL (fun env1 S1 => evC cl (some c) env1 S1) (fun env1 S1 => exSs b env1 S1) n env S
  | .ret e, env, S => (evE cl e env S).to env fun d S1 => .rt d S1
  | .retn, _, S => .rt .non S
  | .brk, env, S => .bk env S
  | .cnt, env, S => .ct env S
  | .pas, env, S => .nx env S
  | .rais c, env, S => .exc ⟨c, []⟩ env S
  | .bad, _, _ => .bad
  | .tryo b h, env, S => match exSs b env S with
    | .exc x env1 S1 => hdls sub x env1 S1 h
    | r => r
def exSs : List S → Env → Sto → RS
  | [], env, S => .nx env S
  | s :: ss, env, S => (exS s env S).bind fun env1 S1 => exSs ss env1 S1
end
end
/-- a def: how many parameters, how many slots, its body; whether what it made goes at its end -/
structure Df where
  np : Nat
  ns : Nat
  body : List S
  fr : Bool
def Df.run (sub : Nat → Nat → Bool) (cl : Calls) (f : Df) (xs : List D) (S : Sto) : R D :=
  if xs.length = f.np then (match exSs sub cl f.body (xs.map some ++ List.replicate (f.ns - f.np) none) S with
    | .rt d S1 => if f.fr then .ok (S1.out S.next d) (S1.trim S.next (belD S.next (S1.out S.next d))) else .ok d S1
    | .nx _ S1 => .ok .non (if f.fr then S1.trim S.next true else S1)
    | .exc x _ S1 => .exc x (if f.fr then S1.trim S.next (belF S.next x.fs) else S1)
    | _ => .bad) else .bad
def run (sub : Nat → Nat → Bool) (ds : List Df) : Nat → Calls
  | 0 => fun _ _ _ => .bad
  | k + 1 => fun i xs S => if i < 1000000 then (match ds[i]? with
    | some f => f.run sub (run sub ds k) xs S
    | none => .bad) else run sub ds k (i - 1000000) xs S
end Mn

/-! What the small machine's values stand for, and its store. -/
namespace Mn
open PySem PySem.Spec PyProof.Rows L2

def tx (s : List Nat) : Str := ⟨s.toArray⟩
mutual
def toPy : D → PyData
  | .non => .none
  | .bl b => .bool b
  | .int i => .int i
  | .str s => .str (tx s)
  | .tup _ xs => .tuple (toPys xs)
  | .lst xs => .list (toPys xs)
  | .rep _ | .ref _ | .scr _ => .none
def toPys : List D → List PyData
  | [] => []
  | x :: xs => toPy x :: toPys xs
end
mutual
theorem beq_py : ∀ a b : D, D.beq a b = true → toPy a = toPy b
  | .non, b, h => by cases b <;> first | rfl | cases h
  | .bl a, b, h => by
    cases b <;> first | cases h | skip
    rw [eq_of_beq (show (a == _) = true from h)]
  | .int a, b, h => by
    cases b <;> first | cases h | skip
    rw [of_decide_eq_true (show decide (a = _) = true from h)]
  | .str a, b, h => by
    cases b <;> first | cases h | skip
    rw [of_decide_eq_true (show decide (a = _) = true from h)]
  | .rep _, b, h => by cases b <;> first | rfl | cases h
  | .tup _ a, b, h => by
    cases b <;> first | cases h | skip
    rename_i k b
    show PyData.tuple (toPys a) = .tuple (toPys b)
    rw [beqs_py a b h]
  | .lst a, b, h => by
    cases b <;> first | cases h | skip
    rename_i b
    show PyData.list (toPys a) = .list (toPys b)
    rw [beqs_py a b h]
  | .ref _, b, h => by cases b <;> first | rfl | cases h
  | .scr _, b, h => by cases b <;> first | rfl | cases h
theorem beqs_py : ∀ a b : List D, D.beqs a b = true → toPys a = toPys b
  | [], b, h => by cases b <;> first | rfl | cases h
  | a :: as, b, h => by
    cases b with
    | nil => cases h
    | cons b bs =>
      have h' := Bool.and_eq_true_iff.mp (show (D.beq a b && D.beqs as bs) = true from h)
      show toPy a :: toPys as = toPy b :: toPys bs
      rw [beq_py a b h'.1, beqs_py as bs h'.2]
end
/-- a tuple of which the object is known -/
def KnT (Z : Hp) (a : Addr) : Prop := ∃ o u, Z a = some (.frz o u) ∧ o.dict = none
abbrev Mp := Nat → Option Addr
section
variable (K : PySem.W.Frag)
mutual
/-- a value of the machine, one of Python's, over what stands still -/
inductive RD (Z : Hp) (m : Mp) : D → V → Prop
  | non : RD Z m .non .non
  | bl (b : Bool) : RD Z m (.bl b) (.bl b)
  | int (i : Int) : RD Z m (.int i) (.int i)
  | str (s : List Nat) : RD Z m (.str s) (.str (tx s))
  | rep (d : D) : RD Z m (.rep d) (.str (PyData.shown (toPy d)))
  | tup {k : Bool} {xs : List D} {a : Addr} {vs : List V} : (k = true → KnT Z a) → SqT K Z a vs → RDs Z m xs vs → RD Z m (.tup k xs) (.ref a)
  | lst {xs : List D} {a : Addr} {vs : List V} : Z a = some (.lst vs) → RDs Z m xs vs → RD Z m (.lst xs) (.ref a)
  | ref {n : Nat} {a : Addr} : m n = some a → RD Z m (.ref n) (.ref a)
  | scr {ns : List Int} {a : Addr} : SqL K Z a (ns.map V.int) → RD Z m (.scr ns) (.ref a)
inductive RDs (Z : Hp) (m : Mp) : List D → List V → Prop
  | nil : RDs Z m [] []
  | cons {d : D} {v : V} {ds : List D} {vs : List V} : RD Z m d v → RDs Z m ds vs → RDs Z m (d :: ds) (v :: vs)
end
end
variable {K : PySem.W.Frag} {Z Z' Z'' : Hp} {m m' m'' : Mp}
/-- more stands still, more cells have their places -/
structure Ext (Z : Hp) (m : Mp) (Z' : Hp) (m' : Mp) : Prop where
  z : Same Z Z'
  m : ∀ n a, m n = some a → m' n = some a
theorem Ext.refl : Ext Z m Z m := ⟨Same.refl _, fun _ _ h => h⟩
theorem Ext.trans (a : Ext Z m Z' m') (b : Ext Z' m' Z'' m'') : Ext Z m Z'' m'' := ⟨a.z.trans b.z, fun n x h => b.m n x (a.m n x h)⟩
theorem seqL {H H' : Hp} {a : Addr} {xs : List V} (e : Same H H') (h : SqL K H a xs) : SqL K H' a xs := e.seq h
theorem seqT {H H' : Hp} {a : Addr} {xs : List V} (e : Same H H') (h : SqT K H a xs) : SqT K H' a xs := by
  rcases h with (h | ⟨o, h⟩) | h
  · exact .inl (.inl (e _ _ h))
  · exact .inl (.inr ⟨o, e _ _ h⟩)
  · exact .inr h
theorem KnT.mono {a : Addr} (h : KnT Z a) (s : Same Z Z') : KnT Z' a := let ⟨o, u, h1, h2⟩ := h; ⟨o, u, s _ _ h1, h2⟩
mutual
theorem RD.mono (e : Ext Z m Z' m') : ∀ {d : D} {v : V}, RD K Z m d v → RD K Z' m' d v
  | _, _, .non => .non
  | _, _, .bl b => .bl b
  | _, _, .int i => .int i
  | _, _, .str s => .str s
  | _, _, .rep d => .rep d
  | _, _, .tup k h hs => .tup (fun q => (k q).mono e.z) (seqT e.z h) (RDs.mono e hs)
  | _, _, .lst h hs => .lst (e.z _ _ h) (RDs.mono e hs)
  | _, _, .ref h => .ref (e.m _ _ h)
  | _, _, .scr h => .scr (seqL e.z h)
theorem RDs.mono (e : Ext Z m Z' m') : ∀ {d : List D} {v : List V}, RDs K Z m d v → RDs K Z' m' d v
  | _, _, .nil => .nil
  | _, _, .cons h hs => .cons (h.mono e) (hs.mono e)
end
theorem RDs.length : ∀ {d : List D} {v : List V}, RDs K Z m d v → d.length = v.length
  | _, _, .nil => rfl
  | _, _, .cons _ hs => by simp [hs.length]
theorem RDs.append : ∀ {d d' : List D} {v v' : List V}, RDs K Z m d v → RDs K Z m d' v' → RDs K Z m (d ++ d') (v ++ v')
  | _, _, _, _, .nil, k => k
  | _, _, _, _, .cons h hs, k => .cons h (hs.append k)
theorem RDs.get : ∀ {d : List D} {v : List V} {i : Nat} {x : D}, RDs K Z m d v → d[i]? = some x → ∃ w, v[i]? = some w ∧ RD K Z m x w
  | _, _, _, _, .nil, e => by simp at e
  | _, _, 0, _, .cons h _, e => by simp at e; subst e; exact ⟨_, rfl, h⟩
  | _, _, i + 1, _, .cons _ hs, e => by
    obtain ⟨w, h1, h2⟩ := hs.get (i := i) (by simpa using e)
    exact ⟨w, by simpa using h1, h2⟩
theorem RDs.getV : ∀ {d : List D} {v : List V} {i : Nat} {w : V}, RDs K Z m d v → v[i]? = some w → ∃ x, d[i]? = some x ∧ RD K Z m x w
  | _, _, _, _, .nil, e => by simp at e
  | _, _, 0, _, .cons h _, e => by simp at e; subst e; exact ⟨_, rfl, h⟩
  | _, _, i + 1, _, .cons _ hs, e => by
    obtain ⟨w, h1, h2⟩ := hs.getV (i := i) (by simpa using e)
    exact ⟨w, by simpa using h1, h2⟩
theorem RDs.take : ∀ {d : List D} {v : List V} (n : Nat), RDs K Z m d v → RDs K Z m (d.take n) (v.take n)
  | _, _, 0, _ => .nil
  | _, _, _ + 1, .nil => .nil
  | _, _, n + 1, .cons h hs => .cons h (hs.take n)
theorem RDs.drop : ∀ {d : List D} {v : List V} (n : Nat), RDs K Z m d v → RDs K Z m (d.drop n) (v.drop n)
  | _, _, 0, h => h
  | _, _, _ + 1, .nil => .nil
  | _, _, n + 1, .cons _ hs => hs.drop n
theorem RDs.set {x : D} {w : V} (r : RD K Z m x w) : ∀ {d : List D} {v : List V} (n : Nat), RDs K Z m d v → RDs K Z m (d.set n x) (v.set n w)
  | _, _, _, .nil => .nil
  | _, _, 0, .cons _ hs => .cons r hs
  | _, _, n + 1, .cons h hs => .cons h (hs.set r n)
theorem RDs.rep {d : List D} {v : List V} (r : RDs K Z m d v) : ∀ n : Nat, RDs K Z m (repD n d) (repD n v)
  | 0 => .nil
  | n + 1 => by
    unfold repD
    rw [List.replicate_succ, List.flatten_cons, List.replicate_succ, List.flatten_cons]
    exact r.append (r.rep n)
theorem RDs.one {x : D} {w : V} (r : RD K Z m x w) : RDs K Z m [x] [w] := .cons r .nil

/-! ### the store's places -/
theorem look_put_same {n : Nat} {c d : C} : ∀ {l : List (Nat × C)}, look n l = some d → look n (putC n c l) = some c
  | [], h => by cases h
  | (k, e) :: r, h => by
    unfold look at h
    unfold putC
    by_cases hk : k = n
    · rw [if_pos hk]
      unfold look
      rw [if_pos hk]
    · rw [if_neg hk] at h
      rw [if_neg hk]
      unfold look
      rw [if_neg hk]
      exact look_put_same h
theorem look_put_ne {n n' : Nat} {c : C} (hn : n' ≠ n) : ∀ {l : List (Nat × C)}, look n' (putC n c l) = look n' l
  | [] => rfl
  | (k, e) :: r => by
    unfold putC
    by_cases hk : k = n
    · rw [if_pos hk]
      have h2 : ¬ k = n' := fun z => hn (z.symm.trans hk)
      unfold look
      rw [if_neg h2, if_neg h2]
    · rw [if_neg hk]
      unfold look
      by_cases h2 : k = n'
      · rw [if_pos h2, if_pos h2]
      · rw [if_neg h2, if_neg h2]
        exact look_put_ne hn
theorem get_new_same {S : Sto} {c : C} : (S.new c).get S.next = some c := by
  unfold Sto.new Sto.get look
  rw [if_pos rfl]
theorem get_new_ne {S : Sto} {c : C} {n : Nat} (h : n ≠ S.next) : (S.new c).get n = S.get n := by
  show look n ((S.next, c) :: S.cs) = look n S.cs
  rw [show look n ((S.next, c) :: S.cs) = if S.next = n then some c else look n S.cs from rfl, if_neg fun z => h z.symm]
theorem look_trim {k n : Nat} {c : C} : ∀ {l : List (Nat × C)}, look n (trim k l) = some c → n < k ∧ look n l = some c
  | [], h => by cases h
  | (j, e) :: r, h => by
    unfold trim at h
    by_cases hj : k ≤ j
    · rw [if_pos hj] at h
      obtain ⟨h1, h2⟩ := look_trim h
      refine ⟨h1, ?_⟩
      unfold look
      rw [if_neg (by omega)]
      exact h2
    · rw [if_neg hj] at h
      unfold look at h
      by_cases h2 : j = n
      · rw [if_pos h2] at h
        refine ⟨by omega, ?_⟩
        unfold look
        rw [if_pos h2]
        exact h
      · rw [if_neg h2] at h
        obtain ⟨h3, h4⟩ := look_trim h
        refine ⟨h3, ?_⟩
        unfold look
        rw [if_neg h2]
        exact h4
/-- fields -/
inductive RFs (K : PySem.W.Frag) (Z : Hp) (m : Mp) : List (List Nat × D) → List (Str × V) → Prop
  | nil : RFs K Z m [] []
  | cons {f : List Nat} {d : D} {v : V} {ds : List (List Nat × D)} {vs : List (Str × V)} : RD K Z m d v → RFs K Z m ds vs → RFs K Z m ((f, d) :: ds) ((tx f, v) :: vs)
theorem RFs.mono {ds : List (List Nat × D)} {vs : List (Str × V)} (h : RFs K Z m ds vs) (e : Ext Z m Z' m') : RFs K Z' m' ds vs := by
  induction h with
  | nil => exact .nil
  | cons r _ ih => exact .cons (r.mono e) ih
/-- a cell and its object -/
inductive CRel (K : PySem.W.Frag) (Z : Hp) (m : Mp) : C → HO → Prop
  | lst {xs : List D} {vs : List V} : RDs K Z m xs vs → CRel K Z m (.lst xs) (.lst vs)
  | ins {x : List Nat} {dx : Addr} {fs : List (List Nat × D)} {vs : List (Str × V)} : RFs K Z m fs vs → CRel K Z m (.ins x fs) (.ins (He.ga K (tx x)) dx vs)
theorem CRel.mono {c : C} {o : HO} (h : CRel K Z m c o) (e : Ext Z m Z' m') : CRel K Z' m' c o := by
  cases h with
  | lst r => exact .lst (r.mono e)
  | ins r => exact .ins (r.mono e)
/-- the heap of a state: F other's, Z what stands still, the cells at m -/
structure SR (K : PySem.W.Frag) (F : Hp) (Z : Hp) (m : Mp) (S : Sto) (H : Hp) : Prop where
  fs : Same F H
  zs : Same Z H
  dj : ∀ b o, F b = some o → Z b = none
  cell : ∀ n c, S.get n = some c → ∃ a o, m n = some a ∧ H a = some o ∧ F a = none ∧ Z a = none ∧ CRel K Z m c o
  inj : ∀ n n' a c c', S.get n = some c → S.get n' = some c' → m n = some a → m n' = some a → n = n'
  nx : ∀ n a, m n = some a → n < S.next
theorem SR.lst {F H : Hp} {S : Sto} (r : SR K F Z m S H) (n : Nat) (xs : List D) (q : S.get n = some (.lst xs)) : ∃ a vs, m n = some a ∧ H a = some (.lst vs) ∧ F a = none ∧ Z a = none ∧ RDs K Z m xs vs := by
  obtain ⟨a, o, h1, h2, h3, h4, h5⟩ := r.cell n _ q
  cases h5 with
  | lst h => exact ⟨a, _, h1, h2, h3, h4, h⟩
variable {F H : Hp} {S : Sto}
theorem SR.free (r : SR K F Z m S H) {p : Addr} (h : H p = none) : F p = none ∧ Z p = none := ⟨r.fs.free h, r.zs.free h⟩
theorem same_upd' {H : Hp} {p : Addr} {o : HO} (h : H p = none) : Same H (upd H p o) := fun b x e => by
  rw [upd_ne (ne_of_none e h)]
  exact e
/-- a new thing that stands still -/
theorem SR.newZ (r : SR K F Z m S H) {p : Addr} (o : HO) (h : H p = none) : SR K F (upd Z p o) m S (upd H p o) ∧ Ext Z m (upd Z p o) m := by
  obtain ⟨hF, hZ⟩ := r.free h
  have e : Ext Z m (upd Z p o) m := ⟨same_upd' hZ, fun _ _ q => q⟩
  refine ⟨⟨r.fs.trans (same_upd' h), fun b x q => ?_, fun b x q => ?_, fun n xs q => ?_, r.inj, r.nx⟩, e⟩
  · by_cases hb : b = p
    · subst hb
      rw [upd_same] at q
      rw [upd_same]
      exact q
    · rw [upd_ne hb] at q
      rw [upd_ne hb]
      exact r.zs b x q
  · have hb : b ≠ p := ne_of_none q hF
    rw [upd_ne hb]
    exact r.dj b x q
  · obtain ⟨a, vs, h1, h2, h3, h4, h5⟩ := r.cell n xs q
    have ha : a ≠ p := ne_of_none h2 h
    exact ⟨a, vs, h1, by rw [upd_ne ha]; exact h2, h3, by rw [upd_ne ha]; exact h4, h5.mono e⟩
/-- where a new cell stands -/
def mpSet (m : Mp) (n : Nat) (a : Addr) : Mp := fun k => if k = n then some a else m k
theorem SR.newO (r : SR K F Z m S H) {p : Addr} {xs : C} {vs : HO} (h : H p = none) (rd : CRel K Z m xs vs) :
    SR K F Z (mpSet m S.next p) (S.new xs) (upd H p vs) ∧ Ext Z m Z (mpSet m S.next p) ∧ RD K Z (mpSet m S.next p) (.ref S.next) (.ref p) := by
  obtain ⟨hF, hZ⟩ := r.free h
  have e : Ext Z m Z (mpSet m S.next p) := ⟨Same.refl _, fun n a q => by
    have hn : n ≠ S.next := Nat.ne_of_lt (r.nx n a q)
    unfold mpSet
    rw [if_neg hn]
    exact q⟩
  have ms : mpSet m S.next p S.next = some p := by unfold mpSet; rw [if_pos rfl]
  refine ⟨⟨r.fs.trans (same_upd' h), r.zs.trans (same_upd' h), r.dj, fun n ys q => ?_, fun n n' a ys ys' q q' k k' => ?_, fun n a q => ?_⟩, e, .ref ms⟩
  · by_cases hn : n = S.next
    · subst hn
      rw [get_new_same] at q
      cases q
      exact ⟨p, vs, ms, upd_same, hF, hZ, rd.mono e⟩
    · rw [get_new_ne hn] at q
      obtain ⟨a, ws, h1, h2, h3, h4, h5⟩ := r.cell n ys q
      exact ⟨a, ws, e.m _ _ h1, by rw [upd_ne (ne_of_none h2 h)]; exact h2, h3, h4, h5.mono e⟩
  · have old : ∀ {n : Nat} {ys : C} {a : Addr}, n ≠ S.next → (S.new xs).get n = some ys → mpSet m S.next p n = some a → a ≠ p ∧ S.get n = some ys ∧ m n = some a := fun {n ys a} hn q k => by
      rw [get_new_ne hn] at q
      obtain ⟨b, ws, h1, h2, _⟩ := r.cell n ys q
      have k2 := e.m _ _ h1
      rw [k] at k2
      cases k2
      exact ⟨ne_of_none h2 h, q, h1⟩
    by_cases hn : n = S.next
    · by_cases hn' : n' = S.next
      · rw [hn, hn']
      · obtain ⟨z, _, _⟩ := old hn' q' k'
        rw [hn, ms] at k
        cases k
        exact absurd rfl z
    · by_cases hn' : n' = S.next
      · obtain ⟨z, _, _⟩ := old hn q k
        rw [hn', ms] at k'
        cases k'
        exact absurd rfl z
      · obtain ⟨_, q1, k1⟩ := old hn q k
        obtain ⟨_, q2, k2⟩ := old hn' q' k'
        exact r.inj n n' a _ _ q1 q2 k1 k2
  · show n < S.next + 1
    unfold mpSet at q
    by_cases hn : n = S.next
    · omega
    · rw [if_neg hn] at q
      have := r.nx n a q
      omega
theorem SR.newC (r : SR K F Z m S H) {p : Addr} {xs : List D} {vs : List V} (h : H p = none) (rd : RDs K Z m xs vs) :
    SR K F Z (mpSet m S.next p) (S.new (.lst xs)) (upd H p (.lst vs)) ∧ Ext Z m Z (mpSet m S.next p) ∧ RD K Z (mpSet m S.next p) (.ref S.next) (.ref p) := r.newO h (.lst rd)
/-- a cell's list is another one -/
theorem SR.putO (r : SR K F Z m S H) {n : Nat} {a : Addr} {xs ys : C} {vs : HO} (q : S.get n = some xs) (hm : m n = some a) (rd : CRel K Z m ys vs) :
    SR K F Z m (S.put n ys) (upd H a vs) := by
  obtain ⟨b, ws, h1, h2, h3, h4, h5⟩ := r.cell n xs q
  rw [hm] at h1
  cases h1
  have put_same : (S.put n ys).get n = some ys := look_put_same q
  have put_ne : ∀ {k : Nat}, k ≠ n → (S.put n ys).get k = S.get k := fun hk => look_put_ne hk
  have sm : ∀ {G : Hp}, Same G H → G a = none → Same G (upd H a vs) := fun {G} s g c x e => by
    rw [upd_ne (ne_of_none e g)]
    exact s c x e
  refine ⟨sm r.fs h3, sm r.zs h4, r.dj, fun k zs e => ?_, fun k k' c zs zs' e e' u u' => ?_, r.nx⟩
  · by_cases hk : k = n
    · subst hk
      rw [put_same] at e
      cases e
      exact ⟨a, vs, hm, upd_same, h3, h4, rd⟩
    · rw [put_ne hk] at e
      obtain ⟨c, us, g1, g2, g3, g4, g5⟩ := r.cell k zs e
      have hc : c ≠ a := fun z => by
        subst z
        exact hk (r.inj k n c _ _ e q g1 hm)
      exact ⟨c, us, g1, by rw [upd_ne hc]; exact g2, g3, g4, g5⟩
  · have old : ∀ {k : Nat} {zs : C}, (S.put n ys).get k = some zs → ∃ us, S.get k = some us := fun {k zs} e => by
      by_cases hk : k = n
      · exact ⟨xs, by rw [hk]; exact q⟩
      · rw [put_ne hk] at e
        exact ⟨zs, e⟩
    obtain ⟨us, g⟩ := old e
    obtain ⟨us', g'⟩ := old e'
    exact r.inj k k' c _ _ g g' u u'
theorem SR.put (r : SR K F Z m S H) {n : Nat} {a : Addr} {xs ys : List D} {vs : List V} (q : S.get n = some (.lst xs)) (hm : m n = some a) (rd : RDs K Z m ys vs) :
    SR K F Z m (S.put n (.lst ys)) (upd H a (.lst vs)) := r.putO q hm (.lst rd)
/-- fewer cells -/
theorem SR.less (r : SR K F Z m S H) {S' : Sto} (h : ∀ n c, S'.get n = some c → S.get n = some c) (hn : S.next ≤ S'.next) : SR K F Z m S' H :=
  ⟨r.fs, r.zs, r.dj, fun n xs q => r.cell n xs (h _ _ q), fun n n' a xs xs' q q' k k' => r.inj n n' a xs xs' (h _ _ q) (h _ _ q') k k', fun n a q => Nat.lt_of_lt_of_le (r.nx n a q) hn⟩
/-- the places below n alone -/
def mpCut (m : Mp) (n : Nat) : Mp := fun k => if k < n then m k else none
mutual
theorem RD.cut {n : Nat} : ∀ {d : D} {v : V}, belD n d = true → RD K Z m d v → RD K Z (mpCut m n) d v
  | _, _, _, .non => .non
  | _, _, _, .bl b => .bl b
  | _, _, _, .int i => .int i
  | _, _, _, .str s => .str s
  | _, _, _, .rep d => .rep d
  | _, _, k, .tup q h hs => .tup q h (RDs.cut (by simpa [belD] using k) hs)
  | _, _, k, .lst h hs => .lst h (RDs.cut (by simpa [belD] using k) hs)
  | .ref j, _, k, .ref h => .ref (by
    have k2 : j < n := of_decide_eq_true (show decide (j < n) = true from k)
    unfold mpCut
    rw [if_pos k2]
    exact h)
  | _, _, _, .scr h => .scr h
theorem RDs.cut {n : Nat} : ∀ {d : List D} {v : List V}, belDs n d = true → RDs K Z m d v → RDs K Z (mpCut m n) d v
  | _, _, _, .nil => .nil
  | _, _, k, .cons h hs => by
    have k2 := Bool.and_eq_true_iff.mp (show (belD n _ && belDs n _) = true from k)
    exact .cons (h.cut k2.1) (hs.cut k2.2)
end
theorem RFs.cut {n : Nat} {ds : List (List Nat × D)} {vs : List (Str × V)} (h : RFs K Z m ds vs) (k : belF n ds = true) : RFs K Z (mpCut m n) ds vs := by
  induction h with
  | nil => exact .nil
  | cons r _ ih =>
    unfold belF at k ih
    rw [List.all_cons, Bool.and_eq_true] at k
    exact .cons (r.cut k.1) (ih k.2)
theorem CRel.cut {n : Nat} {c : C} {o : HO} (h : CRel K Z m c o) (k : belC n c = true) : CRel K Z (mpCut m n) c o := by
  cases h with
  | lst r => exact .lst (r.cut k)
  | ins r => exact .ins (r.cut k)
theorem look_mem {n : Nat} {c : C} : ∀ {l : List (Nat × C)}, look n l = some c → (n, c) ∈ l
  | [], h => by cases h
  | (k, e) :: r, h => by
    unfold look at h
    split at h
    · rename_i z
      cases h
      rw [z]
      exact List.mem_cons_self
    · exact List.mem_cons_of_mem _ (look_mem h)
/-- what was made from n on goes: its numbers may be given out anew -/
theorem SR.trim (r : SR K F Z m S H) {m0 : Mp} {n : Nat} (h0 : ∀ k a, m0 k = some a → k < n ∧ m k = some a) (b : Bool) :
    ∃ m', SR K F Z m' (S.trim n b) H ∧ (∀ k a, m0 k = some a → m' k = some a) ∧ (∀ k a, m' k = some a → m k = some a) ∧ (∀ {d : D} {v : V}, (b = true → belD n d = true) → RD K Z m d v → RD K Z m' d v) ∧ ∀ {d : List D} {v : List V}, (b = true → belDs n d = true) → RDs K Z m d v → RDs K Z m' d v := by
  unfold Sto.trim
  split
  · rename_i hb
    rw [Bool.and_eq_true, List.all_eq_true] at hb
    obtain ⟨hb, hc⟩ := hb
    refine ⟨mpCut m n, ⟨r.fs, r.zs, r.dj, fun k c q => ?_, fun k k' a c c' q q' e e' => ?_, fun k a e => ?_⟩, fun k a e => ?_, fun k a e => ?_, fun k h => h.cut (k hb), fun k h => h.cut (k hb)⟩
    · have q : look k (Mn.trim n S.cs) = some c := q
      obtain ⟨q1, q2⟩ := look_trim q
      obtain ⟨a, o, h1, h2, h3, h4, h5⟩ := r.cell k c q2
      refine ⟨a, o, ?_, h2, h3, h4, h5.cut (hc _ (look_mem q))⟩
      unfold mpCut
      rw [if_pos q1]
      exact h1
    · have q : look k (Mn.trim n S.cs) = some c := q
      have q' : look k' (Mn.trim n S.cs) = some c' := q'
      obtain ⟨q1, q2⟩ := look_trim q
      obtain ⟨q1', q2'⟩ := look_trim q'
      unfold mpCut at e e'
      rw [if_pos q1] at e
      rw [if_pos q1'] at e'
      exact r.inj k k' a c c' q2 q2' e e'
    · unfold mpCut at e
      split at e
      · assumption
      · cases e
    · obtain ⟨h1, h2⟩ := h0 k a e
      unfold mpCut
      rw [if_pos h1]
      exact h2
    · unfold mpCut at e
      split at e
      · exact e
      · cases e
  · exact ⟨m, r.less (fun k c q => (look_trim q).2) (Nat.le_refl _), fun k a e => (h0 k a e).2, fun _ _ e => e, fun _ h => h, fun _ h => h⟩
/-- a thing that no cell stands for stands still -/
theorem SR.still (r : SR K F Z m S H) {a : Addr} {o : HO} (ha : H a = some o) (hF : F a = none) (hZ : Z a = none) (hc : ∀ k c, S.get k = some c → m k ≠ some a) : SR K F (upd Z a o) m S H ∧ Ext Z m (upd Z a o) m := by
  have e : Ext Z m (upd Z a o) m := ⟨same_upd' hZ, fun _ _ q => q⟩
  refine ⟨⟨r.fs, fun b x q => ?_, fun b x q => ?_, fun k c q => ?_, r.inj, r.nx⟩, e⟩
  · by_cases hb : b = a
    · subst hb
      rw [upd_same] at q
      cases q
      exact ha
    · rw [upd_ne hb] at q
      exact r.zs b x q
  · have hb : b ≠ a := ne_of_none q hF
    rw [upd_ne hb]
    exact r.dj b x q
  · obtain ⟨b, x, h1, h2, h3, h4, h5⟩ := r.cell k c q
    have hb : b ≠ a := fun z => hc k c q (by rw [h1, z])
    exact ⟨b, x, h1, h2, h3, by rw [upd_ne hb]; exact h4, h5.mono e⟩
theorem get_trim {S : Sto} {n k : Nat} {b : Bool} {c : C} (h : (S.trim n b).get k = some c) : k < n ∧ S.get k = some c := by
  unfold Sto.trim at h
  split at h <;> exact look_trim h
/-- a def's end -/
theorem SR.exit (r : SR K F Z m S H) {m0 : Mp} {n : Nat} (h0 : ∀ k a, m0 k = some a → k < n ∧ m k = some a) {d : D} {v : V} (rd : RD K Z m d v) :
    ∃ Z' m', Same Z Z' ∧ (∀ k a, m0 k = some a → m' k = some a) ∧ SR K F Z' m' (S.trim n (belD n (S.out n d))) H ∧ RD K Z' m' (S.out n d) v := by
  have plain : S.out n d = d → ∃ Z' m', Same Z Z' ∧ (∀ k a, m0 k = some a → m' k = some a) ∧ SR K F Z' m' (S.trim n (belD n (S.out n d))) H ∧ RD K Z' m' (S.out n d) v := fun e => by
    rw [e]
    obtain ⟨m', q1, q2, _, q3, _⟩ := r.trim h0 (belD n d)
    exact ⟨Z, m', Same.refl _, q2, q1, q3 (fun z => z) rd⟩
  cases rd with
  | @ref k a hm =>
    by_cases hk : n ≤ k
    · cases hg : S.get k with
      | none =>
        refine plain ?_
        show (if n ≤ k then (match S.get k with
          | some (.lst xs) => D.lst xs
          | _ => .ref k) else .ref k) = .ref k
        rw [if_pos hk, hg]
      | some c =>
        cases c with
        | ins x fs =>
          refine plain ?_
          show (if n ≤ k then (match S.get k with
            | some (.lst xs) => D.lst xs
            | _ => .ref k) else .ref k) = .ref k
          rw [if_pos hk, hg]
        | lst xs =>
          have e : S.out n (.ref k) = .lst xs := by
            show (if n ≤ k then (match S.get k with
              | some (.lst xs) => D.lst xs
              | _ => .ref k) else .ref k) = .lst xs
            rw [if_pos hk, hg]
          rw [e]
          obtain ⟨a', vs, g1, g2, g3, g4, g5⟩ := r.lst k xs hg
          rw [hm] at g1
          cases g1
          obtain ⟨m', q1, q2, q4, _, q3⟩ := r.trim h0 (belD n (.lst xs))
          obtain ⟨s1, s2⟩ := q1.still g2 g3 g4 fun j c hj hj2 => by
            obtain ⟨l1, l2⟩ := get_trim hj
            have := r.inj j k a c _ l2 hg (q4 j a hj2) hm
            omega
          exact ⟨_, m', s2.z, q2, s1, .lst upd_same (RDs.mono s2 (q3 (fun z => z) g5))⟩
    · refine plain ?_
      show (if n ≤ k then (match S.get k with
        | some (.lst xs) => D.lst xs
        | _ => .ref k) else .ref k) = .ref k
      rw [if_neg hk]
  | _ => exact plain rfl

/-! ### what an operation sees: cells' lists are lists -/
inductive RV (K : PySem.W.Frag) (H Z : Hp) (m : Mp) : D → V → Prop
  | non : RV K H Z m .non .non
  | bl (b : Bool) : RV K H Z m (.bl b) (.bl b)
  | int (i : Int) : RV K H Z m (.int i) (.int i)
  | str (s : List Nat) : RV K H Z m (.str s) (.str (tx s))
  | rep (d : D) : RV K H Z m (.rep d) (.str (PyData.shown (toPy d)))
  | tup {k : Bool} {xs : List D} {a : Addr} {vs : List V} : (k = true → KnT Z a) → SqT K Z a vs → RDs K Z m xs vs → RV K H Z m (.tup k xs) (.ref a)
  | lst {xs : List D} {a : Addr} {vs : List V} : H a = some (.lst vs) → RDs K Z m xs vs → RV K H Z m (.lst xs) (.ref a)
  | ref {n : Nat} {a : Addr} : RV K H Z m (.ref n) (.ref a)
  | scr {ns : List Int} {a : Addr} : SqL K Z a (ns.map V.int) → RV K H Z m (.scr ns) (.ref a)
theorem SR.view0 (r : SR K F Z m S H) {d : D} {v : V} (h : RD K Z m d v) : RV K H Z m d v := by
  cases h with
  | non => exact .non
  | bl b => exact .bl b
  | int i => exact .int i
  | str s => exact .str s
  | rep d => exact .rep d
  | tup k h hs => exact .tup k h hs
  | lst h hs => exact .lst (r.zs _ _ h) hs
  | ref h => exact .ref
  | scr h => exact .scr h
theorem SR.view (r : SR K F Z m S H) {d : D} {v : V} (h : RD K Z m d v) : RV K H Z m (lz S d) v := by
  cases h with
  | ref h =>
    rename_i n a
    show RV K H Z m (match S.get n with
      | some (.lst xs) => .lst xs
      | _ => .ref n) (.ref a)
    cases q : S.get n with
    | none => exact .ref
    | some c =>
      cases c with
      | ins x fs => exact .ref
      | lst xs =>
        obtain ⟨b, ws, h1, h2, h3, h4, h5⟩ := r.lst n xs q
        rw [h] at h1
        cases h1
        exact .lst h2 h5
  | non => exact r.view0 .non
  | bl b => exact r.view0 (.bl b)
  | int i => exact r.view0 (.int i)
  | str s => exact r.view0 (.str s)
  | rep d => exact r.view0 (.rep d)
  | tup k h hs => exact r.view0 (.tup k h hs)
  | lst h hs => exact r.view0 (.lst h hs)
  | scr h => exact r.view0 (.scr h)

/-! ### data -/
mutual
theorem RD.dp (s : Same Z H) : ∀ {d : D} {v : V}, okD d = true → RD K Z m d v → Dp K H v (toPy d)
  | _, _, _, .non => .non
  | _, _, _, .bl b => .bl b
  | _, _, _, .int i => .int i
  | _, _, _, .str x => .str _
  | .rep d, _, k, _ => Bool.noConfusion (show false = true from k)
  | .ref n, _, k, _ => Bool.noConfusion (show false = true from k)
  | .scr n, _, k, _ => Bool.noConfusion (show false = true from k)
  | _, _, k, .tup _ h hs => .tup (seqT s h) (RDs.dp s (by simpa [okD] using k) hs)
  | _, _, k, .lst h hs => .lst (.inl (.inl (s _ _ h))) (RDs.dp s (by simpa [okD] using k) hs)
theorem RDs.dp (s : Same Z H) : ∀ {d : List D} {v : List V}, okDs d = true → RDs K Z m d v → DpAll K H v (toPys d)
  | _, _, _, .nil => .nil
  | _, _, k, .cons h hs => by
    simp only [okDs, Bool.and_eq_true] at k
    exact .cons (h.dp s k.1) (hs.dp s k.2)
end
theorem RV.dp (s : Same Z H) {d : D} {v : V} (k : okD d = true) (h : RV K H Z m d v) : Dp K H v (toPy d) := by
  cases h with
  | non => exact .non
  | bl b => exact .bl b
  | int i => exact .int i
  | str x => exact .str _
  | rep d => simp [okD] at k
  | ref => simp [okD] at k
  | scr h => simp [okD] at k
  | tup _ h hs => exact .tup (seqT s h) (hs.dp s (by simpa [okD] using k))
  | lst h hs => exact .lst (.inl (.inl h)) (hs.dp s (by simpa [okD] using k))
mutual
theorem canLay_of : ∀ {d : D}, okD d = true → (toPy d).canLay0 = true
  | .non, _ => rfl
  | .bl _, _ => rfl
  | .int _, _ => rfl
  | .str s, h => by
    show PyData.strOk (tx s) = true
    unfold PyData.strOk tx
    simpa [okD] using h
  | .rep _, h => by simp [okD] at h
  | .ref _, h => by simp [okD] at h
  | .scr _, h => by simp [okD] at h
  | .tup _ xs, h => canLays_of (by simpa [okD] using h)
  | .lst xs, h => canLays_of (by simpa [okD] using h)
theorem canLays_of : ∀ {d : List D}, okDs d = true → PyData.canLayAll0 (toPys d) = true
  | [], _ => rfl
  | x :: xs, h => by
    simp only [okDs, Bool.and_eq_true] at h
    show (PyData.canLay0 (toPy x) && PyData.canLayAll0 (toPys xs)) = true
    rw [canLay_of h.1, canLays_of h.2]
    rfl
end
mutual
theorem depth_of : ∀ d : D, (toPy d).depth = dpt d
  | .non => rfl
  | .bl _ => rfl
  | .int _ => rfl
  | .str s => rfl
  | .rep _ => rfl
  | .ref _ => rfl
  | .scr _ => rfl
  | .tup _ xs => by
    show PyData.depthAll (toPys xs) + 1 = dpts xs + 1
    rw [depths_of xs]
  | .lst xs => by
    show PyData.depthAll (toPys xs) + 1 = dpts xs + 1
    rw [depths_of xs]
theorem depths_of : ∀ d : List D, PyData.depthAll (toPys d) = dpts d
  | [] => rfl
  | x :: xs => by
    show max (PyData.depth (toPy x)) (PyData.depthAll (toPys xs)) = max (dpt x) (dpts xs)
    rw [depth_of x, depths_of xs]
end
theorem shaped_of {d : D} (h : okD d = true) (k : dpt d ≤ 64) : SeqAt.shaped (toPy d) = true := by
  unfold SeqAt.shaped
  rw [canLay_of h, depth_of]
  simp [k]
mutual
theorem shows_of : ∀ {d : D}, smD d = true → (toPy d).showable = true
  | .non, _ => rfl
  | .bl _, _ => rfl
  | .int _, h => h
  | .str s, h => rfl
  | .rep _, h => rfl
  | .ref _, h => rfl
  | .scr _, h => rfl
  | .tup _ xs, h => shows_ofs (by simpa [smD] using h)
  | .lst xs, h => shows_ofs (by simpa [smD] using h)
theorem shows_ofs : ∀ {d : List D}, smDs d = true → PyData.showableAll (toPys d) = true
  | [], _ => rfl
  | x :: xs, h => by
    simp only [smDs, Bool.and_eq_true] at h
    show (PyData.showable (toPy x) && PyData.showableAll (toPys xs)) = true
    rw [shows_of h.1, shows_ofs h.2]
    rfl
end
theorem tx_inj {a b : List Nat} : tx a = tx b ↔ a = b := by
  constructor
  · intro h
    have h1 : a.toArray = b.toArray := congrArg Str.cps h
    simpa using h1
  · intro h
    rw [h]
mutual
theorem eqv_of (a b : D) (h : okD a = true) (k : okD b = true) : PyData.eqv (toPy a) (toPy b) = peq a b := by
  match a, b with
  | .tup _ a, .tup _ b => exact eqvs_of a b h k
  | .lst a, .lst b => exact eqvs_of a b h k
  | .bl a, .int j => exact decide_eq_decide.mpr ⟨Eq.symm, Eq.symm⟩
  | .str a, .str b => exact decide_eq_decide.mpr tx_inj
  | .non, b => cases b <;> first | rfl | cases k
  | .bl a, .bl b => rfl
  | .bl a, .non | .bl a, .str _ | .bl a, .tup _ _ | .bl a, .lst _ => rfl
  | .int i, .int j => rfl
  | .int i, .bl j => rfl
  | .int a, .non | .int a, .str _ | .int a, .tup _ _ | .int a, .lst _ => rfl
  | .str a, .non | .str a, .int _ | .str a, .bl _ | .str a, .tup _ _ | .str a, .lst _ => rfl
  | .tup _ a, .non | .tup _ a, .int _ | .tup _ a, .bl _ | .tup _ a, .str _ | .tup _ a, .lst _ => rfl
  | .lst a, .non | .lst a, .int _ | .lst a, .bl _ | .lst a, .str _ | .lst a, .tup _ _ => rfl
  | .rep _, _ => cases h
  | .ref _, _ => cases h
  | .scr _, _ => cases h
  | .bl _, .scr _ | .int _, .scr _ | .str _, .scr _ | .tup _ _, .scr _ | .lst _, .scr _ => cases k
  | .bl _, .rep _ | .int _, .rep _ | .str _, .rep _ | .tup _ _, .rep _ | .lst _, .rep _ => cases k
  | .bl _, .ref _ | .int _, .ref _ | .str _, .ref _ | .tup _ _, .ref _ | .lst _, .ref _ => cases k
theorem eqvs_of (a b : List D) (h : okDs a = true) (k : okDs b = true) : PyData.eqvAll (toPys a) (toPys b) = peqs a b := by
  match a, b with
  | [], [] => rfl
  | [], _ :: _ => rfl
  | _ :: _, [] => rfl
  | a :: as, b :: bs =>
    have h' := Bool.and_eq_true_iff.mp (show (okD a && okDs as) = true from h)
    have k' := Bool.and_eq_true_iff.mp (show (okD b && okDs bs) = true from k)
    show (PyData.eqv (toPy a) (toPy b) && PyData.eqvAll (toPys as) (toPys bs)) = (peq a b && peqs as bs)
    rw [eqv_of a b h'.1 k'.1, eqvs_of as bs h'.2 k'.2]
end
end Mn

/-! Operations by values: what the machine answers is what Python answers. -/
namespace Mn
open PySem PySem.Spec PyProof.Rows L2

/-- what is fixed through a def: the written part, subclasses, calls, the classes' places -/
structure Pm where
  K : PySem.W.Frag
  sub : Nat → Nat → Bool
  cl : Calls
  ca : Nat → Addr
def XRel (ca : Nat → Addr) (x : Ex) (cls : Value) (d : Option Addr) : Prop := cls = .ref (ca x.cls) ∧ (x.fs = [] → d = none)
section
variable {α β γ δ : Type}
def Post (p : Pm) (F Z : Hp) (m : Mp) (T : Hp → Mp → α → β → Prop) (Q : β → Hp → Prop) (E : XK) : R α → Prop
  | .ok d S => ∀ Z' m' H' v, Ext Z m Z' m' → SR p.K F Z' m' S H' → T Z' m' d v → Q v H'
  | .exc x S => ∀ Z' m' H' cls d, Ext Z m Z' m' → SR p.K F Z' m' S H' → XRel p.ca x cls d → E cls d H'
  | .bad => False
variable {p : Pm} {F Z Z1 : Hp} {m m1 : Mp} {T : Hp → Mp → α → β → Prop} {T' : Hp → Mp → γ → δ → Prop} {Q : β → Hp → Prop} {Q' : δ → Hp → Prop} {E : XK}
theorem Post.ext {r : R α} (h : Post p F Z m T Q E r) (e : Ext Z m Z1 m1) : Post p F Z1 m1 T Q E r := by
  cases r with
  | ok d S => exact fun Z' m' H' v e' => h Z' m' H' v (e.trans e')
  | exc x S => exact fun Z' m' H' c d e' => h Z' m' H' c d (e.trans e')
  | bad => exact h
theorem Post.bind {r : R α} {f : α → Sto → R γ} {G : β → Hp → Prop} (h : Post p F Z m T' Q' E (r.bind f))
    (k : ∀ d S1 Z1 m1 H1 v, r = .ok d S1 → Ext Z m Z1 m1 → SR p.K F Z1 m1 S1 H1 → T Z1 m1 d v → Post p F Z1 m1 T' Q' E (f d S1) → G v H1) : Post p F Z m T G E r := by
  cases r with
  | ok d S =>
    intro Z' m' H' v e s t
    exact k d S Z' m' H' v rfl e s t (Post.ext (r := f d S) h e)
  | exc x S => exact h
  | bad => exact h
/-- more is other's -/
theorem Post.other {F' : Hp} {r : R α} (h : Post p F Z m T Q E r) (s : Same F F') : Post p F' Z m T Q E r := by
  have wk : ∀ {Z' : Hp} {m' : Mp} {S : Sto} {H : Hp}, SR p.K F' Z' m' S H → SR p.K F Z' m' S H := fun {Z' m' S H} q =>
    ⟨s.trans q.fs, q.zs, fun b o e => q.dj b o (s b o e), fun n c e => by
      obtain ⟨a, o, h1, h2, h3, h4, h5⟩ := q.cell n c e
      refine ⟨a, o, h1, h2, ?_, h4, h5⟩
      cases k : F a with
      | none => rfl
      | some x =>
        rw [s a x k] at h3
        exact absurd h3 (by simp), q.inj, q.nx⟩
  cases r with
  | ok d S => exact fun Z' m' H' v e q => h Z' m' H' v e (wk q)
  | exc x S => exact fun Z' m' H' cls d e q => h Z' m' H' cls d e (wk q)
  | bad => exact h
theorem Post.of {S : Sto} {o : Option α} {f : α → Sto → R γ} (h : Post p F Z m T' Q' E ((R.of S o).bind f)) : ∃ a, o = some a ∧ Post p F Z m T' Q' E (f a S) := by
  cases o with
  | none => exact False.elim h
  | some a => exact ⟨a, rfl, h⟩
theorem Post.now {d : α} {S : Sto} {H : Hp} {v : β} (h : Post p F Z m T Q E (.ok d S)) (s : SR p.K F Z m S H) (t : T Z m d v) : Q v H := h Z m H v Ext.refl s t
end
section
variable {p : Pm} {F Z H : Hp} {m : Mp} {S : Sto} {E : XK}
/-- the answer is a new thing that stands still -/
theorem Post.newZ {d : D} {Q : VK} {o : HO} (h : Post p F Z m (RD p.K) Q E (.ok d S)) (s : SR p.K F Z m S H) (k : ∀ Z' a, Ext Z m Z' m → Z' a = some o → RD p.K Z' m d (.ref a)) (a : Addr) (ha : H a = none) : Q (.ref a) (upd H a o) := by
  obtain ⟨s1, e1⟩ := s.newZ o ha
  exact h _ _ _ _ e1 s1 (k _ _ e1 upd_same)
/-- the answer is a new cell -/
theorem Post.newC {xs : List D} {vs : List V} {Q : VK} (h : Post p F Z m (RD p.K) Q E (.ok (.ref S.next) (S.new (.lst xs)))) (s : SR p.K F Z m S H) (r : RDs p.K Z m xs vs) (a : Addr) (ha : H a = none) : Q (.ref a) (upd H a (.lst vs)) := by
  obtain ⟨s1, e1, r1⟩ := s.newC ha r
  exact h _ _ _ _ e1 s1 r1
theorem Post.newL {xs : List D} {vs : List V} {Q : VK} {k : Bool} (h : Post p F Z m (RD p.K) Q E (newL k xs S)) (s : SR p.K F Z m S H) (r : RDs p.K Z m xs vs) : vs.length ≤ sizeLine ∧ ∀ a, H a = none → Q (.ref a) (upd H a (.lst vs)) := by
  unfold Mn.newL at h
  split at h
  · rename_i hl
    refine ⟨by rw [← r.length]; exact hl, fun a ha => ?_⟩
    cases k with
    | true => exact h.newC s r a ha
    | false => exact h.newZ s (fun Z' b e hb => .lst hb (r.mono e)) a ha
  · exact False.elim h
def opOf : BO → Operator
  | .add => .Add
  | .sub => .Sub
  | .mul => .Mult
  | .fdiv => .FloorDiv
  | .mod => .Mod
  | .pow => .Pow
abbrev rBop (p : Pm) (E : XK) (o : BO) : R2 := fun v w H Q => ∃ F Z m S x y, SR p.K F Z m S H ∧ RD p.K Z m x v ∧ RD p.K Z m y w ∧ Post p F Z m (RD p.K) Q E (bop o x y S)
theorem sml_ok {i : Int} (h : sml i = true) : -(2 ^ 64) < i ∧ i < 2 ^ 64 := by
  have := of_decide_eq_true h
  omega
theorem line_eq : line = sizeLine := rfl
theorem tx_append (a b : List Nat) : tx a ++ tx b = tx (a ++ b) := by
  show (⟨a.toArray ++ b.toArray⟩ : Str) = ⟨(a ++ b).toArray⟩
  simp
theorem tx_length (a : List Nat) : (tx a).length = a.length := rfl
theorem op_addc {X : Cx} : OpR X (binaryOp .Add) (fun v w H Q => ∃ F Z m S x y, SR p.K F Z m S H ∧ RD p.K Z m x v ∧ RD p.K Z m y w ∧ Post p F Z m (RD p.K) Q E (addcf x y S)) := by
  intro pins s σ H x y v u Q I rx ry h
  obtain ⟨F, Z, m, S, dx, dy, sr, hx, hy, h⟩ := h
  have vx := sr.view hx
  have vy := sr.view hy
  unfold addcf at h
  generalize lz S dx = ex at vx h
  generalize lz S dy = ey at vy h
  cases vx <;> cases vy <;> first | exact False.elim h | skip
  rename_i xs a vs h1 h2 ys b ws h3 h4
  dsimp only at h
  split at h
  · rename_i hl
    rw [frL_eq] at h
    rw [h2.length, h4.length] at hl
    exact op_cat pins s σ H _ _ v u Q I rx ry ⟨a, b, vs, ws, rfl, rfl, h1, h3, hl, fun q hq => h.newC sr (h2.append h4) q hq⟩
  · exact False.elim h
theorem op_bop {X : Cx} (hk : X.K = p.K) (o : BO) : OpR X (binaryOp (opOf o)) (rBop p E o) := by
  intro pins s σ H x y v u Q I rx ry h
  obtain ⟨F, Z, m, S, dx, dy, sr, hx, hy, h⟩ := h
  have vx := sr.view hx
  have vy := sr.view hy
  unfold bop at h
  generalize lz S dx = ex at vx h
  generalize lz S dy = ey at vy h
  cases o with
  | add =>
    cases vx <;> cases vy <;> first | exact False.elim h | skip
    · dsimp only at h
      rw [frI_eq] at h
      exact op_add pins s σ H _ _ v u Q I rx ry ⟨_, _, rfl, rfl, h.now sr (.int _)⟩
    · rename_i a b
      dsimp only at h
      split at h
      · rename_i hl
        rw [frL_eq] at h
        refine op_add_str pins s σ H _ _ v u Q I rx ry ⟨_, _, rfl, rfl, hl, ?_⟩
        rw [tx_append]
        exact h.now sr (.str _)
      · exact False.elim h
    · rename_i kx xs a vs h0 h1 h2 ky ys b ws h0' h3 h4
      dsimp only at h
      split at h
      · rename_i hl
        rw [frL_eq] at h
        rw [h2.length, h4.length] at hl
        have g1 := seqT sr.zs h1
        have g3 := seqT sr.zs h3
        rw [← hk] at g1 g3
        refine op_catA pins s σ H _ _ v u Q I rx ry ⟨a, b, vs, ws, rfl, rfl, g1, g3, hl, fun e => ?_, fun _ e => ?_, fun _ _ q hq => ?_⟩
        · subst e
          have z : xs = [] := List.length_eq_zero_iff.mp (by rw [h2.length]; rfl)
          subst z
          exact h.now sr (.tup (fun z => Bool.noConfusion z) h3 h4)
        · subst e
          have z : ys = [] := List.length_eq_zero_iff.mp (by rw [h4.length]; rfl)
          subst z
          rw [List.append_nil] at h
          exact h.now sr (.tup (fun z => Bool.noConfusion z) h1 h2)
        · exact h.newZ sr (fun Z' c e hc => .tup (fun z => Bool.noConfusion z) (.inl (.inl hc)) ((h2.append h4).mono e)) q hq
      · exact False.elim h
    · rename_i xs a vs h1 h2 ys b ws h3 h4
      dsimp only at h
      split at h
      · rename_i hl
        rw [frL_eq] at h
        rw [h2.length, h4.length] at hl
        exact op_cat pins s σ H _ _ v u Q I rx ry ⟨a, b, vs, ws, rfl, rfl, h1, h3, hl, fun q hq => h.newZ sr (fun Z' c e hc => .lst hc ((h2.append h4).mono e)) q hq⟩
      · exact False.elim h
  | sub =>
    cases vx <;> cases vy <;> first | exact False.elim h | skip
    dsimp only at h
    rw [frI_eq] at h
    exact op_sub pins s σ H _ _ v u Q I rx ry ⟨_, _, rfl, rfl, h.now sr (.int _)⟩
  | mul =>
    cases vx <;> cases vy <;> first | exact False.elim h | skip
    · rename_i i j
      dsimp only at h
      split at h
      · rename_i hl
        rw [frI_eq] at h
        have q : Q (.int (i * j)) H := h.now sr (.int _)
        rcases Bool.or_eq_true_iff.mp hl with hl | hl
        · rcases Bool.or_eq_true_iff.mp hl with hl | hl
          · exact op_mul pins s σ H _ _ v u Q I rx ry ⟨_, _, rfl, rfl, .inl (sml_ok hl), q⟩
          · exact op_mul pins s σ H _ _ v u Q I rx ry ⟨_, _, rfl, rfl, .inr (sml_ok hl), q⟩
        · refine op_mulW pins s σ H _ _ v u Q I rx ry ⟨_, _, rfl, rfl, ?_, q⟩
          have := of_decide_eq_true hl
          unfold CMulW
          omega
      · exact False.elim h
    · rename_i kx xs a vs h0 h1 h2 j
      dsimp only at h
      split at h
      · rename_i hl
        simp only [Bool.and_eq_true, decide_eq_true_eq] at hl
        obtain ⟨⟨⟨l1, l2⟩, l3⟩, l4⟩ := hl
        rw [frL_eq] at h
        rw [h2.length] at l3 l4
        exact op_repT pins s σ H _ _ v u Q I rx ry ⟨a, j, vs, rfl, rfl, by rw [hk]; exact seqT sr.zs h1, fun z => by (rw [z] at l3; simp at l3), by omega, by omega, l4, fun q hq => h.newZ sr (fun Z' c e hc => .tup (fun z => Bool.noConfusion z) (.inl (.inl hc)) ((h2.rep _).mono e)) q hq⟩
      · exact False.elim h
    · rename_i xs a vs h1 h2 j
      dsimp only at h
      split at h
      · rename_i hl
        simp only [Bool.and_eq_true, decide_eq_true_eq] at hl
        obtain ⟨⟨l1, l2⟩, l3⟩ := hl
        rw [frL_eq] at h
        rw [h2.length] at l3
        exact op_rep pins s σ H _ _ v u Q I rx ry ⟨a, j, vs, rfl, rfl, h1, by omega, by omega, l3, fun q hq => h.newZ sr (fun Z' c e hc => .lst hc ((h2.rep _).mono e)) q hq⟩
      · exact False.elim h
  | fdiv =>
    cases vx <;> cases vy <;> first | exact False.elim h | skip
    dsimp only at h
    split at h
    · rename_i hl
      simp only [Bool.and_eq_true, decide_eq_true_eq] at hl
      rw [frI_eq] at h
      exact op_fdiv pins s σ H _ _ v u Q I rx ry ⟨_, _, rfl, rfl, hl, h.now sr (.int _)⟩
    · exact False.elim h
  | mod =>
    cases vx <;> cases vy <;> first | exact False.elim h | skip
    dsimp only at h
    split at h
    · rename_i hl
      rw [frI_eq] at h
      exact op_mod pins s σ H _ _ v u Q I rx ry ⟨_, _, rfl, rfl, of_decide_eq_true hl, h.now sr (.int _)⟩
    · exact False.elim h
  | pow =>
    cases vx <;> cases vy <;> first | exact False.elim h | skip
    dsimp only at h
    split at h
    · rename_i hl
      simp only [Bool.and_eq_true, decide_eq_true_eq] at hl
      obtain ⟨⟨l1, l2⟩, l3⟩ := hl
      rw [frI_eq] at h
      exact op_pow pins s σ H _ _ v u Q I rx ry ⟨_, _, rfl, rfl, ⟨l1, l2, of_decide_eq_true l3⟩, h.now sr (.int _)⟩
    · exact False.elim h
/-! ### comparisons -/
def cmpOf : CO → CmpOp
  | .eq => .Eq
  | .ne => .NotEq
  | .lt => .Lt
  | .le => .LtE
  | .gt => .Gt
  | .ge => .GtE
  | .is => .Is
  | .isn => .IsNot
  | .inn => .In
  | .nin => .NotIn
abbrev rCop (p : Pm) (o : CO) : R2 := fun v w H Q => ∃ F Z m S x y k, SR p.K F Z m S H ∧ RD p.K Z m x v ∧ RD p.K Z m y w ∧ cop o x y S = some k ∧ Q (.bl k) H
theorem eqD_cases {x y : D} {k : Bool} (h : eqD x y = some k) : (∃ a b, x = .rep a ∧ y = .rep b ∧ toPy a = toPy b ∧ k = true) ∨ (okD x = true ∧ okD y = true ∧ dpt x ≤ 64 ∧ dpt y ≤ 64 ∧ k = peq x y) := by
  have gen : ∀ {x y : D}, eqOf x y = some k → okD x = true ∧ okD y = true ∧ dpt x ≤ 64 ∧ dpt y ≤ 64 ∧ k = peq x y := fun {x y} h => by
    unfold eqOf at h
    split at h
    · rename_i hl
      simp only [Bool.and_eq_true, decide_eq_true_eq] at hl
      exact ⟨hl.1.1.1, hl.1.1.2, hl.1.2, hl.2, (Option.some.inj h).symm⟩
    · cases h
  unfold eqD at h
  split at h
  · rename_i a b
    split at h
    · rename_i hl
      cases h
      exact .inl ⟨a, b, rfl, rfl, beq_py _ _ hl, rfl⟩
    · cases h
  · exact .inr (gen h)
theorem flat_rd {K : PySem.W.Frag} {Z : Hp} {m : Mp} {d : D} {v : V} (h : RD K Z m d v) (f : flatD d = true) : flatV v = true := by
  cases h <;> first | rfl | cases f
theorem flats_rd {K : PySem.W.Frag} {Z : Hp} {m : Mp} : ∀ {d : List D} {v : List V}, RDs K Z m d v → d.all flatD = true → v.all flatV = true
  | _, _, .nil, _ => rfl
  | _, _, .cons r rs, f => by
    rw [List.all_cons, Bool.and_eq_true] at f ⊢
    exact ⟨flat_rd r f.1, flats_rd rs f.2⟩
theorem eq_flat {K : PySem.W.Frag} {Z : Hp} {m : Mp} {d e : D} {v w : V} (h : RD K Z m d v) (h' : RD K Z m e w) (f : flatD d = true) (f' : flatD e = true) : eqV v w = peq d e := by
  have bi : ∀ a b : Int, (a == b) = decide (a = b) := fun a b => by
    by_cases q : a = b
    · subst q
      simp
    · simp [q]
  cases h <;> first | (cases f; done) | skip <;> cases h' <;> first | (cases f'; done) | rfl | skip
  · rename_i a b
    show ((if a then (1 : Int) else 0) == b) = decide (b = if a then (1 : Int) else 0)
    rw [bi]
    simp only [eq_comm]
  · rename_i a b
    show (tx a == tx b) = decide (a = b)
    by_cases q : a = b
    · subst q
      simp
    · have : tx a ≠ tx b := fun z => q (tx_inj.mp z)
      simp [q, this]
theorem in_flat {K : PySem.W.Frag} {Z : Hp} {m : Mp} {e : D} {w : V} (h' : RD K Z m e w) (f' : flatD e = true) : ∀ {d : List D} {v : List V}, RDs K Z m d v → d.all flatD = true → inV w v = d.any fun z => peq z e
  | _, _, .nil, _ => rfl
  | _, _, .cons r rs, f => by
    rw [List.all_cons, Bool.and_eq_true] at f
    show (eqV _ w || inV w _) = (peq _ e || List.any _ _)
    rw [eq_flat r h' f.1 f', in_flat h' f' rs f.2]
theorem any_mem {c : Nat} : ∀ z : List Nat, (z.any fun d => decide (d = c)) = decide (c ∈ z) := fun z => by
  rw [Bool.eq_iff_iff, List.any_eq_true, decide_eq_true_eq]
  constructor
  · rintro ⟨d, h1, h2⟩
    rw [← of_decide_eq_true h2]
    exact h1
  · exact fun h => ⟨c, h, decide_eq_true rfl⟩
theorem inD_ok {K : PySem.W.Frag} {F Z H : Hp} {m : Mp} {S : Sto} (sr : SR K F Z m S H) {x y : D} {v w : V} {b : Bool} (hx : RD K Z m x v) (hy : RD K Z m y w) (h : inD x (lz S y) = some b) :
    (∃ p xs, w = .ref p ∧ (SqL K H p xs ∨ SqT K H p xs) ∧ flatV v = true ∧ xs.all flatV = true ∧ b = inV v xs) ∨ ∃ (c : Nat) (z : Str), v = .str ⟨#[c]⟩ ∧ w = .str z ∧ b = decide (c ∈ z.cps.toList) := by
  have vy := sr.view hy
  generalize lz S y = ey at vy h
  cases vy <;> first | (cases h; done) | skip
  · rename_i z
    cases hx <;> first | (cases h; done) | skip
    rename_i cs
    cases cs with
    | nil => cases h
    | cons c cs =>
      cases cs with
      | cons _ _ => cases h
      | nil =>
        cases h
        exact .inr ⟨c, tx z, rfl, rfl, any_mem z⟩
  · rename_i k0 xs a vs h0 h1 h2
    have h : (if (flatD x && xs.all flatD) = true then some (xs.any fun z => peq z x) else none) = some b := h
    split at h
    · rename_i hf
      rw [Bool.and_eq_true] at hf
      cases h
      exact .inl ⟨a, vs, rfl, .inr (seqT sr.zs h1), flat_rd hx hf.1, flats_rd h2 hf.2, (in_flat hx hf.1 h2 hf.2).symm⟩
    · cases h
  · rename_i xs a vs h1 h2
    have h : (if (flatD x && xs.all flatD) = true then some (xs.any fun z => peq z x) else none) = some b := h
    split at h
    · rename_i hf
      rw [Bool.and_eq_true] at hf
      cases h
      exact .inl ⟨a, vs, rfl, .inl (.inl (.inl h1)), flat_rd hx hf.1, flats_rd h2 hf.2, (in_flat hx hf.1 h2 hf.2).symm⟩
    · cases h
theorem op_cop {X : Cx} (hk : X.K = p.K) (hu : X.A.units + 64 < cLine) (o : CO) : OpR X (compareOp (cmpOf o)) (rCop p o) := by
  intro pins s σ H x y v u Q I rx ry h
  obtain ⟨F, Z, m, S, dx, dy, k, sr, hx, hy, h, q⟩ := h
  have vx := sr.view hx
  have vy := sr.view hy
  have same : ∀ {a b : D} {vx vy : V}, toPy a = toPy b → RV p.K H Z m (.rep a) vx → RV p.K H Z m (.rep b) vy → vx = vy ∧ ∃ z, vx = .str z := fun {a b vx vy} e h1 h2 => by
    cases h1
    cases h2
    rw [e]
    exact ⟨rfl, _, rfl⟩
  have bq : ∀ a b : Bool, decide (a = b) = (a == b) := by decide
  cases o with
  | eq =>
    unfold cop at h
    rcases eqD_cases h with ⟨a, b, e1, e2, e3, rfl⟩ | ⟨k1, k2, d1, d2, rfl⟩
    · rw [e1] at vx
      rw [e2] at vy
      obtain ⟨rfl, z, rfl⟩ := same e3 vx vy
      refine op_eq pins s σ H _ _ v u Q I rx ry ⟨rfl, ?_⟩
      rw [decide_eq_true rfl]
      exact q
    · have p1 := vx.dp sr.zs k1
      have p2 := vy.dp sr.zs k2
      rw [← hk] at p1 p2
      refine op_eqD hu pins s σ H _ _ v u Q I rx ry ⟨_, _, p1, p2, shaped_of k1 d1, shaped_of k2 d2, ?_⟩
      rw [eqv_of _ _ k1 k2]
      exact q
  | ne =>
    have h : (eqD (lz S dx) (lz S dy)).map not = some k := h
    cases e : eqD (lz S dx) (lz S dy) with
    | none =>
      rw [e] at h
      cases h
    | some b =>
      rw [e] at h
      cases h
      rcases eqD_cases e with ⟨a, b, e1, e2, e3, rfl⟩ | ⟨k1, k2, d1, d2, rfl⟩
      · rw [e1] at vx
        rw [e2] at vy
        obtain ⟨rfl, z, rfl⟩ := same e3 vx vy
        refine op_ne pins s σ H _ _ v u Q I rx ry ⟨rfl, ?_⟩
        rw [decide_eq_true rfl]
        exact q
      · have p1 := vx.dp sr.zs k1
        have p2 := vy.dp sr.zs k2
        rw [← hk] at p1 p2
        refine op_neD hu pins s σ H _ _ v u Q I rx ry ⟨_, _, p1, p2, shaped_of k1 d1, shaped_of k2 d2, ?_⟩
        rw [eqv_of _ _ k1 k2]
        exact q
  | lt =>
    unfold cop at h
    cases hx <;> cases hy <;> first | (cases h; done) | skip
    cases h
    exact op_lt pins s σ H _ _ v u Q I rx ry ⟨_, _, rfl, rfl, q⟩
  | le =>
    unfold cop at h
    cases hx <;> cases hy <;> first | (cases h; done) | skip
    cases h
    exact op_le pins s σ H _ _ v u Q I rx ry ⟨_, _, rfl, rfl, q⟩
  | gt =>
    unfold cop at h
    cases hx <;> cases hy <;> first | (cases h; done) | skip
    cases h
    exact op_gt pins s σ H _ _ v u Q I rx ry ⟨_, _, rfl, rfl, q⟩
  | ge =>
    unfold cop at h
    cases hx <;> cases hy <;> first | (cases h; done) | skip
    cases h
    exact op_ge pins s σ H _ _ v u Q I rx ry ⟨_, _, rfl, rfl, q⟩
  | is =>
    have h : isD dx dy = some k := h
    cases hy with
    | non =>
      refine op_isN pins s σ H _ _ v u Q I rx ry ⟨rfl, ?_⟩
      cases hx <;> (cases h; exact q)
    | bl b =>
      cases hx <;> first | (cases h; done) | skip
      cases h
      refine op_isBl pins s σ H _ _ v u Q I rx ry ⟨_, b, rfl, rfl, ?_⟩
      rw [bq]
      exact q
    | _ => cases hx <;> cases h
  | isn =>
    have h : (isD dx dy).map not = some k := h
    cases hy with
    | non =>
      refine op_notN pins s σ H _ _ v u Q I rx ry ⟨rfl, ?_⟩
      cases hx <;> (cases h; exact q)
    | bl b =>
      cases hx <;> first | (cases h; done) | skip
      cases h
      refine op_notBl pins s σ H _ _ v u Q I rx ry ⟨_, b, rfl, rfl, ?_⟩
      rw [bq]
      exact q
    | _ => cases hx <;> cases h
  | inn =>
    rcases inD_ok sr hx hy h with ⟨a, xs, rfl, h1, h2, h3, rfl⟩ | ⟨c, z, rfl, rfl, rfl⟩
    · rw [← hk] at h1
      exact op_in_seq pins s σ H _ _ v u Q I rx ry ⟨a, xs, rfl, h1, h2, h3, q⟩
    · exact op_in_sign pins s σ H _ _ v u Q I rx ry ⟨c, z, rfl, rfl, q⟩
  | nin =>
    obtain ⟨b, hb, e⟩ : ∃ b, inD dx (lz S dy) = some b ∧ (!b) = k := by
      have h : (inD dx (lz S dy)).map not = some k := h
      cases e : inD dx (lz S dy) with
      | none =>
        rw [e] at h
        cases h
      | some b =>
        rw [e] at h
        exact ⟨b, rfl, Option.some.inj h⟩
    subst e
    rcases inD_ok sr hx hy hb with ⟨a, xs, rfl, h1, h2, h3, rfl⟩ | ⟨c, z, rfl, rfl, rfl⟩
    · rw [← hk] at h1
      exact op_notIn_seq pins s σ H _ _ v u Q I rx ry ⟨a, xs, rfl, h1, h2, h3, q⟩
    · exact op_notIn_sign pins s σ H _ _ v u Q I rx ry ⟨c, z, rfl, rfl, q⟩
end
end Mn

/-! Built-in functions by values. -/
namespace Mn
open PySem PySem.Spec PyProof.Rows L2
theorem textFrom_le : ∀ (ts : List Str) (k : Nat) (acc : Str), (textFrom k acc ts).length ≤ acc.length + piled ts
  | [], k, acc => by
    show acc.length ≤ _
    omega
  | t :: r, k, acc => by
    have ih := textFrom_le r (k + 1) (acc ++ (if k > 0 then ", " else "" : String) ++ t)
    have e : (acc ++ (if k > 0 then ", " else "" : String) ++ t).length ≤ acc.length + 2 + t.length := by
      rw [strLen_append, strLen_append]
      split
      · exact Nat.le_refl _
      · show acc.length + 0 + t.length ≤ _
        omega
    show (textFrom (k + 1) _ r).length ≤ _
    rw [piled_cons]
    omega
theorem join_le : ∀ ts : List Str, (Str.join ", " ts).length ≤ piled ts
  | [] => Nat.zero_le _
  | t :: r => by
    have := join_length_add (t :: r) (by simp)
    omega
mutual
theorem shown_le : ∀ {d : D}, okD d = true → (PyData.shown (toPy d)).length ≤ shL d
  | .non, _ => by decide
  | .bl b, _ => by cases b <;> decide
  | .int i, _ => by
    show (Str.ofString (toString i)).length ≤ i.natAbs.log2 + 3
    rw [PySem.ofString_length]
    have := int_text_length_le (a := i) (k := i.natAbs.log2 + 1) (Nat.succ_pos _) (Nat.lt_succ_self _)
    omega
  | .str s, h => by
    show (reprText (tx s)).length ≤ 10 * s.length + 2
    refine StrLaws.reprText_len (tx s) fun c hc => ?_
    have h2 : ∀ x ∈ s, x < 0x110000 := by simpa [okD] using h
    have := h2 c hc
    omega
  | .tup _ xs, h => by
    have ih := shown_les (d := xs) (by simpa [okD] using h)
    show (tupleText (PyData.shownAll (toPys xs))).length ≤ shLs xs + 4
    unfold tupleText
    rw [strLen_append, strLen_append]
    have j := join_le (PyData.shownAll (toPys xs))
    have e1 : (("(" : String) : Str).length = 1 := rfl
    have e2 : ((if (PyData.shownAll (toPys xs)).length == 1 then ",)" else ")" : String) : Str).length ≤ 2 := by
      split <;> decide
    omega
  | .lst xs, h => by
    have ih := shown_les (d := xs) (by simpa [okD] using h)
    show (listText (PyData.shownAll (toPys xs))).length ≤ shLs xs + 4
    unfold listText
    rw [strLen_append]
    have j := textFrom_le (PyData.shownAll (toPys xs)) 0 "["
    have e1 : (("[" : String) : Str).length = 1 := rfl
    have e2 : (("]" : String) : Str).length = 1 := rfl
    omega
  | .rep _, h => by simp [okD] at h
  | .ref _, h => by simp [okD] at h
  | .scr _, h => by simp [okD] at h
theorem shown_les : ∀ {d : List D}, okDs d = true → piled (PyData.shownAll (toPys d)) ≤ shLs d
  | [], _ => Nat.le_refl _
  | x :: xs, h => by
    simp only [okDs, Bool.and_eq_true] at h
    have h1 := shown_le h.1
    have h2 := shown_les h.2
    show piled (PyData.shown (toPy x) :: PyData.shownAll (toPys xs)) ≤ shL x + 2 + shLs xs
    rw [piled_cons]
    omega
end
mutual
theorem noDict_of : ∀ d : D, (toPy d).hasDict = false
  | .non | .bl _ | .int _ | .str _ | .rep _ | .ref _ | .scr _ => rfl
  | .tup _ xs => noDicts_of xs
  | .lst xs => noDicts_of xs
theorem noDicts_of : ∀ d : List D, PyData.hasDictAll (toPys d) = false
  | [] => rfl
  | x :: xs => by
    show (PyData.hasDict (toPy x) || PyData.hasDictAll (toPys xs)) = false
    rw [noDict_of x, noDicts_of xs]
    rfl
end
section
variable {X : Cx} {pins : List (Addr × Obj)} {σ : L2.St} {H : Hp} {s : Shared}
theorem repr_ok (I : L2.Inv X pins σ H s) (hg : X.A.guards = some []) (hu : X.A.units + 66 < cLine) {a : Addr} {d : D} (hd : shwD d = true) (hp : Dp X.K H (.ref a) (toPy d)) {Q : VK} (q : Q (.str (PyData.shown (toPy d))) H) :
    wpAny (model X.prog X.w) X.A (call (.builtin "repr") [.ref a]) (EP X pins σ Q) X.xe s := by
  unfold shwD at hd
  simp only [Bool.and_eq_true, decide_eq_true_eq] at hd
  obtain ⟨⟨⟨h1, h2⟩, h3⟩, h4⟩ := hd
  obtain ⟨as, r⟩ := Dp.reads I _ _ _ hp rfl
  have hdp : (toPy d).depth ≤ 64 := by rw [depth_of]; exact h3
  refine repr_of_reads' r (shows_of h2) (PyData.noDict_hsm (noDict_of d)) hg (by omega) (fun _ _ e => e) (fun h' u tk hk => ?_) (Nat.le_trans (shown_le h1) h4)
  exact ⟨.str _, H, I.kept (t' := tk) hk, ⟨_, rfl⟩, q⟩
end
section
variable {p : Pm} {E : XK}
theorem ints_ok {K : PySem.W.Frag} {Z : Hp} {m : Mp} : ∀ {xs : List D} {vs : List V} {ns : List Int}, intsO xs = some ns → RDs K Z m xs vs → vs = ns.map V.int
  | [], _, _, h, .nil => by
    cases h
    rfl
  | .int i :: r, _, _, h, .cons h1 h2 => by
    cases h1
    have h' : (intsO r).map (i :: ·) = some _ := h
    cases e : intsO r with
    | none =>
      rw [e] at h'
      cases h'
    | some ms =>
      rw [e] at h'
      cases h'
      rw [ints_ok e h2]
      rfl
  | .non :: _, _, _, h, _ | .bl _ :: _, _, _, h, _ | .str _ :: _, _, _, h, _ | .rep _ :: _, _, _, h, _ | .tup _ _ :: _, _, _, h, _ | .lst _ :: _, _, _, h, _ | .ref _ :: _, _, _, h, _ | .scr _ :: _, _, _, h, _ => by cases h
theorem bools_ok {K : PySem.W.Frag} {Z : Hp} {m : Mp} : ∀ {xs : List D} {vs : List V} {ns : List Bool}, boolsO xs = some ns → RDs K Z m xs vs → vs = ns.map V.bl
  | [], _, _, h, .nil => by
    cases h
    rfl
  | .bl i :: r, _, _, h, .cons h1 h2 => by
    cases h1
    have h' : (boolsO r).map (i :: ·) = some _ := h
    cases e : boolsO r with
    | none =>
      rw [e] at h'
      cases h'
    | some ms =>
      rw [e] at h'
      cases h'
      rw [bools_ok e h2]
      rfl
  | .non :: _, _, _, h, _ | .int _ :: _, _, _, h, _ | .str _ :: _, _, _, h, _ | .rep _ :: _, _, _, h, _ | .tup _ _ :: _, _, _, h, _ | .lst _ :: _, _, _, h, _ | .ref _ :: _, _, _, h, _ | .scr _ :: _, _, _, h, _ => by cases h
def biOf : Bi → Value
  | .len => .builtin "len"
  | .abs => .builtin "abs"
  | .int => .type "int"
  | .list => .type "list"
  | .tuple => .type "tuple"
  | .repr => .builtin "repr"
  | .sum => .builtin "sum"
  | .all => .builtin "all"
  | .any => .builtin "any"
  | .ord => .builtin "ord"
abbrev rBi (p : Pm) (E : XK) (b : Bi) (k : Bool) : List V → Hp → VK → Prop := fun vs H Q => ∃ F Z m S x v, vs = [v] ∧ SR p.K F Z m S H ∧ RD p.K Z m x v ∧ Post p F Z m (RD p.K) Q E (biF b k x S)
theorem RDs.mapI {K : PySem.W.Frag} {Z : Hp} {m : Mp} : ∀ ns : List Int, RDs K Z m (ns.map .int) (ns.map V.int)
  | [] => .nil
  | n :: ns => .cons (.int n) (RDs.mapI ns)
theorem call_bi {X : Cx} (hk : X.K = p.K) (hc : X.calm = true) (hg : X.A.guards = some []) (hu : X.A.units + 66 < cLine) (b : Bi) (k : Bool) : CallR X (biOf b) (rBi p E b k) := by
  intro pins s σ H xs us Q I r h
  obtain ⟨F, Z, m, S, x, v, rfl, sr, hx, h⟩ := h
  have vx := sr.view hx
  unfold biF at h
  generalize lz S x = ex at vx h
  cases b with
  | len =>
    cases vx <;> first | exact False.elim h | skip
    · dsimp only at h
      split at h
      · rename_i hl
        rw [frN_eq] at h
        exact call_len_str pins s σ H _ us Q I r ⟨_, rfl, hl, h.now sr (.int _)⟩
      · exact False.elim h
    · rename_i h1 h2
      dsimp only at h
      rw [frN_eq, h2.length] at h
      exact call_len_seq pins s σ H _ us Q I r ⟨_, _, rfl, .inr (by rw [hk]; exact seqT sr.zs h1), h.now sr (.int _)⟩
    · rename_i h1 h2
      dsimp only at h
      rw [frN_eq, h2.length] at h
      exact call_len_seq pins s σ H _ us Q I r ⟨_, _, rfl, .inl (.inl (.inl h1)), h.now sr (.int _)⟩
  | abs =>
    cases vx <;> first | exact False.elim h | skip
    dsimp only at h
    rw [frI_eq] at h
    exact call_abs pins s σ H _ us Q I r ⟨_, rfl, h.now sr (.int _)⟩
  | int =>
    cases vx <;> first | exact False.elim h | skip
    · exact call_int1 pins s σ H _ us Q I r (.inr ⟨_, rfl, h.now sr (.int _)⟩)
    · exact call_int1 pins s σ H _ us Q I r (.inl ⟨_, rfl, h.now sr (.int _)⟩)
  | list =>
    cases vx <;> first | exact False.elim h | skip
    · rename_i h1 h2
      exact call_list_of pins s σ H _ us Q I r ⟨_, _, rfl, .inr (by rw [hk]; exact seqT sr.zs h1), (h.newL sr h2).2⟩
    · rename_i h1 h2
      exact call_list_of pins s σ H _ us Q I r ⟨_, _, rfl, .inl (.inl (.inl h1)), (h.newL sr h2).2⟩
    · rename_i h1
      exact call_list_of pins s σ H _ us Q I r ⟨_, _, rfl, .inl (by rw [hk]; exact seqL sr.zs h1), (h.newL sr (RDs.mapI _)).2⟩
  | tuple =>
    cases vx <;> first | exact False.elim h | skip
    · rename_i h0 h1 h2
      exact call_tuple_of pins s σ H _ us Q I r ⟨_, _, rfl, .inr ⟨by rw [hk]; exact seqT sr.zs h1, h.now sr (.tup h0 h1 h2)⟩⟩
    · rename_i h1 h2
      exact call_tuple_of pins s σ H _ us Q I r ⟨_, _, rfl, .inl ⟨.inl (.inl h1), fun l hl => h.newZ sr (fun Z' c e hc => .tup (fun z => Bool.noConfusion z) (.inl (.inl hc)) (h2.mono e)) l hl⟩⟩
  | repr =>
    obtain ⟨u, rfl, ru⟩ : ∃ u, us = [u] ∧ RelV v u := by
      cases r with
      | cons a b =>
        cases b
        exact ⟨_, rfl, a⟩
    cases vx <;> first | exact False.elim h | skip
    · rename_i h0 h1 h2
      dsimp only at h
      split at h
      · rename_i hs
        cases ru
        have ok : okD (.tup _ _) = true := (Bool.and_eq_true_iff.mp (Bool.and_eq_true_iff.mp (Bool.and_eq_true_iff.mp hs).1).1).1
        have hp := (RV.tup (H := H) h0 h1 h2).dp sr.zs ok
        rw [← hk] at hp
        exact repr_ok I hg hu hs hp (h.now sr (.rep _))
      · exact False.elim h
    · rename_i h1 h2
      dsimp only at h
      split at h
      · rename_i hs
        cases ru
        have ok : okD (.lst _) = true := (Bool.and_eq_true_iff.mp (Bool.and_eq_true_iff.mp (Bool.and_eq_true_iff.mp hs).1).1).1
        have hp := (RV.lst h1 h2).dp sr.zs ok
        rw [← hk] at hp
        exact repr_ok I hg hu hs hp (h.now sr (.rep _))
      · exact False.elim h
  | sum =>
    cases vx <;> first | exact False.elim h | skip
    rename_i h1 h2
    dsimp only at h
    split at h
    · rename_i ns e
      rw [frI_eq] at h
      rw [ints_ok e h2] at h1
      exact cr_sum hc pins s σ H _ us Q I r ⟨_, ns, rfl, .inl (.inl h1), h.now sr (.int _)⟩
    · exact False.elim h
  | all =>
    cases vx <;> first | exact False.elim h | skip
    rename_i h1 h2
    dsimp only at h
    split at h
    · rename_i ns e
      rw [bools_ok e h2] at h1
      exact cr_all hc pins s σ H _ us Q I r ⟨_, ns, rfl, .inl (.inl h1), h.now sr (.bl _)⟩
    · exact False.elim h
  | any =>
    cases vx <;> first | exact False.elim h | skip
    rename_i h1 h2
    dsimp only at h
    split at h
    · rename_i ns e
      rw [bools_ok e h2] at h1
      exact cr_any hc pins s σ H _ us Q I r ⟨_, ns, rfl, .inl (.inl h1), h.now sr (.bl _)⟩
    · exact False.elim h
  | ord =>
    cases vx <;> first | exact False.elim h | skip
    rename_i z
    cases z with
    | nil => exact False.elim h
    | cons c z =>
      cases z with
      | cons _ _ => exact False.elim h
      | nil =>
        dsimp only at h
        rw [frN_eq] at h
        exact call_ord pins s σ H _ us Q I r ⟨_, rfl, rfl, h.now sr (.int _)⟩
end
end Mn

/-! Subscripts, slices, stores, isinstance, by values. -/
namespace Mn
open PySem PySem.Spec PyProof.Rows L2
section
variable {p : Pm} {E : XK}
/-! ### isinstance -/
def tyOf : Ty → String
  | .int => "int"
  | .bool => "bool"
  | .str => "str"
  | .tuple => "tuple"
  | .list => "list"
theorem RD.ty {K : PySem.W.Frag} {F Z H : Hp} {m : Mp} {S : Sto} (sr : SR K F Z m S H) {x : D} {v : V} (h : RD K Z m x v) : (∃ n a, x = .ref n ∧ v = .ref a) ∨ (∃ a ns, x = .scr ns ∧ v = .ref a) ∨ ∃ T, TyX K H v (.type T) ∧
    ((x = .non ∧ T = "NoneType") ∨ (∃ b, x = .bl b ∧ T = "bool") ∨ (∃ i, x = .int i ∧ T = "int") ∨ (∃ s, x = .str s ∧ T = "str") ∨ (∃ s, x = .rep s ∧ T = "str") ∨ (∃ k s, x = .tup k s ∧ T = "tuple") ∨ (∃ s, x = .lst s ∧ T = "list")) := by
  cases h with
  | non => exact .inr (.inr ⟨_, .base .non, .inl ⟨rfl, rfl⟩⟩)
  | bl b => exact .inr (.inr ⟨_, .base (.bl b), .inr (.inl ⟨b, rfl, rfl⟩)⟩)
  | int i => exact .inr (.inr ⟨_, .base (.int i), .inr (.inr (.inl ⟨i, rfl, rfl⟩))⟩)
  | str s => exact .inr (.inr ⟨_, .base (.str _), .inr (.inr (.inr (.inl ⟨s, rfl, rfl⟩)))⟩)
  | rep s => exact .inr (.inr ⟨_, .base (.str _), .inr (.inr (.inr (.inr (.inl ⟨s, rfl, rfl⟩))))⟩)
  | tup h0 h hs =>
    refine .inr (.inr ⟨"tuple", ?_, .inr (.inr (.inr (.inr (.inr (.inl ⟨_, _, rfl, rfl⟩)))))⟩)
    rcases seqT sr.zs h with (h | ⟨o, h⟩) | ⟨o, its, n, h, c, _⟩
    · exact .base (.tup h)
    · exact .fTuple h
    · exact .kTuple h c
  | lst h hs => exact .inr (.inr ⟨"list", .base (.lst (sr.zs _ _ h)), .inr (.inr (.inr (.inr (.inr (.inr ⟨_, rfl, rfl⟩)))))⟩)
  | ref h => exact .inl ⟨_, _, rfl, rfl⟩
  | scr h => exact .inr (.inl ⟨_, _, rfl, rfl⟩)
theorem call_isT {X : Cx} (hk : X.K = p.K) (t : Ty) : CallR X (.builtin "isinstance") (fun vs H Q => ∃ F Z m S x v k, vs = [v, .ty (tyOf t)] ∧ SR p.K F Z m S H ∧ RD p.K Z m x v ∧ isT t x = some k ∧ Q (.bl k) H) := by
  intro pins s σ H xs us Q I r h
  obtain ⟨F, Z, m, S, x, v, k, rfl, sr, hx, h, q⟩ := h
  rcases hx.ty sr with ⟨n, a, rfl, rfl⟩ | ⟨a, ns, rfl, rfl⟩ | ⟨T, ty, hT⟩
  · cases t <;> cases h
  · cases t <;> cases h
  · rw [← hk] at ty
    refine call_isi pins s σ H _ us Q I r ⟨v, .ty (tyOf t), _, _, k, rfl, .ty _, ty, ?_, q⟩
    rcases hT with ⟨rfl, rfl⟩ | ⟨b, rfl, rfl⟩ | ⟨b, rfl, rfl⟩ | ⟨b, rfl, rfl⟩ | ⟨b, rfl, rfl⟩ | ⟨k0, b, rfl, rfl⟩ | ⟨b, rfl, rfl⟩ <;> cases t <;> first | (cases h; done) | (cases h; exact kit_ty (by decide +kernel))
/-! ### subscripts -/
theorem nth_ok {K : PySem.W.Frag} {Z : Hp} {m : Mp} {ds : List D} {vs : List V} {i : Int} {d : D} (h : nth ds i = some d) (r : RDs K Z m ds vs) : ∃ v, atI vs i = some v ∧ RD K Z m d v := by
  have hl := r.length
  have key : ∀ j : Nat, ds[j]? = some d → ixN vs.length i = some j → ∃ v, atI vs i = some v ∧ RD K Z m d v := fun j e e2 => by
    obtain ⟨w, h1, h2⟩ := r.get e
    exact ⟨w, by unfold atI; rw [e2]; exact h1, h2⟩
  unfold nth at h
  split at h
  · rename_i h0
    have hlt := (List.getElem?_eq_some_iff.mp h).1
    refine key _ h ?_
    unfold ixN
    rw [if_pos h0, if_pos (by omega)]
  · rename_i h0
    split at h
    · rename_i h1
      have hlt := (List.getElem?_eq_some_iff.mp h).1
      refine key _ h ?_
      unfold ixN
      rw [if_neg h0, if_pos (by omega), hl]
    · cases h
abbrev rIxf (p : Pm) : R2 := fun v w H Q => ∃ F Z m S x y d, SR p.K F Z m S H ∧ RD p.K Z m x v ∧ RD p.K Z m y w ∧ ixf x y S = some d ∧ ∀ u, RD p.K Z m d u → Q u H
theorem ix_ixf {X : Cx} (hk : X.K = p.K) : IxR X (rIxf p) := by
  intro value slice pins s σ H x y v u Q I rx ry h hs
  obtain ⟨F, Z, m, S, dx, dy, d, sr, hx, hy, h, q⟩ := h
  have vx := sr.view hx
  unfold ixf at h
  generalize lz S dx = ex at vx h
  cases vx <;> first | (cases h; done) | skip
  · rename_i z
    cases hy <;> first | (cases h; done) | skip
    rename_i i
    have h : (if z.length ≤ line then (nth z i).map fun c => D.str [c] else none) = some d := h
    split at h
    · rename_i hl
      cases e : nth z i with
      | none =>
        rw [e] at h
        cases h
      | some c =>
        rw [e] at h
        cases h
        have e2 : atI z i = some c := by
          have hz : ∀ j : Nat, z[j]? = some c → ixN z.length i = some j → atI z i = some c := fun j e1 e2 => by
            unfold atI
            rw [e2]
            exact e1
          unfold nth at e
          split at e
          · rename_i h0
            have hlt := (List.getElem?_eq_some_iff.mp e).1
            refine hz _ e ?_
            unfold ixN
            rw [if_pos h0, if_pos (by omega)]
          · rename_i h0
            split at e
            · rename_i h1
              have hlt := (List.getElem?_eq_some_iff.mp e).1
              refine hz _ e ?_
              unfold ixN
              rw [if_neg h0, if_pos (by omega)]
            · cases e
        exact ix_str value slice pins s σ H _ _ v u Q I rx ry ⟨_, i, c, rfl, rfl, hl, e2, q _ (.str [c])⟩ hs
    · cases h
  · rename_i h1 h2
    cases hy <;> first | (cases h; done) | skip
    obtain ⟨w, e, rd⟩ := nth_ok h h2
    exact ix_tup value slice pins s σ H _ _ v u Q I rx ry ⟨_, _, _, w, rfl, rfl, by rw [hk]; exact seqT sr.zs h1, e, q _ rd⟩ hs
  · rename_i h1 h2
    cases hy <;> first | (cases h; done) | skip
    obtain ⟨w, e, rd⟩ := nth_ok h h2
    exact ix_list value slice pins s σ H _ _ v u Q I rx ry ⟨_, _, _, w, rfl, rfl, .inl (.inl h1), e, q _ rd⟩ hs
/-! ### slices -/
theorem bnd_eq (n d : Nat) (o : Option Int) : HT.sIx n d o = bnd n d o := by
  cases o with
  | none => rfl
  | some v =>
    show (if v < 0 then (v + (n : Int)).toNat else min v.toNat n) = (if v < 0 then (if v + n < 0 then 0 else (v + n).toNat) else if v < n then v.toNat else n)
    split
    · split <;> omega
    · split <;> omega
theorem cut_ok {K : PySem.W.Frag} {Z : Hp} {m : Mp} {ds : List D} {vs : List V} (r : RDs K Z m ds vs) (lo hi : Option Int) : RDs K Z m (cut ds lo hi) (cutV vs lo hi) := by
  unfold cut cutV
  rw [bnd_eq, bnd_eq, ← r.length]
  exact (r.drop _).take _
theorem sl_cut {X : Cx} (hk : X.K = p.K) : SlR X (fun v lo hi H Q => ∃ F Z m S x d, SR p.K F Z m S H ∧ RD p.K Z m x v ∧ cutf x lo hi S = some d ∧ Post p F Z m (RD p.K) Q E (.ok d S)) := by
  intro pins s σ H x v vl vu lo hi sl Q I rx hs pl pu h
  obtain ⟨F, Z, m, S, dx, d, sr, hx, h, q⟩ := h
  have vx := sr.view hx
  unfold cutf at h
  generalize lz S dx = ex at vx h
  cases vx <;> first | (cases h; done) | skip
  · rename_i k0 xs a ws h0 h1 h2
    cases h
    refine sl_tupA pins s σ H _ v vl vu lo hi sl Q I rx hs pl pu ⟨a, ws, rfl, by rw [hk]; exact seqT sr.zs h1, fun e => ?_, fun _ b hb => q.newZ sr (fun Z' c e hc => .tup (fun z => Bool.noConfusion z) (.inl (.inl hc)) ((cut_ok h2 lo hi).mono e)) b hb⟩
    have c := cut_ok h2 lo hi
    have e2 : cutV ws lo hi = ws := by
      unfold cutV
      rw [e.1, e.2]
      simp
    rw [e2] at c
    exact q.now sr (.tup (fun z => Bool.noConfusion z) h1 c)
  · rename_i xs a ws h1 h2
    cases h
    exact sl_list pins s σ H _ v vl vu lo hi sl Q I rx hs pl pu ⟨a, ws, rfl, .inl (.inl h1), fun b hb => q.newZ sr (fun Z' c e hc => .lst hc ((cut_ok h2 lo hi).mono e)) b hb⟩
/-! ### stores -/
theorem get_of_isCl {S : Sto} {x : D} (h : isCl S x = true) : ∃ n ys, x = .ref n ∧ S.get n = some (.lst ys) := by
  cases x with
  | ref n =>
    have h : (match S.get n with
      | some (.lst _) => true
      | _ => false) = true := h
    cases e : S.get n with
    | none =>
      rw [e] at h
      cases h
    | some c =>
      rw [e] at h
      cases c with
      | lst ys => exact ⟨n, ys, rfl, e⟩
      | ins _ _ => cases h
  | _ => cases h
/-- the cell at n -/
theorem SR.at {K : PySem.W.Frag} {F Z H : Hp} {m : Mp} {S : Sto} (sr : SR K F Z m S H) {n : Nat} {v : V} {ys : List D} (h : RD K Z m (.ref n) v) (e : S.get n = some (.lst ys)) : ∃ a vs, v = .ref a ∧ m n = some a ∧ H a = some (.lst vs) ∧ RDs K Z m ys vs := by
  cases h with
  | ref h =>
    obtain ⟨a, vs, h1, h2, _, _, h5⟩ := sr.lst n ys e
    rw [h] at h1
    cases h1
    exact ⟨_, vs, rfl, h, h2, h5⟩
theorem mt_mef {X : Cx} : MtR X "list.append" (fun v vs H Q => ∃ F Z m S x xs, SR p.K F Z m S H ∧ RD p.K Z m x v ∧ RDs p.K Z m xs vs ∧ Post p F Z m (RD p.K) Q E (mef .append x xs S)) := by
  intro pins s σ H x xs v us Q I rx rv h
  obtain ⟨F, Z, m, S, dx, dxs, sr, hx, hs, h⟩ := h
  cases dx <;> first | exact False.elim h | skip
  rename_i n
  cases dxs with
  | nil => exact False.elim h
  | cons d ds =>
    cases ds with
    | cons _ _ => exact False.elim h
    | nil =>
      have h : Post p F Z m (RD p.K) Q E (match S.get n with
        | some (.lst ys) => if ys.length < line then frL (ys ++ [d]) fun r => R.ok Mn.D.non (S.put n (.lst r)) else .bad
        | _ => .bad) := h
      split at h
      · rename_i ys e
        split at h
        · rename_i hl
          rw [frL_eq] at h
          obtain ⟨a, vs, rfl, hm, ha, hv⟩ := sr.at hx e
          cases hs with
          | cons hd hn =>
            cases hn
            refine mt_append pins s σ H _ _ v us Q I rx rv ⟨a, vs, _, rfl, rfl, ha, by rw [← hv.length]; exact hl, ?_⟩
            exact h _ _ _ _ Ext.refl (sr.put e hm (hv.append (.one hd))) .non
        · exact False.elim h
      · exact False.elim h
theorem dropLast_rd {K : PySem.W.Frag} {Z : Hp} {m : Mp} {d : List D} {v : List V} (h : RDs K Z m d v) : RDs K Z m d.dropLast v.dropLast := by
  rw [List.dropLast_eq_take, List.dropLast_eq_take, ← h.length]
  exact h.take _
theorem mt_mefP {X : Cx} : MtR X "list.pop" (fun v vs H Q => ∃ F Z m S x, vs = [] ∧ SR p.K F Z m S H ∧ RD p.K Z m x v ∧ Post p F Z m (RD p.K) Q E (mef .pop x [] S)) := by
  intro pins s σ H x xs v us Q I rx rv h
  obtain ⟨F, Z, m, S, dx, rfl, sr, hx, h⟩ := h
  cases dx <;> first | exact False.elim h | skip
  rename_i n
  have h : Post p F Z m (RD p.K) Q E (match S.get n with
    | some (.lst ys) => (match ys[ys.length - 1]? with
      | some y => frL ys.dropLast fun r => R.ok y (S.put n (.lst r))
      | none => .bad)
    | _ => .bad) := h
  split at h
  · rename_i ys e
    split at h
    · rename_i y ey
      rw [frL_eq] at h
      obtain ⟨a, vs, rfl, hm, ha, hv⟩ := sr.at hx e
      obtain ⟨w, e1, rw1⟩ := hv.get ey
      rw [hv.length] at e1
      exact mt_pop pins s σ H _ _ v us Q I rx rv ⟨a, vs, w, rfl, rfl, ha, e1, h _ _ _ _ Ext.refl (sr.put e hm (dropLast_rd hv)) rw1⟩
    · exact False.elim h
  · exact False.elim h
/-- o[i] = d -/
theorem set_sixf {X : Cx} : PSet X (fun o i v H Q => ∃ F Z m S x y d S', SR p.K F Z m S H ∧ RD p.K Z m x o ∧ RD p.K Z m y i ∧ RD p.K Z m d v ∧ sixf x y d S = some S' ∧ ∀ H', SR p.K F Z m S' H' → Q H') := by
  intro pins s σ H o i v ov iv u Q I ro ri rv h
  obtain ⟨F, Z, m, S, dx, dy, d, S', sr, hx, hy, hd, h, q⟩ := h
  unfold sixf at h
  split at h
  · rename_i n k
    split at h
    · rename_i ys e
      split at h
      · rename_i hl
        rw [frL_eq] at h
        simp only [Bool.and_eq_true, decide_eq_true_eq] at hl
        cases h
        obtain ⟨a, vs, rfl, hm, ha, hv⟩ := sr.at hx e
        cases hy
        refine set_list pins s σ H _ _ v ov iv u Q I ro ri rv ⟨a, vs, k, k.toNat, rfl, rfl, ha, ?_, q _ (sr.put e hm (hv.set hd _))⟩
        unfold ixN
        rw [if_pos hl.1, if_pos (by rw [← hv.length]; exact hl.2)]
      · cases h
    · cases h
  · cases h
/-- name op= value -/
theorem ip_iop {X : Cx} (o : BO) : PIp X (opOf o) (fun v w H Q => ∃ F Z m S x y, SR p.K F Z m S H ∧ RD p.K Z m x v ∧ RD p.K Z m y w ∧ Post p F Z m (RD p.K) Q E (iop o x y S)) := by
  intro pins s σ H x y v u Q I rx ry h
  obtain ⟨F, Z, m, S, dx, dy, sr, hx, hy, h⟩ := h
  unfold iop at h
  split at h
  · cases hx
    cases hy
    rw [frI_eq] at h
    exact ip_add pins s σ H _ _ v u Q I rx ry ⟨_, _, rfl, rfl, h.now sr (.int _)⟩
  · cases hx
    cases hy
    rw [frI_eq] at h
    exact ip_sub pins s σ H _ _ v u Q I rx ry ⟨_, _, rfl, rfl, h.now sr (.int _)⟩
  · rename_i n
    have vy := sr.view hy
    generalize lz S dy = ey at vy h
    split at h
    · rename_i xs ys e
      split at h
      · rename_i hl
        rw [frL_eq] at h
        obtain ⟨a, vs, rfl, hm, ha, hv⟩ := sr.at hx e
        cases vy with
        | lst h1 h2 =>
          exact iop_ext pins s σ H _ _ v u Q I rx ry ⟨a, _, vs, _, rfl, rfl, ha, h1, by rw [← hv.length, ← h2.length]; exact hl, h _ _ _ _ Ext.refl (sr.put e hm (hv.append h2)) hx⟩
      · exact False.elim h
    · exact False.elim h
  · exact False.elim h
end
end Mn

/-! Where code stands; calls; targets; what is walked. -/
namespace Mn
open PySem PySem.Spec PyProof.Rows L2

/-! ### a def, called where no text is being made of a list -/
structure FnG (P : Program) (w : World) (K : PySem.W.Frag) (mg : Str → Option Value) (base : Heap) (k : Nat) (f : Addr) (sp : Sp) : Prop where
  go : ∀ (A : Around) (outer : List PySem.Env) (s : Shared) (H : Hp) (us : List Value) (vs : List V) (Q : VK) (E : XK), Room k A → A.guards = some [] →
    Env0 P w K mg base A outer s H → Vals vs us → sp vs H Q E → codeAny (model P w) A (.call (.ref f) ⟨us, []⟩) (CR (L2.CX P w) outer P w H s Q E) s
section
variable {p : Pm}
/-- what a def of the machine promises -/
def spR (p : Pm) (g : List D → Sto → R D) : Sp := fun vs H Q E => ∃ F Z m S ds, SR p.K F Z m S H ∧ RDs p.K Z m ds vs ∧ Post p F Z m (RD p.K) Q E (g ds S)
/-- where an expression stands -/
structure Cok (p : Pm) (W : WX) (lv : Nat) (X : Cx) : Prop where
  k : X.K = p.K
  calm : X.calm = true
  nd : X.N.Nodup
  room : Room lv X.A
  gd : X.A.guards = some []
  tk : Takes X W
  kind : X.env.scope.kind = .function
theorem Cok.un {W : WX} {lv : Nat} {X : Cx} (c : Cok p W lv X) : X.A.units + 66 < cLine := by
  have := c.room.un
  omega
/-- what a global name stands for -/
inductive GV where
  | fn (i : Nat) | lit (d : D) | exc (c : Nat) | dct (kvs : List (List Nat × D)) | obj (fs : List (List Nat)) (ms : List (List Nat × Nat)) (mk : Option Nat)
structure Gok (p : Pm) (gl : List (Str × GV)) (bl : List Str) (lv : Nat) (P : Program) (w : World) (mg : Str → Option Value) (base : Heap) : Prop where
  fn : ∀ x i, gl.lookup x = some (.fn i) → ∃ f, mg x = some (.ref f) ∧ PySem.W.keepIn p.K (.ref f) = true ∧ FnG P w p.K mg base lv f (spR p (p.cl i))
  lit : ∀ x d, gl.lookup x = some (.lit d) → ∃ v u, mg x = some u ∧ RelV v u ∧ ∀ Z m, RD p.K Z m d v
  free : ∀ x, x ∈ bl → mg x = none
  mak : ∀ x fs ms i, gl.lookup x = some (.obj fs ms (some i)) → mg x = some (.ref (He.ga p.K x)) ∧ PySem.W.keepIn p.K (.ref (He.ga p.K x)) = true ∧ ((∀ xs S, p.cl (1000000 + i) xs S = .bad) ∨ ∃ lv' f, lv = lv' + 1 ∧ L2.Mk p.K (He.ga p.K x) f ∧ FnG P w p.K mg base lv' f (spR p (p.cl (1000000 + i))))
  obj : ∀ x fs ms mk, gl.lookup x = some (.obj fs ms mk) → Cls p.K (He.ga p.K x) ∧ (∀ f ∈ fs, NoAttr p.K (He.ga p.K x) (tx f)) ∧ ∀ m i, ms.lookup m = some i → ∃ f, Meth p.K (He.ga p.K x) (tx m) f ∧ FnG P w p.K mg base lv f (spR p (p.cl i))
  dct : ∀ x kvs, gl.lookup x = some (.dct kvs) → ∃ a es n, mg x = some (.ref a) ∧ KDict p.K w a es n ∧ ∀ s, match kfind s kvs with
    | some d => ∃ v u, PySem.W.nsIn p.K a (tx s) = some (some u) ∧ RelV v u ∧ ∀ Z m, RD p.K Z m d v
    | none => PySem.W.nsIn p.K a (tx s) = some none
theorem call_fn {W : WX} {lv : Nat} {X : Cx} (c : Cok p W lv X) {f : Addr} {sp : Sp} (F : FnG X.prog X.w X.K X.mg X.base lv f sp) {pins : List (Addr × Obj)} {σ : L2.St} {H : Hp} {s : Shared} {Q : VK} {us : List Value} {vs : List V}
    (I : L2.Inv X pins σ H s) (r : Vals vs us) (h : sp vs H Q (fun cls d H' => W cls d σ H')) : wpAny (model X.prog X.w) X.A (call (.ref f) us) (EP X pins σ Q) X.xe s := by
  refine wpAny_call (codeAny_mono (F.go X.A X.stack s H us vs Q _ c.room c.gd I.env0 r h) fun e s' hq => ?_)
  cases e with
  | error e => exact passAt c.tk σ pins H s e s' I hq
  | ok fl =>
    cases fl with
    | ret u => exact I.after hq
    | next => exact False.elim hq
    | brk => exact False.elim hq
    | cont => exact False.elim hq

/-! ### slots -/
def RE (K : PySem.W.Frag) (Z : Hp) (m : Mp) (env : Env) (σ : List (Option V)) : Prop := env.length = σ.length ∧ ∀ (i : Nat) (d : D), env[i]? = some (some d) → ∃ v, σ[i]? = some (some v) ∧ RD K Z m d v
section
variable {K : PySem.W.Frag} {Z Z' : Hp} {m m' : Mp} {env : Env} {σ : L2.St}
theorem RE.mono (e : Ext Z m Z' m') (h : RE K Z m env σ) : RE K Z' m' env σ := ⟨h.1, fun i d q => by
  obtain ⟨v, h1, h2⟩ := h.2 i d q
  exact ⟨v, h1, h2.mono e⟩⟩
theorem RE.set (h : RE K Z m env σ) {d : D} {v : V} (i : Nat) (r : RD K Z m d v) : RE K Z m (env.set i (some d)) (σ.set i (some v)) := by
  refine ⟨by rw [List.length_set, List.length_set, h.1], fun j e q => ?_⟩
  by_cases hj : i = j
  · subst hj
    have hl : i < env.length := by
      have := (List.getElem?_eq_some_iff.mp q).1
      rwa [List.length_set] at this
    rw [List.getElem?_set_self hl] at q
    cases q
    exact ⟨v, List.getElem?_set_self (by rw [← h.1]; exact hl), r⟩
  · rw [List.getElem?_set_ne hj] at q
    rw [List.getElem?_set_ne hj]
    exact h.2 j e q
theorem RE.none (h : RE K Z m env σ) (i : Nat) : RE K Z m (env.set i none) (σ.set i none) := by
  refine ⟨by rw [List.length_set, List.length_set, h.1], fun j e q => ?_⟩
  by_cases hj : i = j
  · subst hj
    have hl : i < env.length := by
      have := (List.getElem?_eq_some_iff.mp q).1
      rwa [List.length_set] at this
    rw [List.getElem?_set_self hl] at q
    cases q
  · rw [List.getElem?_set_ne hj] at q
    rw [List.getElem?_set_ne hj]
    exact h.2 j e q
theorem RE.wipe (h : RE K Z m env σ) : ∀ vs : List Nat, RE K Z m (wipeE env vs) (L2.wipe σ vs)
  | [] => h
  | v :: vs => (h.wipe vs).none v
end

/-! ### targets -/
mutual
/-- the slots that a target stores -/
def tgSl : Tg → List Nat
  | .nm i => [i]
  | .tp ts => tgSls ts
def tgSls : List Tg → List Nat
  | [] => []
  | t :: ts => tgSl t ++ tgSls ts
end
/-- only these slots are others -/
def OnlyAt (l : List Nat) (σ σ' : List (Option V)) : Prop := ∀ vs : List Nat, (∀ i ∈ l, i ∈ vs) → L2.wipe σ' vs = L2.wipe σ vs
theorem wipe_set (σ : List (Option V)) : ∀ (vs : List Nat) (i : Nat) (x : Option V), i ∈ vs → L2.wipe (σ.set i x) vs = L2.wipe σ vs
  | [], _, _, h => by cases h
  | v :: vs, i, x, h => by
    unfold L2.wipe
    by_cases hi : i ∈ vs
    · rw [wipe_set σ vs i x hi]
    · rcases List.mem_cons.mp h with e | e
      · subst e
        have out : ∀ (us : List Nat) (σ : List (Option V)), i ∉ us → L2.wipe (σ.set i x) us = (L2.wipe σ us).set i x := fun us => by
          induction us with
          | nil => exact fun _ _ => rfl
          | cons u us ih =>
            intro σ hn
            unfold L2.wipe
            have h1 : i ≠ u := fun z => hn (by rw [z]; exact List.mem_cons_self)
            have h2 : i ∉ us := fun z => hn (List.mem_cons_of_mem _ z)
            rw [ih σ h2, List.set_comm _ _ h1]
        rw [out vs σ hi, List.set_set]
      · exact absurd e hi
/-- what a target asks -/
def tG (p : Pm) (t : Tg) : TG := fun v σ H Q => ∃ F Z m S env d env', RE p.K Z m env σ ∧ SR p.K F Z m S H ∧ RD p.K Z m d v ∧ bindT t d env = some env' ∧ ∀ σ', RE p.K Z m env' σ' → OnlyAt (tgSl t) σ σ' → Q σ' H
def tGs (p : Pm) (t : List Tg) : TGs := fun vs σ H Q => ∃ F Z m S env ds env', RE p.K Z m env σ ∧ SR p.K F Z m S H ∧ RDs p.K Z m ds vs ∧ bindT.bindTs t ds env = some env' ∧ ∀ σ', RE p.K Z m env' σ' → OnlyAt (tgSls t) σ σ' → Q σ' H
theorem PG.imp {X : Cx} {e : Expr} {t t' : TG} (h : PG X e t) (k : ∀ v σ H Q, t' v σ H Q → t v σ H Q) : PG X e t' := ⟨fun pins s σ H v u Q I r q => h.run pins s σ H v u Q I r (k _ _ _ _ q)⟩
theorem PGs.imp {X : Cx} {e : List Expr} {t t' : TGs} (h : PGs X e t) (k : ∀ v σ H Q, t' v σ H Q → t v σ H Q) : PGs X e t' := ⟨fun pins s σ H v u Q I r q => h.run pins s σ H v u Q I r (k _ _ _ _ q)⟩
theorem PE.imp {X : Cx} {e : Expr} {t t' : TE} (h : PE X e t) (k : ∀ σ H Q, t' σ H Q → t σ H Q) : PE X e t' := ⟨fun pins s σ H Q I q => h.run pins s σ H Q I (k _ _ _ q)⟩
theorem PT.imp {X : Cx} {e : Expr} {t t' : TT} (h : PT X e t) (k : ∀ σ H Q, t' σ H Q → t σ H Q) : PT X e t' := ⟨fun pins s σ H Q I q => h.run pins s σ H Q I (k _ _ _ q)⟩
theorem PW.imp {X : Cx} {e : Expr} {t t' : TT} (h : PW X e t) (k : ∀ σ H Q, t' σ H Q → t σ H Q) : PW X e t' := ⟨fun wh pins s σ H Q I q => h.run wh pins s σ H Q I (k _ _ _ q)⟩
theorem PA.imp {X : Cx} {e : List Expr} {t t' : TA} (h : PA X e t) (k : ∀ σ H Q, t' σ H Q → t σ H Q) : PA X e t' := ⟨fun pos pins s σ H Q I q => h.run pos pins s σ H Q I (k _ _ _ q)⟩
theorem PO.imp {X : Cx} {e : Option Expr} {t t' : TO} (h : PO X e t) (k : ∀ σ H Q, t' σ H Q → t σ H Q) : PO X e t' := ⟨fun pins s σ H Q I q => h.run pins s σ H Q I (k _ _ _ q)⟩
theorem PI.imp {X : Cx} {tg e : Expr} {t t' : TI} (h : PI X tg e t) (k : ∀ σ H Q, t' σ H Q → t σ H Q) : PI X tg e t' := ⟨fun pins s σ H Q I q => h.run pins s σ H Q I (k _ _ _ q)⟩
theorem PS.imp {X : Cx} {e : Stmt} {t t' : TS} (h : PS X e t) (k : ∀ D σ H, t' D σ H → t D σ H) : PS X e t' := ⟨fun pins s σ H D I q => h.run pins s σ H D I (k _ _ _ q)⟩
theorem PSs.imp {X : Cx} {e : List Stmt} {t t' : TS} (h : PSs X e t) (k : ∀ D σ H, t' D σ H → t D σ H) : PSs X e t' := ⟨fun pins s σ H D I q => h.run pins s σ H D I (k _ _ _ q)⟩
/-- the slot of a name -/
def slotOf (N : List Str) (x : Str) : Option Nat := N.findIdx? fun y => decide (y = x)
theorem slotOf_ok {N : List Str} {x : Str} {i : Nat} (h : slotOf N x = some i) : N[i]? = some x := by
  obtain ⟨hl, h1, _⟩ := List.findIdx?_eq_some_iff_getElem.mp h
  rw [List.getElem?_eq_getElem hl, of_decide_eq_true h1]
def okName (x : Str) : Bool := !(x == ("__debug__" : Str)) && !(x == ("__classdict__" : Str))
theorem okName_ok {x : Str} (h : okName x = true) : (x == ("__debug__" : Str)) = false ∧ (x == ("__classdict__" : Str)) = false := by
  unfold okName at h
  simpa using h
mutual
/-- a target: names of the def's own (sc: where they are stored) -/
def cT (N : List Str) (sc : Scope) : Nat → Expr → Option Tg
  | 0, _ => none
  | n + 1, .Name x _ => match sc.names.lookup x with
    | some .local | some .cell => (slotOf N x).map .nm
    | _ => none
  | n + 1, .Tuple es _ _ => (cTs N sc n es).map .tp
  | _, _ => none
def cTs (N : List Str) (sc : Scope) : Nat → List Expr → Option (List Tg)
  | 0, _ => none
  | n + 1, [] => some []
  | n + 1, e :: es => match cT N sc n e, cTs N sc n es with
    | some t, some ts => some (t :: ts)
    | _, _ => none
end
/-- where names may be stored -/
structure Sto1 (sc : Scope) (X : Cx) : Prop where
  loc : ∀ x, sc.names.lookup x = some .local → X.env.scope.names.lookup x = some .local
  cel : ∀ x, sc.names.lookup x = some .cell → X.env.scope.names.lookup x = some .cell ∧ X.fn x = true
theorem assignEach_map (env : PySem.Env) : ∀ {N : List Str} {sc : Scope} {n : Nat} {es : List Expr} {ts : List Tg}, cTs N sc n es = some ts → assignEach es env = es.map (fun e => (false, assign e env)) ∧ es.length = ts.length
  | _, _, 0, _, _, h => by cases h
  | _, _, n + 1, [], _, h => by
    cases h
    exact ⟨rfl, rfl⟩
  | N, sc, n + 1, e :: es, ts, h => by
    unfold cTs at h
    split at h
    · rename_i t us h1 h2
      cases h
      obtain ⟨e1, e2⟩ := assignEach_map env h2
      refine ⟨?_, by rw [List.length_cons, List.length_cons, e2]⟩
      have : assignEach (e :: es) env = (false, assign e env) :: assignEach es env := by
        cases n with
        | zero => cases h1
        | succ n => cases e <;> first | rfl | (unfold cT at h1; cases h1)
      rw [this, e1]
      rfl
    · cases h
mutual
theorem cT_ok {W : WX} {lv : Nat} {X : Cx} (c : Cok p W lv X) {sc : Scope} (st : Sto1 sc X) : ∀ {n : Nat} {e : Expr} {t : Tg}, cT X.N sc n e = some t → PG X e (tG p t)
  | 0, _, _, h => by cases h
  | n + 1, e, t, h => by
    cases e with
    | Name x pos =>
      have h : (match sc.names.lookup x with
        | some .local | some .cell => (slotOf X.N x).map Tg.nm
        | _ => none) = some t := h
      have fin : ∀ {i : Nat}, slotOf X.N x = some i → Loc X.env.scope x → (X.fn x = true ∨ X.env.scope.names.lookup x = some .local) → PG X (.Name x pos) (tG p (.nm i)) := fun {i} hi hx hf => by
        refine PG.imp (pg_name c.nd (slotOf_ok hi) hx hf) fun v σ H Q q => ?_
        obtain ⟨F, Z, m, S, env, d, env', re, sr, rd, hb, k⟩ := q
        have hb' : (if i < env.length then frL (env.set i (some d)) some else none) = some env' := hb
        split at hb'
        · rw [frL_eq] at hb'
          cases hb'
          exact k _ (re.set i rd) fun vs hv => wipe_set σ vs i _ (hv i List.mem_cons_self)
        · cases hb'
      split at h
      · rename_i hl
        cases e : slotOf X.N x with
        | none =>
          rw [e] at h
          cases h
        | some i =>
          rw [e] at h
          cases h
          exact fin e (.inl (st.loc x hl)) (.inr (st.loc x hl))
      · rename_i hl
        cases e : slotOf X.N x with
        | none =>
          rw [e] at h
          cases h
        | some i =>
          rw [e] at h
          cases h
          exact fin e (.inr (st.cel x hl).1) (.inl (st.cel x hl).2)
      · cases h
    | Tuple es kk pos =>
      have h : (cTs X.N sc n es).map Tg.tp = some t := h
      cases e : cTs X.N sc n es with
      | none =>
        rw [e] at h
        cases h
      | some ts =>
        rw [e] at h
        cases h
        obtain ⟨e1, e2⟩ := assignEach_map X.env e
        refine PG.imp (pg_tup (n := es.length) c.calm (cTs_ok c st e) (by rw [e1, List.length_map]) (by rw [e1]; simp)) fun v σ H Q q => ?_
        obtain ⟨F, Z, m, S, env, d, env', re, sr, rd, hb, k⟩ := q
        cases rd <;> first | (cases hb; done) | skip
        rename_i k0 xs a vs h0 h1 h2
        have hb2 : bindT.bindTs ts xs env = some env' := hb
        have len : ∀ {ts : List Tg} {xs : List D} {env env' : Env}, bindT.bindTs ts xs env = some env' → ts.length = xs.length := fun {ts} => by
          induction ts with
          | nil =>
            intro xs env env' h
            cases xs with
            | nil => rfl
            | cons _ _ => cases h
          | cons t ts ih =>
            intro xs env env' h
            cases xs with
            | nil => cases h
            | cons x xs =>
              have h' : (match bindT t x env with
                | some env2 => bindT.bindTs ts xs env2
                | none => none) = some env' := h
              split at h'
              · rw [List.length_cons, List.length_cons, ih h']
              · cases h'
        refine ⟨a, vs, rfl, by rw [c.k]; exact seqT sr.zs h1, by rw [← h2.length, ← len hb2, e2], F, Z, m, S, env, xs, env', re, sr, h2, hb2, k⟩
    | _ => cases h
theorem cTs_ok {W : WX} {lv : Nat} {X : Cx} (c : Cok p W lv X) {sc : Scope} (st : Sto1 sc X) : ∀ {n : Nat} {e : List Expr} {t : List Tg}, cTs X.N sc n e = some t → PGs X e (tGs p t)
  | 0, _, _, h => by cases h
  | n + 1, [], t, h => by
    cases h
    refine PGs.imp pgs_nil fun vs σ H Q q => ?_
    obtain ⟨F, Z, m, S, env, d, env', re, sr, rd, hb, k⟩ := q
    cases rd with
    | nil =>
      cases hb
      exact ⟨rfl, k _ re fun _ _ => rfl⟩
    | cons _ _ => cases hb
  | n + 1, e :: es, t, h => by
    have h0 := h
    unfold cTs at h
    split at h
    · rename_i t ts h1 h2
      cases h
      obtain ⟨e1, e2⟩ := assignEach_map X.env h0
      obtain ⟨e3, _⟩ := assignEach_map X.env h2
      refine PGs.imp (pgs_cons (cT_ok c st h1) (cTs_ok c st h2) (by rw [e1, e3]; rfl)) fun vs σ H Q q => ?_
      obtain ⟨F, Z, m, S, env, d, env', re, sr, rd, hb, k⟩ := q
      cases rd with
      | nil => cases hb
      | cons r rs =>
        rename_i d v ds vs
        have h' : (match bindT t d env with
          | some env2 => bindT.bindTs ts ds env2
          | none => none) = some env' := hb
        split at h'
        · rename_i env2 h3
          exact ⟨v, vs, rfl, F, Z, m, S, env, d, env2, re, sr, r, h3, fun σ' re' o1 => ⟨F, Z, m, S, env2, ds, env', re', sr, rs, h', fun σ2 re2 o2 => k σ2 re2 fun us hv => (o2 us fun i hi => hv i (List.mem_append_right _ hi)).trans (o1 us fun i hi => hv i (List.mem_append_left _ hi))⟩⟩
        · cases h'
    · cases h
end
end
end Mn

/-! Rules that the layer lacks. -/
namespace Mn
open PySem PySem.Spec PyProof.Rows L2
/-- a display of a tuple: the object is known -/
theorem pe_tupK {X : Cx} {es : List Expr} {kk : Nat} {pos : Pos} {t : TA} (h : PA X es t) : PE X (.Tuple es kk pos) (fun σ H Q => t σ H fun xs H1 => xs.length ≤ sizeLine ∧ ∀ p o, H1 p = none → o.dict = none → Q (.ref p) (upd H1 p (.frz o (.tup xs)))) := by
  refine ⟨fun pins s σ H Q I hq => ?_⟩
  have run := h.run pos pins s σ H _ I hq
  refine wpAny_Tuple_spliced (thn run fun us s1 ⟨xs, H1, I1, r, hz, q⟩ => ⟨by rw [← r.length]; exact hz, ?_⟩)
  have fresh : H1 s1.heap.objs.size = none := I1.hok.fresh (Nat.le_refl _)
  have at1 := Heap.get?_push_size s1.heap (o := { cls := .type "tuple", data := .seq us.toArray }) rfl
  refine ⟨.ref s1.heap.objs.size, upd H1 s1.heap.objs.size (.frz { cls := .type "tuple", data := .seq us.toArray } (.tup xs)), I1.laid (t' := s1.toks) (fun _ _ e => Heap.get?_push_of_some _ e) (Nat.le_refl _) ?_, rfl, q _ _ fresh rfl⟩
  exact ⟨at1, hz, us, r, ⟨_, at1, rfl, _, rfl⟩⟩
/-- D.get(x, y), D a written dict of the module -/
theorem mt_kget {X : Cx} {d : Addr} {es : Array DictEntry} {n : Nat} (D : KDict X.K X.w d es n) : MtR X "dict.get" (fun x xs H Q => ∃ (z : Str) (y : V) (r : Option Value), x = .ref d ∧ xs = [.str z, y] ∧ PySem.W.nsIn X.K d z = some r ∧ (match r with
    | some u => ∃ v, RelV v u ∧ Q v H
    | none => Q y H)) := by
  intro pins s σ H x xs v us Q I rx rv h
  obtain ⟨z, y, r, rfl, rfl, e, q⟩ := h
  cases rx
  cases rv with
  | cons r1 rr =>
    cases rr with
    | cons r2 rr =>
      cases rr
      obtain ⟨t, rfl⟩ := r1
      have mp := PySem.W.mapOf_K (prog := X.prog) (w := X.w) I.kIn D.at_ D.lit
      refine call_meetsIn PySem.F.slot_dict_get mp.typeIs PySem.F.entry_dict_get (PySem.F.args_dict_get_3 _ _ _) (meets_dict_get_default (PySem.strKind X.prog X.w) d (PySem.strKind_is X.prog X.w z t) D.low _) ⟨_, mp, ?_⟩
      rw [PySem.W.find_K D.at_ e]
      cases r with
      | some u =>
        obtain ⟨v, rv, q⟩ := q
        exact ⟨v, H, I.tok _, rv, q⟩
      | none => exact ⟨y, H, I.tok _, r2, q⟩
theorem count_flat {x : V} : ∀ {xs : List V} {us : List Value}, Vals xs us → xs.all flatV = true → us.countP (eqU x) = xs.countP fun y => eqV y x
  | _, _, .nil, _ => rfl
  | y :: xs, u :: us, .cons r t, f => by
    rw [List.all_cons, Bool.and_eq_true] at f
    have e := eqU_of (x := x) r f.1
    have ih := count_flat (x := x) t f.2
    rw [List.countP_cons, List.countP_cons, e, ih]
/-- t.count(x) of a tuple of flat items -/
theorem mt_tcount {X : Cx} : MtR X "tuple.count" (fun x xs H Q => ∃ (a : Addr) (ys : List V) (y : V), x = .ref a ∧ xs = [y] ∧ SqT X.K H a ys ∧ flatV y = true ∧ ys.all flatV = true ∧ Q (.int (ys.countP fun z => eqV z y : Nat)) H) := by
  intro pins s σ H x xs v us Q I rx rxs h
  obtain ⟨a, ys, y, rfl, rfl, hs, fy, fs, q⟩ := h
  cases rx
  obtain ⟨u, rfl, ru⟩ := rxs.one
  obtain ⟨its, rv, ⟨⟨cls, dd, data, sl⟩, ho, hc, n, hd⟩, hlen⟩ := I.tuple hs
  simp only at hc hd
  subst hc hd
  refine call_meets PySem.F.slot_tuple_count ⟨_, ho, rfl⟩ PySem.F.entry_tuple_count (PySem.F.args_tuple_count_2 _ _) (SeqAt.tuple_countAt a its.toArray n dd sl u (eqU y)) ⟨ho, fun w hw => mem_eqAt ru fy rv fs w (by simpa using hw), ?_⟩
  have ec : its.toArray.toList.countP (eqU y) = ys.countP fun z => eqV z y := by
    rw [List.toList_toArray]
    exact count_flat rv fs
  refine ⟨.int (ys.countP fun z => eqV z y : Nat), H, I.tok _, ⟨s.toks, ?_⟩, q⟩
  show Value.int ((its.toArray.toList.countP (eqU y) : Nat) : Int) s.toks = Value.int ((ys.countP (fun z => eqV z y) : Nat) : Int) s.toks
  rw [ec]
/-- o.m(e, ..), m a method of a built-in type, by what is known of o -/
theorem pe_bmT {X : Cx} {T : String} {name : Str} {id : String} {o e : Expr} {es : List Expr} {apos cpos : Pos} {to : TE} {t : TA} {ty : V → Hp → Prop} {r : V → List V → Hp → VK → Prop}
    (is : ∀ {pins : List (Addr × Obj)} {s : Shared} {σ : L2.St} {H : Hp} {x : V} {v : Value}, L2.Inv X pins σ H s → RelV x v → ty x H → s.TypeIs v T ∧ ∀ a, v = .ref a → ∃ ob, s.heap.get? a = some ob ∧ ob.dict = none)
    (pa : PlainAttrs T) (slot : Slot T name id) (hty : typeOf (.builtin id) = pure (.type "method_descriptor")) (hm : MtR X id r) (ho : PE X o to) (ha : PA X (e :: es) t)
    (hb : attributeBase o name X.env (eval o X.env) = eval o X.env) (few : ((backTo cpos (starEach (e :: es) X.env)).all (fun x => !x.1) && (backToKw cpos (keywordEach [] X.env)).all (fun x => x.1.isSome)
      && decide ((e :: es).length + ([] : List Keyword).length + (if ([] : List Keyword).isEmpty then 0 else 1) < 30)) = true)
    (hl : (apos.endLine == cpos.line) = true) (hs : starEach (e :: es) X.env = (false, eval e X.env) :: starEach es X.env) (hp : (backTo cpos (starEach es X.env)).any (·.1) = false) :
    PE X (.Call (.Attribute o name apos) (e :: es) [] cpos) (fun σ H Q => to σ H fun x H1 => ty x H1 ∧ t σ H1 fun xs H2 => r x xs H2 Q) := by
  refine ⟨fun pins s σ H Q I h => ?_⟩
  refine wpAny_Call_method_late hb few hl rfl (thn (ho.run pins s σ H _ I h) fun v s1 ⟨x, H1, I1, r1, ty1, q1⟩ => ?_)
  obtain ⟨k1, k2⟩ := is I1 r1 ty1
  refine ⟨T, id, pa, slot, hty, k1, k2, ?_⟩
  have args := ha.run cpos pins s1 σ H1 _ I1 q1
  rw [hs] at args ⊢
  refine Calls.callWith_builtin (by show (false || (backTo cpos (starEach es X.env)).any (·.1)) = false; rw [hp]; rfl) (Calls.evalArgs_plain ?_)
  exact thn args fun us s2 ⟨vs, H2, I2, r2, q2⟩ => hm pins s2 σ H2 x vs v us Q I2 r1 r2 q2
/-- what is known of a tuple's display -/
theorem knt_is {X : Cx} {pins : List (Addr × Obj)} {s : Shared} {σ : L2.St} {H : Hp} {x : V} {v : Value} (I : L2.Inv X pins σ H s) (r : RelV x v) (h : ∃ a vs, x = .ref a ∧ KnT H a ∧ SqT X.K H a vs) : s.TypeIs v "tuple" ∧ ∀ a, v = .ref a → ∃ ob, s.heap.get? a = some ob ∧ ob.dict = none := by
  obtain ⟨a, vs, rfl, ⟨o, u, h1, h2⟩, h3⟩ := h
  cases r
  obtain ⟨its, _, ⟨ob, k1, k2, _⟩, _⟩ := I.tuple h3
  have k3 : s.heap.get? a = some o := (I.hok a _ h1).1
  rw [k1] at k3
  cases k3
  refine ⟨⟨_, k1, k2⟩, fun b e => ?_⟩
  cases e
  exact ⟨_, k1, h2⟩
/-! ### enumerate -/
theorem en_meets {v : Value} {o : Obj} {B0 : Heap → Prop} (B : Begins v o B0) : Meets (Builtin.«enumerate.__new__» ⟨[.type "enumerate", v], []⟩) (fun _ R s => B0 s.heap ∧
      R (.ok (.ret (.ref (s.heap.push o).objs.size))) { s with heap := (s.heap.push o).push { cls := .type "enumerate", data := .fields #[.none, .bool false, .ref s.heap.objs.size, rawInt 0, .none, .none] } }) :=
  .of_wp fun prog w A R s h => by
    obtain ⟨hp, gg, dd, tk, os⟩ := s
    obtain ⟨hb, h⟩ := h
    have sb := sub_enumerate
    have go : ∀ {A' : Around} {E Q : Value → Shared → Prop}, Q (.ref hp.objs.size) ⟨hp.push o, gg, dd, tk, os⟩ → wpAny (model prog w) A' (pyIter v) Q E ⟨hp, gg, dd, tk, os⟩ := fun q => B.iter prog w _ _ ⟨hp, gg, dd, tk, os⟩ _ hb q
    wp_walk using go
    refine wpAny_stack_any fun _ => wpAny_pure ?_
    split
    · rename_i c _ _ _ _ _
      cases (c == Value.type "enumerate")
      · wp_walk using go
        exact ⟨_, rfl, h⟩
      · wp_walk using go
        exact ⟨_, rfl, h⟩
    · wp_walk using go
      exact ⟨_, rfl, h⟩
theorem en_call {prog : Program} {w : World} {A : Around} {E Q : Value → Shared → Prop} {s : Shared} {v : Value} {o : Obj} {B0 : Heap → Prop} (B : Begins v o B0) (hb : B0 s.heap)
    (h : ∀ h', IsEnum h' (s.heap.objs.size + 1) s.heap.objs.size 0 .none → h'.get? s.heap.objs.size = some o → (∀ b o, s.heap.get? b = some o → h'.get? b = some o) → Q (.ref (s.heap.objs.size + 1)) { s with heap := h' }) :
    wpAny (model prog w) A (call (.type "enumerate") [v]) Q E s := by
  refine callType_new PySem.F.called_enumerate (by decide) (PySem.F.typeCall_enumerate_1 _) (PySem.F.newCall_enumerate_1 _) (fun obj => PySem.F.args_object_init_2 obj _) PySem.F.entry_enumerate_new (en_meets B) ⟨hb, ?_⟩
  have sz : (s.heap.push o).objs.size = s.heap.objs.size + 1 := Heap.size_push ..
  show _ ∧ _
  rw [sz]
  have it : IsEnum ((s.heap.push o).push { cls := .type "enumerate", data := .fields #[.none, .bool false, .ref s.heap.objs.size, rawInt 0, .none, .none] }) (s.heap.objs.size + 1) s.heap.objs.size 0 .none := by
    have e := Heap.get?_push_size (s.heap.push o) (o := { cls := .type "enumerate", data := .fields #[.none, .bool false, .ref s.heap.objs.size, rawInt 0, .none, .none] }) rfl
    rw [sz] at e
    exact e
  exact ⟨⟨_, it, rfl⟩, h _ it (Heap.get?_push_of_some _ (Heap.get?_push_size _ B.free)) fun b o' k => Heap.get?_push_of_some _ (Heap.get?_push_of_some _ k)⟩
/-- the tuple at a (n items), each item in a new pair -/
def IteT (K : PySem.W.Frag) (a : Addr) (n : Nat) : It :=
  ⟨fun i H => i < n ∧ ∃ xs : List V, xs.length = n ∧ SqT K H a xs, fun i H v H' => ∃ T x, v = .ref T ∧ H T = none ∧ H' = upd H T (.tup [.int (i : Nat), x]) ∧ ∀ xs, SqT K H a xs → xs[i]? = some x, fun i H => n ≤ i ∧ ∃ xs : List V, xs.length = n ∧ SqT K H a xs⟩
theorem turn_enT {P : Program} {w : World} {K : PySem.W.Frag} {elts : List Expr} {kk n : Nat} {tpos : Pos} (a e it : Addr) :
    Turn P w K (.Tuple elts kk tpos) (IteT K a n) [e, it] e (fun i h => (∃ old, IsEnum h e it ((i : Nat) : Int) old) ∧ h.IsTupleIter it a i ∧ e ≠ it ∧ e ≠ a ∧ a ≠ it ∧ i ≤ n) where
  mem := by simp
  obj := fun i h st b hb => by
    obtain ⟨⟨old, he⟩, ⟨o, ho, hc, hd⟩, _⟩ := st
    have two : b = e ∨ b = it := by simpa using hb
    rcases two with z | z
    · rw [z]
      exact ⟨_, he, fun v q => nomatch q⟩
    · rw [z]
      exact ⟨o, ho, fun v q => by rw [hd] at q; cases q⟩
  keep := fun i h h' st k => by
    obtain ⟨⟨old, he⟩, hi, ne⟩ := st
    exact ⟨⟨old, k e (by simp) _ he⟩, hi.at fun o q => k it (by simp) o q, ne⟩
  item := by
    intro X hP hw hK hc i pins s σ H E I hf st hg
    subst hP hw hK
    obtain ⟨⟨old, he⟩, hit, n1, n2, n3, hle⟩ := st
    obtain ⟨hin, xs, hlen, hq⟩ := hg
    obtain ⟨its, rv, tup, _⟩ := I.tuple hq
    have hl := rv.length
    have hd : X.A.in1.handled = none := by simp [I.ok.hd hc]
    have D := Draws.tuple (prog := X.prog) (w := X.w) hd it a n3 its.toArray
    have el : e < s.heap.objs.size := Heap.lt_size he
    have il : it < s.heap.objs.size := by
      obtain ⟨_, q, _⟩ := hit
      exact Heap.lt_size q
    refine wpAny_pyNext_enum_itemD D he ⟨hit, tup⟩ (by rw [List.size_toArray]; omega) n1 (by simp [n1, n2]) fun u h' tk hu ho hst hT hsz hk => ?_
    obtain ⟨x, hx, ru⟩ : ∃ x, xs[i]? = some x ∧ RelV x u := by
      have hi : i < xs.length := by omega
      refine ⟨xs[i], List.getElem?_eq_getElem hi, ?_⟩
      obtain ⟨u', e1, r1⟩ := rv.get (List.getElem?_eq_getElem hi)
      have e2 : its[i]? = some u := by simpa using hu
      rw [e1] at e2
      cases e2
      exact r1
    refine ⟨_, rfl, wpAny_letOwnedTupleGo_enum (s := { s with heap := h', toks := tk + 1 }) ho fun h'' he' sb => ?_⟩
    have hT2 : h''.get? s.heap.objs.size = some { cls := .type "tuple", data := .seq #[.int i tk, u] } := (sb.2 _ (Nat.ne_of_gt el)).trans hT
    have new : ObjOk X.prog X.w (upd H s.heap.objs.size (.tup [.int (i : Nat), x])) h'' s.heap.objs.size (.tup [.int (i : Nat), x]) :=
      ⟨by show 2 ≤ sizeLine; decide, [.int i tk, u], .cons ⟨_, rfl⟩ (.cons ru .nil), ⟨_, hT2, rfl, _, rfl⟩⟩
    have I1 : L2.Inv X pins σ (upd H s.heap.objs.size (.tup [.int (i : Nat), x])) { s with heap := h'', toks := tk + 1 } :=
      I.turnedNew (ch := [e, it]) (fun b ob hb q => (sb.2 b (fun z => hb (by simp [z]))).trans (hk b ob (fun z => hb (by simp [z])) (fun z => hb (by simp [z])) q)) hf (Nat.le_refl _) new
    have e1 : ((i + 1 : Nat) : Int) = (i : Int) + 1 := by omega
    refine ⟨.ref s.heap.objs.size, _, I1, rfl, ⟨_, x, rfl, I.hok.fresh (Nat.le_refl _), rfl, fun ys hy => by rw [I.tuple_inj hy hq]; exact hx⟩, ⟨⟨u, by rw [e1]; exact he'⟩, hst.1.at fun o q => (sb.2 it (Ne.symm n1)).trans q, n1, n2, n3, by omega⟩, fun b hb => ?_⟩
    have hb' : b < s.heap.objs.size := by
      have two : b = e ∨ b = it := by simpa using hb
      rcases two with z | z
      · rw [z]
        exact el
      · rw [z]
        exact il
    rw [upd_ne (Nat.ne_of_lt hb')]
    exact (hf b hb).1
  done := by
    intro X hP hw hK hc i pins s σ H E I hf st hg
    subst hP hw hK
    obtain ⟨⟨old, he⟩, hit, n1, n2, n3, hle⟩ := st
    obtain ⟨hge, xs, hlen, hq⟩ := hg
    obtain ⟨its, rv, tup, _⟩ := I.tuple hq
    have hl := rv.length
    have hd : X.A.in1.handled = none := by simp [I.ok.hd hc]
    have D := Draws.tuple (prog := X.prog) (w := X.w) hd it a n3 its.toArray
    obtain ⟨f0, f1, f2, f3, f4, f5⟩ := hf it (by simp)
    have hi : i = its.toArray.size := by rw [List.size_toArray]; omega
    subst hi
    exact wpAny_pyNext_enum_endD D he ⟨hit, tup⟩ fun h' eb => ⟨rfl, I.turned (t' := s.toks) (fun b o hb q => eb b o hb q) f0 f1 f3 f4 f5⟩
  self := fun A i s Q E st h => let ⟨⟨_, he⟩, _⟩ := st; wpAny_pyIter_enum he h
/-- enumerate(a list or a tuple) -/
theorem pi_en {X : Cx} {e : Expr} {ta : TA} {p pos tpos : Pos} {elts : List Expr} {kk : Nat} (hg : Gl X "enumerate") (hm : X.mg "enumerate" = none) (ha : PA X [e] ta) (hs : starEach [e] X.env = [(false, eval e X.env)]) :
    PI X (.Tuple elts kk tpos) (.Call (.Name "enumerate" p) [e] [] pos) (fun σ H R => ta σ H fun vs H1 => ∃ a xs, vs = [.ref a] ∧ ((SqL X.K H1 a xs ∧ R (Ite X.K a) H1) ∨ (SqT X.K H1 a xs ∧ R (IteT X.K a xs.length) H1))) := by
  refine ⟨fun pins s σ H R I h => ?_⟩
  have run := ha.run pos pins s σ H _ I h
  refine Call_ (ld_blt I hg hm boot_enumerate (PyProof.Rows.callWith_type1 (thn run fun us s1 ⟨vs, H1, I1, r1, a, xs, ev, q1⟩ => ?_) hs rfl))
  subst ev
  cases r1 with
  | cons r rr =>
    cases rr
    cases r
    have news : ∀ {b : Addr}, b ∈ [s1.heap.objs.size + 1, s1.heap.objs.size] → s1.heap.objs.size ≤ b := fun {b} hb => by
      have two : b = s1.heap.objs.size + 1 ∨ b = s1.heap.objs.size := by simpa using hb
      rcases two with z | z
      · rw [z]
        exact Nat.le_add_right _ _
      · rw [z]
        exact Nat.le_refl _
    rcases q1 with ⟨hq, q⟩ | ⟨hq, q⟩
    · obtain ⟨its, rv, lst, _⟩ := I1.list hq
      refine en_call (begins_list a its.toArray) lst.isList fun h' he hit hk => wpAny_pyIter_enum he ?_
      have I2 : L2.Inv X pins σ H1 { s1 with heap := h' } := I1.kept (t' := s1.toks) hk
      exact ⟨s1.heap.objs.size + 1, [s1.heap.objs.size + 1, s1.heap.objs.size], _, _, H1, rfl, I2, turn_enum a (s1.heap.objs.size + 1) s1.heap.objs.size, ⟨⟨.none, he⟩, ⟨_, hit, rfl, rfl⟩, Nat.succ_ne_self _⟩, fun b hb => I1.fpOk (news hb) (I1.hok.fresh (news hb)), q⟩
    · obtain ⟨its, rv, tup, _⟩ := I1.tuple hq
      have al : a < s1.heap.objs.size := tup.lt
      refine en_call (begins_tuple a its.toArray) tup fun h' he hit hk => wpAny_pyIter_enum he ?_
      have I2 : L2.Inv X pins σ H1 { s1 with heap := h' } := I1.kept (t' := s1.toks) hk
      exact ⟨s1.heap.objs.size + 1, [s1.heap.objs.size + 1, s1.heap.objs.size], _, _, H1, rfl, I2, turn_enT a (s1.heap.objs.size + 1) s1.heap.objs.size, ⟨⟨.none, he⟩, ⟨_, hit, rfl, rfl⟩, Nat.succ_ne_self _, Nat.ne_of_gt (Nat.lt_succ_of_lt al), Nat.ne_of_lt al, Nat.zero_le _⟩, fun b hb => I1.fpOk (news hb) (I1.hok.fresh (news hb)), q⟩
end Mn

/-! len(set(texts)). -/
namespace Mn
open PySem PySem.Spec PyProof.Rows L2
/-- how many of xs come new into the set U -/
def few (U : Str → Bool) : List Str → Nat
  | [] => 0
  | x :: xs => (if U x then 0 else 1) + few (fun k => U k || decide (k = x)) xs
theorem few_le : ∀ (xs : List Str) (U : Str → Bool), few U xs ≤ xs.length
  | [], _ => Nat.le_refl _
  | x :: xs, U => by
    have := few_le xs fun k => U k || decide (k = x)
    unfold few
    rw [List.length_cons]
    split <;> omega
section
variable {prog : Program} {w : World} {A : Around} {R : Result → Shared → Prop} {I : Addr} {fp wr : List Addr} {G : Array GenState → Array GenState → Prop} {n : Nat} {P : Nat → Value → Prop} {St : Nat → Shared → Prop}
theorem set_loop (W : WalksS prog w A.in1 I fp wr G n P St) (S : Addr) (out : S ∉ fp) (xs : List Str) (hn : xs.length = n) (val : ∀ i v x, P i v → xs[i]? = some x → ∃ t, v = .str x t) :
    ∀ (rest : List Str) (U : Str → Bool) (i m : Nat) (s : Shared), xs.drop i = rest → i ≤ n → m + rest.length + 1 < scanBound → St i s → s.heap.SetOf (PySem.strKind prog w) S U m →
      (∀ s' U', Moved (S :: wr) G s s' → s'.heap.SetOf (PySem.strKind prog w) S U' (m + few U rest) → R (.ok (.ret .none)) s') →
      codeAny (model prog w) A (.builtin "set.update.loop" ⟨[.ref S, .ref I], []⟩) R s := by
  have nw : S ∉ wr := fun h => out (W.sub _ h)
  have up : ∀ b ∈ wr, b ∈ S :: wr := fun b hb => List.mem_cons_of_mem _ hb
  intro rest
  induction rest with
  | nil =>
    intro U i m s hd hi hm hst hS hR
    have hin : n = i := by
      have := congrArg List.length hd
      rw [List.length_drop, List.length_nil] at this
      omega
    subst hin
    refine codeAny_builtin PyProof.Rows.F.entry_set_update_loop ?_
    rw [Around.under_plainId PyProof.Rows.F.plain_set_update_loop _]
    show wpAny _ A.in1 (pyNext (.ref I) >>= _) _ _ s
    refine wpAny_bind (W.done s _ _ hst fun s' mv => ?_)
    show wpAny _ A.in1 (ret Value.none) _ _ s'
    refine wpAny_pure (hR s' U (mv.mono up) ?_)
    obtain ⟨o, es, ep, t, ho, more⟩ := hS
    exact ⟨o, es, ep, t, mv.heap S _ nw ho, more⟩
  | cons x rest ih =>
    intro U i m s hd hi hm hst hS hR
    rw [List.length_cons] at hm
    have hlt : i < n := by
      have := congrArg List.length hd
      rw [List.length_drop, List.length_cons] at this
      omega
    have hx : xs[i]? = some x := by
      have h := congrArg List.head? hd
      rw [List.head?_drop] at h
      exact h
    have hd2 : xs.drop (i + 1) = rest := by
      have h := congrArg List.tail hd
      rw [List.tail_drop] at h
      exact h
    refine codeAny_builtin PyProof.Rows.F.entry_set_update_loop ?_
    rw [Around.under_plainId PyProof.Rows.F.plain_set_update_loop _]
    show wpAny _ A.in1 (pyNext (.ref I) >>= _) _ _ s
    refine wpAny_bind (W.item i s _ _ hlt hst fun v s' hP hst' mv => ?_)
    obtain ⟨t, rfl⟩ := val i v x hP hx
    have hS' : s'.heap.SetOf (PySem.strKind prog w) S U m := by
      obtain ⟨o, es, ep, tb, ho, more⟩ := hS
      exact ⟨o, es, ep, tb, mv.heap S _ nw ho, more⟩
    show wpAny _ A.in1 (holding [Value.str x t] (setAdd S (.str x t)) >>= _) _ _ s'
    refine wpAny_bind (wpAny_holding ?_)
    unfold setAdd
    refine wpAny_holding ?_
    refine wpAny_bind ((PySem.strKind prog w).pyHash (k := x) (strKind_is _ _ _ _) ?_)
    refine wpAny_setAddHashed_of (knd := PySem.strKind prog w) (s := { s' with toks := s'.toks + 1 }) (strKind_is _ _ _ _) rfl hS' (by omega) fun h' but hS2 => ?_
    have e1 : (if U x then m else m + 1) = m + if U x then 0 else 1 := by split <;> rfl
    refine wpAny_pure ⟨plainId_quiet PyProof.Rows.F.plain_set_update_loop _, ih (fun k => U k || decide (k = x)) (i + 1) _ _ hd2 hlt (by split <;> omega) (W.frame _ s' _ _ hst' (Nat.le_succ _) fun b hb o e => ?_) hS2 fun s'' U' mv'' hS'' => ?_⟩
    · have nb : b ≠ S := fun h => out (h ▸ hb)
      exact (but.2 b nb).trans e
    · refine hR s'' U' (Moved.trans W.gtrans ((mv.mono up).then_heap (Nat.le_succ _) fun b o hb e => ?_) mv'') ?_
      · have nb : b ≠ S := fun h => hb (h ▸ List.mem_cons_self)
        exact (but.2 b nb).trans e
      · have e2 : (if U x then m else m + 1) + few (fun k => U k || decide (k = x)) rest = m + few U (x :: rest) := by
          rw [e1, Nat.add_assoc]
          rfl
        rw [← e2]
        exact hS''
end
section
variable {prog : Program} {w : World} {A : Around} {E : Value → Shared → Prop} {s : Shared}
theorem set_call {l : Addr} {items : Array Value} {xs : List Str} {Q : Value → Shared → Prop} (hh : A.handled = none) (hl : s.heap.IsList l items) (hi : PyProof.Rows.StrsAre items.toList xs) (hb : xs.length + 1 < scanBound)
    (h : ∀ (h' : Heap) (tk : Nat) (U : Str → Bool), h'.SetOf (PySem.strKind prog w) s.heap.objs.size U (few (fun _ => false) xs) →
      (∀ b o, b < s.heap.objs.size → s.heap.get? b = some o → h'.get? b = some o) → Q (.ref s.heap.objs.size) { s with heap := h', toks := tk }) :
    wpAny (model prog w) A (call (.type "set") [.ref l]) Q E s := by
  obtain ⟨c, tl, mro⟩ := PySem.F.called_set.mro
  have made := PySem.F.called_set.made
  have sub := PySem.F.called_set.sub
  refine wpAny_call (codeAny_of_tree ?_)
  show wpAny _ _ (callAny (.type "set") _) _ _ _
  refine wpAny_pure ⟨Code.quiet_builtin _ (by decide +kernel), codeAny_builtin PySem.F.entry_type_call ?_⟩
  rw [Around.under_plain (weight_type_call_type "set" [.ref l] []) rfl]
  have g1 := PySem.F.called_set.notType
  have g2 := PySem.F.called_set.canCreate
  have g3 := PySem.F.typeCall_set_1 (.ref l)
  repeat (any_goals (first | assumption | wp_step))
  refine codeAny_mono (code_set_new_1 (.ref l) (E := E) (Q₁ := fun obj s1 => ∃ led : Bool, obj = .ref s.heap.objs.size ∧ s1 = { s with heap := s.heap.push { cls := .type "set", dict := none, data := .set #[] 0 (.fresh 0 0 led) } }) fun led => ⟨led, rfl, rfl⟩) fun r s1 hr => ?_
  cases r with
  | error e => exact hr
  | ok fl =>
    cases fl with
    | ret obj =>
      obtain ⟨led, rfl, rfl⟩ := hr
      have new := Heap.get?_push_size s.heap (o := { cls := .type "set", dict := none, data := .set #[] 0 (.fresh 0 0 led) }) rfl
      have ty : Shared.TypeIs { s with heap := s.heap.push { cls := .type "set", dict := none, data := .set #[] 0 (.fresh 0 0 led) } } (.ref s.heap.objs.size) "set" := ⟨_, new, rfl⟩
      have li := PySem.F.called_set.init.lookup
      have bi := PySem.F.called_set.init.bind (.ref s.heap.objs.size)
      repeat (any_goals (first | assumption | wp_step))
      refine codeAny_mono (codeAny_call_builtin (R := wants (fun r s2 => r = .none ∧ ∃ h' tk U, s2 = { s with heap := h', toks := tk } ∧ h'.SetOf (PySem.strKind prog w) s.heap.objs.size U (few (fun _ => false) xs) ∧
          (∀ b o, b < s.heap.objs.size → s.heap.get? b = some o → h'.get? b = some o)) E) PySem.F.called_set.init.plain PySem.F.entry_set_init (check_set_init_1 ty ?_)) fun r2 s2 hr2 => ?_
      · obtain ⟨⟨lc, ld, lx, ls⟩, at0, e1, nl, e2⟩ := hl
        simp only at e1 e2
        subst e1
        subst e2
        have at1 : (s.heap.push { cls := .type "set", dict := none, data := .set #[] 0 (.fresh 0 0 led) }).get? l = some { cls := .type "list", dict := ld, data := .seq items nl, slots := ls } := Heap.get?_push_of_some _ at0
        have s1 := PySem.F.sub_list_set
        have s2 := PySem.F.sub_list_frozenset
        have ne : (Value.type "list" == Value.type "dict") = false := by decide
        have lst1 : (s.heap.push { cls := .type "set", dict := none, data := .set #[] 0 (.fresh 0 0 led) }).IsList l items := ⟨_, at1, rfl, nl, rfl⟩
        unfold Builtin.«set.__init__» noKeywords Builtin.Frozenset.updateFrom
        generalize hPI : pyIter = PI
        wp_walk
        subst hPI
        refine wpAny_pyIter_list lst1 ?_
        refine wpAny_bind (wpAny_runValue ?_)
        have below : l < s.heap.objs.size := Heap.lt_size at0
        have hh3 : A.in1.in1.in1.handled = none := by simp [hh]
        have ne1 : l ≠ (s.heap.push { cls := .type "set", dict := none, data := .set #[] 0 (.fresh 0 0 led) }).objs.size := by
          rw [Heap.size_push]
          exact Nat.ne_of_lt (Nat.lt_succ_of_lt below)
        have out : s.heap.objs.size ∉ [(s.heap.push { cls := .type "set", dict := none, data := .set #[] 0 (.fresh 0 0 led) }).objs.size, l] := by
          rw [Heap.size_push]
          simp only [List.mem_cons, List.not_mem_nil, or_false, not_or]
          exact ⟨Nat.ne_of_lt (Nat.lt_succ_self _), Nat.ne_of_gt below⟩
        have sz : xs.length = items.size := by rw [← StrsAre.len_eq hi, Array.length_toList]
        have val : ∀ (i : Nat) (v : Value) (x : Str), items[i]? = some v → xs[i]? = some x → ∃ t, v = .str x t := fun i v x e1 e2 => by
          obtain ⟨t, e3⟩ := SS.strs_at hi i v (by rw [Array.getElem?_toList]; exact e1)
          refine ⟨t, e3.trans ?_⟩
          rw [List.getD_eq_getElem?_getD, e2]
          rfl
        refine set_loop ((Walks.list hh3 _ l ne1 items).toS) s.heap.objs.size out xs sz val xs (fun _ => false) 0 0 _ rfl (Nat.zero_le _) (by omega) ⟨⟨_, Heap.get?_push_size _ rfl, rfl, rfl⟩, (lst1.push _)⟩ ?first ?last
        case first =>
          have at2 : ((s.heap.push { cls := .type "set", dict := none, data := .set #[] 0 (.fresh 0 0 led) }).push { cls := .type "list_iterator", data := .fields #[.ref l, .int 0 0] }).get? s.heap.objs.size
              = some { cls := .type "set", dict := none, data := .set #[] 0 (.fresh 0 0 led) } := Heap.get?_push_of_some _ new
          exact PyProof.Rows.SetOf_congr ((PyProof.Rows.setObjOf_fresh (knd := PySem.strKind prog w) led).setOf at2 (by unfold scanBound; omega)) (fun _ => rfl) rfl
        case last =>
          intro s' U mv hS'
          obtain ⟨h', g', d', tk', os'⟩ := s'
          have eg : g' = s.gens := mv.gens
          have ed : d' = s.drawn := mv.drawn
          have eo : os' = s.os := mv.os
          subst eg ed eo
          show wpAny _ _ _ _ _ _
          refine wpAny_pure ?_
          show wpAny _ _ (ret Value.none) _ _ _
          rw [Nat.zero_add] at hS'
          refine wpAny_pure ⟨rfl, h', tk', U, rfl, hS', fun b o hb e => ?_⟩
          have n1 : b ≠ s.heap.objs.size := Nat.ne_of_lt hb
          have n2 : b ≠ (s.heap.push { cls := .type "set", dict := none, data := .set #[] 0 (.fresh 0 0 led) }).objs.size := by
            rw [Heap.size_push]
            exact Nat.ne_of_lt (Nat.lt_succ_of_lt hb)
          refine mv.heap b o ?_ (Heap.get?_push_of_some _ (Heap.get?_push_of_some _ e))
          simp only [List.mem_cons, List.not_mem_nil, or_false, not_or]
          exact ⟨n1, n2⟩
      · cases r2 with
        | error e => exact hr2
        | ok fl2 =>
          cases fl2 with
          | ret r =>
            obtain ⟨rfl, h', tk, U, rfl, hS', hk'⟩ := hr2
            repeat (any_goals (first | assumption | wp_step))
            exact h _ _ U hS' hk'
          | _ => exact hr2.elim
    | _ => exact hr.elim
end
/-- len(set(xs)), xs a list of texts -/
theorem pe_lset {X : Cx} {a : Expr} {ta : TE} {p p2 q pos : Pos} (hc : X.calm = true) (hg : Gl X "len") (hm : X.mg "len" = none) (hg2 : Gl X "set") (hm2 : X.mg "set" = none) (ha : PE X a ta)
    (na : starEach [a] X.env = (false, eval a X.env) :: starEach [] X.env) : PE X (.Call (.Name "len" p) [.Call (.Name "set" p2) [a] [] q] [] pos) (fun σ H Q => ta σ H fun x H1 => ∃ (l : Addr) (xs : List Str), x = .ref l ∧ SqL X.K H1 l (xs.map V.str) ∧ xs.length < 1000 ∧ Q (.int (few (fun _ => false) xs : Nat)) H1) := by
  refine ⟨fun pins s σ H Q I h => ?_⟩
  refine Call_ (ld_blt I hg hm boot_len (PyProof.Rows.callWith_builtin1 (PyProof.Rows.args_cons ?_ rfl) rfl rfl))
  refine Call_ (ld_blt I hg2 hm2 boot_set ?_)
  refine PyProof.Rows.callWith_type1 (PyProof.Rows.args_cons (thn (ha.run pins s σ H _ I h) fun v s1 ⟨x, H1, I1, r1, l, xs, ex, hq, hb, q1⟩ => PyProof.Rows.args_nil ?_) na) na rfl
  subst ex
  cases r1
  obtain ⟨its, r, pl, _⟩ := I1.list hq
  refine set_call (I1.ok.hd hc) pl.isList (by simpa using strsAre_of r) (by unfold scanBound; omega) fun h' tk U hS hk => ?_
  refine PyProof.Rows.args_nil ?_
  obtain ⟨o, es, ep, t, ho, hex, hd, _, _, _, hf, hn⟩ := hS
  have I2 : L2.Inv X pins σ H1 { s1 with heap := h', toks := tk } := I1.kept fun b o e => hk b o (Heap.lt_size e) e
  have small := few_le xs fun _ => false
  exact call_len_set ho hex hd hf (by rw [hn]; omega) ⟨.int (few (fun _ => false) xs : Nat), H1, I2.tok _, ⟨_, by rw [hn]⟩, q1⟩
end Mn

/-! From Python's expressions to the machine's. -/
namespace Mn
open PySem PySem.Spec PyProof.Rows L2

/-! ### what is walked follows a list -/
def Fol (K : PySem.W.Frag) (Z : Hp) (m : Mp) (J : It) (ds : List D) : Prop := ∀ (i : Nat) (H : Hp), Same Z H →
  (∀ d, ds[i]? = some d → J.go i H ∧ ∀ x H', J.yld i H x H' → (H' = H ∧ RD K Z m d x) ∨ ∃ T vs es, H T = none ∧ H' = upd H T (.tup vs) ∧ d = .tup false es ∧ RDs K Z m es vs ∧ x = .ref T) ∧ (ds.length ≤ i → J.stop i H)
section
variable {K : PySem.W.Frag} {Z Z' : Hp} {m m' : Mp}
theorem Fol.mono {J : It} {ds : List D} (h : Fol K Z m J ds) (e : Ext Z m Z' m') : Fol K Z' m' J ds := fun i H s => by
  obtain ⟨h1, h2⟩ := h i H (e.z.trans s)
  refine ⟨fun d q => ?_, h2⟩
  obtain ⟨g, y⟩ := h1 d q
  refine ⟨g, fun x H' q' => ?_⟩
  rcases y x H' q' with ⟨e1, e2⟩ | ⟨T, vs, es, e1, e2, e3, e4, e5⟩
  · exact .inl ⟨e1, e2.mono e⟩
  · exact .inr ⟨T, vs, es, e1, e2, e3, e4.mono e, e5⟩
theorem fol_list {a : Addr} {ds : List D} {vs : List V} (h : Z a = some (.lst vs)) (r : RDs K Z m ds vs) : Fol K Z m (Itl K a) ds := fun i H s => by
  have hq : SqL K H a vs := .inl (.inl (s _ _ h))
  refine ⟨fun d q => ?_, fun hl => ⟨vs, hq, by rw [← r.length]; exact hl⟩⟩
  obtain ⟨w, e, rd⟩ := r.get q
  refine ⟨⟨vs, w, hq, e⟩, fun x H' y => .inl ⟨y.1, ?_⟩⟩
  have e2 := y.2 vs hq
  rw [e] at e2
  cases e2
  exact rd
theorem fol_tup {a : Addr} {ds : List D} {vs : List V} (h : SqT K Z a vs) (r : RDs K Z m ds vs) : Fol K Z m (Itt K a) ds := fun i H s => by
  have hq : SqT K H a vs := seqT s h
  refine ⟨fun d q => ?_, fun hl => ⟨vs, hq, by rw [← r.length]; exact hl⟩⟩
  obtain ⟨w, e, rd⟩ := r.get q
  refine ⟨⟨vs, w, hq, e⟩, fun x H' y => .inl ⟨y.1, ?_⟩⟩
  have e2 := y.2 vs hq
  rw [e] at e2
  cases e2
  exact rd
theorem upto_len : ∀ (n : Nat) (lo : Int), (upto lo n).length = n
  | 0, _ => rfl
  | n + 1, lo => by
    show (D.int lo :: frI (lo + 1) fun m => upto m n).length = n + 1
    rw [frI_eq, List.length_cons, upto_len n]
theorem upto_get : ∀ (n : Nat) (lo : Int) (i : Nat) (d : D), (upto lo n)[i]? = some d → i < n ∧ d = .int (lo + i)
  | 0, _, _, _, h => by
    have h' : ([] : List D)[_]? = some _ := h
    simp at h'
  | n + 1, lo, 0, d, h => by
    have h' : (D.int lo :: frI (lo + 1) fun m => upto m n)[0]? = some d := h
    cases h'
    exact ⟨Nat.succ_pos _, by simp⟩
  | n + 1, lo, i + 1, d, h => by
    have h' : (D.int lo :: frI (lo + 1) fun m => upto m n)[i + 1]? = some d := h
    rw [frI_eq, List.getElem?_cons_succ] at h'
    obtain ⟨h1, h2⟩ := upto_get n (lo + 1) i d h'
    refine ⟨by omega, ?_⟩
    rw [h2]
    congr 1
    omega
theorem fol_rng (lo : Int) (n : Nat) : Fol K Z m (Itr lo n) (upto lo n) := fun i H s => by
  refine ⟨fun d q => ?_, fun hl => by rw [upto_len] at hl; exact hl⟩
  obtain ⟨h1, h2⟩ := upto_get n lo i d q
  refine ⟨h1, fun x H' y => .inl ⟨y.1, ?_⟩⟩
  rw [y.2, h2]
  exact .int _
theorem fol_str (z : List Nat) : Fol K Z m (Its (tx z)) (z.map fun c => .str [c]) := fun i H s => by
  refine ⟨fun d q => ?_, fun hl => ?_⟩
  · rw [List.getElem?_map] at q
    cases e : z[i]? with
    | none =>
      rw [e] at q
      cases q
    | some c =>
      rw [e] at q
      cases q
      obtain ⟨hi, _⟩ := List.getElem?_eq_some_iff.mp e
      refine ⟨hi, fun x H' y => .inl ⟨y.1, ?_⟩⟩
      obtain ⟨c', e1, e2⟩ := y.2
      have e3 : (tx z).cps[i]? = z[i]? := by
        show z.toArray[i]? = z[i]?
        simp
      rw [e3, e] at e1
      cases e1
      rw [e2]
      exact .str [c]
  · rw [List.length_map] at hl
    exact hl
theorem enumD_len : ∀ (xs : List D) (k : Nat), (enumD xs k).length = xs.length
  | [], _ => rfl
  | x :: xs, k => by
    show (D.tup false [.int (.ofNat k), x] :: frN (k + 1) fun j => enumD xs j).length = _
    rw [frN_eq, List.length_cons, enumD_len xs, List.length_cons]
theorem enumD_get : ∀ (xs : List D) (k i : Nat) (d : D), (enumD xs k)[i]? = some d → ∃ x, xs[i]? = some x ∧ d = .tup false [.int (.ofNat (k + i)), x]
  | [], _, _, _, h => by simp [enumD] at h
  | x :: xs, k, 0, d, h => by
    cases (show some (D.tup false [.int (.ofNat k), x]) = some d from h)
    exact ⟨x, rfl, rfl⟩
  | x :: xs, k, i + 1, d, h => by
    have h' : (D.tup false [.int (.ofNat k), x] :: frN (k + 1) fun j => enumD xs j)[i + 1]? = some d := h
    rw [frN_eq, List.getElem?_cons_succ] at h'
    obtain ⟨y, h1, h2⟩ := enumD_get xs (k + 1) i d h'
    refine ⟨y, h1, ?_⟩
    rw [h2, show k + 1 + i = k + (i + 1) by omega]
theorem fol_en {a : Addr} {ds : List D} {vs : List V} (h : Z a = some (.lst vs)) (r : RDs K Z m ds vs) : Fol K Z m (Ite K a) (enumD ds 0) := fun i H s => by
  have hq : SqL K H a vs := .inl (.inl (s _ _ h))
  refine ⟨fun d q => ?_, fun hl => ⟨vs, hq, by rw [enumD_len, r.length] at hl; exact hl⟩⟩
  obtain ⟨x, q1, rfl⟩ := enumD_get _ _ _ _ q
  obtain ⟨v, e, rd⟩ := r.get q1
  refine ⟨⟨vs, v, hq, e⟩, fun z H' k => .inr ?_⟩
  obtain ⟨T, x1, k1, k2, k3, k4⟩ := k
  have e2 := k4 vs hq
  rw [e] at e2
  cases e2
  refine ⟨T, _, _, k2, k3, rfl, .cons ?_ (.one rd), k1⟩
  rw [Nat.zero_add]
  exact .int _
theorem fol_enT {a : Addr} {ds : List D} {vs : List V} (h : SqT K Z a vs) (r : RDs K Z m ds vs) : Fol K Z m (IteT K a vs.length) (enumD ds 0) := fun i H s => by
  have hq : SqT K H a vs := seqT s h
  refine ⟨fun d q => ?_, fun hl => ⟨by rw [enumD_len, r.length] at hl; exact hl, vs, rfl, hq⟩⟩
  obtain ⟨x, q1, rfl⟩ := enumD_get _ _ _ _ q
  obtain ⟨v, e, rd⟩ := r.get q1
  refine ⟨⟨(List.getElem?_eq_some_iff.mp e).1, vs, rfl, hq⟩, fun z H' k => .inr ?_⟩
  obtain ⟨T, x1, k1, k2, k3, k4⟩ := k
  have e2 := k4 vs hq
  rw [e] at e2
  cases e2
  refine ⟨T, _, _, k2, k3, rfl, .cons ?_ (.one rd), k1⟩
  rw [Nat.zero_add]
  exact .int _
theorem zipD_len : ∀ (as bs : List D), (zipD as bs).length = min as.length bs.length
  | [], _ => by simp [zipD]
  | _ :: _, [] => by simp [zipD]
  | a :: as, b :: bs => by
    show (D.tup false [a, b] :: zipD as bs).length = _
    rw [List.length_cons, zipD_len as bs, List.length_cons, List.length_cons]
    omega
theorem zipD_get : ∀ (as bs : List D) (i : Nat) (d : D), (zipD as bs)[i]? = some d → ∃ a b, as[i]? = some a ∧ bs[i]? = some b ∧ d = .tup false [a, b]
  | [], _, _, _, h => by simp [zipD] at h
  | _ :: _, [], _, _, h => by simp [zipD] at h
  | a :: as, b :: bs, 0, d, h => by
    cases (show some (D.tup false [a, b]) = some d from h)
    exact ⟨a, b, rfl, rfl, rfl⟩
  | a :: as, b :: bs, i + 1, d, h => zipD_get as bs i d h
theorem fol_zip {a b : Addr} {ds es : List D} {vs ws : List V} (h : Z a = some (.lst vs)) (h' : Z b = some (.lst ws)) (r : RDs K Z m ds vs) (r' : RDs K Z m es ws) : Fol K Z m (Itz K a b) (zipD ds es) := fun i H s => by
  have hq : SqL K H a vs := .inl (.inl (s _ _ h))
  have hq' : SqL K H b ws := .inl (.inl (s _ _ h'))
  refine ⟨fun d q => ?_, fun hl => ⟨vs, ws, hq, hq', by rw [zipD_len, r.length, r'.length] at hl; omega⟩⟩
  obtain ⟨x, y, q1, q2, rfl⟩ := zipD_get _ _ _ _ q
  obtain ⟨v, e, rd⟩ := r.get q1
  obtain ⟨w, e', rd'⟩ := r'.get q2
  refine ⟨⟨vs, ws, v, w, hq, hq', e, e'⟩, fun z H' k => .inr ?_⟩
  obtain ⟨T, x1, y1, k1, k2, k3, k4, k5⟩ := k
  have e2 := k4 vs hq
  have e3 := k5 ws hq'
  rw [e] at e2
  rw [e'] at e3
  cases e2
  cases e3
  exact ⟨T, _, _, k2, k3, rfl, .cons rd (.one rd'), k1⟩
theorem fol_zipT {a b : Addr} {ds es : List D} {vs ws : List V} (h : SqT K Z a vs) (h' : SqT K Z b ws) (r : RDs K Z m ds vs) (r' : RDs K Z m es ws) : Fol K Z m (RZ.ItzT K a b) (zipD ds es) := fun i H s => by
  have hq : SqT K H a vs := seqT s h
  have hq' : SqT K H b ws := seqT s h'
  refine ⟨fun d q => ?_, fun hl => ⟨vs, ws, hq, hq', by rw [zipD_len, r.length, r'.length] at hl; omega⟩⟩
  obtain ⟨x, y, q1, q2, rfl⟩ := zipD_get _ _ _ _ q
  obtain ⟨v, e, rd⟩ := r.get q1
  obtain ⟨w, e', rd'⟩ := r'.get q2
  refine ⟨⟨vs, ws, v, w, hq, hq', e, e'⟩, fun z H' k => .inr ?_⟩
  obtain ⟨T, x1, y1, k1, k2, k3, k4, k5⟩ := k
  have e2 := k4 vs hq
  have e3 := k5 ws hq'
  rw [e] at e2
  rw [e'] at e3
  cases e2
  cases e3
  exact ⟨T, _, _, k2, k3, rfl, .cons rd (.one rd'), k1⟩
end

/-! ### the code of an expression -/
/-- what is known of the text: the global names, the built-in names that are free, the def's names by slot, where cells are made -/
structure CS where
  gl : List (Str × GV)
  bl : List Str
  N : List Str
  cel : List (Nat × Nat)
def CS.isCel (c : CS) (pos : Pos) : Bool := c.cel.any fun q => decide (q.1 = pos.line) && decide (q.2 = pos.col)
def boOf : Operator → Option BO
  | .Add => some .add
  | .Sub => some .sub
  | .Mult => some .mul
  | .FloorDiv => some .fdiv
  | .Mod => some .mod
  | .Pow => some .pow
  | _ => none
def isAdd : BO → Bool
  | .add => true
  | _ => false
theorem boOf_ok {o : Operator} {b : BO} (h : boOf o = some b) : o = opOf b := by
  cases o <;> (cases h; try rfl)
def coOf : CmpOp → CO
  | .Eq => .eq
  | .NotEq => .ne
  | .Lt => .lt
  | .LtE => .le
  | .Gt => .gt
  | .GtE => .ge
  | .Is => .is
  | .IsNot => .isn
  | .In => .inn
  | .NotIn => .nin
theorem coOf_ok (o : CmpOp) : o = cmpOf (coOf o) := by cases o <;> rfl
def biFor (x : Str) : Option Bi :=
  if x = ("len" : Str) then some .len else if x = ("abs" : Str) then some .abs else if x = ("int" : Str) then some .int else if x = ("list" : Str) then some .list else if x = ("tuple" : Str) then some .tuple else
    if x = ("repr" : Str) then some .repr else if x = ("sum" : Str) then some .sum else if x = ("all" : Str) then some .all else if x = ("any" : Str) then some .any else if x = ("ord" : Str) then some .ord else none
theorem biFor_ok {x : Str} {b : Bi} (h : biFor x = some b) : bootBuiltins x = some (biOf b) ∧ x ≠ "__name__" := by
  unfold biFor at h
  repeat' split at h
  all_goals first | (cases h; done) | skip
  all_goals (rename_i e; subst e; cases h; exact ⟨by decide +kernel, by decide⟩)
def tyFor (x : Str) : Option Ty :=
  if x = ("int" : Str) then some .int else if x = ("bool" : Str) then some .bool else if x = ("str" : Str) then some .str else if x = ("tuple" : Str) then some .tuple else if x = ("list" : Str) then some .list else none
theorem tyFor_ok {x : Str} {t : Ty} (h : tyFor x = some t) : bootBuiltins x = some (.type (tyOf t)) ∧ x ≠ "__name__" := by
  unfold tyFor at h
  repeat' split at h
  all_goals first | (cases h; done) | skip
  all_goals (rename_i e; subst e; cases h; exact ⟨by decide +kernel, by decide⟩)
/-- a global name that no def stands for -/
def CS.isB (c : CS) (sc : Scope) (x : Str) : Bool := okName x && (match sc.names.lookup x with
  | some .globalImplicit => true
  | _ => false) && decide (x ∈ c.bl)
def plainRecv : Expr → Bool
  | .Name .. | .Subscript .. | .Attribute .. => true
  | _ => false
def isNm : Expr → Bool
  | .Name .. => true
  | _ => false
def isSet : Expr → Bool
  | .Set .. => true
  | _ => false
/-- a comprehension's own names, by slot -/
def ownOf (N : List Str) (scope : Scope) : List (Str × Nat) := scope.names.filterMap fun y => match y.2 with
  | .local | .cell => (slotOf N y.1).map fun i => (y.1, i)
  | _ => none
mutual
theorem tgSl_own {N : List Str} {sc : Scope} : ∀ {n : Nat} {e : Expr} {t : Tg}, cT N sc n e = some t → ∀ i ∈ tgSl t, i ∈ (ownOf N sc).map (·.2)
  | 0, _, _, h => by cases h
  | n + 1, e, t, h => by
    cases e with
    | Name x pos =>
      have h : (match sc.names.lookup x with
        | some .local | some .cell => (slotOf N x).map Tg.nm
        | _ => none) = some t := h
      have fin : ∀ {k : NameKind}, sc.names.lookup x = some k → (k = .local ∨ k = .cell) → (slotOf N x).map Tg.nm = some t → ∀ i ∈ tgSl t, i ∈ (ownOf N sc).map (·.2) := fun {k} hl hk h => by
        cases e : slotOf N x with
        | none =>
          rw [e] at h
          cases h
        | some j =>
          rw [e] at h
          cases h
          intro i hi
          have hi' : i = j := by simpa [tgSl] using hi
          refine List.mem_map.mpr ⟨(x, j), List.mem_filterMap.mpr ⟨(x, k), PySem.mem_of_lookup hl, ?_⟩, hi'.symm⟩
          rcases hk with rfl | rfl <;> (dsimp only; rw [e]; rfl)
      split at h
      · rename_i hl
        exact fin hl (.inl rfl) h
      · rename_i hl
        exact fin hl (.inr rfl) h
      · cases h
    | Tuple es kk pos =>
      have h : (cTs N sc n es).map Tg.tp = some t := h
      cases e : cTs N sc n es with
      | none =>
        rw [e] at h
        cases h
      | some ts =>
        rw [e] at h
        cases h
        exact tgSls_own e
    | _ => cases h
theorem tgSls_own {N : List Str} {sc : Scope} : ∀ {n : Nat} {e : List Expr} {t : List Tg}, cTs N sc n e = some t → ∀ i ∈ tgSls t, i ∈ (ownOf N sc).map (·.2)
  | 0, _, _, h => by cases h
  | n + 1, [], t, h => by
    cases h
    intro i hi
    cases hi
  | n + 1, e :: es, t, h => by
    unfold cTs at h
    split at h
    · rename_i t ts h1 h2
      cases h
      intro i hi
      rcases List.mem_append.mp hi with hi | hi
      · exact tgSl_own h1 i hi
      · exact tgSls_own h2 i hi
    · cases h
end
/-- the classes with the field f -/
def clsF (c : CS) (f : Str) : List (List Nat) := c.gl.filterMap fun e => match c.gl.lookup e.1 with
  | some (.obj fs _ _) => if f.cps.toList ∈ fs then some e.1.cps.toList else none
  | _ => none
/-- the classes with the method m -/
def clsM (c : CS) (m : Str) : List (List Nat × Nat) := c.gl.filterMap fun e => match c.gl.lookup e.1 with
  | some (.obj _ ms _) => (ms.lookup m.cps.toList).map fun i => (e.1.cps.toList, i)
  | _ => none
theorem tx_cps (x : Str) : tx x.cps.toList = x := by
  unfold tx
  simp
theorem clsF_ok {c : CS} {f : Str} {x : List Nat} (h : x ∈ clsF c f) : ∃ fs ms mk, c.gl.lookup (tx x) = some (.obj fs ms mk) ∧ f.cps.toList ∈ fs := by
  obtain ⟨e, _, he⟩ := List.mem_filterMap.mp h
  split at he
  · rename_i fs ms mk hl
    split at he
    · rename_i hf
      cases he
      exact ⟨fs, ms, mk, by rw [tx_cps]; exact hl, hf⟩
    · cases he
  · cases he
theorem mem_look {β : Type} {x : List Nat} {b : β} : ∀ {l : List (List Nat × β)}, l.lookup x = some b → (x, b) ∈ l
  | [], h => by cases h
  | (k, d) :: r, h => by
    rw [List.lookup_cons] at h
    split at h
    · rename_i e
      cases h
      rw [eq_of_beq e]
      exact List.mem_cons_self
    · exact List.mem_cons_of_mem _ (mem_look h)
theorem clsM_ok {c : CS} {m : Str} {x : List Nat} {i : Nat} (h : (clsM c m).lookup x = some i) : ∃ fs ms mk, c.gl.lookup (tx x) = some (.obj fs ms mk) ∧ ms.lookup m.cps.toList = some i := by
  obtain ⟨e, _, he⟩ := List.mem_filterMap.mp (show (x, i) ∈ clsM c m from mem_look h)
  split at he
  · rename_i fs ms mk hl
    obtain ⟨j, h1, h2⟩ := Option.map_eq_some_iff.mp he
    cases h2
    exact ⟨fs, ms, mk, by rw [tx_cps]; exact hl, h1⟩
  · cases he
/-- a name of a written dict -/
def dctOf (c : CS) (sc : Scope) : Expr → Option (List (List Nat × D))
  | .Name x _ => if okName x then (match sc.names.lookup x with
    | some .globalImplicit => (match c.gl.lookup x with
      | some (.dct kvs) => some kvs
      | _ => none)
    | _ => none) else none
  | _ => none
/-- len(set(y)) -/
def lsOf (c : CS) (sc : Scope) (x : Str) : Expr → Option Expr
  | .Call (.Name y _) [a] [] _ => if decide (x = ("len" : Str)) && (decide (y = ("set" : Str)) && c.isB sc y) then some a else none
  | _ => none
/-- a written constant -/
def litC : Expr → Option D
  | .Constant v _ _ => (match v with
    | .none => some .non
    | .bool b => some (.bl b)
    | .int i => some (.int i)
    | .str s => some (.str s.cps.toList)
    | _ => none)
  | _ => none
/-- a dict's display of constants, its keys unlike texts -/
def dispL : List (Option Expr) → List Expr → Option (List (List Nat × D))
  | [], [] => some []
  | some (.Constant (.str s) _ _) :: ks, v :: vs => (match litC v, dispL ks vs with
    | some d, some r => if (r.any fun e => decide (e.1 = s.cps.toList)) = true then none else some ((s.cps.toList, d) :: r)
    | _, _ => none)
  | _, _ => none
def dispOf : Expr → Option (List (List Nat × D))
  | .Dict ks vs _ => if decide (ks.length ≤ 15) && !ks.isEmpty then dispL ks vs else none
  | _ => none
section
variable (c : CS)
mutual
def cE : Nat → Scope → Expr → Option E
  | 0, _, _ => none
  | n + 1, sc, e => match e with
    | .Name x _ => if okName x then (match sc.names.lookup x with
      | some .local | some .cell | some .free => (slotOf c.N x).map .var
      | some .globalImplicit => (match c.gl.lookup x with
        | some (.lit d) => some (.lit d)
        | _ => none)
      | _ => none) else none
    | .Constant v _ _ => (match v with
      | .none => some (.lit .non)
      | .bool b => some (.lit (.bl b))
      | .int i => some (.lit (.int i))
      | .str s => some (.lit (.str s.cps.toList))
      | _ => none)
    | .UnaryOp .USub a _ => (cE n sc a).map .neg
    | .UnaryOp .Not a _ => (cE n sc a).map .bnot
    | .BinOp a o b pos => (match boOf o, cE n sc a, cE n sc b with
      | some o, some a, some b => some (if isAdd o && c.isCel pos then .addc a b else .bin o a b)
      | _, _, _ => none)
    | .Compare a [o] [b] _ => if isSet b then none else (match dctOf c sc b with
      | some kvs => (match o, cE n sc a with
        | .In, some a => some (.kin false kvs a)
        | .NotIn, some a => some (.kin true kvs a)
        | _, _ => none)
      | none => (match cE n sc a, cE n sc b with
        | some a, some b => some (.cmp (coOf o) a b)
        | _, _ => none))
    | .Compare a [o, o'] [b, d] _ => if isSet d then none else (match cE n sc a, cE n sc b, cE n sc d with
      | some a, some b, some d => some (.chn (coOf o) (coOf o') a b d)
      | _, _, _ => none)
    | .BoolOp o es _ => cB n sc o es
    | .IfExp t a b _ => (match cE n sc t, cE n sc a, cE n sc b with
      | some t, some a, some b => some (.ife t a b)
      | _, _, _ => none)
    | .Tuple es _ _ => (cEs n sc es).map .tup
    | .List es pos => (cEs n sc es).map (.lst (c.isCel pos))
    | .Call (.Name x _) args [] pos => if okName x then (match sc.names.lookup x with
      | some .globalImplicit => (match c.gl.lookup x with
        | some (.fn i) => (cEs n sc args).map (.fn i)
        | some (.obj _ _ (some i)) => if args.isEmpty then none else (cEs n sc args).map (.mk x.cps.toList i)
        | some _ => none
        | none => if decide (x ∈ c.bl) then (match args with
          | [a] => (match lsOf c sc x a with
            | some y => (cE n sc y).map .lset
            | none => (match biFor x, cE n sc a with
              | some b, some a => some (.bi b (c.isCel pos) a)
              | _, _ => none))
          | [a, .Name t _] => if decide (x = ("isinstance" : Str)) && c.isB sc t then (match tyFor t, cE n sc a with
            | some t, some a => some (.isi a t)
            | _, _ => none) else none
          | _ => none) else none)
      | _ => none) else none
    | .Call (.Attribute o m apos) (a :: as) [] pos => if plainRecv o && (apos.endLine == pos.line) then (if m = ("get" : Str) then (match dctOf c sc o, as with
        | some kvs, [d] => (match cE n sc a, cE n sc d with
          | some a, some d => some (.kget kvs a d)
          | _, _ => none)
        | _, _ => none)
      else if m = ("count" : Str) then (match as, cE n sc o, cE n sc a with
        | [], some o, some a => some (.cnt o a)
        | _, _, _ => none)
      else if m = ("append" : Str) then (match as, cE n sc o, cE n sc a with
        | [], some o, some a => some (.me .append o [a])
        | _, _, _ => none)
      else if (clsM c m).isEmpty || !isNm o || !decide (as.length < 20) then none else (match cE n sc o, cEs n sc (a :: as) with
        | some o, some as => some (.mth (clsM c m) m.cps.toList o as)
        | _, _ => none)) else none
    | .Call (.Attribute o m apos) [] [] pos => if plainRecv o && decide (m = ("pop" : Str)) && (apos.endLine == pos.line) then (cE n sc o).map (fun o => .me .pop o []) else none
    | .Attribute o f _ => if plainRecv o then (cE n sc o).map (fun o => .fld (clsF c f) f.cps.toList o) else none
    | .Subscript a (.Slice lo hi none _) _ => (match cE n sc a, cO n sc lo, cO n sc hi with
      | some a, some lo, some hi => some (.slc a lo hi)
      | _, _, _ => none)
    | .Subscript a b _ => (match dctOf c sc a with
      | some kvs => (cE n sc b).map (.kix kvs)
      | none => (match dispOf a with
        | some kvs => (cE n sc b).map (.kix kvs)
        | none => (match cE n sc a, cE n sc b with
          | some a, some b => some (.ix a b)
          | _, _ => none)))
    | .ListComp elt [⟨tg, iter, ifs, 0⟩] scope pos => if isSet iter || !blkC c.N sc scope (ownOf c.N scope) then none else (match cT c.N scope n tg, cW n sc tg iter, cI n (relS scope sc) ifs, cE n (relS scope sc) elt with
      | some t, some (w, its), some cond, some e => some (.comp (c.isCel pos) t w its cond e ((ownOf c.N scope).map (·.2)))
      | _, _, _, _ => none)
    | .ListComp elt [⟨tg, iter, ifs, 0⟩, ⟨tg1, iter1, ifs1, 0⟩] scope pos => if isSet iter || isSet iter1 || !blkC c.N sc scope (ownOf c.N scope) then none else (match cT c.N scope n tg, cW n sc tg iter, cI n (relS scope sc) ifs, cT c.N scope n tg1, cW n (relS scope sc) tg1 iter1, cI n (relS scope sc) ifs1, cE n (relS scope sc) elt with
      | some t, some (w, its), some cond, some t1, some (w1, its1), some cond1, some e => some (.comp2 (c.isCel pos) t w its cond t1 w1 its1 cond1 e ((ownOf c.N scope).map (·.2)) (tgSl t1))
      | _, _, _, _, _, _, _ => none)
    | _ => none
def cEs : Nat → Scope → List Expr → Option (List E)
  | 0, _, _ => none
  | _ + 1, _, [] => some []
  | n + 1, sc, e :: es => match cE n sc e, cEs n sc es with
    | some e, some es => some (e :: es)
    | _, _ => none
def cO : Nat → Scope → Option Expr → Option (Option E)
  | 0, _, _ => none
  | _ + 1, _, none => some none
  | n + 1, sc, some e => (cE n sc e).map some
def cI : Nat → Scope → List Expr → Option (Option E)
  | 0, _, _ => none
  | _ + 1, _, [] => some none
  | n + 1, sc, [e] => (cE n sc e).map some
  | _ + 1, _, _ => none
def cB : Nat → Scope → BoolOp → List Expr → Option E
  | 0, _, _, _ => none
  | n + 1, sc, _, [e] => cE n sc e
  | n + 1, sc, o, e :: d :: es => match cE n sc e, cB n sc o (d :: es) with
    | some a, some b => some (match o with
      | .And => .band a b
      | .Or => .bor a b)
    | _, _ => none
  | _ + 1, _, _, [] => none
/-- what is walked (tg: the target) -/
def cW : Nat → Scope → Expr → Expr → Option (Wt × List E)
  | 0, _, _, _ => none
  | n + 1, sc, tg, .Call (.Name x p) args [] pos => if decide (x = ("range" : Str)) && c.isB sc x then (match args with
      | [_] => (cEs n sc args).map fun as => (.rng1, as)
      | [_, _] => (cEs n sc args).map fun as => (.rng2, as)
      | _ => none)
    else if decide (x = ("zip" : Str)) && c.isB sc x then (match args, tg with
      | [_, _], .Tuple _ _ _ => (cEs n sc args).map fun as => (.zip, as)
      | _, _ => none)
    else if decide (x = ("enumerate" : Str)) && c.isB sc x then (match args, tg with
      | [_], .Tuple _ _ _ => (cEs n sc args).map fun as => (.enm, as)
      | _, _ => none)
    else (cE n sc (.Call (.Name x p) args [] pos)).map fun a => (.of, [a])
  | n + 1, sc, _, e => (cE n sc e).map fun a => (.of, [a])
end
end
end Mn

/-! An expression does what its code does. -/
namespace Mn
open PySem PySem.Spec PyProof.Rows L2
section
variable (p : Pm) (W : WX)
def tE (c : E) : TE := fun σ H Q => ∃ F Z m S env, RE p.K Z m env σ ∧ SR p.K F Z m S H ∧ Post p F Z m (RD p.K) Q (fun cls d H' => W cls d σ H') (evE p.cl c env S)
def tT (c : E) : TT := fun σ H Q => ∃ F Z m S env, RE p.K Z m env σ ∧ SR p.K F Z m S H ∧ Post p F Z m (fun _ _ (a b : Bool) => a = b) Q (fun cls d H' => W cls d σ H') (evC p.cl (some c) env S)
def tCo (c : Option E) : TT := fun σ H Q => ∃ F Z m S env, RE p.K Z m env σ ∧ SR p.K F Z m S H ∧ Post p F Z m (fun _ _ (a b : Bool) => a = b) Q (fun cls d H' => W cls d σ H') (evC p.cl c env S)
def tA (c : List E) : TA := fun σ H Q => ∃ F Z m S env, RE p.K Z m env σ ∧ SR p.K F Z m S H ∧ Post p F Z m (RDs p.K) Q (fun cls d H' => W cls d σ H') (evEs p.cl c env S)
def tO (c : Option E) : TO := fun σ H Q => ∃ F Z m S env, RE p.K Z m env σ ∧ SR p.K F Z m S H ∧ Post p F Z m (fun _ _ (a b : Option Int) => a = b) Q (fun cls d H' => W cls d σ H') (evO p.cl c env S)
def tI (w : Wt) (c : List E) : TI := fun σ H G => ∃ F Z m S env, RE p.K Z m env σ ∧ SR p.K F Z m S H ∧ Post p F Z m (fun Z m ds J => Fol p.K Z m J ds) G (fun cls d H' => W cls d σ H') ((evEs p.cl c env S).bind fun ws S0 => R.of S0 (walk w ws))
end
section
variable {p : Pm} {W : WX} {lv : Nat} {X : Cx}
/-! ### forms of text -/
theorem star_of {c : CS} : ∀ {n : Nat} {sc : Scope} {e : Expr} {ce : E}, cE c n sc e = some ce → ∀ es env, starEach (e :: es) env = (false, eval e env) :: starEach es env
  | 0, _, _, _, h => by cases h
  | n + 1, sc, e, ce, h => by
    intro es env
    cases e <;> first | rfl | (cases h; done)
theorem stars_of {c : CS} (env : PySem.Env) : ∀ {n : Nat} {sc : Scope} {es : List Expr} {ces : List E}, cEs c n sc es = some ces → starEach es env = es.map fun e => (false, eval e env)
  | 0, _, _, _, h => by cases h
  | n + 1, sc, [], _, h => rfl
  | n + 1, sc, e :: es, ce, h => by
    unfold cEs at h
    split at h
    · rename_i a b h1 h2
      rw [star_of h1, stars_of env h2]
      rfl
    · cases h
theorem noStar {env : PySem.Env} {es : List Expr} (pos : Pos) (h : starEach es env = es.map fun e => (false, eval e env)) : (backTo pos (starEach es env)).any (·.1) = false := by
  rw [h]
  unfold backTo
  rw [List.map_map, List.any_map]
  apply List.any_eq_false.mpr
  intro x _
  exact Bool.false_ne_true
theorem tail_stars {env : PySem.Env} {e : Expr} {es : List Expr} (h : starEach (e :: es) env = (e :: es).map fun e => (false, eval e env)) (h1 : starEach (e :: es) env = (false, eval e env) :: starEach es env) : starEach es env = es.map fun e => (false, eval e env) := by
  rw [h1, List.map_cons] at h
  exact (List.cons.inj h).2
theorem plainIx_of {c : CS} {n : Nat} {sc : Scope} {e : Expr} {ce : E} (h : cE c n sc e = some ce) : PlainIx e := by
  cases n with
  | zero => cases h
  | succ n =>
    intro o i
    cases e <;> first | rfl | (cases h; done)
theorem noMark {o : CmpOp} {b : Expr} (h : isSet b = false) : behindInMarks o b = false := by
  cases b <;> first | rfl | cases h
theorem noFold {e : Expr} (h : isSet e = false) (env : PySem.Env) (x : Value) : foldedSetIterable e env x = pure x := by
  cases e <;> first | rfl | cases h

/-! ### tests -/
theorem pt_of {e : Expr} {c : E} (h : PE X e (tE p W c)) (he : ∀ whole, isTrue e X.env whole = (do let v ← whole; standAt e.pos; holding [v] (truthy v))) : PT X e (tT p W c) := by
  refine PT.imp (pt_val h he) fun σ H Q q => ?_
  obtain ⟨F, Z, m, S, env, re, sr, h⟩ := q
  refine ⟨F, Z, m, S, env, re, sr, Post.bind h fun d S1 Z1 m1 H1 v _ _ s1 rd h1 => ?_⟩
  cases rd <;> first | exact False.elim h1 | skip
  exact ⟨_, rfl, h1.now s1 rfl⟩
theorem isTrue_ife {t a b : Expr} {pos : Pos} {tt ta tb : TT} (ht : PT X t tt) (ha : PT X a ta) (hb : PT X b tb) : PT X (.IfExp t a b pos) (fun σ H Q => tt σ H fun k H1 => if k = true then ta σ H1 Q else tb σ H1 Q) := by
  refine ⟨fun pins s σ H Q I h => ?_⟩
  show wpAny _ _ (do if ← isTrue t X.env (eval t X.env) then isTrue a X.env (eval a X.env) else isTrue b X.env (eval b X.env)) _ _ _
  refine wpAny_bind (thn (ht.run pins s σ H _ I h) fun d s1 ⟨H1, I1, q1⟩ => ?_)
  cases d with
  | true => exact ha.run pins s1 σ H1 Q I1 q1
  | false => exact hb.run pins s1 σ H1 Q I1 q1

/-! ### calls of defs -/
theorem pe_fn0 (c : Cok p W lv X) {f : Addr} {sp : Sp} {x : Str} {pos pos' : Pos} (F : FnG X.prog X.w X.K X.mg X.base lv f sp) (hg : Gl X x) (hm : X.mg x = some (.ref f)) (hk : PySem.W.keepIn X.K (.ref f) = true) (hdb : (x == ("__debug__" : Str)) = false) :
    PE X (.Call (.Name x pos') [] [] pos) (fun σ H Q => sp [] H Q (fun cls d H' => W cls d σ H')) := by
  refine ⟨fun pins s σ H Q I h => ?_⟩
  refine wpAny_Call_Name_kw (ld_glob I hg hm ?_ hdb)
  exact PySem.W.callWith_K0 I.kIn hk (call_fn (us := []) c F I .nil h)
theorem pe_fn1 (c : Cok p W lv X) {f : Addr} {sp : Sp} {x : Str} {pos pos' : Pos} {e : Expr} {es : List Expr} {t : TA} (F : FnG X.prog X.w X.K X.mg X.base lv f sp) (hg : Gl X x) (hm : X.mg x = some (.ref f)) (hk : PySem.W.keepIn X.K (.ref f) = true) (ha : PA X (e :: es) t)
    (hdb : (x == ("__debug__" : Str)) = false) (he : starEach (e :: es) X.env = (false, eval e X.env) :: starEach es X.env) (hpl : (backTo pos (starEach es X.env)).any (·.1) = false) :
    PE X (.Call (.Name x pos') (e :: es) [] pos) (fun σ H Q => t σ H fun vs H1 => sp vs H1 Q (fun cls d H' => W cls d σ H')) := by
  refine ⟨fun pins s σ H Q I h => ?_⟩
  refine wpAny_Call_Name_kw (ld_glob I hg hm ?_ hdb)
  refine PySem.W.callWith_K (h₀ := X.base) I.ok.mod.kin hk (thn (ha.run pos pins s σ H _ I h) fun us s1 ⟨vs, H1, I1, r, q⟩ => ⟨I1.kIn, ?_⟩) he hpl
  exact call_fn c F I1 r q

/-! ### comprehensions -/
theorem SR.other {K : PySem.W.Frag} {F F' Z H : Hp} {m : Mp} {S : Sto} (r : SR K F' Z m S H) (e : Same F F') : SR K F Z m S H :=
  ⟨e.trans r.fs, r.zs, fun b o q => r.dj b o (e b o q), fun n xs q => by
    obtain ⟨a, vs, h1, h2, h3, h4, h5⟩ := r.cell n xs q
    exact ⟨a, vs, h1, h2, e.free h3, h4, h5⟩, r.inj, r.nx⟩
/-- the list at D, of another's, is another one -/
theorem SR.grow {K : PySem.W.Frag} {F Z H : Hp} {m : Mp} {S : Sto} {D : Addr} {o o' : HO} (r : SR K (upd F D o) Z m S H) : SR K (upd F D o') Z m S (upd H D o') := by
  have hZ : Z D = none := r.dj D o upd_same
  refine ⟨fun b x q => ?_, fun b x q => ?_, fun b x q => ?_, fun n xs q => ?_, r.inj, r.nx⟩
  · by_cases hb : b = D
    · subst hb
      rw [upd_same] at q
      rw [upd_same]
      exact q
    · rw [upd_ne hb] at q
      rw [upd_ne hb]
      exact r.fs b x (by rw [upd_ne hb]; exact q)
  · rw [upd_ne (ne_of_none q hZ)]
    exact r.zs b x q
  · by_cases hb : b = D
    · rw [hb]
      exact hZ
    · rw [upd_ne hb] at q
      exact r.dj b x (by rw [upd_ne hb]; exact q)
  · obtain ⟨a, vs, h1, h2, h3, h4, h5⟩ := r.cell n xs q
    have ha : a ≠ D := fun z => by
      rw [z, upd_same] at h3
      cases h3
    rw [upd_ne ha] at h3
    exact ⟨a, vs, h1, by rw [upd_ne ha]; exact h2, by rw [upd_ne ha]; exact h3, h4, h5⟩
/-- .. taken over, as a list that stands still -/
theorem SR.takeZ {K : PySem.W.Frag} {F Z H : Hp} {m : Mp} {S : Sto} {D : Addr} {o : HO} (r : SR K (upd F D o) Z m S H) (hF : F D = none) : SR K F (upd Z D o) m S H ∧ Ext Z m (upd Z D o) m := by
  have hZ : Z D = none := r.dj D o upd_same
  have e : Ext Z m (upd Z D o) m := ⟨same_upd' hZ, fun _ _ q => q⟩
  refine ⟨⟨fun b x q => r.fs b x (same_upd' hF b x q), fun b x q => ?_, fun b x q => ?_, fun n xs q => ?_, r.inj, r.nx⟩, e⟩
  · by_cases hb : b = D
    · subst hb
      rw [upd_same] at q
      cases q
      exact r.fs b o upd_same
    · rw [upd_ne hb] at q
      exact r.zs b x q
  · have hb : b ≠ D := ne_of_none q hF
    rw [upd_ne hb]
    exact r.dj b x (same_upd' hF b x q)
  · obtain ⟨a, vs, h1, h2, h3, h4, h5⟩ := r.cell n xs q
    have ha : a ≠ D := fun z => by
      rw [z, upd_same] at h3
      cases h3
    rw [upd_ne ha] at h3
    exact ⟨a, vs, h1, h2, h3, by rw [upd_ne ha]; exact h4, h5.mono e⟩
/-- .. as a new cell -/
theorem SR.takeC {K : PySem.W.Frag} {F Z H : Hp} {m : Mp} {S : Sto} {D : Addr} {xs : List Mn.D} {vs : List V} (r : SR K (upd F D (.lst vs)) Z m S H) (hF : F D = none) (rd : RDs K Z m xs vs) :
    SR K F Z (mpSet m S.next D) (S.new (.lst xs)) H ∧ Ext Z m Z (mpSet m S.next D) ∧ RD K Z (mpSet m S.next D) (.ref S.next) (.ref D) := by
  have hZ : Z D = none := r.dj D _ upd_same
  have hH : H D = some (.lst vs) := r.fs D _ upd_same
  have e : Ext Z m Z (mpSet m S.next D) := ⟨Same.refl _, fun n a q => by
    have hn : n ≠ S.next := Nat.ne_of_lt (r.nx n a q)
    unfold mpSet
    rw [if_neg hn]
    exact q⟩
  have ms : mpSet m S.next D S.next = some D := by unfold mpSet; rw [if_pos rfl]
  have apart : ∀ {n : Nat} {ys : C} {a : Addr}, S.get n = some ys → m n = some a → a ≠ D ∧ F a = none := fun {n ys a} q k => by
    obtain ⟨b, ws, h1, h2, h3, _⟩ := r.cell n ys q
    rw [k] at h1
    cases h1
    have ha : a ≠ D := fun z => by
      rw [z, upd_same] at h3
      cases h3
    rw [upd_ne ha] at h3
    exact ⟨ha, h3⟩
  refine ⟨⟨fun b x q => r.fs b x (same_upd' hF b x q), r.zs, fun b x q => r.dj b x (same_upd' hF b x q), fun n ys q => ?_, fun n n' a ys ys' q q' k k' => ?_, fun n a q => ?_⟩, e, .ref ms⟩
  · by_cases hn : n = S.next
    · subst hn
      rw [get_new_same] at q
      cases q
      exact ⟨D, _, ms, hH, hF, hZ, .lst (rd.mono e)⟩
    · rw [get_new_ne hn] at q
      obtain ⟨a, ws, h1, h2, h3, h4, h5⟩ := r.cell n ys q
      exact ⟨a, ws, e.m _ _ h1, h2, (apart q h1).2, h4, h5.mono e⟩
  · have old : ∀ {n : Nat} {ys : C} {a : Addr}, n ≠ S.next → (S.new (.lst xs)).get n = some ys → mpSet m S.next D n = some a → a ≠ D ∧ S.get n = some ys ∧ m n = some a := fun {n ys a} hn q k => by
      rw [get_new_ne hn] at q
      have k2 : m n = some a := by
        unfold mpSet at k
        rw [if_neg hn] at k
        exact k
      exact ⟨(apart q k2).1, q, k2⟩
    by_cases hn : n = S.next
    · by_cases hn' : n' = S.next
      · rw [hn, hn']
      · obtain ⟨z, _, _⟩ := old hn' q' k'
        rw [hn, ms] at k
        cases k
        exact absurd rfl z
    · by_cases hn' : n' = S.next
      · obtain ⟨z, _, _⟩ := old hn q k
        rw [hn', ms] at k'
        cases k'
        exact absurd rfl z
      · obtain ⟨_, q1, k1⟩ := old hn q k
        obtain ⟨_, q2, k2⟩ := old hn' q' k'
        exact r.inj n n' a _ _ q1 q2 k1 k2
  · show n < S.next + 1
    unfold mpSet at q
    by_cases hn : n = S.next
    · omega
    · rw [if_neg hn] at q
      have := r.nx n a q
      omega
theorem Post.takeL {F Z H : Hp} {m : Mp} {S : Sto} {D : Addr} {E : XK} {Q : VK} {k : Bool} {xs : List Mn.D} {vs : List V} (h : Post p F Z m (RD p.K) Q E (Mn.newL k xs S)) (r : SR p.K (upd F D (.lst vs)) Z m S H) (hF : F D = none) (rd : RDs p.K Z m xs vs) : Q (.ref D) H := by
  unfold Mn.newL at h
  split at h
  · cases k with
    | true =>
      obtain ⟨r1, e1, d1⟩ := r.takeC hF rd
      exact h _ _ _ _ e1 r1 d1
    | false =>
      obtain ⟨r1, e1⟩ := r.takeZ hF
      exact h _ _ _ _ e1 r1 (.lst upd_same (rd.mono e1))
  · exact False.elim h
/-- within a comprehension nothing is raised -/
theorem Post.bindN {α β γ δ : Type} {F F' Z : Hp} {m : Mp} {T : Hp → Mp → α → β → Prop} {T' : Hp → Mp → γ → δ → Prop} {Q' : δ → Hp → Prop} {E E' : XK} {r : R α} {f : α → Sto → R γ} {G : β → Hp → Prop} (h : Post p F Z m T' Q' E (r.nox.bind f))
    (k : ∀ d S1 Z1 m1 H1 v, Ext Z m Z1 m1 → SR p.K F' Z1 m1 S1 H1 → T Z1 m1 d v → Post p F Z1 m1 T' Q' E (f d S1) → G v H1) : Post p F' Z m T G E' r := by
  cases r with
  | ok d S =>
    intro Z' m' H' v e s t
    exact k d S Z' m' H' v e s t (Post.ext (r := f d S) h e)
  | exc x S => exact False.elim h
  | bad => exact False.elim h
end
end Mn

/-! Comprehensions, and the theorem of expressions. -/
namespace Mn
open PySem PySem.Spec PyProof.Rows L2
theorem R.bind_assoc {α β γ : Type} (r : R α) (f : α → Sto → R β) (g : β → Sto → R γ) : (r.bind f).bind g = r.bind fun a S => (f a S).bind g := by cases r <;> rfl
theorem R.nox_bind {α β : Type} (r : R α) (f : α → Sto → R β) : (r.bind f).nox = r.nox.bind fun a S => (f a S).nox := by cases r <;> rfl
theorem wipe_get (σ : List (Option V)) (i : Nat) : ∀ vs : List Nat, (L2.wipe σ vs)[i]? = if i ∈ vs then (σ[i]?).map fun _ => none else σ[i]?
  | [] => by simp [L2.wipe]
  | v :: vs => by
    unfold L2.wipe
    by_cases h : v = i
    · subst h
      rw [if_pos List.mem_cons_self, List.getElem?_set]
      rw [if_pos rfl, L2.wipe_length]
      by_cases hl : v < σ.length
      · rw [if_pos hl, List.getElem?_eq_getElem hl]
        rfl
      · rw [if_neg hl, List.getElem?_eq_none (by omega)]
        rfl
    · rw [List.getElem?_set_ne h, wipe_get σ i vs]
      by_cases hi : i ∈ vs
      · rw [if_pos hi, if_pos (List.mem_cons_of_mem _ hi)]
      · rw [if_neg hi, if_neg]
        intro z
        rcases List.mem_cons.mp z with e | e
        · exact h e.symm
        · exact hi e
theorem wipe_idem (σ : List (Option V)) (vs : List Nat) : L2.wipe (L2.wipe σ vs) vs = L2.wipe σ vs := by
  apply List.ext_getElem?
  intro i
  rw [wipe_get, wipe_get]
  by_cases hi : i ∈ vs
  · rw [if_pos hi, if_pos hi]
    cases σ[i]? <;> rfl
  · rw [if_neg hi, if_neg hi]
section
variable {p : Pm} {W : WX} {lv : Nat} {X : Cx}
/-- a new list that is filled -/
theorem SR.lend {K : PySem.W.Frag} {F Z H : Hp} {m : Mp} {S : Sto} {D : Addr} {o : HO} (r : SR K F Z m S H) (h : H D = none) : SR K (upd F D o) Z m S (upd H D o) := by
  obtain ⟨hF, hZ⟩ := r.free h
  refine ⟨fun b x q => ?_, r.zs.trans (same_upd' h), fun b x q => ?_, fun n xs q => ?_, r.inj, r.nx⟩
  · by_cases hb : b = D
    · subst hb
      rw [upd_same] at q
      rw [upd_same]
      exact q
    · rw [upd_ne hb] at q
      rw [upd_ne hb]
      exact r.fs b x q
  · by_cases hb : b = D
    · rw [hb]
      exact hZ
    · rw [upd_ne hb] at q
      exact r.dj b x q
  · obtain ⟨a, vs, h1, h2, h3, h4, h5⟩ := r.cell n xs q
    have ha : a ≠ D := ne_of_none h2 h
    exact ⟨a, vs, h1, by rw [upd_ne ha]; exact h2, by rw [upd_ne ha]; exact h3, h4, h5⟩
abbrev W0 : WX := fun _ _ _ _ => False
theorem Cok.blk (c : Cok p W lv X) {s : Shared} {H : Hp} {scope : Scope} {C : Addr} {cl : List (Str × Addr)} {fp : List Addr} (hk : scope.kind = .function) : Cok p W0 lv (X.blk s H scope (compEnvC scope cl C X.env) fp) :=
  ⟨c.k, c.calm, c.nd, c.room, c.gd, L2.takes0, hk⟩
/-- what a comprehension's code asks is what the rule asks -/
theorem lc_ok {k : Bool} {t : Tg} {w : Wt} {its : List E} {cond : Option E} {e : E} {own : List (Str × Nat)} (hown : ∀ i ∈ tgSl t, i ∈ own.map (·.2)) :
    (∀ σ H Q, tE p W (.comp k t w its cond e (own.map (·.2))) σ H Q → tLc (tI p W w its) (tG p t) (tCo p W0 cond) (tE p W0 e) (own.map (·.2)) σ H Q) := by
  intro σ H Q q
  obtain ⟨F, Z, m, S, env, re, sr, h⟩ := q
  generalize hf : (fun (x : D) (S2 : Sto) => (match bindT t x (wipeE env (own.map (·.2))) with
      | some env' => ((evC p.cl cond env' S2).bind fun b S3 => match b with
        | true => (evE p.cl e env' S3).bind fun d S4 => .ok (some d) S4
        | false => .ok none S3).nox
      | none => .bad : R (Option D))) = f
  have h : Post p F Z m (RD p.K) Q (fun cls d H' => W cls d σ H') ((evEs p.cl its env S).bind fun ws S0 => (R.of S0 (walk w ws)).bind fun xs S1 => (compL f xs [] S1).bind fun ds S5 => newL k ds S5) := by
    rw [← hf]
    exact h
  rw [← R.bind_assoc] at h
  refine ⟨F, Z, m, S, env, re, sr, Post.bind h fun xs S1 Z1 m1 H1 J _ e1 sr1 fol h1 D hD => ?_⟩
  have hFD : F D = none := (sr1.free hD).1
  refine ⟨fun i n H => n = xs.length - i ∧ i ≤ xs.length ∧ ∃ Zi mi Si acc vacc, Ext Z1 m1 Zi mi ∧ SR p.K (upd F D (.lst vacc)) Zi mi Si H ∧ RDs p.K Zi mi acc vacc ∧
    Post p F Zi mi (RD p.K) Q (fun cls d H' => W cls d σ H') ((compL f (xs.drop i) acc Si).bind fun ds S5 => newL k ds S5), ⟨_, rfl, Nat.zero_le _, Z1, m1, S1, [], [], Ext.refl, sr1.lend hD, .nil, h1⟩, ?_⟩
  rintro i n H2 ⟨rfl, hi2, Zi, mi, Si, acc, vacc, ei, sri, rdi, hP⟩
  obtain ⟨f1, f2⟩ := fol.mono ei i H2 sri.zs
  by_cases hl : i < xs.length
  · have hx : xs[i]? = some xs[i] := List.getElem?_eq_getElem hl
    obtain ⟨go, yl⟩ := f1 _ hx
    refine .inr ⟨go, fun H' => _, fun H' hN => ⟨xs.length - (i + 1), by omega, hN⟩, fun x H3 y => ?_⟩
    obtain ⟨Z2, e2, sr2, rd2⟩ : ∃ Z2, Ext Zi mi Z2 mi ∧ SR p.K (upd F D (.lst vacc)) Z2 mi Si H3 ∧ RD p.K Z2 mi xs[i] x := by
      rcases yl x H3 y with ⟨rfl, rd⟩ | ⟨T, vs, es, hT, rfl, e3, rds, rfl⟩
      · exact ⟨Zi, Ext.refl, sri, rd⟩
      · obtain ⟨s2, x2⟩ := sri.newZ (.tup vs) hT
        rw [e3]
        exact ⟨_, x2, s2, .tup (fun z => Bool.noConfusion z) (.inl (.inl upd_same)) (rds.mono x2)⟩
    have hP2 := Post.ext hP e2
    rw [List.drop_eq_getElem_cons hl] at hP2
    have hP3 : Post p F Z2 mi (RD p.K) Q (fun cls d H' => W cls d σ H') (((f xs[i] Si).bind fun o S1 => match o with
      | some d => if acc.length < line then compL f (xs.drop (i + 1)) (acc ++ [d]) S1 else .bad
      | none => compL f (xs.drop (i + 1)) acc S1).bind fun ds S5 => newL k ds S5) := hP2
    rw [← hf] at hP3
    dsimp only at hP3
    cases hb : bindT t xs[i] (wipeE env (own.map (·.2))) with
    | none =>
      rw [hb] at hP3
      exact False.elim hP3
    | some env' =>
      rw [hb] at hP3
      dsimp only at hP3
      rw [hf] at hP3
      refine ⟨_, Z2, mi, Si, _, xs[i], env', ((re.mono e1).mono (ei.trans e2)).wipe _, sr2, rd2, hb, fun σ2 re2 only => ⟨(only _ hown).trans (wipe_idem _ _), ?_⟩⟩
      rw [R.nox_bind, R.bind_assoc, R.bind_assoc] at hP3
      refine ⟨_, Z2, mi, Si, env', re2, sr2, Post.bindN hP3 fun b S3 Z3 m3 H4 b' e3 sr3 eb hP4 => ?_⟩
      subst eb
      cases b with
      | true =>
        rw [if_pos rfl]
        dsimp only at hP4
        rw [R.nox_bind, R.bind_assoc] at hP4
        refine ⟨_, Z3, m3, S3, env', re2.mono e3, sr3, Post.bindN hP4 fun d S4 Z4 m4 H5 v e4 sr4 rd4 hP5 => ?_⟩
        have hP6 : Post p F Z4 m4 (RD p.K) Q (fun cls d H' => W cls d σ H') ((if acc.length < line then compL f (xs.drop (i + 1)) (acc ++ [d]) S4 else .bad).bind fun ds S5 => newL k ds S5) := hP5
        split at hP6
        · rename_i hlt
          have ex := (e2.trans e3).trans e4
          refine ⟨vacc, sr4.fs D _ upd_same, by rw [← rdi.length]; exact hlt, rfl, by omega, Z4, m4, S4, acc ++ [d], vacc ++ [v], ei.trans ex, sr4.grow, (rdi.mono ex).append (.one rd4), hP6⟩
        · exact False.elim hP6
      | false =>
        rw [if_neg Bool.false_ne_true]
        have hP5 : Post p F Z3 m3 (RD p.K) Q (fun cls d H' => W cls d σ H') ((compL f (xs.drop (i + 1)) acc S3).bind fun ds S5 => newL k ds S5) := hP4
        exact ⟨rfl, by omega, Z3, m3, S3, acc, vacc, ei.trans (e2.trans e3), sr3, rdi.mono (e2.trans e3), hP5⟩
  · have hi3 : i = xs.length := by omega
    refine .inl ⟨f2 (by omega), ?_⟩
    rw [hi3, List.drop_length] at hP
    exact Post.takeL (k := k) hP sri hFD rdi
/-- .. of one within one -/
theorem lc2_ok {k : Bool} {t t1 : Tg} {w w1 : Wt} {its its1 : List E} {cond cond1 : Option E} {e : E} {own : List (Str × Nat)} {vs1 : List Nat} (hown : ∀ i ∈ tgSl t, i ∈ own.map (·.2)) (hown1 : ∀ i ∈ tgSl t1, i ∈ vs1) :
    (∀ σ H Q, tE p W (.comp2 k t w its cond t1 w1 its1 cond1 e (own.map (·.2)) vs1) σ H Q → tLc2 (tI p W w its) (tG p t) (tCo p W0 cond) (tI p W0 w1 its1) (tG p t1) (tCo p W0 cond1) (tE p W0 e) (own.map (·.2)) vs1 σ H Q) := by
  intro σ H Q q
  obtain ⟨F, Z, m, S, env, re, sr, h⟩ := q
  generalize hf1 : (fun (env1 : Env) (y : D) (S6 : Sto) => (match bindT t1 y (wipeE env1 vs1) with
          | some env2 => (evC p.cl cond1 env2 S6).bind fun b1 S7 => match b1 with
            | true => (evE p.cl e env2 S7).bind fun d S8 => .ok (some d) S8
            | false => .ok none S7
          | none => .bad : R (Option D))) = f1
  generalize hg : (fun (x : D) (acc : List D) (S2 : Sto) => (match bindT t x (wipeE env (own.map (·.2))) with
      | some env1 => ((evC p.cl cond env1 S2).bind fun b S3 => match b with
        | true => ((evEs p.cl its1 env1 S3).bind fun ws1 S4 => R.of S4 (walk w1 ws1)).bind fun ys S5 => compL (f1 env1) ys acc S5
        | false => .ok acc S3).nox
      | none => .bad : R (List D))) = g
  have h : Post p F Z m (RD p.K) Q (fun cls d H' => W cls d σ H') ((evEs p.cl its env S).bind fun ws S0 => (R.of S0 (walk w ws)).bind fun xs S1 => (compA g xs [] S1).bind fun ds S5 => newL k ds S5) := by
    rw [← hg, ← hf1]
    exact h
  rw [← R.bind_assoc] at h
  refine ⟨F, Z, m, S, env, re, sr, Post.bind h fun xs S1 Z1 m1 H1 J _ e1 sr1 fol h1 D hD => ?_⟩
  have hFD : F D = none := (sr1.free hD).1
  refine ⟨fun i n H => n = xs.length - i ∧ i ≤ xs.length ∧ ∃ Zi mi Si acc vacc, Ext Z1 m1 Zi mi ∧ SR p.K (upd F D (.lst vacc)) Zi mi Si H ∧ RDs p.K Zi mi acc vacc ∧
    Post p F Zi mi (RD p.K) Q (fun cls d H' => W cls d σ H') ((compA g (xs.drop i) acc Si).bind fun ds S5 => newL k ds S5), ⟨_, rfl, Nat.zero_le _, Z1, m1, S1, [], [], Ext.refl, sr1.lend hD, .nil, h1⟩, ?_⟩
  rintro i n H2 ⟨rfl, hi2, Zi, mi, Si, acc, vacc, ei, sri, rdi, hP⟩
  obtain ⟨p1, p2⟩ := fol.mono ei i H2 sri.zs
  by_cases hl : i < xs.length
  · have hx : xs[i]? = some xs[i] := List.getElem?_eq_getElem hl
    obtain ⟨go, yl⟩ := p1 _ hx
    refine .inr ⟨go, fun H' => _, fun H' hN => ⟨xs.length - (i + 1), by omega, hN⟩, fun x H3 y => ?_⟩
    obtain ⟨Z2, e2, sr2, rd2⟩ : ∃ Z2, Ext Zi mi Z2 mi ∧ SR p.K (upd F D (.lst vacc)) Z2 mi Si H3 ∧ RD p.K Z2 mi xs[i] x := by
      rcases yl x H3 y with ⟨rfl, rd⟩ | ⟨T, vs, es, hT, rfl, e3, rds, rfl⟩
      · exact ⟨Zi, Ext.refl, sri, rd⟩
      · obtain ⟨s2, x2⟩ := sri.newZ (.tup vs) hT
        rw [e3]
        exact ⟨_, x2, s2, .tup (fun z => Bool.noConfusion z) (.inl (.inl upd_same)) (rds.mono x2)⟩
    have hP2 := Post.ext hP e2
    rw [List.drop_eq_getElem_cons hl] at hP2
    have hP3 : Post p F Z2 mi (RD p.K) Q (fun cls d H' => W cls d σ H') (((g xs[i] acc Si).bind fun acc1 S1 => compA g (xs.drop (i + 1)) acc1 S1).bind fun ds S5 => newL k ds S5) := hP2
    cases hb : bindT t xs[i] (wipeE env (own.map (·.2))) with
    | none =>
      have eg : g xs[i] acc Si = .bad := by
        rw [← hg]
        dsimp only
        rw [hb]
      rw [eg] at hP3
      exact False.elim hP3
    | some env1 =>
      have eg : g xs[i] acc Si = ((evC p.cl cond env1 Si).bind fun b S3 => match b with
        | true => ((evEs p.cl its1 env1 S3).bind fun ws1 S4 => R.of S4 (walk w1 ws1)).bind fun ys S5 => compL (f1 env1) ys acc S5
        | false => .ok acc S3).nox := by
        rw [← hg]
        dsimp only
        rw [hb]
      rw [eg] at hP3
      refine ⟨_, Z2, mi, Si, _, xs[i], env1, ((re.mono e1).mono (ei.trans e2)).wipe _, sr2, rd2, hb, fun σ2 re2 only => ⟨(only _ hown).trans (wipe_idem _ _), ?_⟩⟩
      rw [R.nox_bind, R.bind_assoc, R.bind_assoc] at hP3
      refine ⟨_, Z2, mi, Si, env1, re2, sr2, Post.bindN hP3 fun b S3 Z3 m3 H4 b' e3 sr3 eb hP4 => ?_⟩
      subst eb
      cases b with
      | false =>
        rw [if_neg Bool.false_ne_true]
        have hP5 : Post p F Z3 m3 (RD p.K) Q (fun cls d H' => W cls d σ H') ((compA g (xs.drop (i + 1)) acc S3).bind fun ds S5 => newL k ds S5) := hP4
        exact ⟨rfl, by omega, Z3, m3, S3, acc, vacc, ei.trans (e2.trans e3), sr3, rdi.mono (e2.trans e3), hP5⟩
      | true =>
        rw [if_pos rfl]
        dsimp only at hP4
        rw [R.nox_bind, R.bind_assoc] at hP4
        refine ⟨_, Z3, m3, S3, env1, re2.mono e3, sr3, Post.bindN hP4 fun ys S5 Z4 m4 H5 J1 e4 sr4 fol1 hP5 => ?_⟩
        have ex0 := (e2.trans e3).trans e4
        refine ⟨fun j n H => n = ys.length - j ∧ j ≤ ys.length ∧ ∃ Zj mj Sj accj vaccj, Ext Z4 m4 Zj mj ∧ SR p.K (upd F D (.lst vaccj)) Zj mj Sj H ∧ RDs p.K Zj mj accj vaccj ∧
          Post p F Zj mj (RD p.K) Q (fun cls d H' => W cls d σ H') (((compL (f1 env1) (ys.drop j) accj Sj).nox.bind fun acc1 S1 => compA g (xs.drop (i + 1)) acc1 S1).bind fun ds S5 => newL k ds S5),
          ⟨_, rfl, Nat.zero_le _, Z4, m4, S5, acc, vacc, Ext.refl, sr4, rdi.mono ex0, by rw [R.bind_assoc]; exact hP5⟩, ?_⟩
        rintro j n H6 ⟨rfl, hj2, Zj, mj, Sj, accj, vaccj, ej, srj, rdj, hQ⟩
        obtain ⟨r1, r2⟩ := fol1.mono ej j H6 srj.zs
        by_cases hlj : j < ys.length
        · have hy : ys[j]? = some ys[j] := List.getElem?_eq_getElem hlj
          obtain ⟨go1, yl1⟩ := r1 _ hy
          refine .inr ⟨go1, fun H' => _, fun H' hN => ⟨ys.length - (j + 1), by omega, hN⟩, fun y1 H7 yy => ?_⟩
          obtain ⟨Z5, e5, sr5, rd5⟩ : ∃ Z5, Ext Zj mj Z5 mj ∧ SR p.K (upd F D (.lst vaccj)) Z5 mj Sj H7 ∧ RD p.K Z5 mj ys[j] y1 := by
            rcases yl1 y1 H7 yy with ⟨rfl, rd⟩ | ⟨T, vs, es, hT, rfl, e3, rds, rfl⟩
            · exact ⟨Zj, Ext.refl, srj, rd⟩
            · obtain ⟨s2, x2⟩ := srj.newZ (.tup vs) hT
              rw [e3]
              exact ⟨_, x2, s2, .tup (fun z => Bool.noConfusion z) (.inl (.inl upd_same)) (rds.mono x2)⟩
          have hQ2 := Post.ext hQ e5
          rw [List.drop_eq_getElem_cons hlj] at hQ2
          have hQ3 : Post p F Z5 mj (RD p.K) Q (fun cls d H' => W cls d σ H') ((((f1 env1 ys[j] Sj).bind fun o S1 => match o with
            | some d => if accj.length < line then compL (f1 env1) (ys.drop (j + 1)) (accj ++ [d]) S1 else .bad
            | none => compL (f1 env1) (ys.drop (j + 1)) accj S1).nox.bind fun acc1 S1 => compA g (xs.drop (i + 1)) acc1 S1).bind fun ds S5 => newL k ds S5) := hQ2
          cases hb1 : bindT t1 ys[j] (wipeE env1 vs1) with
          | none =>
            have e7 : f1 env1 ys[j] Sj = .bad := by
              rw [← hf1]
              dsimp only
              rw [hb1]
            rw [e7] at hQ3
            exact False.elim hQ3
          | some env2 =>
            have e7 : f1 env1 ys[j] Sj = (evC p.cl cond1 env2 Sj).bind fun b1 S7 => match b1 with
                | true => (evE p.cl e env2 S7).bind fun d S8 => .ok (some d) S8
                | false => .ok none S7 := by
              rw [← hf1]
              dsimp only
              rw [hb1]
            rw [e7] at hQ3
            refine ⟨_, Z5, mj, Sj, _, ys[j], env2, ((((re2.mono e3).mono e4).mono ej).mono e5).wipe _, sr5, rd5, hb1, fun σ3 re3 only1 => ⟨(only1 _ hown1).trans (wipe_idem _ _), ?_⟩⟩
            rw [R.bind_assoc, R.nox_bind, R.bind_assoc, R.nox_bind, R.bind_assoc] at hQ3
            refine ⟨_, Z5, mj, Sj, env2, re3, sr5, Post.bindN hQ3 fun b1 S7 Z6 m6 H8 b1' e6 sr6 eb1 hQ4 => ?_⟩
            subst eb1
            cases b1 with
            | true =>
              rw [if_pos rfl]
              dsimp only at hQ4
              rw [R.nox_bind, R.bind_assoc] at hQ4
              refine ⟨_, Z6, m6, S7, env2, re3.mono e6, sr6, Post.bindN hQ4 fun d S8 Z7 m7 H9 v e8 sr7 rd7 hQ5 => ?_⟩
              have hQ6 : Post p F Z7 m7 (RD p.K) Q (fun cls d H' => W cls d σ H') (((if accj.length < line then compL (f1 env1) (ys.drop (j + 1)) (accj ++ [d]) S8 else .bad).nox.bind fun acc1 S1 => compA g (xs.drop (i + 1)) acc1 S1).bind fun ds S5 => newL k ds S5) := by
                rw [R.bind_assoc]
                exact hQ5
              split at hQ6
              · rename_i hlt
                have ex := (e5.trans e6).trans e8
                exact ⟨vaccj, sr7.fs D _ upd_same, by rw [← rdj.length]; exact hlt, rfl, by omega, Z7, m7, S8, accj ++ [d], vaccj ++ [v], ej.trans ex, sr7.grow, (rdj.mono ex).append (.one rd7), hQ6⟩
              · exact False.elim hQ6
            | false =>
              rw [if_neg Bool.false_ne_true]
              have hQ5 : Post p F Z6 m6 (RD p.K) Q (fun cls d H' => W cls d σ H') (((compL (f1 env1) (ys.drop (j + 1)) accj S7).nox.bind fun acc1 S1 => compA g (xs.drop (i + 1)) acc1 S1).bind fun ds S5 => newL k ds S5) := by
                rw [R.bind_assoc]
                exact hQ4
              exact ⟨rfl, by omega, Z6, m6, S7, accj, vaccj, ej.trans (e5.trans e6), sr6, rdj.mono (e5.trans e6), hQ5⟩
        · have hj3 : j = ys.length := by omega
          refine .inl ⟨r2 (by omega), ?_⟩
          rw [hj3, List.drop_length] at hQ
          exact ⟨rfl, by omega, Zj, mj, Sj, accj, vaccj, ei.trans (ex0.trans ej), srj, rdj, hQ⟩
  · have hi3 : i = xs.length := by omega
    refine .inl ⟨p2 (by omega), ?_⟩
    rw [hi3, List.drop_length] at hP
    exact Post.takeL (k := k) hP sri hFD rdi
end
end Mn

/-! THE THEOREM of expressions. -/
namespace Mn
open PySem PySem.Spec PyProof.Rows L2
/-- where the code of c is looked at -/
structure Sit (p : Pm) (c : CS) (W : WX) (lv : Nat) (X : Cx) (sc : Scope) : Prop where
  ok : Cok p W lv X
  g : Gok p c.gl c.bl lv X.prog X.w X.mg X.base
  n : X.N = c.N
  s : X.env.scope = sc
theorem under_guards {A : Around} {C : Addr} {us : List Value} {kw : List (Str × Value)} : (A.under (.builtin "type.__call__" ⟨.ref C :: us, kw⟩)).guards = A.guards := by
  first | rfl | simp [Around.under, Code.isGuard, guardIds]
section
variable {p : Pm} {W : WX}
theorem call_mk {lv : Nat} {X : Cx} (c : Cok p W (lv + 1) X) {C f : Addr} {sp : Sp} (M : L2.Mk X.K C f) (G : FnG X.prog X.w X.K X.mg X.base lv f sp) {pins : List (Addr × Obj)} {σ : L2.St} {H : Hp} {s : Shared} {Q : VK} {us : List Value} {vs : List V}
    (I : L2.Inv X pins σ H s) (r : Vals vs us) (h : ∀ a dx, H a = none → H dx = none → dx ≠ a → sp (.ref a :: vs) (upd (upd H dx (.own a)) a (.ins C dx [])) (fun v H2 => v = .non ∧ Q (.ref a) H2) (fun cls d H' => W cls d σ H')) :
    wpAny (model X.prog X.w) X.A (call (.ref C) us) (EP X pins σ Q) X.xe s := by
  have made := L2.Inv.made (C := C) I
  have want := h (s.heap.objs.size + 1) s.heap.objs.size (I.hok.fresh (Nat.le_succ _)) (I.hok.fresh (Nat.le_refl _)) (Nat.ne_of_lt (Nat.lt_succ_self _))
  have room : Room lv (X.A.under (.builtin "type.__call__" ⟨.ref C :: us, []⟩)) := c.room.make C us []
  have gd : (X.A.under (.builtin "type.__call__" ⟨.ref C :: us, []⟩)).guards = some [] := under_guards.trans c.gd
  have go := G.go _ X.stack _ _ (Value.ref (s.heap.objs.size + 1) :: us) (V.ref (s.heap.objs.size + 1) :: vs) _ _ room gd (made.env0.make C us []) (.cons rfl r) want
  refine wpAny_call (L2.make_map (f := f) I.kIn M.makes M.init (beq_iff_eq.mp M.fn) (codeAny_mono go fun res s' hres => ?_))
  cases res with
  | error e => exact passAt c.tk σ pins _ _ e s' made hres
  | ok fl =>
    cases fl <;> first | exact False.elim hres | skip
    rename_i u
    obtain ⟨v, H', J, rv, ev, q⟩ := made.after hres
    rw [ev] at rv
    exact ⟨rv, V.ref (s.heap.objs.size + 1), H', J, rfl, q⟩
end
/-- a thing of no one's -/
theorem SR.junk {K : PySem.W.Frag} {F Z H : Hp} {m : Mp} {S : Sto} (r : SR K F Z m S H) {a : Addr} (o : HO) (h : H a = none) : SR K F Z m S (upd H a o) := by
  refine ⟨r.fs.trans (same_upd' h), r.zs.trans (same_upd' h), r.dj, fun n c q => ?_, r.inj, r.nx⟩
  obtain ⟨b, x, h1, h2, h3, h4, h5⟩ := r.cell n c q
  exact ⟨b, x, h1, by rw [upd_ne (ne_of_none h2 h)]; exact h2, h3, h4, h5⟩
structure Snd (p : Pm) (c : CS) (n : Nat) : Prop where
  e : ∀ {W : WX} {lv : Nat} {X : Cx} {sc : Scope} {e : Expr} {ce : E}, Sit p c W lv X sc → cE c n sc e = some ce → PE X e (tE p W ce) ∧ PT X e (tT p W ce)
  a : ∀ {W : WX} {lv : Nat} {X : Cx} {sc : Scope} {e : List Expr} {ce : List E}, Sit p c W lv X sc → cEs c n sc e = some ce → PA X e (tA p W ce)
  o : ∀ {W : WX} {lv : Nat} {X : Cx} {sc : Scope} {e : Option Expr} {ce : Option E}, Sit p c W lv X sc → cO c n sc e = some ce → PO X e (tO p W ce)
  i : ∀ {W : WX} {lv : Nat} {X : Cx} {sc : Scope} {e : List Expr} {ce : Option E}, Sit p c W lv X sc → cI c n sc e = some ce → PTs X e (tCo p W ce)
  b : ∀ {W : WX} {lv : Nat} {X : Cx} {sc : Scope} {o : BoolOp} {e : List Expr} {ce : E}, Sit p c W lv X sc → cB c n sc o e = some ce → ∀ pos, PE X (.BoolOp o e pos) (tE p W ce) ∧ PW X (.BoolOp o e pos) (tT p W ce)
  w : ∀ {W : WX} {lv : Nat} {X : Cx} {sc : Scope} {tg e : Expr} {w : Wt} {ce : List E}, Sit p c W lv X sc → cW c n sc tg e = some (w, ce) → PI X tg e (tI p W w ce)
section
variable {p : Pm} {c : CS} {W : WX} {lv : Nat} {X : Cx} {sc : Scope}
theorem gl_of {x : Str} (s : Sit p c W lv X sc) (h : sc.names.lookup x = some .globalImplicit) : Gl X x := by
  show X.env.scope.names.lookup x = some .globalImplicit
  rw [s.s]
  exact h
theorem isB_ok {x : Str} (s : Sit p c W lv X sc) (h : c.isB sc x = true) : Gl X x ∧ X.mg x = none ∧ (x == ("__debug__" : Str)) = false := by
  unfold CS.isB at h
  simp only [Bool.and_eq_true, decide_eq_true_eq] at h
  obtain ⟨⟨h1, h2⟩, h3⟩ := h
  refine ⟨gl_of s ?_, s.g.free x h3, (okName_ok h1).1⟩
  split at h2
  · assumption
  · cases h2
theorem pe_name (s : Sit p c W lv X sc) {x : Str} {pos : Pos} {n : Nat} {ce : E} (h : cE c (n + 1) sc (.Name x pos) = some ce) : PE X (.Name x pos) (tE p W ce) := by
  have h : (if okName x then (match sc.names.lookup x with
      | some .local | some .cell | some .free => (slotOf c.N x).map E.var
      | some .globalImplicit => (match c.gl.lookup x with
        | some (.lit d) => some (E.lit d)
        | _ => none)
      | _ => none) else none) = some ce := h
  split at h
  · rename_i hn
    obtain ⟨n1, n2⟩ := okName_ok hn
    have var : ∀ {ce : E}, Vis X.env.scope x → (slotOf c.N x).map E.var = some ce → PE X (.Name x pos) (tE p W ce) := fun {ce} hv h => by
      cases e : slotOf c.N x with
      | none =>
        rw [e] at h
        cases h
      | some i =>
        rw [e] at h
        cases h
        refine PE.imp (pe_var (i := i) (by rw [s.n]; exact slotOf_ok e) hv n1 n2) fun σ H Q q => ?_
        obtain ⟨F, Z, m, S, env, re, sr, h⟩ := q
        have h : Post p F Z m (RD p.K) Q (fun cls d H' => W cls d σ H') (match env[i]? with
          | some (some d) => .ok d S
          | _ => .bad) := h
        split at h
        · rename_i d hd
          obtain ⟨v, h1, h2⟩ := re.2 i d hd
          exact ⟨v, h1, h.now sr h2⟩
        · exact False.elim h
    split at h
    · rename_i hl
      exact var (.inl (by rw [s.s]; exact hl)) h
    · rename_i hl
      exact var (.inr (.inl (by rw [s.s]; exact hl))) h
    · rename_i hl
      exact var (.inr (.inr (by rw [s.s]; exact hl))) h
    · rename_i hl
      split at h
      · rename_i d hd
        cases h
        obtain ⟨v, u, h1, h2, h3⟩ := s.g.lit x d hd
        refine PE.imp (pe_glob (gl_of s hl) h1 h2 n1) fun σ H Q q => ?_
        obtain ⟨F, Z, m, S, env, re, sr, h⟩ := q
        exact Post.now (p := p) (T := RD p.K) (d := d) h sr (h3 Z m)
      · cases h
    · cases h
  · cases h
theorem pe_const {v : Const} {k : Nat} {pos : Pos} {n : Nat} {ce : E} (h : cE c (n + 1) sc (.Constant v k pos) = some ce) : PE X (.Constant v k pos) (tE p W ce) := by
  cases v with
  | none =>
    cases h
    refine PE.imp pe_non fun σ H Q q => ?_
    obtain ⟨F, Z, m, S, env, re, sr, h⟩ := q
    exact Post.now (p := p) (T := RD p.K) (d := Mn.D.non) h sr RD.non
  | bool b =>
    cases h
    refine PE.imp pe_bl fun σ H Q q => ?_
    obtain ⟨F, Z, m, S, env, re, sr, h⟩ := q
    exact Post.now (p := p) (T := RD p.K) (d := Mn.D.bl b) h sr (RD.bl b)
  | int i =>
    cases h
    refine PE.imp pe_int fun σ H Q q => ?_
    obtain ⟨F, Z, m, S, env, re, sr, h⟩ := q
    exact Post.now (p := p) (T := RD p.K) (d := Mn.D.int i) h sr (RD.int i)
  | str z =>
    cases h
    refine PE.imp pe_str fun σ H Q q => ?_
    obtain ⟨F, Z, m, S, env, re, sr, h⟩ := q
    have ez : z = tx z.cps.toList := by
      unfold tx
      simp
    have r : RD p.K Z m (.str z.cps.toList) (.str z) := by
      have := RD.str (K := p.K) (Z := Z) (m := m) z.cps.toList
      rw [← ez] at this
      exact this
    exact Post.now (p := p) (T := RD p.K) h sr r
  | _ => cases h
/-- where a built-in function is called with one argument -/
theorem pe_biF (s : Sit p c W lv X sc) {x : Str} {b : Bi} {k : Bool} {a : Expr} {ca : E} {pos pos' : Pos} (hx : biFor x = some b) (hg : Gl X x) (hm : X.mg x = none) (hd : (x == ("__debug__" : Str)) = false) (ha : PE X a (tE p W ca)) (hs : ∀ es env, starEach (a :: es) env = (false, eval a env) :: starEach es env) :
    PE X (.Call (.Name x pos') [a] [] pos) (tE p W (.bi b k ca)) := by
  obtain ⟨h1, h2⟩ := biFor_ok hx
  have arg : PA X [a] (tCons (tE p W ca) tNil) := pa_cons ha pa_nil (hs _ _)
  have gen : PE X (.Call (.Name x pos') [a] [] pos) (fun σ H Q => (tCons (tE p W ca) tNil) σ H fun vs H1 => rBi p (fun cls d H' => W cls d σ H') b k vs H1 Q) := by
    refine ⟨fun pins s0 σ H Q I h => ?_⟩
    have cr : CallR X (biOf b) (rBi p (fun cls d H' => W cls d σ H') b k) := call_bi s.ok.k s.ok.calm s.ok.gd s.ok.un b k
    cases b <;> first
      | exact (pe_callB cr hg hm h1 arg h2 hd (hs _ _) rfl).run pins s0 σ H Q I h
      | exact (pe_callTy cr hg hm h1 arg h2 hd (hs _ _) rfl).run pins s0 σ H Q I h
  refine PE.imp gen fun σ H Q q => ?_
  obtain ⟨F, Z, m, S, env, re, sr, h⟩ := q
  exact ⟨F, Z, m, S, env, re, sr, Post.bind h fun d S1 Z1 m1 H1 v _ _ s1 rd h1 => ⟨F, Z1, m1, S1, d, v, rfl, s1, rd, h1⟩⟩
theorem pe_isT (s : Sit p c W lv X sc) {x t : Str} {ty : Ty} {a : Expr} {ca : E} {pos pos' pos2 : Pos} (ht : tyFor t = some ty) (hx : x = ("isinstance" : Str)) (hg : Gl X x) (hm : X.mg x = none) (htb : c.isB sc t = true) (ha : PE X a (tE p W ca)) (hs : ∀ es env, starEach (a :: es) env = (false, eval a env) :: starEach es env) :
    PE X (.Call (.Name x pos') [a, .Name t pos2] [] pos) (tE p W (.isi ca ty)) := by
  subst hx
  obtain ⟨h1, h2⟩ := tyFor_ok ht
  obtain ⟨g1, g2, g3⟩ := isB_ok s htb
  have arg : PA X [a, .Name t pos2] (tCons (tE p W ca) (tCons (tC (.ty (tyOf ty))) tNil)) := pa_cons ha (pa_cons (pe_bltn g1 g2 h1 rfl h2 g3) pa_nil) (hs _ _)
  refine PE.imp (pe_callB (call_isT (p := p) s.ok.k ty) hg hm (by decide +kernel) arg (by decide) (by decide) (hs _ _) rfl) fun σ H Q q => ?_
  obtain ⟨F, Z, m, S, env, re, sr, h⟩ := q
  refine ⟨F, Z, m, S, env, re, sr, Post.bind h fun d S1 Z1 m1 H1 v _ _ s1 rd h1 => ?_⟩
  obtain ⟨k, e, h2⟩ := Post.of h1
  exact ⟨F, Z1, m1, S1, d, v, k, rfl, s1, rd, e, Post.now (p := p) (T := RD p.K) h2 s1 (RD.bl k)⟩
theorem pe_app (s : Sit p c W lv X sc) {o a : Expr} {co ca : E} {m : Str} {pos apos : Pos} (hr : plainRecv o = true) (hm : m = ("append" : Str)) (hl : (apos.endLine == pos.line) = true) (ho : PE X o (tE p W co)) (ha : PE X a (tE p W ca)) (hs : ∀ es env, starEach (a :: es) env = (false, eval a env) :: starEach es env) :
    PE X (.Call (.Attribute o m apos) [a] [] pos) (tE p W (.me .append co [ca])) := by
  subst hm
  have arg : PA X [a] (tCons (tE p W ca) tNil) := pa_cons ha pa_nil (hs _ _)
  have gen : PE X (.Call (.Attribute o "append" apos) [a] [] pos) (fun σ H Q => tBM X.K "list" (fun v vs H Q => ∃ F Z m S x xs, SR p.K F Z m S H ∧ RD p.K Z m x v ∧ RDs p.K Z m xs vs ∧ Post p F Z m (RD p.K) Q (fun cls d H' => W cls d σ H') (mef .append x xs S)) (tE p W co) (tCons (tE p W ca) tNil) σ H Q) := by
    refine ⟨fun pins s0 σ H Q I h => ?_⟩
    refine (pe_bm PySem.F.plainAttrs_list PySem.F.slot_list_append PySem.F.type_list_append (mt_mef (p := p) (E := fun cls d H' => W cls d σ H')) ho arg ?_ ?_ hl (hs _ _) rfl).run pins s0 σ H Q I h
    · cases o <;> first | rfl | cases hr
    · rw [hs]
      rfl
  refine PE.imp gen fun σ H Q q => ?_
  obtain ⟨F, Z, m, S, env, re, sr, h⟩ := q
  refine ⟨F, Z, m, S, env, re, sr, Post.bind h fun d S1 Z1 m1 H1 v _ e1 s1 rd h1 => ?_⟩
  have h1 : Post p F Z1 m1 (RD p.K) Q (fun cls d H' => W cls d σ H') (match isCl S1 d with
    | true => (evEs p.cl [ca] env S1).bind fun xs S2 => mef .append d xs S2
    | false => .bad) := h1
  split at h1
  · rename_i hc
    obtain ⟨n, ys, rfl, e⟩ := get_of_isCl hc
    obtain ⟨a, vs, rfl, _, ha, _⟩ := s1.at rd e
    refine ⟨.inl ⟨rfl, _, .inl (.inl ha)⟩, ?_⟩
    have h2 : Post p F Z1 m1 (RD p.K) Q (fun cls d H' => W cls d σ H') ((evE p.cl ca env S1).bind fun x S2 => mef .append (.ref n) [x] S2) := by
      have e3 : (evEs p.cl [ca] env S1).bind (fun xs S2 => mef .append (.ref n) xs S2) = (evE p.cl ca env S1).bind fun x S2 => mef .append (.ref n) [x] S2 := by
        show ((evE p.cl ca env S1).bind fun x S2 => (R.ok [] S2).bind fun xs S3 => .ok (x :: xs) S3).bind _ = _
        rw [R.bind_assoc]
        rfl
      rw [← e3]
      exact h1
    exact ⟨F, Z1, m1, S1, env, re.mono e1, s1, Post.bind h2 fun d S2 Z2 m2 H2 w _ e2 s2 rd2 h3 => ⟨F, Z2, m2, S2, _, _, s2, rd.mono e2, .one rd2, h3⟩⟩
  · exact False.elim h1
theorem pe_pop (s : Sit p c W lv X sc) {o : Expr} {co : E} {m : Str} {pos apos : Pos} (hr : plainRecv o = true) (hm : m = ("pop" : Str)) (hl : (apos.endLine == pos.line) = true) (ho : PE X o (tE p W co)) :
    PE X (.Call (.Attribute o m apos) [] [] pos) (tE p W (.me .pop co [])) := by
  subst hm
  have gen : PE X (.Call (.Attribute o "pop" apos) [] [] pos) (fun σ H Q => tBM0 X.K "list" (fun v vs H Q => ∃ F Z m S x, vs = [] ∧ SR p.K F Z m S H ∧ RD p.K Z m x v ∧ Post p F Z m (RD p.K) Q (fun cls d H' => W cls d σ H') (mef .pop x [] S)) (tE p W co) σ H Q) := by
    refine ⟨fun pins s σ H Q I h => ?_⟩
    refine (pe_bm0 PySem.F.plainAttrs_list PySem.F.slot_list_pop PySem.F.type_list_pop (mt_mefP (p := p) (E := fun cls d H' => W cls d σ H')) ho ?_ hl).run pins s σ H Q I h
    cases o <;> first | rfl | cases hr
  refine PE.imp gen fun σ H Q q => ?_
  obtain ⟨F, Z, m, S, env, re, sr, h⟩ := q
  refine ⟨F, Z, m, S, env, re, sr, Post.bind h fun d S1 Z1 m1 H1 v _ e1 s1 rd h1 => ?_⟩
  have h1 : Post p F Z1 m1 (RD p.K) Q (fun cls d H' => W cls d σ H') (match isCl S1 d with
    | true => mef .pop d [] S1
    | false => .bad) := h1
  split at h1
  · rename_i hc
    obtain ⟨n, ys, rfl, e⟩ := get_of_isCl hc
    obtain ⟨a, vs, rfl, _, ha, _⟩ := s1.at rd e
    exact ⟨.inl ⟨rfl, _, .inl (.inl ha)⟩, F, Z1, m1, S1, _, rfl, s1, rd, h1⟩
  · exact False.elim h1
theorem dctOf_ok (s : Sit p c W lv X sc) {e : Expr} {kvs : List (List Nat × Mn.D)} (h : dctOf c sc e = some kvs) : ∃ a es n, PE X e (tC (.ref a)) ∧ KDict X.K X.w a es n ∧ ∀ s, match kfind s kvs with
    | some d => ∃ v u, PySem.W.nsIn X.K a (tx s) = some (some u) ∧ RelV v u ∧ ∀ Z m, RD p.K Z m d v
    | none => PySem.W.nsIn X.K a (tx s) = some none := by
  cases e <;> first | (cases h; done) | skip
  rename_i x px
  have h : (if okName x = true then (match (generalizing := false) sc.names.lookup x with
    | some .globalImplicit => (match (generalizing := false) c.gl.lookup x with
      | some (.dct kvs) => some kvs
      | _ => none)
    | _ => none) else none) = some kvs := h
  split at h
  · rename_i hn
    split at h
    · rename_i hl
      split at h
      · rename_i kvs' hd
        cases h
        obtain ⟨a, es, n, h1, h2, h3⟩ := s.g.dct x _ hd
        refine ⟨a, es, n, pe_glob (gl_of s hl) h1 rfl (okName_ok hn).1, by rw [s.ok.k]; exact h2, by rw [s.ok.k]; exact h3⟩
      · cases h
    · cases h
  · cases h
theorem ix_kd {d : Addr} {es : Array DictEntry} {n : Nat} (D : KDict X.K X.w d es n) : IxR X (fun x y H Q => ∃ (z : Str) (u0 : Value) (v0 : V), x = .ref d ∧ y = .str z ∧ PySem.W.nsIn X.K d z = some (some u0) ∧ RelV v0 u0 ∧ Q v0 H) := by
  intro value slice pins s σ H x y v u Q I rx ry h hs
  have h0 := h
  obtain ⟨z, u0, v0, rfl, rfl, e, r, q⟩ := h0
  cases rx
  exact tail_any (kd_type D I) slot_dict_getitem.lookup (op_item_kd D pins s σ H (.ref d) (.str z) _ u Q I rfl ry h) hs
theorem pe_kin (s : Sit p c W lv X sc) {a b : Expr} {ca : E} {kvs : List (List Nat × Mn.D)} {neg : Bool} {o : CmpOp} {pos : Pos} (ho : o = if neg then .NotIn else .In) (hb : dctOf c sc b = some kvs) (ha : PE X a (tE p W ca)) : PE X (.Compare a [o] [b] pos) (tE p W (.kin neg kvs ca)) ∧ PT X (.Compare a [o] [b] pos) (tT p W (.kin neg kvs ca)) := by
  obtain ⟨d, es, n, pb, D, hk⟩ := dctOf_ok s hb
  have hm : behindInMarks o b = false := by
    cases b <;> first | rfl | cases hb
  have hop : OpR X (compareOp o) (fun x y H Q => ∃ (z : Str) (r : Option Value), x = .str z ∧ y = .ref d ∧ PySem.W.nsIn X.K d z = some r ∧ Q (.bl (if neg then !r.isSome else r.isSome)) H) := by
    cases neg with
    | true =>
      rw [ho]
      exact op_notIn_kd D
    | false =>
      rw [ho]
      exact op_in_kd D
  have rd : ∀ σ H Q, tE p W (.kin neg kvs ca) σ H Q → tOp (fun x y H Q => ∃ (z : Str) (r : Option Value), x = .str z ∧ y = .ref d ∧ PySem.W.nsIn X.K d z = some r ∧ Q (.bl (if neg then !r.isSome else r.isSome)) H) (tE p W ca) (tC (.ref d)) σ H Q := fun σ H Q q => by
    obtain ⟨F, Z, m, S, env, re, sr, h⟩ := q
    refine ⟨F, Z, m, S, env, re, sr, Post.bind h fun x S1 Z1 m1 H1 v _ e1 s1 rd h1 => ?_⟩
    obtain ⟨z, rfl, rfl⟩ : ∃ z, x = .str z ∧ v = .str (tx z) := by cases rd <;> first | exact False.elim h1 | exact ⟨_, rfl, rfl⟩
    have h2 := hk z
    have h1 : Post p F Z1 m1 (RD p.K) Q (fun cls d H' => W cls d σ H') (R.ok (Mn.D.bl (match kfind z kvs with
      | some _ => !neg
      | none => neg)) S1) := h1
    refine ⟨tx z, ?_⟩
    cases e : kfind z kvs with
    | some d0 =>
      rw [e] at h1 h2
      obtain ⟨v0, u0, n1, _, _⟩ := h2
      refine ⟨some u0, rfl, rfl, n1, ?_⟩
      have := Post.now (p := p) (T := RD p.K) h1 s1 (RD.bl (!neg))
      cases neg <;> exact this
    | none =>
      rw [e] at h1 h2
      refine ⟨none, rfl, rfl, h2, ?_⟩
      have := Post.now (p := p) (T := RD p.K) h1 s1 (RD.bl neg)
      cases neg <;> exact this
  refine ⟨PE.imp (pe_cmpR hop ha pb hm) rd, PT.imp (pt_cmpR hop ha pb hm) fun σ H Q q => ?_⟩
  refine rd σ H _ ?_
  obtain ⟨F, Z, m, S, env, re, sr, h⟩ := q
  refine ⟨F, Z, m, S, env, re, sr, Post.bind h fun d S1 Z1 m1 H1 v _ e1 s1 rd h1 => ?_⟩
  obtain ⟨k, rfl, rfl⟩ : ∃ k, d = .bl k ∧ v = .bl k := by cases rd <;> first | exact False.elim h1 | exact ⟨_, rfl, rfl⟩
  exact ⟨k, rfl, Post.now (p := p) (T := fun _ _ (a b : Bool) => a = b) (d := k) h1 s1 rfl⟩
theorem pe_kix (s : Sit p c W lv X sc) {a b : Expr} {cb : E} {kvs : List (List Nat × Mn.D)} {pos : Pos} (hb : dctOf c sc a = some kvs) (ha : PE X b (tE p W cb)) (hp : PlainIx b) : PE X (.Subscript a b pos) (tE p W (.kix kvs cb)) := by
  obtain ⟨d, es, n, pb, D, hk⟩ := dctOf_ok s hb
  refine PE.imp (pe_ix (ix_kd D) pb ha hp) fun σ H Q q => ?_
  obtain ⟨F, Z, m, S, env, re, sr, h⟩ := q
  refine ⟨F, Z, m, S, env, re, sr, Post.bind h fun x S1 Z1 m1 H1 v _ e1 s1 rd h1 => ?_⟩
  obtain ⟨z, rfl, rfl⟩ : ∃ z, x = .str z ∧ v = .str (tx z) := by cases rd <;> first | exact False.elim h1 | exact ⟨_, rfl, rfl⟩
  have h2 := hk z
  have h1 : Post p F Z1 m1 (RD p.K) Q (fun cls d H' => W cls d σ H') (R.of S1 (kfind z kvs)) := h1
  cases e : kfind z kvs with
  | some d0 =>
    rw [e] at h1 h2
    obtain ⟨v0, u0, n1, n2, n3⟩ := h2
    exact ⟨tx z, u0, v0, rfl, rfl, n1, n2, Post.now (p := p) (T := RD p.K) h1 s1 (n3 _ _)⟩
  | none =>
    rw [e] at h1
    exact False.elim h1
theorem rfs_find {K : PySem.W.Frag} {Z : Hp} {m : Mp} {f : List Nat} : ∀ {fs : List (List Nat × Mn.D)} {vs : List (Str × V)}, RFs K Z m fs vs → match kfind f fs with
    | some d => ∃ v, vs.lookup (tx f) = some v ∧ RD K Z m d v
    | none => vs.lookup (tx f) = none
  | _, _, .nil => rfl
  | _, _, .cons (f := g) (d := d) (v := v) (ds := ds) (vs := vs) r rs => by
    by_cases hg : g = f
    · subst hg
      have e : kfind g ((g, d) :: ds) = some d := if_pos rfl
      rw [e]
      refine ⟨v, ?_, r⟩
      rw [List.lookup_cons]
      simp
    · have e : kfind f ((g, d) :: ds) = kfind f ds := if_neg hg
      have e2 : (tx f == tx g) = false := by
        have : tx f ≠ tx g := fun z => hg (tx_inj.mp z).symm
        simp [this]
      rw [e, List.lookup_cons, e2]
      exact rfs_find rs
theorem SR.obj {K : PySem.W.Frag} {F Z H : Hp} {m : Mp} {S : Sto} (sr : SR K F Z m S H) {n : Nat} {v : V} {x : List Nat} {fs : List (List Nat × Mn.D)} (h : RD K Z m (.ref n) v) (e : S.get n = some (.ins x fs)) : ∃ a dx vs, v = .ref a ∧ m n = some a ∧ H a = some (.ins (He.ga K (tx x)) dx vs) ∧ RFs K Z m fs vs := by
  cases h with
  | ref h =>
    obtain ⟨a, o, h1, h2, _, _, h5⟩ := sr.cell n _ e
    rw [h] at h1
    cases h1
    cases h5 with
    | ins r => exact ⟨_, _, _, rfl, h, h2, r⟩
theorem pe_fldG (s : Sit p c W lv X sc) {o : Expr} {co : E} {f : Str} {pos : Pos} (hr : plainRecv o = true) (ho : PE X o (tE p W co)) : PE X (.Attribute o f pos) (tE p W (.fld (clsF c f) f.cps.toList co)) := by
  have hb : attributeBase o f X.env (eval o X.env) = eval o X.env := by cases o <;> first | rfl | cases hr
  refine PE.imp (pe_fld ho hb) fun σ H Q q => ?_
  obtain ⟨F, Z, m, S, env, re, sr, h⟩ := q
  refine ⟨F, Z, m, S, env, re, sr, Post.bind h fun d S1 Z1 m1 H1 v _ e1 s1 rd h1 => ?_⟩
  obtain ⟨n, rfl⟩ : ∃ n, d = .ref n := by cases d <;> first | exact False.elim h1 | exact ⟨_, rfl⟩
  have h1 : Post p F Z1 m1 (RD p.K) Q (fun cls d H' => W cls d σ H') (match S1.get n with
      | some (.ins x fs) => if x ∈ clsF c f then R.of S1 (kfind f.cps.toList fs) else .bad
      | _ => .bad) := h1
  split at h1
  · rename_i x fs hx
    split at h1
    · rename_i hin
      obtain ⟨a, dx, vs, rfl, hm, ha, rf⟩ := s1.obj rd hx
      obtain ⟨fl, ms, mk, hl, hf⟩ := clsF_ok hin
      obtain ⟨k1, k2, k3⟩ := s.g.obj _ fl ms mk hl
      have h3 := rfs_find (f := f.cps.toList) rf
      cases e : kfind f.cps.toList fs with
      | none =>
        rw [e] at h1
        exact False.elim h1
      | some d =>
        rw [e] at h1 h3
        obtain ⟨v, l1, l2⟩ := h3
        rw [tx_cps] at l1
        have k4 := k2 _ hf
        rw [tx_cps] at k4
        refine ⟨a, He.ga p.K (tx x), dx, vs, v, rfl, ha, ?_, ?_, l1, Post.now (p := p) (T := RD p.K) h1 s1 l2⟩
        · rw [s.ok.k]
          exact k1
        · rw [s.ok.k]
          exact k4
    · exact False.elim h1
  · exact False.elim h1
theorem mth_eq {o : Expr} {m : Str} {apos pos : Pos} {args : List Expr} {env : PySem.Env} (hb : attributeBase o m env (eval o env) = eval o env) (hs : starEach args env = args.map fun e => (false, eval e env)) (hn : args.length < 30) (hl : (apos.endLine == pos.line) = true) :
    eval (.Call (.Attribute o m apos) args [] pos) env = (do
      let ov ← eval o env
      standAt apos.atName
      let (f, first) ← holding [ov] (getMethod ov m (do return (← importBound o env).getD true))
      callWith pos f first (backTo pos (starEach args env)) (backToKw pos (keywordEach [] env))) := by
  have hf : methodCallForm (args.length + ([] : List Keyword).length) (backTo pos (starEach args env)) (backToKw pos (keywordEach [] env)) = true := by
    have h1 : (backTo pos (starEach args env)).all (fun x => !x.1) = true := by
      rw [hs]
      unfold backTo
      rw [List.map_map, List.all_map, List.all_eq_true]
      intro _ _
      rfl
    show ((backTo pos (starEach args env)).all (fun x => !x.1) && true && decide (args.length + 0 + 0 < 30)) = true
    rw [h1, decide_eq_true (by omega)]
    rfl
  have hp : methodCallPos true o env apos pos = pure pos := by
    unfold methodCallPos
    simp [hl]
  rw [arm_eval_Call, hb]
  unfold methodCall
  rw [hf, hp]
  rfl
/-- o.m(..): the receiver's class is what the machine finds -/
theorem pe_mthG (s : Sit p c W lv X sc) {o e : Expr} {es : List Expr} {co : E} {ces : List E} {m : Str} {apos pos : Pos} (hr : plainRecv o = true) (hl : (apos.endLine == pos.line) = true) (ho : PE X o (tE p W co)) (ha : PA X (e :: es) (tA p W ces))
    (he : starEach (e :: es) X.env = (false, eval e X.env) :: starEach es X.env) (hp : (backTo pos (starEach es X.env)).any (·.1) = false)
    {pl : Sem Bool} (ht : eval (.Call (.Attribute o m apos) (e :: es) [] pos) X.env = (do
      let ov ← eval o X.env
      standAt apos.atName
      let (f, first) ← holding [ov] (getMethod ov m pl)
      callWith pos f first (backTo pos (starEach (e :: es) X.env)) (backToKw pos (keywordEach [] X.env)))) :
    PE X (.Call (.Attribute o m apos) (e :: es) [] pos) (tE p W (.mth (clsM c m) m.cps.toList co ces)) := by
  refine ⟨fun pins s0 σ H Q I q => ?_⟩
  obtain ⟨F, Z, mm, S, env, re, sr, h⟩ := q
  refine PySem.W.methodCall_KW (pl := pl) (thn (ho.run pins s0 σ H (fun x H1 => ∃ n S1 Z1 m1 y fs i v, x = v ∧ Ext Z mm Z1 m1 ∧ SR p.K F Z1 m1 S1 H1 ∧ RD p.K Z1 m1 (.ref n) v ∧ S1.get n = some (.ins y fs) ∧ (clsM c m).lookup y = some i ∧ kfind m.cps.toList fs = none ∧
      Post p F Z1 m1 (RD p.K) Q (fun cls d H' => W cls d σ H') ((evEs p.cl ces env S1).bind fun xs S2 => p.cl i (.ref n :: xs) S2)) I ⟨F, Z, mm, S, env, re, sr, ?_⟩) fun u s1 hh => ?_) ht
  · refine Post.bind h fun d S1 Z1 m1 H1 v _ e1 s1 rd h1 => ?_
    obtain ⟨n, rfl⟩ : ∃ n, d = .ref n := by cases d <;> first | exact False.elim h1 | exact ⟨_, rfl⟩
    have h1 : Post p F Z1 m1 (RD p.K) Q (fun cls d H' => W cls d σ H') (match S1.get n with
      | some (.ins y fs) => (match (clsM c m).lookup y, kfind m.cps.toList fs with
        | some i, none => (evEs p.cl ces env S1).bind fun xs S2 => p.cl i (.ref n :: xs) S2
        | _, _ => .bad)
      | _ => .bad) := h1
    split at h1
    · rename_i y fs hy
      split at h1
      · rename_i i h2 h3
        exact ⟨n, S1, Z1, m1, y, fs, i, v, rfl, e1, s1, rd, hy, h2, h3, h1⟩
      · exact False.elim h1
    · exact False.elim h1
  · obtain ⟨x, H1, I1, rx, n, S1, Z1, m1, y, fs, i, v, rfl, e1, sr1, rd, hy, hi, hk, h1⟩ := hh
    obtain ⟨a, dx, vs, rfl, hm, hat, rf⟩ := sr1.obj rd hy
    obtain ⟨fl, ms, mk, hg, hmi⟩ := clsM_ok hi
    obtain ⟨k1, _, k3⟩ := s.g.obj _ fl ms mk hg
    obtain ⟨f, M, G⟩ := k3 _ _ hmi
    rw [tx_cps] at M
    have nof := rfs_find (f := m.cps.toList) rf
    rw [hk] at nof
    have nof : vs.lookup m = none := by rw [tx_cps] at nof; exact nof
    rw [← s.ok.k] at k1 M G hat
    obtain rfl : u = Value.ref a := rx
    refine getmeth_ok I1 hat k1 M nof ?_
    have hargs := ha.run pos pins s1 σ H1 (fun ws H2 => ∃ xs S2 Z2 m2, Ext Z1 m1 Z2 m2 ∧ SR p.K F Z2 m2 S2 H2 ∧ RDs p.K Z2 m2 xs ws ∧ Post p F Z2 m2 (RD p.K) Q (fun cls d H' => W cls d σ H') (p.cl i (.ref n :: xs) S2)) I1
      ⟨F, Z1, m1, S1, env, re.mono e1, sr1, Post.bind h1 fun xs S2 Z2 m2 H2 ws _ e2 s2 rds h2 => ⟨xs, S2, Z2, m2, e2, s2, rds, h2⟩⟩
    refine PySem.W.callWith_K (first := [.ref a]) (h₀ := X.base) I.ok.mod.kin M.kp (thn hargs fun us s2 ⟨ws, H2, I2, r, xs, S2, Z2, m2, e2, sr2, rds, h2⟩ => ⟨I2.kIn, ?_⟩) he hp
    exact call_fn (us := .ref a :: us) (vs := .ref a :: ws) s.ok G I2 (.cons rfl r) ⟨F, Z2, m2, S2, _, sr2, .cons (rd.mono e2) rds, h2⟩
theorem strs_rd {K : PySem.W.Frag} {Z : Hp} {m : Mp} : ∀ {xs : List Mn.D} {vs : List V} {ns : List (List Nat)}, strsO xs = some ns → RDs K Z m xs vs → vs = (ns.map tx).map V.str
  | [], _, _, h, .nil => by
    cases h
    rfl
  | x :: xs, _, ns, h, .cons (v := v) r rs => by
    cases r <;> first | (cases h; done) | skip
    rename_i z
    have h : (strsO xs).map (z :: ·) = some ns := h
    obtain ⟨l, h1, rfl⟩ := Option.map_eq_some_iff.mp h
    rw [strs_rd h1 rs]
    rfl
theorem fewer_ok : ∀ (ns seen : List (List Nat)), fewer seen ns = few (fun k => seen.any fun y => decide (tx y = k)) (ns.map tx)
  | [], _ => rfl
  | x :: ns, seen => by
    have e : (seen.any fun y => decide (tx y = tx x)) = seen.any fun y => decide (y = x) := by
      congr 1
      funext y
      by_cases h : y = x
      · rw [h]
        simp
      · have : tx y ≠ tx x := fun z => h (tx_inj.mp z)
        simp [h, this]
    have e2 : few (fun k => seen.any fun y => decide (tx y = k)) ((x :: ns).map tx) = (if (seen.any fun y => decide (tx y = tx x)) = true then 0 else 1) + few (fun k => (seen.any fun y => decide (tx y = k)) || decide (k = tx x)) (ns.map tx) := rfl
    have e3 : fewer seen (x :: ns) = if (seen.any fun y => decide (y = x)) = true then fewer seen ns else fewer (x :: seen) ns + 1 := rfl
    rw [e2, e3, e]
    split
    · rename_i hs
      rw [fewer_ok ns seen, Nat.zero_add]
      congr 1
      funext k
      by_cases h : k = tx x
      · subst h
        rw [e, hs]
        simp
      · simp [h]
    · rw [fewer_ok ns (x :: seen), Nat.add_comm]
      congr 1
      congr 1
      funext k
      rw [List.any_cons, Bool.or_comm]
      congr 1
      simp only [eq_comm]
theorem pe_lsetG (s : Sit p c W lv X sc) {x y : Str} {a : Expr} {ca : E} {pos pos' p2 q2 : Pos} (hx : x = ("len" : Str)) (hg : Gl X x) (hm : X.mg x = none) (hy : y = ("set" : Str)) (hyb : c.isB sc y = true) (ha : PE X a (tE p W ca)) (hs : ∀ es env, starEach (a :: es) env = (false, eval a env) :: starEach es env) :
    PE X (.Call (.Name x pos') [.Call (.Name y p2) [a] [] q2] [] pos) (tE p W (.lset ca)) := by
  subst hx hy
  obtain ⟨g1, g2, _⟩ := isB_ok s hyb
  refine PE.imp (pe_lset s.ok.calm hg hm g1 g2 ha (hs _ _)) fun σ H Q q => ?_
  obtain ⟨F, Z, m, S, env, re, sr, h⟩ := q
  refine ⟨F, Z, m, S, env, re, sr, Post.bind h fun d S1 Z1 m1 H1 v _ e1 s1 rd h1 => ?_⟩
  have vx := s1.view rd
  unfold lsetf at h1
  generalize lz S1 d = dx at vx h1
  cases vx <;> first | exact False.elim h1 | skip
  rename_i xs a0 vs k1 k2
  dsimp only at h1
  split at h1
  · rename_i ns hn
    split at h1
    · rename_i hl
      rw [frN_eq, fewer_ok] at h1
      have ev := strs_rd hn k2
      subst ev
      refine ⟨a0, ns.map tx, rfl, .inl (.inl k1), by rw [List.length_map]; exact of_decide_eq_true hl, ?_⟩
      exact Post.now (p := p) (T := RD p.K) h1 s1 (.int _)
    · exact False.elim h1
  · exact False.elim h1
theorem count_rd {K : PySem.W.Frag} {Z : Hp} {m : Mp} {e : Mn.D} {w : V} (r : RD K Z m e w) (f : flatD e = true) : ∀ {d : List Mn.D} {v : List V}, RDs K Z m d v → d.all flatD = true → (v.countP fun z => eqV z w) = d.countP fun z => peq z e
  | _, _, .nil, _ => rfl
  | _, _, .cons r1 rs, g => by
    rw [List.all_cons, Bool.and_eq_true] at g
    rw [List.countP_cons, List.countP_cons, eq_flat r1 r g.1 f, count_rd r f rs g.2]
theorem pe_cntG (s : Sit p c W lv X sc) {o a : Expr} {co ca : E} {m : Str} {pos apos : Pos} (hr : plainRecv o = true) (hm : m = ("count" : Str)) (hl : (apos.endLine == pos.line) = true) (ho : PE X o (tE p W co)) (ha : PE X a (tE p W ca)) (hs : ∀ es env, starEach (a :: es) env = (false, eval a env) :: starEach es env) :
    PE X (.Call (.Attribute o m apos) [a] [] pos) (tE p W (.cnt co ca)) := by
  subst hm
  have arg : PA X [a] (tCons (tE p W ca) tNil) := pa_cons ha pa_nil (hs _ _)
  refine PE.imp (pe_bmT knt_is PySem.F.plainAttrs_tuple PySem.F.slot_tuple_count PySem.F.type_tuple_count mt_tcount ho arg (by cases o <;> first | rfl | cases hr) (by rw [hs]; rfl) hl (hs _ _) rfl) fun σ H Q q => ?_
  obtain ⟨F, Z, m, S, env, re, sr, h⟩ := q
  refine ⟨F, Z, m, S, env, re, sr, Post.bind h fun d S1 Z1 m1 H1 v _ e1 s1 rd h1 => ?_⟩
  obtain ⟨ys, rfl⟩ : ∃ ys, d = .tup true ys := by
    cases d with
    | tup k ys =>
      cases k with
      | false => exact False.elim h1
      | true => exact ⟨ys, rfl⟩
    | _ => exact False.elim h1
  cases rd with
  | tup k0 k1 k2 =>
    rename_i a0 vs
    obtain ⟨ob, u, h3, h4⟩ := k0 rfl
    refine ⟨⟨a0, vs, rfl, ⟨ob, u, s1.zs _ _ h3, h4⟩, by rw [s.ok.k]; exact seqT s1.zs k1⟩, ?_⟩
    have h1 : Post p F Z1 m1 (RD p.K) Q (fun cls d H' => W cls d σ H') ((evE p.cl ca env S1).bind fun y S2 => cntf ys y S2) := h1
    refine ⟨F, Z1, m1, S1, env, re.mono e1, s1, Post.bind h1 fun e S2 Z2 m2 H2 w _ e2 s2 rd2 h5 => ?_⟩
    unfold cntf at h5
    split at h5
    · rename_i hf
      rw [Bool.and_eq_true] at hf
      rw [frN_eq] at h5
      have rs := k2.mono e2
      refine ⟨a0, vs, w, rfl, rfl, by rw [s.ok.k]; exact seqT s2.zs (seqT e2.z k1), flat_rd rd2 hf.1, flats_rd rs hf.2, ?_⟩
      rw [count_rd rd2 hf.1 rs hf.2]
      exact Post.now (p := p) (T := RD p.K) h5 s2 (.int _)
    · exact False.elim h5
theorem kd_is {d : Addr} {es : Array DictEntry} {n : Nat} (D : KDict X.K X.w d es n) {pins : List (Addr × Obj)} {s : Shared} {σ : L2.St} {H : Hp} {x : V} {v : Value} (I : L2.Inv X pins σ H s) (r : RelV x v) (h : x = .ref d) : s.TypeIs v "dict" ∧ ∀ a, v = .ref a → ∃ ob, s.heap.get? a = some ob ∧ ob.dict = none := by
  subst h
  cases r
  refine ⟨kd_type D I, fun b e => ?_⟩
  cases e
  obtain ⟨ob, _, _, h1, h2, _⟩ := PySem.W.mapOf_K (prog := X.prog) (w := X.w) I.kIn D.at_ D.lit
  exact ⟨ob, h1, h2.2.1⟩
theorem pe_kgetG (s : Sit p c W lv X sc) {o a b : Expr} {ca cb : E} {m : Str} {kvs : List (List Nat × Mn.D)} {pos apos : Pos} (hr : plainRecv o = true) (hm : m = ("get" : Str)) (hl : (apos.endLine == pos.line) = true) (ho : dctOf c sc o = some kvs) (ha : PE X a (tE p W ca)) (hb : PE X b (tE p W cb))
    (hs : ∀ es env, starEach (a :: es) env = (false, eval a env) :: starEach es env) (hs2 : ∀ es env, starEach (b :: es) env = (false, eval b env) :: starEach es env) : PE X (.Call (.Attribute o m apos) [a, b] [] pos) (tE p W (.kget kvs ca cb)) := by
  subst hm
  obtain ⟨d, es, n, po, D, hk⟩ := dctOf_ok s ho
  have arg : PA X [a, b] (tCons (tE p W ca) (tCons (tE p W cb) tNil)) := pa_cons ha (pa_cons hb pa_nil (hs2 _ _)) (hs _ _)
  refine PE.imp (pe_bmT (kd_is D) PySem.F.plainAttrs_dict PySem.F.slot_dict_get PySem.F.type_dict_get (mt_kget D) po arg (by cases o <;> first | rfl | cases hr) (by rw [hs, hs2]; rfl) hl (hs _ _) (by rw [hs2]; rfl)) fun σ H Q q => ?_
  obtain ⟨F, Z, m, S, env, re, sr, h⟩ := q
  refine ⟨rfl, F, Z, m, S, env, re, sr, Post.bind h fun x S1 Z1 m1 H1 v _ e1 s1 rd h1 => ⟨F, Z1, m1, S1, env, re.mono e1, s1, Post.bind h1 fun y S2 Z2 m2 H2 w _ e2 s2 rd2 h2 => ?_⟩⟩
  obtain ⟨z, rfl, rfl⟩ : ∃ z, x = .str z ∧ v = .str (tx z) := by cases rd <;> first | exact False.elim h2 | exact ⟨_, rfl, rfl⟩
  have h3 := hk z
  have h2 : Post p F Z2 m2 (RD p.K) Q (fun cls d H' => W cls d σ H') (R.ok ((kfind z kvs).getD y) S2) := h2
  cases e : kfind z kvs with
  | some d0 =>
    rw [e] at h2 h3
    obtain ⟨v0, u0, n1, n2, n3⟩ := h3
    exact ⟨tx z, w, some u0, rfl, rfl, n1, v0, n2, Post.now (p := p) (T := RD p.K) h2 s2 (n3 _ _)⟩
  | none =>
    rw [e] at h2 h3
    exact ⟨tx z, w, none, rfl, rfl, h3, Post.now (p := p) (T := RD p.K) h2 s2 rd2⟩
/-! ### a dict's display, asked at once -/
/-- the value of a constant -/
def vOf : Mn.D → V
  | .bl b => .bl b
  | .int i => .int i
  | .str s => .str (tx s)
  | _ => .non
theorem litC_ok {e : Expr} {d : Mn.D} (h : litC e = some d) : PE X e (tC (vOf d)) ∧ ∀ K Z m, RD K Z m d (vOf d) := by
  cases e <;> first | (cases h; done) | skip
  rename_i v k pos
  cases v <;> first | (cases h; done) | skip
  · cases h
    exact ⟨pe_non, fun _ _ _ => .non⟩
  · cases h
    exact ⟨pe_bl, fun _ _ _ => .bl _⟩
  · cases h
    exact ⟨pe_int, fun _ _ _ => .int _⟩
  · rename_i z
    cases h
    have ez : tx z.cps.toList = z := tx_cps z
    have e1 : vOf (.str z.cps.toList) = .str z := by
      show V.str (tx z.cps.toList) = _
      rw [ez]
    exact ⟨by rw [e1]; exact pe_str, fun _ _ _ => .str _⟩
abbrev kvV (r : List (List Nat × Mn.D)) : List (Key × V) := r.map fun e => (.inr (tx e.1), vOf e.2)
theorem dispL_ok : ∀ {ks : List (Option Expr)} {vs : List Expr} {r : List (List Nat × Mn.D)} (pos : Pos), dispL ks vs = some r → ∃ trs, PPs X pos ks vs trs ∧ ks.all (·.isSome) = true ∧ ks.length = vs.length ∧ r.length = ks.length ∧ ∀ σ H Q, Q ((kvV r).map fun kv => (kV kv.1, kv.2)) H → tPairs trs σ H Q
  | [], [], r, pos, h => by
    cases h
    exact ⟨[], pps_nil, rfl, rfl, rfl, fun _ _ _ q => q⟩
  | [], _ :: _, _, _, h => by cases h
  | k :: ks, vs, r, pos, h => by
    unfold dispL at h
    split at h
    · cases ‹k :: ks = []›
    · rename_i z k2 p2 ks2 v vs2 e1
      cases e1
      split at h
      · rename_i d l h1 h2
        split at h
        · cases h
        · cases h
          obtain ⟨trs, g1, g2, g3, g4, g5⟩ := dispL_ok pos h2
          obtain ⟨n1, _⟩ := litC_ok (X := X) h1
          refine ⟨(tC (.str z), tC (vOf d)) :: trs, pps_cons pe_str n1 g1, by rw [List.all_cons, g2]; rfl, by rw [List.length_cons, List.length_cons, g3], by rw [List.length_cons, List.length_cons, g4], fun σ H Q q => ?_⟩
          refine g5 σ H _ ?_
          have ez : tx z.cps.toList = z := tx_cps z
          have q : Q ((V.str (tx z.cps.toList), vOf d) :: ((kvV l).map fun kv => (kV kv.1, kv.2))) H := q
          rw [ez] at q
          exact q
      · cases h
    · cases h
theorem merge_new : ∀ (more acc : List (Key × V)), (∀ e ∈ more, ∀ a ∈ acc, a.1 ≠ e.1) → more.Pairwise (fun a b => a.1 ≠ b.1) → mergeK acc more = acc ++ more
  | [], acc, _, _ => by simp [mergeK]
  | e :: more, acc, h, hp => by
    have e1 : mergeK acc (e :: more) = mergeK (L2.putK acc e.1 e.2) more := rfl
    have e2 : L2.putK acc e.1 e.2 = acc ++ [e] := by
      unfold L2.putK
      rw [if_neg]
      intro hh
      obtain ⟨a, ha, ha2⟩ := List.any_eq_true.mp hh
      exact h e List.mem_cons_self a ha (of_decide_eq_true ha2)
    rw [e1, e2, merge_new more (acc ++ [e]) (fun e' he' a ha => ?_) (List.pairwise_cons.mp hp).2, List.append_assoc]
    · rfl
    · rcases List.mem_append.mp ha with ha | ha
      · exact h e' (List.mem_cons_of_mem _ he') a ha
      · rw [List.mem_singleton.mp ha]
        exact (List.pairwise_cons.mp hp).1 e' he'
theorem dispL_nd : ∀ {ks : List (Option Expr)} {vs : List Expr} {r : List (List Nat × Mn.D)}, dispL ks vs = some r → (kvV r).Pairwise (fun a b => a.1 ≠ b.1)
  | [], [], r, h => by
    cases h
    exact .nil
  | [], _ :: _, _, h => by cases h
  | k :: ks, vs, r, h => by
    unfold dispL at h
    split at h
    · cases ‹k :: ks = []›
    · rename_i z k2 p2 ks2 v vs2 e1
      cases e1
      split at h
      · rename_i d l h1 h2
        split at h
        · cases h
        · rename_i hno
          cases h
          refine List.pairwise_cons.mpr ⟨fun e he => ?_, dispL_nd h2⟩
          obtain ⟨e0, he0, rfl⟩ := List.mem_map.mp he
          intro z2
          have z3 : tx z.cps.toList = tx e0.1 := by
            injection z2
          exact hno (List.any_eq_true.mpr ⟨e0, he0, decide_eq_true (tx_inj.mp z3).symm⟩)
      · cases h
    · cases h
theorem kv_lit {s : List Nat} {d : Mn.D} : ∀ {ks : List (Option Expr)} {vs : List Expr} {r : List (List Nat × Mn.D)}, dispL ks vs = some r → kfind s r = some d → ∃ e, litC e = some d
  | [], [], r, h, q => by
    cases h
    cases q
  | [], _ :: _, _, h, _ => by cases h
  | k :: ks, vs, r, h, q => by
    unfold dispL at h
    split at h
    · cases ‹k :: ks = []›
    · rename_i z k2 p2 ks2 v vs2 e1
      cases e1
      split at h
      · rename_i d' l h1 h2
        split at h
        · cases h
        · cases h
          have q : (if z.cps.toList = s then some d' else kfind s l) = some d := q
          split at q
          · cases q
            exact ⟨_, h1⟩
          · exact kv_lit h2 q
      · cases h
    · cases h
theorem kv_find (s : List Nat) : ∀ r : List (List Nat × Mn.D), valV (kvV r) (.inr (tx s)) = (kfind s r).map vOf
  | [] => rfl
  | (k, d) :: r => by
    show valV ((Sum.inr (tx k), vOf d) :: kvV r) (.inr (tx s)) = (if k = s then some d else kfind s r).map vOf
    by_cases h : k = s
    · rw [if_pos h, h]
      exact valV_pos rfl
    · rw [if_neg h, valV_neg (fun z => h (tx_inj.mp (by injection z))), kv_find s r]
theorem pe_dispG (s : Sit p c W lv X sc) {a b : Expr} {cb : E} {kvs : List (List Nat × Mn.D)} {pos : Pos} (hd : dispOf a = some kvs) (hb : PE X b (tE p W cb)) (hp : PlainIx b) : PE X (.Subscript a b pos) (tE p W (.kix kvs cb)) := by
  cases a <;> first | (cases hd; done) | skip
  rename_i ks vs dp
  have hd : (if (decide (ks.length ≤ 15) && !ks.isEmpty) = true then dispL ks vs else none) = some kvs := hd
  split at hd
  · rename_i hc
    simp only [Bool.and_eq_true, decide_eq_true_eq, Bool.not_eq_true'] at hc
    obtain ⟨trs, g1, g2, g3, g4, g5⟩ := dispL_ok (X := X) dp hd
    have h0 : ks ≠ [] := fun z => by
      rw [z] at hc
      exact absurd hc.2 (by decide)
    refine PE.imp (pe_dget (by have := s.ok.un; omega) (pe_disp g1 g2 g3 h0 hc.1) hb ?_) fun σ H Q q => ?_
    · exact hp
    obtain ⟨F, Z, m, S, env, re, sr, h⟩ := q
    intro d hf
    refine g5 σ _ _ ⟨upd_same, kvV kvs, rfl, by rw [List.length_map, g4]; exact hc.1, ?_⟩
    have em : mergeK [] (kvV kvs) = kvV kvs := merge_new _ [] (fun _ _ _ h => by cases h) (dispL_nd hd)
    rw [em]
    have hn : upd (upd H d (.dK [])) d (.dK (kvV kvs)) = upd H d (.dK (kvV kvs)) := upd_upd
    rw [hn]
    have Fd : SR p.K (upd F d (.dK (kvV kvs))) Z m S (upd H d (.dK (kvV kvs))) := by
      obtain ⟨f1, f2⟩ := sr.free hf
      have sj := sr.junk (.dK (kvV kvs)) hf
      refine ⟨fun x o e => ?_, sj.zs, fun x o e => ?_, fun n c0 q => ?_, sr.inj, sr.nx⟩
      · by_cases hx : x = d
        · subst hx
          rw [upd_same] at e ⊢
          exact e
        · rw [upd_ne hx] at e ⊢
          exact sr.fs x o e
      · by_cases hx : x = d
        · rw [hx]
          exact f2
        · rw [upd_ne hx] at e
          exact sr.dj x o e
      · obtain ⟨a1, o1, k1, k2, k3, k4, k5⟩ := sr.cell n c0 q
        have na := ne_of_none k2 hf
        exact ⟨a1, o1, k1, by rw [upd_ne na]; exact k2, by rw [upd_ne na]; exact k3, k4, k5⟩
    obtain ⟨f1, f2⟩ := sr.free hf
    have h9 := h.other (F' := upd F d (.dK (kvV kvs))) (same_upd' f1)
    refine ⟨upd F d (.dK (kvV kvs)), Z, m, S, env, re, Fd, Post.bind h9 fun x S1 Z1 m1 H1 v _ e1 s1 rd h1 => ?_⟩
    obtain ⟨z, rfl, rfl⟩ : ∃ z, x = .str z ∧ v = .str (tx z) := by cases rd <;> first | exact False.elim h1 | exact ⟨_, rfl, rfl⟩
    have h1 : Post p (upd F d (.dK (kvV kvs))) Z1 m1 (RD p.K) Q (fun cls d H' => W cls d σ H') (R.of S1 (kfind z kvs)) := h1
    have at1 : H1 d = some (.dK (kvV kvs)) := s1.fs d _ upd_same
    have look := kv_find z kvs
    cases e : kfind z kvs with
    | none =>
      rw [e] at h1
      exact False.elim h1
    | some d0 =>
      rw [e] at h1 look
      obtain ⟨e0, le⟩ := kv_lit hd e
      refine ⟨d, vOf d0, rfl, ?_, Post.now (p := p) (T := RD p.K) h1 s1 ((litC_ok (X := X) le).2 _ _ _)⟩
      have g := DGet.k (k := .inr (tx z)) at1
      rw [look] at g
      exact g
  · cases hd
/-- an instance is made -/
theorem pe_mkG (s : Sit p c W lv X sc) {x : Str} {i : Nat} {fs : List (List Nat)} {ms : List (List Nat × Nat)} {e : Expr} {es : List Expr} {ces : List E} {pos pos' : Pos} (hx : c.gl.lookup x = some (.obj fs ms (some i))) (hg : Gl X x) (hd : (x == ("__debug__" : Str)) = false) (ha : PA X (e :: es) (tA p W ces))
    (he : starEach (e :: es) X.env = (false, eval e X.env) :: starEach es X.env) (hp : (backTo pos (starEach es X.env)).any (·.1) = false) : PE X (.Call (.Name x pos') (e :: es) [] pos) (tE p W (.mk x.cps.toList i ces)) := by
  obtain ⟨hm, kin, hk⟩ := s.g.mak x fs ms i hx
  refine ⟨fun pins s0 σ H Q I q => ?_⟩
  obtain ⟨F, Z, m, S, env, re, sr, h⟩ := q
  rw [← s.ok.k] at kin
  have args := ha.run pos pins s0 σ H (fun ws H1 => ∃ xs S1 Z1 m1, SR p.K F Z1 m1 S1 H1 ∧ RDs p.K Z1 m1 xs ws ∧ Post p F Z1 m1 (RD p.K) Q (fun cls d H' => W cls d σ H') ((p.cl (1000000 + i) (.ref S1.next :: xs) (S1.new (.ins x.cps.toList []))).bind fun d S2 => match d with
    | .non => .ok (.ref S1.next) S2
    | _ => .bad)) I ⟨F, Z, m, S, env, re, sr, Post.bind h fun xs S1 Z1 m1 H1 ws _ e1 s1 rds h1 => ⟨xs, S1, Z1, m1, s1, rds, h1⟩⟩
  refine wpAny_Call_Name_kw (ld_glob I hg hm ?_ hd)
  rcases hk with bad | ⟨lv', f, rfl, M, G⟩
  · rw [← s.ok.k]
    exact PySem.W.callWith_K (h₀ := X.base) I.ok.mod.kin kin (thn args fun us s1 ⟨ws, H1, I1, r, xs, S1, Z1, m1, sr1, rds, h1⟩ => ⟨I1.kIn, False.elim (by rw [bad] at h1; exact h1)⟩) he hp
  · rw [← s.ok.k] at M G
    have M2 : L2.Mk X.K (He.ga X.K x) f := M
    rw [← s.ok.k]
    refine PySem.W.callWith_K (h₀ := X.base) I.ok.mod.kin M2.kp (thn args fun us s1 ⟨ws, H1, I1, r, xs, S1, Z1, m1, sr1, rds, h1⟩ => ⟨I1.kIn, ?_⟩) he hp
    refine call_mk s.ok M2 G I1 r fun a dx hna hnd hne => ?_
    have hna2 : upd H1 dx (.own a) a = none := by
      rw [upd_ne hne.symm]
      exact hna
    obtain ⟨t1, t2, t3⟩ := (sr1.junk (.own a) hnd).newO (xs := .ins x.cps.toList []) (vs := .ins (He.ga p.K (tx x.cps.toList)) dx []) hna2 (.ins .nil)
    rw [tx_cps, ← s.ok.k] at t1
    refine ⟨F, Z1, _, _, _, by rw [← s.ok.k]; exact t1, .cons t3 (rds.mono t2), Post.bind (Post.ext h1 t2) fun d S2 Z2 m2 H2 v _ e2 s2 rd h2 => ?_⟩
    obtain ⟨rfl, rfl⟩ : d = .non ∧ v = .non := by cases rd <;> first | exact ⟨rfl, rfl⟩ | exact False.elim h2
    exact ⟨rfl, Post.now (p := p) (T := RD p.K) (d := Mn.D.ref S1.next) h2 s2 (t3.mono e2)⟩
end
end Mn

/-! THE THEOREM of expressions: all forms. -/
namespace Mn
open PySem PySem.Spec PyProof.Rows L2
theorem opt_map {α β : Type} {f : α → β} {o : Option α} {b : β} (h : o.map f = some b) : ∃ a, o = some a ∧ f a = b := by
  cases o with
  | none => cases h
  | some a => exact ⟨a, rfl, Option.some.inj h⟩
section
variable {p : Pm} {c : CS} {W : WX} {lv : Nat} {X : Cx} {sc : Scope}
/-- (evE).bind of a truth, as a test's answer -/
theorem evC_bind {α : Type} (cl : Calls) (ce : E) (env : Env) (S : Sto) (f : Bool → Sto → R α) :
    ((evE cl ce env S).bind fun x S1 => match x with
      | .bl true => f true S1
      | .bl false => f false S1
      | _ => .bad) = (evC cl (some ce) env S).bind f := by
  show _ = ((evE cl ce env S).bind fun x S1 => match x with
      | .bl i => R.ok i S1
      | _ => .bad).bind f
  rw [R.bind_assoc]
  congr 1
  funext x S1
  cases x <;> first | rfl | (rename_i b; cases b <;> rfl)
theorem blk_sit (s : Sit p c W lv X sc) {s0 : Shared} {H : Hp} {scope : Scope} {C : Addr} {cl : List (Str × Addr)} {fp : List Addr} (hk : scope.kind = .function) : Sit p c W0 lv (X.blk s0 H scope (compEnvC scope cl C X.env) fp) (relS scope sc) :=
  ⟨s.ok.blk hk, s.g, s.n, by rw [← s.s]; rfl⟩
theorem blk_sto {s0 : Shared} {H : Hp} {scope : Scope} {C : Addr} {cl : List (Str × Addr)} {fp : List Addr} : Sto1 scope (X.blk s0 H scope (compEnvC scope cl C X.env) fp) := by
  refine ⟨fun x h => ?_, fun x h => ⟨?_, ?_⟩⟩
  · exact lookup_relS_keep (sc := X.env.scope) (by decide) h
  · exact lookup_relS_keep (sc := X.env.scope) (by decide) h
  · show (scope.names.lookup x == some .cell) = true
    rw [h]
    rfl
theorem snd_step {n : Nat} (ih : Snd p c n) : Snd p c (n + 1) where
  a := fun {W lv X sc es ces} s h => by
    cases es with
    | nil =>
      cases h
      refine PA.imp pa_nil fun σ H Q q => ?_
      obtain ⟨F, Z, m, S, env, re, sr, h⟩ := q
      exact Post.now (p := p) (T := RDs p.K) (d := []) h sr RDs.nil
    | cons e es =>
      unfold cEs at h
      split at h
      · rename_i a as h1 h2
        cases h
        refine PA.imp (pa_cons (ih.e s h1).1 (ih.a s h2) (star_of h1 _ _)) fun σ H Q q => ?_
        obtain ⟨F, Z, m, S, env, re, sr, h⟩ := q
        refine ⟨F, Z, m, S, env, re, sr, Post.bind h fun d S1 Z1 m1 H1 v _ e1 s1 rd h1 => ⟨F, Z1, m1, S1, env, re.mono e1, s1, Post.bind h1 fun ds S2 Z2 m2 H2 vs _ e2 s2 rds h2 => ?_⟩⟩
        exact Post.now (p := p) (T := RDs p.K) (d := d :: ds) h2 s2 (RDs.cons (rd.mono e2) rds)
      · cases h
  o := fun {W lv X sc e ce} s h => by
    cases e with
    | none =>
      cases h
      refine PO.imp po_none fun σ H Q q => ?_
      obtain ⟨F, Z, m, S, env, re, sr, h⟩ := q
      exact Post.now (p := p) (T := fun _ _ (a b : Option Int) => a = b) (d := none) h sr rfl
    | some e =>
      obtain ⟨a, h1, rfl⟩ := opt_map (show (cE c n sc e).map some = some ce from h)
      refine PO.imp (po_some (ih.e s h1).1) fun σ H Q q => ?_
      obtain ⟨F, Z, m, S, env, re, sr, h⟩ := q
      refine ⟨F, Z, m, S, env, re, sr, Post.bind h fun d S1 Z1 m1 H1 v _ e1 s1 rd h1 => ?_⟩
      cases rd <;> first | exact False.elim h1 | skip
      exact ⟨_, rfl, Post.now (p := p) (T := fun _ _ (a b : Option Int) => a = b) h1 s1 rfl⟩
  i := fun {W lv X sc e ce} s h => by
    cases e with
    | nil =>
      cases h
      exact ⟨fun pins s0 σ H Q I q => pts_nil.run pins s0 σ H Q I (by
        obtain ⟨F, Z, m, S, env, re, sr, h⟩ := q
        exact Post.now (p := p) (T := fun _ _ (a b : Bool) => a = b) (d := true) h sr rfl)⟩
    | cons e es =>
      cases es with
      | nil =>
        obtain ⟨a, h1, rfl⟩ := opt_map (show (cE c n sc e).map some = some ce from h)
        exact ⟨fun pins s0 σ H Q I q => (pts_one (ih.e s h1).2).run pins s0 σ H Q I q⟩
      | cons _ _ => cases h
  b := fun {W lv X sc o es ce} s h pos => by
    cases es with
    | nil => cases h
    | cons e es =>
      cases es with
      | nil =>
        have h : cE c n sc e = some ce := h
        refine ⟨pe_one (ih.e s h).1, ?_⟩
        cases o with
        | And => exact pw_and1 (ih.e s h).2
        | Or => exact pw_or1 (ih.e s h).2
      | cons d es =>
        have h : (match (generalizing := false) cE c n sc e, cB c n sc o (d :: es) with
          | some a, some b => some (match (generalizing := false) o with
            | .And => E.band a b
            | .Or => E.bor a b)
          | _, _ => none) = some ce := h
        split at h
        · rename_i a b h1 h2
          cases h
          obtain ⟨e1, e2⟩ := ih.e s h1
          obtain ⟨b1, b2⟩ := ih.b s h2 pos
          cases o with
          | And =>
            constructor
            · refine PE.imp (pe_and e1 b1) fun σ H Q q => ?_
              obtain ⟨F, Z, m, S, env, re, sr, h⟩ := q
              refine ⟨F, Z, m, S, env, re, sr, Post.bind h fun d S1 Z1 m1 H1 v _ e1 s1 rd h1 => ?_⟩
              obtain ⟨k, rfl, rfl⟩ : ∃ k, d = .bl k ∧ v = .bl k := by cases rd <;> first | exact False.elim h1 | exact ⟨_, rfl, rfl⟩
              refine ⟨k, rfl, ?_⟩
              cases k with
              | true => exact ⟨F, Z1, m1, S1, env, re.mono e1, s1, h1⟩
              | false => exact Post.now (p := p) (T := RD p.K) (d := Mn.D.bl false) h1 s1 (RD.bl false)
            · refine PW.imp (pw_and e2 b2) fun σ H Q q => ?_
              obtain ⟨F, Z, m, S, env, re, sr, h⟩ := q
              have h : Post p F Z m (fun _ _ (a b : Bool) => a = b) Q (fun cls d H' => W cls d σ H') (((evE p.cl a env S).bind fun x S1 => match x with
                | .bl true => evE p.cl b env S1
                | .bl false => .ok (.bl false) S1
                | _ => .bad).bind fun x S1 => match x with
                | .bl i => R.ok i S1
                | _ => .bad) := h
              have e3 : ((evE p.cl a env S).bind fun x S1 => match x with
                | .bl true => evE p.cl b env S1
                | .bl false => .ok (.bl false) S1
                | _ => .bad) = (evC p.cl (some a) env S).bind fun k S1 => match k with
                | true => evE p.cl b env S1
                | false => .ok (.bl false) S1 := evC_bind p.cl a env S fun k S1 => match k with
                | true => evE p.cl b env S1
                | false => .ok (.bl false) S1
              rw [e3, R.bind_assoc] at h
              refine ⟨F, Z, m, S, env, re, sr, Post.bind h fun k S1 Z1 m1 H1 v _ e1 s1 rd h1 => ?_⟩
              subst rd
              cases k with
              | true => exact ⟨F, Z1, m1, S1, env, re.mono e1, s1, h1⟩
              | false => exact Post.now (p := p) (T := fun _ _ (a b : Bool) => a = b) (d := false) h1 s1 rfl
          | Or =>
            constructor
            · refine PE.imp (pe_or e1 b1) fun σ H Q q => ?_
              obtain ⟨F, Z, m, S, env, re, sr, h⟩ := q
              refine ⟨F, Z, m, S, env, re, sr, Post.bind h fun d S1 Z1 m1 H1 v _ e1 s1 rd h1 => ?_⟩
              obtain ⟨k, rfl, rfl⟩ : ∃ k, d = .bl k ∧ v = .bl k := by cases rd <;> first | exact False.elim h1 | exact ⟨_, rfl, rfl⟩
              refine ⟨k, rfl, ?_⟩
              cases k with
              | false => exact ⟨F, Z1, m1, S1, env, re.mono e1, s1, h1⟩
              | true => exact Post.now (p := p) (T := RD p.K) (d := Mn.D.bl true) h1 s1 (RD.bl true)
            · refine PW.imp (pw_or e2 b2) fun σ H Q q => ?_
              obtain ⟨F, Z, m, S, env, re, sr, h⟩ := q
              have h : Post p F Z m (fun _ _ (a b : Bool) => a = b) Q (fun cls d H' => W cls d σ H') (((evE p.cl a env S).bind fun x S1 => match x with
                | .bl true => .ok (.bl true) S1
                | .bl false => evE p.cl b env S1
                | _ => .bad).bind fun x S1 => match x with
                | .bl i => R.ok i S1
                | _ => .bad) := h
              have e3 : ((evE p.cl a env S).bind fun x S1 => match x with
                | .bl true => .ok (.bl true) S1
                | .bl false => evE p.cl b env S1
                | _ => .bad) = (evC p.cl (some a) env S).bind fun k S1 => match k with
                | true => .ok (.bl true) S1
                | false => evE p.cl b env S1 := evC_bind p.cl a env S fun k S1 => match k with
                | true => .ok (.bl true) S1
                | false => evE p.cl b env S1
              rw [e3, R.bind_assoc] at h
              refine ⟨F, Z, m, S, env, re, sr, Post.bind h fun k S1 Z1 m1 H1 v _ e1 s1 rd h1 => ?_⟩
              subst rd
              cases k with
              | false => exact ⟨F, Z1, m1, S1, env, re.mono e1, s1, h1⟩
              | true => exact Post.now (p := p) (T := fun _ _ (a b : Bool) => a = b) (d := true) h1 s1 rfl
        · cases h
  w := fun {W lv X sc tg e w ce} s h => by
    have plain : ∀ {e : Expr} {a : E}, cE c n sc e = some a → PI X tg e (tI p W .of [a]) := fun {e a} h1 => by
      have he := (ih.e s h1).1
      refine ⟨fun pins s0 σ H G I q => ?_⟩
      obtain ⟨F, Z, m, S, env, re, sr, h⟩ := q
      have h2 : Post p F Z m (fun Z m ds J => Fol p.K Z m J ds) G (fun cls d H' => W cls d σ H') ((evE p.cl a env S).bind fun x S1 => R.of S1 (walk .of [x])) := by
        have e3 : (evEs p.cl [a] env S).bind (fun ws S0 => R.of S0 (walk .of ws)) = (evE p.cl a env S).bind fun x S2 => R.of S2 (walk .of [x]) := by
          show ((evE p.cl a env S).bind fun x S2 => (R.ok [] S2).bind fun xs S3 => .ok (x :: xs) S3).bind _ = _
          rw [R.bind_assoc]
          rfl
        rw [← e3]
        exact h
      -- a list or a tuple: by what it is
      cases er : evE p.cl a env S with
      | bad =>
        rw [er] at h2
        exact False.elim h2
      | exc x S1 =>
        rw [er] at h2
        exact (pi_list he).run pins s0 σ H G I ⟨F, Z, m, S, env, re, sr, by rw [er]; exact h2⟩
      | ok d S1 =>
        rw [er] at h2
        cases d with
        | lst xs =>
          refine (pi_list he).run pins s0 σ H G I ⟨F, Z, m, S, env, re, sr, by
            rw [er]
            intro Z1 m1 H1 v e1 s1 rd
            cases rd with
            | lst q1 q2 =>
              rename_i a0 vs
              refine ⟨a0, rfl, ⟨vs, .inl (.inl (s1.zs _ _ q1))⟩, ?_⟩
              rw [s.ok.k]
              exact h2 Z1 m1 H1 _ e1 s1 (fol_list q1 q2)⟩
        | tup k0 xs =>
          refine (pi_tup he).run pins s0 σ H G I ⟨F, Z, m, S, env, re, sr, by
            rw [er]
            intro Z1 m1 H1 v e1 s1 rd
            cases rd with
            | tup q0 q1 q2 =>
              rename_i a0 vs
              refine ⟨a0, rfl, ⟨vs, by rw [s.ok.k]; exact seqT s1.zs q1⟩, ?_⟩
              rw [s.ok.k]
              exact h2 Z1 m1 H1 _ e1 s1 (fol_tup q1 q2)⟩
        | str z =>
          refine (pi_str he).run pins s0 σ H G I ⟨F, Z, m, S, env, re, sr, by
            rw [er]
            intro Z1 m1 H1 v e1 s1 rd
            cases rd with
            | str z => exact ⟨tx z, rfl, h2 Z1 m1 H1 _ e1 s1 (fol_str z)⟩⟩
        | _ => exact False.elim h2
    have other : ∀ {e : Expr}, (∀ x p args pos, e ≠ .Call (.Name x p) args [] pos) → cW c (n + 1) sc tg e = some (w, ce) → PI X tg e (tI p W w ce) := fun {e} hne h => by
      have h : (cE c n sc e).map (fun a => (Wt.of, [a])) = some (w, ce) := by
        cases e <;> first | exact h | skip
        rename_i f args kws pos
        cases f <;> first | exact h | skip
        rename_i x px
        cases kws with
        | nil => exact absurd rfl (hne _ _ _ _)
        | cons _ _ => exact h
      obtain ⟨a, h1, h2⟩ := opt_map h
      cases h2
      exact plain h1
    by_cases hc : ∃ x p args pos, e = .Call (.Name x p) args [] pos
    · obtain ⟨x, px, args, pos, rfl⟩ := hc
      replace h : (if (decide (x = ("range" : Str)) && c.isB sc x) = true then (match (generalizing := false) args with
          | [_] => (cEs c n sc args).map fun as => (Wt.rng1, as)
          | [_, _] => (cEs c n sc args).map fun as => (Wt.rng2, as)
          | _ => none)
        else if (decide (x = ("zip" : Str)) && c.isB sc x) = true then (match (generalizing := false) args, tg with
          | [_, _], .Tuple _ _ _ => (cEs c n sc args).map fun as => (Wt.zip, as)
          | _, _ => none)
        else if (decide (x = ("enumerate" : Str)) && c.isB sc x) = true then (match (generalizing := false) args, tg with
          | [_], .Tuple _ _ _ => (cEs c n sc args).map fun as => (Wt.enm, as)
          | _, _ => none)
        else (cE c n sc (.Call (.Name x px) args [] pos)).map fun a => (Wt.of, [a])) = some (w, ce) := h
      split at h
      · rename_i hx
        simp only [Bool.and_eq_true, decide_eq_true_eq] at hx
        obtain ⟨rfl, hb⟩ := hx
        obtain ⟨g1, g2, g3⟩ := isB_ok s hb
        split at h
        · rename_i a1
          obtain ⟨as, h1, h2⟩ := opt_map h
          cases h2
          have hst := stars_of X.env h1
          refine PI.imp (pi_range1 g1 g2 (ih.a s h1) hst) fun σ H G q => ?_
          obtain ⟨F, Z, m, S, env, re, sr, h⟩ := q
          refine ⟨F, Z, m, S, env, re, sr, Post.bind h fun ds S1 Z1 m1 H1 vs _ e1 s1 rds h1 => ?_⟩
          cases rds with
          | nil => exact False.elim h1
          | @cons d1 v1 _ _ r1 r2 =>
            cases r2 with
            | cons _ _ => cases r1 <;> exact False.elim h1
            | nil =>
              obtain ⟨j, rfl, rfl⟩ : ∃ j, d1 = .int j ∧ v1 = .int j := by cases r1 <;> first | exact False.elim h1 | exact ⟨_, rfl, rfl⟩
              have h1 : Post p F Z1 m1 (fun Z m ds J => Fol p.K Z m J ds) G (fun cls d H' => W cls d σ H') (R.of S1 (if small62 j then some (upto 0 j.toNat) else none)) := h1
              split at h1
              · rename_i hs
                simp only [small62, Bool.and_eq_true, decide_eq_true_eq] at hs
                exact ⟨j, rfl, by omega, by omega, h1 Z1 m1 H1 _ Ext.refl s1 (fol_rng 0 _)⟩
              · exact False.elim h1
        · rename_i a1 a2
          obtain ⟨as, h1, h2⟩ := opt_map h
          cases h2
          have hst := stars_of X.env h1
          refine PI.imp (pi_range2 g1 g2 (ih.a s h1) hst (tail_stars hst (by
            have h3 := h1
            cases n with
            | zero => cases h3
            | succ n =>
              unfold cEs at h3
              split at h3
              · rename_i h4 _
                exact star_of h4 _ _
              · cases h3))) fun σ H G q => ?_
          obtain ⟨F, Z, m, S, env, re, sr, h⟩ := q
          refine ⟨F, Z, m, S, env, re, sr, Post.bind h fun ds S1 Z1 m1 H1 vs _ e1 s1 rds h1 => ?_⟩
          cases rds with
          | nil => exact False.elim h1
          | @cons d1 v1 _ _ r1 r2 =>
            cases r2 with
            | nil => cases r1 <;> exact False.elim h1
            | @cons d2 v2 _ _ r3 r4 =>
              cases r4 with
              | cons _ _ => cases r1 <;> cases r3 <;> exact False.elim h1
              | nil =>
                obtain ⟨i, j, rfl, rfl, rfl, rfl⟩ : ∃ i j, d1 = .int i ∧ v1 = .int i ∧ d2 = .int j ∧ v2 = .int j := by cases r1 <;> cases r3 <;> first | exact False.elim h1 | exact ⟨_, _, rfl, rfl, rfl, rfl⟩
                have h1 : Post p F Z1 m1 (fun Z m ds J => Fol p.K Z m J ds) G (fun cls d H' => W cls d σ H') (R.of S1 (if (small62 i && small62 j) = true then some (upto i (j - i).toNat) else none)) := h1
                split at h1
                · rename_i hs
                  simp only [small62, Bool.and_eq_true, decide_eq_true_eq] at hs
                  exact ⟨i, j, rfl, by omega, h1 Z1 m1 H1 _ Ext.refl s1 (fol_rng i _)⟩
                · exact False.elim h1
        · cases h
      · split at h
        · rename_i hx
          simp only [Bool.and_eq_true, decide_eq_true_eq] at hx
          obtain ⟨rfl, hb⟩ := hx
          obtain ⟨g1, g2, g3⟩ := isB_ok s hb
          split at h
          · rename_i a1 a2 els kk tpos
            obtain ⟨as, h1, h2⟩ := opt_map h
            cases h2
            have hst := stars_of X.env h1
            have hst1 : starEach [a1, a2] X.env = (false, eval a1 X.env) :: starEach [a2] X.env := by
              have h3 := h1
              cases n with
              | zero => cases h3
              | succ n =>
                unfold cEs at h3
                split at h3
                · rename_i h4 _
                  exact star_of h4 _ _
                · cases h3
            refine PI.imp (RZ.pi_zipA g1 g2 (ih.a s h1) hst1 (noStar pos (tail_stars hst hst1))) fun σ H G q => ?_
            obtain ⟨F, Z, m, S, env, re, sr, h⟩ := q
            refine ⟨F, Z, m, S, env, re, sr, Post.bind h fun ds S1 Z1 m1 H1 vs _ e1 s1 rds h1 => ?_⟩
            cases rds with
            | nil => exact False.elim h1
            | cons r1 r2 =>
              cases r2 with
              | nil => cases r1 <;> exact False.elim h1
              | cons r3 r4 =>
                cases r4 with
                | cons _ _ => cases r1 <;> cases r3 <;> exact False.elim h1
                | nil =>
                  cases r1 with
                  | @tup k1 xs1 b1 ws1 q0 q1 q2 =>
                    cases r3 with
                    | @tup k2 xs2 b2 ws2 q0' q3 q4 =>
                      refine ⟨b1, b2, ws1, ws2, rfl, .inr ⟨by rw [s.ok.k]; exact seqT s1.zs q1, by rw [s.ok.k]; exact seqT s1.zs q3, ?_⟩⟩
                      rw [s.ok.k]
                      exact h1 Z1 m1 H1 _ Ext.refl s1 (fol_zipT q1 q3 q2 q4)
                    | _ => exact False.elim h1
                  | @lst xs1 b1 ws1 q1 q2 =>
                    cases r3 with
                    | @lst xs2 b2 ws2 q3 q4 =>
                      refine ⟨b1, b2, ws1, ws2, rfl, .inl ⟨.inl (.inl (s1.zs _ _ q1)), .inl (.inl (s1.zs _ _ q3)), ?_⟩⟩
                      rw [s.ok.k]
                      exact h1 Z1 m1 H1 _ Ext.refl s1 (fol_zip q1 q3 q2 q4)
                    | _ => exact False.elim h1
                  | _ => cases r3 <;> exact False.elim h1
          · cases h
        · split at h
          · rename_i hx
            simp only [Bool.and_eq_true, decide_eq_true_eq] at hx
            obtain ⟨rfl, hb⟩ := hx
            obtain ⟨g1, g2, g3⟩ := isB_ok s hb
            split at h
            · rename_i a1 _ _ _
              obtain ⟨as, h1, h2⟩ := opt_map h
              cases h2
              have hst := stars_of X.env h1
              refine PI.imp (pi_en g1 g2 (ih.a s h1) hst) fun σ H G q => ?_
              obtain ⟨F, Z, m, S, env, re, sr, h⟩ := q
              refine ⟨F, Z, m, S, env, re, sr, Post.bind h fun ds S1 Z1 m1 H1 vs _ e1 s1 rds h1 => ?_⟩
              cases rds with
              | nil => exact False.elim h1
              | cons r1 r2 =>
                cases r2 with
                | cons _ _ => cases r1 <;> exact False.elim h1
                | nil =>
                  cases r1 with
                  | @tup k1 xs1 b1 ws1 q0 q1 q2 =>
                    refine ⟨b1, ws1, rfl, .inr ⟨by rw [s.ok.k]; exact seqT s1.zs q1, ?_⟩⟩
                    rw [s.ok.k]
                    exact h1 Z1 m1 H1 _ Ext.refl s1 (fol_enT q1 q2)
                  | @lst xs1 b1 ws1 q1 q2 =>
                    refine ⟨b1, ws1, rfl, .inl ⟨.inl (.inl (s1.zs _ _ q1)), ?_⟩⟩
                    rw [s.ok.k]
                    exact h1 Z1 m1 H1 _ Ext.refl s1 (fol_en q1 q2)
                  | _ => exact False.elim h1
            · cases h
          · obtain ⟨a, h1, h2⟩ := opt_map h
            cases h2
            exact plain h1
    · exact other (fun x px args pos z => hc ⟨x, px, args, pos, z⟩) h
  e := fun {W lv X sc e ce} s h => by
    cases e with
    | Name x pos => 
      have h1 := pe_name s h
      exact ⟨h1, pt_of h1 fun _ => rfl⟩
    | Constant v k pos =>
      have h1 := pe_const (W := W) (X := X) (p := p) h
      exact ⟨h1, pt_of h1 fun _ => rfl⟩
    | UnaryOp o a pos =>
      cases o with
      | USub =>
        obtain ⟨ca, h1, rfl⟩ := opt_map (show (cE c n sc a).map E.neg = some ce from h)
        have g : PE X (.UnaryOp .USub a pos) (tE p W (.neg ca)) := by
          refine PE.imp (pe_un un_neg (ih.e s h1).1) fun σ H Q q => ?_
          obtain ⟨F, Z, m, S, env, re, sr, h⟩ := q
          refine ⟨F, Z, m, S, env, re, sr, Post.bind h fun d S1 Z1 m1 H1 v _ e1 s1 rd h1 => ?_⟩
          obtain ⟨j, rfl, rfl⟩ : ∃ j, d = .int j ∧ v = .int j := by cases rd <;> first | exact False.elim h1 | exact ⟨_, rfl, rfl⟩
          dsimp only at h1
          rw [frI_eq] at h1
          exact ⟨j, rfl, h1.now s1 (.int _)⟩
        exact ⟨g, pt_of g fun _ => rfl⟩
      | Not =>
        obtain ⟨ca, h1, rfl⟩ := opt_map (show (cE c n sc a).map E.bnot = some ce from h)
        obtain ⟨e1, e2⟩ := ih.e s h1
        constructor
        · refine PE.imp (pe_not e1) fun σ H Q q => ?_
          obtain ⟨F, Z, m, S, env, re, sr, h⟩ := q
          refine ⟨F, Z, m, S, env, re, sr, Post.bind h fun d S1 Z1 m1 H1 v _ e1 s1 rd h1 => ?_⟩
          obtain ⟨k, rfl, rfl⟩ : ∃ k, d = .bl k ∧ v = .bl k := by cases rd <;> first | exact False.elim h1 | exact ⟨_, rfl, rfl⟩
          exact ⟨k, rfl, Post.now (p := p) (T := RD p.K) (d := Mn.D.bl (!k)) h1 s1 (.bl _)⟩
        · refine PT.imp (pt_not e2) fun σ H Q q => ?_
          obtain ⟨F, Z, m, S, env, re, sr, h⟩ := q
          have h : Post p F Z m (fun _ _ (a b : Bool) => a = b) Q (fun cls d H' => W cls d σ H') (((evE p.cl ca env S).bind fun x S1 => match x with
            | .bl k => R.ok (Mn.D.bl (!k)) S1
            | _ => .bad).bind fun x S1 => match x with
            | .bl i => R.ok i S1
            | _ => .bad) := h
          have e3 : (((evE p.cl ca env S).bind fun x S1 => match x with
            | .bl k => R.ok (Mn.D.bl (!k)) S1
            | _ => .bad).bind fun x S1 => match x with
            | .bl i => R.ok i S1
            | _ => .bad) = (evC p.cl (some ca) env S).bind fun k S1 => R.ok (!k) S1 := by
            show _ = ((evE p.cl ca env S).bind fun x S1 => match x with
              | .bl i => R.ok i S1
              | _ => .bad).bind _
            rw [R.bind_assoc, R.bind_assoc]
            congr 1
            funext x S1
            cases x <;> rfl
          rw [e3] at h
          refine ⟨F, Z, m, S, env, re, sr, Post.bind h fun k S1 Z1 m1 H1 v _ e1 s1 rd h1 => ?_⟩
          subst rd
          exact Post.now (p := p) (T := fun _ _ (a b : Bool) => a = b) (d := !k) h1 s1 rfl
      | _ => cases h
    | BinOp a o b pos =>
      replace h : (match (generalizing := false) boOf o, cE c n sc a, cE c n sc b with
        | some o, some a, some b => some (if (isAdd o && c.isCel pos) = true then E.addc a b else E.bin o a b)
        | _, _, _ => none) = some ce := h
      split at h
      · rename_i bo ca cb h1 h2 h3
        have eo := boOf_ok h1
        subst eo
        by_cases hcel : (isAdd bo && c.isCel pos) = true
        · rw [if_pos hcel] at h
          cases h
          obtain rfl : bo = .add := by cases bo <;> first | rfl | (exact absurd hcel (by simp [isAdd]))
          have g : PE X (.BinOp a (opOf .add) b pos) (tE p W (.addc ca cb)) := by
            have gen : PE X (.BinOp a (opOf .add) b pos) (fun σ H Q => tOp (fun v w H Q => ∃ F Z m S x y, SR p.K F Z m S H ∧ RD p.K Z m x v ∧ RD p.K Z m y w ∧ Post p F Z m (RD p.K) Q (fun cls d H' => W cls d σ H') (addcf x y S)) (tE p W ca) (tE p W cb) σ H Q) :=
              ⟨fun pins s0 σ H Q I q => (pe_op (op_addc (p := p) (E := fun cls d H' => W cls d σ H')) (ih.e s h2).1 (ih.e s h3).1).run pins s0 σ H Q I q⟩
            refine PE.imp gen fun σ H Q q => ?_
            obtain ⟨F, Z, m, S, env, re, sr, h⟩ := q
            refine ⟨F, Z, m, S, env, re, sr, Post.bind h fun d S1 Z1 m1 H1 v _ e1 s1 rd h1 => ⟨F, Z1, m1, S1, env, re.mono e1, s1, Post.bind h1 fun d2 S2 Z2 m2 H2 v2 _ e2 s2 rd2 h2 => ?_⟩⟩
            exact ⟨F, Z2, m2, S2, d, d2, s2, rd.mono e2, rd2, h2⟩
          exact ⟨g, pt_of g fun _ => rfl⟩
        rw [if_neg hcel] at h
        cases h
        have g : PE X (.BinOp a (opOf bo) b pos) (tE p W (.bin bo ca cb)) := by
          have gen : PE X (.BinOp a (opOf bo) b pos) (fun σ H Q => tOp (rBop p (fun cls d H' => W cls d σ H') bo) (tE p W ca) (tE p W cb) σ H Q) :=
            ⟨fun pins s0 σ H Q I q => (pe_op (op_bop (E := fun cls d H' => W cls d σ H') s.ok.k bo) (ih.e s h2).1 (ih.e s h3).1).run pins s0 σ H Q I q⟩
          refine PE.imp gen fun σ H Q q => ?_
          obtain ⟨F, Z, m, S, env, re, sr, h⟩ := q
          refine ⟨F, Z, m, S, env, re, sr, Post.bind h fun d S1 Z1 m1 H1 v _ e1 s1 rd h1 => ⟨F, Z1, m1, S1, env, re.mono e1, s1, Post.bind h1 fun d2 S2 Z2 m2 H2 v2 _ e2 s2 rd2 h2 => ?_⟩⟩
          exact ⟨F, Z2, m2, S2, d, d2, s2, rd.mono e2, rd2, h2⟩
        exact ⟨g, pt_of g fun _ => rfl⟩
      · cases h
    | BoolOp o es pos =>
      obtain ⟨h1, h2⟩ := ih.b s (show cB c n sc o es = some ce from h) pos
      exact ⟨h1, h2.pt⟩
    | IfExp t a b pos =>
      have h : (match (generalizing := false) cE c n sc t, cE c n sc a, cE c n sc b with
        | some t, some a, some b => some (E.ife t a b)
        | _, _, _ => none) = some ce := h
      split at h
      · rename_i ct ca cb h1 h2 h3
        cases h
        obtain ⟨a1, a2⟩ := ih.e s h2
        obtain ⟨b1, b2⟩ := ih.e s h3
        constructor
        · refine PE.imp (pe_ifExp (ih.e s h1).2 a1 b1) fun σ H Q q => ?_
          obtain ⟨F, Z, m, S, env, re, sr, h⟩ := q
          have h : Post p F Z m (RD p.K) Q (fun cls d H' => W cls d σ H') ((evE p.cl ct env S).bind fun x S1 => match x with
            | .bl true => evE p.cl ca env S1
            | .bl false => evE p.cl cb env S1
            | _ => .bad) := h
          rw [evC_bind p.cl ct env S fun k S1 => match k with
            | true => evE p.cl ca env S1
            | false => evE p.cl cb env S1] at h
          refine ⟨F, Z, m, S, env, re, sr, Post.bind h fun k S1 Z1 m1 H1 v _ e1 s1 rd h1 => ?_⟩
          subst rd
          cases k with
          | true => exact ⟨F, Z1, m1, S1, env, re.mono e1, s1, h1⟩
          | false => exact ⟨F, Z1, m1, S1, env, re.mono e1, s1, h1⟩
        · refine PT.imp (isTrue_ife (ih.e s h1).2 a2 b2) fun σ H Q q => ?_
          obtain ⟨F, Z, m, S, env, re, sr, h⟩ := q
          have h : Post p F Z m (fun _ _ (a b : Bool) => a = b) Q (fun cls d H' => W cls d σ H') (((evE p.cl ct env S).bind fun x S1 => match x with
            | .bl true => evE p.cl ca env S1
            | .bl false => evE p.cl cb env S1
            | _ => .bad).bind fun x S1 => match x with
            | .bl i => R.ok i S1
            | _ => .bad) := h
          rw [evC_bind p.cl ct env S fun k S1 => match k with
            | true => evE p.cl ca env S1
            | false => evE p.cl cb env S1, R.bind_assoc] at h
          refine ⟨F, Z, m, S, env, re, sr, Post.bind h fun k S1 Z1 m1 H1 v _ e1 s1 rd h1 => ?_⟩
          subst rd
          cases k with
          | true => exact ⟨F, Z1, m1, S1, env, re.mono e1, s1, h1⟩
          | false => exact ⟨F, Z1, m1, S1, env, re.mono e1, s1, h1⟩
      · cases h
    | Tuple es kk pos =>
      obtain ⟨ces, h1, rfl⟩ := opt_map (show (cEs c n sc es).map E.tup = some ce from h)
      have g : PE X (.Tuple es kk pos) (tE p W (.tup ces)) := by
        refine PE.imp (pe_tupK (ih.a s h1)) fun σ H Q q => ?_
        obtain ⟨F, Z, m, S, env, re, sr, h⟩ := q
        refine ⟨F, Z, m, S, env, re, sr, Post.bind h fun ds S1 Z1 m1 H1 vs _ e1 s1 rds h1 => ?_⟩
        split at h1
        · rename_i hl
          refine ⟨by rw [← rds.length]; exact hl, fun a o ha ho => ?_⟩
          exact h1.newZ s1 (fun Z' b e hb => .tup (fun _ => ⟨o, _, hb, ho⟩) (.inl (.inr ⟨o, hb⟩)) (rds.mono e)) a ha
        · exact False.elim h1
      exact ⟨g, pt_of g fun _ => rfl⟩
    | List es pos =>
      obtain ⟨ces, h1, rfl⟩ := opt_map (show (cEs c n sc es).map (E.lst (c.isCel pos)) = some ce from h)
      have g : PE X (.List es pos) (tE p W (.lst (c.isCel pos) ces)) := by
        refine PE.imp (pe_lst (ih.a s h1)) fun σ H Q q => ?_
        obtain ⟨F, Z, m, S, env, re, sr, h⟩ := q
        exact ⟨F, Z, m, S, env, re, sr, Post.bind h fun ds S1 Z1 m1 H1 vs _ e1 s1 rds h1 => h1.newL s1 rds⟩
      exact ⟨g, pt_of g fun _ => rfl⟩
    | Attribute o f pos =>
      have h : (if plainRecv o = true then (cE c n sc o).map (fun o => E.fld (clsF c f) f.cps.toList o) else none) = some ce := h
      split at h
      · rename_i hr
        obtain ⟨co, h1, rfl⟩ := opt_map h
        have g := pe_fldG (pos := pos) (f := f) s hr (ih.e s h1).1
        exact ⟨g, pt_of g fun _ => rfl⟩
      · cases h
    | Subscript a b pos =>
      have gen : (match (generalizing := false) dctOf c sc a with
        | some kvs => (cE c n sc b).map (E.kix kvs)
        | none => (match (generalizing := false) dispOf a with
          | some kvs => (cE c n sc b).map (E.kix kvs)
          | none => (match (generalizing := false) cE c n sc a, cE c n sc b with
            | some a, some b => some (E.ix a b)
            | _, _ => none))) = some ce → PE X (.Subscript a b pos) (tE p W ce) ∧ PT X (.Subscript a b pos) (tT p W ce) := fun h => by
        split at h
        · rename_i kvs hk
          obtain ⟨cb, h1, rfl⟩ := opt_map h
          have g := pe_kix (pos := pos) s hk (ih.e s h1).1 (plainIx_of h1)
          exact ⟨g, pt_of g fun _ => rfl⟩
        · split at h
          · rename_i kvs hk
            obtain ⟨cb, h1, rfl⟩ := opt_map h
            have g := pe_dispG (pos := pos) s hk (ih.e s h1).1 (plainIx_of h1)
            exact ⟨g, pt_of g fun _ => rfl⟩
          split at h
          · rename_i ca cb h1 h2
            cases h
            have g : PE X (.Subscript a b pos) (tE p W (.ix ca cb)) := by
              refine PE.imp (pe_ix (ix_ixf (p := p) s.ok.k) (ih.e s h1).1 (ih.e s h2).1 (plainIx_of h2)) fun σ H Q q => ?_
              obtain ⟨F, Z, m, S, env, re, sr, h⟩ := q
              refine ⟨F, Z, m, S, env, re, sr, Post.bind h fun d S1 Z1 m1 H1 v _ e1 s1 rd h1 => ⟨F, Z1, m1, S1, env, re.mono e1, s1, Post.bind h1 fun d2 S2 Z2 m2 H2 v2 _ e2 s2 rd2 h2 => ?_⟩⟩
              cases e : ixf d d2 S2 with
              | none =>
                rw [e] at h2
                exact False.elim h2
              | some r =>
                rw [e] at h2
                exact ⟨F, Z2, m2, S2, d, d2, r, s2, rd.mono e2, rd2, e, fun u hu => h2.now s2 hu⟩
            exact ⟨g, pt_of g fun _ => rfl⟩
          · cases h
      cases b with
      | Slice lo hi st p2 =>
        cases st with
        | some _ => exact gen h
        | none =>
          have h : (match (generalizing := false) cE c n sc a, cO c n sc lo, cO c n sc hi with
            | some a, some lo, some hi => some (E.slc a lo hi)
            | _, _, _ => none) = some ce := h
          split at h
          · rename_i ca clo chi h1 h2 h3
            cases h
            have g : PE X (.Subscript a (.Slice lo hi none p2) pos) (tE p W (.slc ca clo chi)) := by
              have gen : PE X (.Subscript a (.Slice lo hi none p2) pos) (fun σ H Q => tSl _ (tE p W ca) (tO p W clo) (tO p W chi) σ H Q) :=
                ⟨fun pins s0 σ H Q I q => (pe_slice (sl_cut (p := p) (E := fun cls d H' => W cls d σ H') s.ok.k) (ih.e s h1).1 (ih.o s h2) (ih.o s h3)).run pins s0 σ H Q I q⟩
              refine PE.imp gen fun σ H Q q => ?_
              obtain ⟨F, Z, m, S, env, re, sr, h⟩ := q
              refine ⟨F, Z, m, S, env, re, sr, Post.bind h fun d S1 Z1 m1 H1 v _ e1 s1 rd h1 => ⟨F, Z1, m1, S1, env, re.mono e1, s1, Post.bind h1 fun l S2 Z2 m2 H2 l' _ e2 s2 rl h2 => ?_⟩⟩
              subst rl
              refine ⟨F, Z2, m2, S2, env, (re.mono e1).mono e2, s2, Post.bind h2 fun u S3 Z3 m3 H3 u' _ e3 s3 ru h3 => ?_⟩
              subst ru
              cases e : cutf d l u S3 with
              | none =>
                rw [e] at h3
                exact False.elim h3
              | some r =>
                rw [e] at h3
                exact ⟨F, Z3, m3, S3, d, r, s3, rd.mono (e2.trans e3), e, h3⟩
            exact ⟨g, pt_of g fun _ => rfl⟩
          · cases h
      | _ => exact gen h
    | ListComp elt gens scope pos =>
      cases gens with
      | nil => cases h
      | cons g gs =>
        cases gs with
        | cons g1 gs1 =>
          cases gs1 with
          | cons _ _ => obtain ⟨_, _, _, ⟨_ | _⟩ | _⟩ := g <;> first | cases h | (obtain ⟨_, _, _, ⟨_ | _⟩ | _⟩ := g1 <;> cases h)
          | nil =>
            obtain ⟨tg, iter, ifs, ⟨_ | _⟩ | _⟩ := g <;> first | (cases h; done) | skip
            obtain ⟨tg1, iter1, ifs1, ⟨_ | _⟩ | _⟩ := g1 <;> first | (cases h; done) | skip
            have h : (if (isSet iter || isSet iter1 || !blkC c.N sc scope (ownOf c.N scope)) = true then none else (match (generalizing := false) cT c.N scope n tg, cW c n sc tg iter, cI c n (relS scope sc) ifs, cT c.N scope n tg1, cW c n (relS scope sc) tg1 iter1, cI c n (relS scope sc) ifs1, cE c n (relS scope sc) elt with
              | some t, some (w, its), some cond, some t1, some (w1, its1), some cond1, some e => some (E.comp2 (c.isCel pos) t w its cond t1 w1 its1 cond1 e ((ownOf c.N scope).map (·.2)) (tgSl t1))
              | _, _, _, _, _, _, _ => none)) = some ce := h
            split at h
            · cases h
            · rename_i hb
              split at h
              · rename_i t w its cond t1 w1 its1 cond1 ce2 h1 h2 h3 h4 h5 h6 h7
                cases h
                simp only [Bool.or_eq_true, Bool.not_eq_true', not_or, Bool.not_eq_false, Bool.not_eq_true] at hb
                obtain ⟨⟨b1, b3⟩, b2⟩ := hb
                have hown : ∀ i ∈ tgSl t, i ∈ (ownOf c.N scope).map (·.2) := tgSl_own h1
                have hown1 : ∀ i ∈ tgSl t1, i ∈ (ownOf c.N scope).map (·.2) := tgSl_own h4
                have ok : BlkOk X.N X.env.scope scope (ownOf c.N scope) := by
                  rw [s.n, s.s]
                  exact blkOk_by b2
                have h1 : cT X.N scope n tg = some t := by
                  rw [s.n]
                  exact h1
                have h4 : cT X.N scope n tg1 = some t1 := by
                  rw [s.n]
                  exact h4
                have g : PE X (.ListComp elt [⟨tg, iter, ifs, 0⟩, ⟨tg1, iter1, ifs1, 0⟩] scope pos) (tE p W (.comp2 (c.isCel pos) t w its cond t1 w1 its1 cond1 ce2 ((ownOf c.N scope).map (·.2)) (tgSl t1))) := by
                  refine PE.imp (pe_lc2 (g := tG p t) (tt := tCo p W0 cond) (wi1 := tI p W0 w1 its1) (g1 := tG p t1) (tt1 := tCo p W0 cond1) (te := tE p W0 ce2) (vs1 := tgSl t1) s.ok.calm s.ok.nd (ih.w s h2) ok hown1 (fun s0 H C cl fp => ?_) (fun s0 H C cl fp => ?_) (fun s0 H C cl fp => ?_) (fun s0 H C cl fp => ?_) (fun s0 H C cl fp => ?_) (fun s0 H C cl fp => ?_) (noFold b1 _) (fun env => noFold b3 env)) (lc2_ok hown fun i hi => hi)
                  · exact cT_ok (s.ok.blk ok.kind) blk_sto h1
                  · exact ih.i (blk_sit s ok.kind) h3
                  · exact ih.w (blk_sit s ok.kind) h5
                  · exact cT_ok (s.ok.blk ok.kind) blk_sto h4
                  · exact ih.i (blk_sit s ok.kind) h6
                  · exact (ih.e (blk_sit s ok.kind) h7).1
                exact ⟨g, pt_of g fun _ => rfl⟩
              · cases h
        | nil =>
          obtain ⟨tg, iter, ifs, ⟨_ | _⟩ | _⟩ := g <;> first | (cases h; done) | skip
          · 
            have h : (if (isSet iter || !blkC c.N sc scope (ownOf c.N scope)) = true then none else (match (generalizing := false) cT c.N scope n tg, cW c n sc tg iter, cI c n (relS scope sc) ifs, cE c n (relS scope sc) elt with
              | some t, some (w, its), some cond, some e => some (E.comp (c.isCel pos) t w its cond e ((ownOf c.N scope).map (·.2)))
              | _, _, _, _ => none)) = some ce := h
            split at h
            · cases h
            · rename_i hb
              split at h
              · rename_i t w its cond ce2 h1 h2 h3 h4
                cases h
                simp only [Bool.or_eq_true, Bool.not_eq_true', not_or, Bool.not_eq_false, Bool.not_eq_true] at hb
                obtain ⟨b1, b2⟩ := hb
                have hown : ∀ i ∈ tgSl t, i ∈ (ownOf c.N scope).map (·.2) := tgSl_own h1
                have ok : BlkOk X.N X.env.scope scope (ownOf c.N scope) := by
                  rw [s.n, s.s]
                  exact blkOk_by b2
                have h1 : cT X.N scope n tg = some t := by
                  rw [s.n]
                  exact h1
                have g : PE X (.ListComp elt [⟨tg, iter, ifs, 0⟩] scope pos) (tE p W (.comp (c.isCel pos) t w its cond ce2 ((ownOf c.N scope).map (·.2)))) := by
                  refine PE.imp (pe_lc (g := tG p t) (tt := tCo p W0 cond) (te := tE p W0 ce2) s.ok.calm s.ok.nd (ih.w s h2) ok (fun s0 H C cl fp => ?_) (fun s0 H C cl fp => ?_) (fun s0 H C cl fp => ?_) (noFold b1 _)) (lc_ok hown)
                  · exact cT_ok (s.ok.blk ok.kind) blk_sto h1
                  · exact ih.i (blk_sit s ok.kind) h3
                  · exact (ih.e (blk_sit s ok.kind) h4).1
                exact ⟨g, pt_of g fun _ => rfl⟩
              · cases h
    | Compare a os bs pos =>
      cases os with
      | nil => cases h
      | cons o os =>
        cases bs with
        | nil => cases os <;> first | cases h | (rename_i os; cases os <;> cases h)
        | cons b bs =>
          cases os with
          | nil =>
            cases bs with
            | cons _ _ => cases h
            | nil =>
              have h : (if isSet b = true then none else (match (generalizing := false) dctOf c sc b with
                | some kvs => (match (generalizing := false) o, cE c n sc a with
                  | .In, some a => some (E.kin false kvs a)
                  | .NotIn, some a => some (E.kin true kvs a)
                  | _, _ => none)
                | none => (match (generalizing := false) cE c n sc a, cE c n sc b with
                  | some a, some b => some (E.cmp (coOf o) a b)
                  | _, _ => none))) = some ce := h
              split at h
              · cases h
              · rename_i hb
                replace hb : isSet b = false := by simpa using hb
                split at h
                · rename_i kvs hk
                  split at h
                  · cases h
                    exact pe_kin s (neg := false) rfl hk (ih.e s ‹cE c n sc a = some _›).1
                  · cases h
                    exact pe_kin s (neg := true) rfl hk (ih.e s ‹cE c n sc a = some _›).1
                  · cases h
                split at h
                · rename_i ca cb h1 h2
                  cases h
                  have hop : OpR X (compareOp o) (rCop p (coOf o)) := by
                    have := op_cop (p := p) s.ok.k (by have := s.ok.un; omega) (coOf o)
                    rw [← coOf_ok o] at this
                    exact this
                  have rd : ∀ σ H Q, tE p W (.cmp (coOf o) ca cb) σ H Q → tOp (rCop p (coOf o)) (tE p W ca) (tE p W cb) σ H Q := fun σ H Q q => by
                    obtain ⟨F, Z, m, S, env, re, sr, h⟩ := q
                    refine ⟨F, Z, m, S, env, re, sr, Post.bind h fun d S1 Z1 m1 H1 v _ e1 s1 rd h1 => ⟨F, Z1, m1, S1, env, re.mono e1, s1, Post.bind h1 fun d2 S2 Z2 m2 H2 v2 _ e2 s2 rd2 h2 => ?_⟩⟩
                    obtain ⟨k, e, h3⟩ := Post.of h2
                    exact ⟨F, Z2, m2, S2, d, d2, k, s2, rd.mono e2, rd2, e, Post.now (p := p) (T := RD p.K) (d := Mn.D.bl k) h3 s2 (.bl k)⟩
                  refine ⟨PE.imp (pe_cmpR hop (ih.e s h1).1 (ih.e s h2).1 (noMark hb)) rd, PT.imp (pt_cmpR hop (ih.e s h1).1 (ih.e s h2).1 (noMark hb)) fun σ H Q q => ?_⟩
                  refine rd σ H _ ?_
                  obtain ⟨F, Z, m, S, env, re, sr, h⟩ := q
                  refine ⟨F, Z, m, S, env, re, sr, Post.bind h fun d S1 Z1 m1 H1 v _ e1 s1 rd h1 => ?_⟩
                  obtain ⟨k, rfl, rfl⟩ : ∃ k, d = .bl k ∧ v = .bl k := by cases rd <;> first | exact False.elim h1 | exact ⟨_, rfl, rfl⟩
                  exact ⟨k, rfl, Post.now (p := p) (T := fun _ _ (a b : Bool) => a = b) (d := k) h1 s1 rfl⟩
                · cases h
          | cons o' os =>
            cases os with
            | cons _ _ => cases bs <;> first | cases h | (rename_i bs; cases bs <;> cases h)
            | nil =>
              cases bs with
              | nil => cases h
              | cons d bs =>
                cases bs with
                | cons _ _ => cases h
                | nil =>
                  have h : (if isSet d = true then none else (match (generalizing := false) cE c n sc a, cE c n sc b, cE c n sc d with
                    | some a, some b, some d => some (E.chn (coOf o) (coOf o') a b d)
                    | _, _, _ => none)) = some ce := h
                  split at h
                  · cases h
                  · rename_i hb
                    replace hb : isSet d = false := by simpa using hb
                    split at h
                    · rename_i ca cb cd h1 h2 h3
                      cases h
                      have hop : ∀ o, OpR X (compareOp o) (rCop p (coOf o)) := fun o => by
                        have := op_cop (p := p) s.ok.k (by have := s.ok.un; omega) (coOf o)
                        rw [← coOf_ok o] at this
                        exact this
                      have hm : lastMarks [o, o'] [b, d] = false := by
                        show behindInMarks o' d = false
                        exact noMark hb
                      have rd : ∀ σ H Q, tE p W (.chn (coOf o) (coOf o') ca cb cd) σ H Q → tChain (rCop p (coOf o)) (rCop p (coOf o')) (tE p W ca) (tE p W cb) (tE p W cd) σ H Q := fun σ H Q q => by
                        obtain ⟨F, Z, m, S, env, re, sr, h⟩ := q
                        refine ⟨F, Z, m, S, env, re, sr, Post.bind h fun d S1 Z1 m1 H1 v _ e1 s1 rd h1 => ⟨F, Z1, m1, S1, env, re.mono e1, s1, Post.bind h1 fun d2 S2 Z2 m2 H2 v2 _ e2 s2 rd2 h2 => ?_⟩⟩
                        obtain ⟨k, e, h3⟩ := Post.of h2
                        refine ⟨F, Z2, m2, S2, d, d2, k, s2, rd.mono e2, rd2, e, k, rfl, ?_⟩
                        cases k with
                        | false => exact Post.now (p := p) (T := RD p.K) (d := Mn.D.bl false) h3 s2 (.bl false)
                        | true =>
                          refine ⟨F, Z2, m2, S2, env, (re.mono e1).mono e2, s2, Post.bind h3 fun d3 S3 Z3 m3 H3 v3 _ e3 s3 rd3 h4 => ?_⟩
                          obtain ⟨k, e, h5⟩ := Post.of h4
                          exact ⟨F, Z3, m3, S3, d2, d3, k, s3, rd2.mono e3, rd3, e, Post.now (p := p) (T := RD p.K) (d := Mn.D.bl k) h5 s3 (.bl k)⟩
                      refine ⟨PE.imp (pe_chain (hop o) (hop o') (ih.e s h1).1 (ih.e s h2).1 (ih.e s h3).1 hm) rd, PT.imp (pt_chain (hop o) (hop o') (ih.e s h1).1 (ih.e s h2).1 (ih.e s h3).1 hm) fun σ H Q q => ?_⟩
                      refine rd σ H _ ?_
                      obtain ⟨F, Z, m, S, env, re, sr, h⟩ := q
                      refine ⟨F, Z, m, S, env, re, sr, Post.bind h fun d S1 Z1 m1 H1 v _ e1 s1 rd h1 => ?_⟩
                      obtain ⟨k, rfl, rfl⟩ : ∃ k, d = .bl k ∧ v = .bl k := by cases rd <;> first | exact False.elim h1 | exact ⟨_, rfl, rfl⟩
                      exact ⟨k, rfl, Post.now (p := p) (T := fun _ _ (a b : Bool) => a = b) (d := k) h1 s1 rfl⟩
                    · cases h
    | Call f args kws pos =>
      cases kws with
      | cons _ _ => cases f <;> first | cases h | (cases args <;> first | cases h | (rename_i _ as; cases as <;> cases h))
      | nil =>
        cases f with
        | Name x px =>
          have h : (if okName x = true then (match (generalizing := false) sc.names.lookup x with
            | some .globalImplicit => (match (generalizing := false) c.gl.lookup x with
              | some (.fn i) => (cEs c n sc args).map (E.fn i)
              | some (.obj _ _ (some i)) => if args.isEmpty = true then none else (cEs c n sc args).map (E.mk x.cps.toList i)
              | some _ => none
              | none => if decide (x ∈ c.bl) = true then (match (generalizing := false) args with
                | [a] => (match (generalizing := false) lsOf c sc x a with
                  | some y => (cE c n sc y).map E.lset
                  | none => (match (generalizing := false) biFor x, cE c n sc a with
                    | some b, some a => some (E.bi b (c.isCel pos) a)
                    | _, _ => none))
                | [a, .Name t _] => if (decide (x = ("isinstance" : Str)) && c.isB sc t) = true then (match (generalizing := false) tyFor t, cE c n sc a with
                  | some t, some a => some (E.isi a t)
                  | _, _ => none) else none
                | _ => none) else none)
            | _ => none) else none) = some ce := h
          suffices g : PE X (.Call (.Name x px) args [] pos) (tE p W ce) from ⟨g, pt_of g fun _ => rfl⟩
          split at h
          · rename_i hn
            obtain ⟨n1, n2⟩ := okName_ok hn
            split at h
            · rename_i hl
              have hg : Gl X x := gl_of s hl
              split at h
              · rename_i i hi
                obtain ⟨as, h1, rfl⟩ := opt_map h
                obtain ⟨f, g1, g2, g3⟩ := s.g.fn x i hi
                have g2 : PySem.W.keepIn X.K (.ref f) = true := by
                  rw [s.ok.k]
                  exact g2
                have g3 : FnG X.prog X.w X.K X.mg X.base lv f (spR p (p.cl i)) := by
                  rw [s.ok.k]
                  exact g3
                cases args with
                | nil =>
                  refine PE.imp (pe_fn0 s.ok g3 hg g1 g2 n1) fun σ H Q q => ?_
                  obtain ⟨F, Z, m, S, env, re, sr, h9⟩ := q
                  cases n with
                  | zero => cases h1
                  | succ n =>
                    cases h1
                    exact ⟨F, Z, m, S, [], sr, .nil, h9⟩
                | cons e es =>
                  have hst := stars_of X.env h1
                  have hst1 : starEach (e :: es) X.env = (false, eval e X.env) :: starEach es X.env := by
                    have h3 := h1
                    cases n with
                    | zero => cases h3
                    | succ n =>
                      unfold cEs at h3
                      split at h3
                      · rename_i h4 _
                        exact star_of h4 _ _
                      · cases h3
                  refine PE.imp (pe_fn1 s.ok g3 hg g1 g2 (ih.a s h1) n1 hst1 (noStar pos (tail_stars hst hst1))) fun σ H Q q => ?_
                  obtain ⟨F, Z, m, S, env, re, sr, h⟩ := q
                  exact ⟨F, Z, m, S, env, re, sr, Post.bind h fun ds S1 Z1 m1 H1 vs _ e1 s1 rds h1 => ⟨F, Z1, m1, S1, ds, s1, rds, h1⟩⟩
              · rename_i fs ms i hi
                split at h
                · cases h
                · rename_i hne
                  obtain ⟨as, h1, rfl⟩ := opt_map h
                  cases args with
                  | nil => exact absurd rfl hne
                  | cons e es =>
                    have hst := stars_of X.env h1
                    have hst1 : starEach (e :: es) X.env = (false, eval e X.env) :: starEach es X.env := by
                      have h3 := h1
                      cases n with
                      | zero => cases h3
                      | succ n =>
                        unfold cEs at h3
                        split at h3
                        · rename_i h4 _
                          exact star_of h4 _ _
                        · cases h3
                    exact pe_mkG s hi hg n1 (ih.a s h1) hst1 (noStar pos (tail_stars hst hst1))
              · cases h
              · rename_i hi
                split at h
                · rename_i hb
                  have hm : X.mg x = none := s.g.free x (of_decide_eq_true hb)
                  split at h
                  · rename_i a
                    split at h
                    · rename_i y hy
                      obtain ⟨ca, h2, rfl⟩ := opt_map h
                      unfold lsOf at hy
                      split at hy
                      · rename_i z _ a1 _
                        split at hy
                        · rename_i hz
                          simp only [Bool.and_eq_true, decide_eq_true_eq] at hz
                          cases hy
                          exact pe_lsetG s hz.1 hg hm hz.2.1 hz.2.2 (ih.e s h2).1 (star_of h2)
                        · cases hy
                      · cases hy
                    split at h
                    · rename_i b ca h1 h2
                      cases h
                      exact pe_biF s h1 hg hm n1 (ih.e s h2).1 (star_of h2)
                    · cases h
                  · rename_i a t pt
                    split at h
                    · rename_i hx
                      simp only [Bool.and_eq_true, decide_eq_true_eq] at hx
                      split at h
                      · rename_i ty ca h1 h2
                        cases h
                        exact pe_isT s h1 hx.1 hg hm hx.2 (ih.e s h2).1 (star_of h2)
                      · cases h
                    · cases h
                  · cases h
                · cases h
            · cases h
          · cases h
        | Attribute o m apos =>
          cases args with
          | nil =>
            have h : (if (plainRecv o && decide (m = ("pop" : Str)) && (apos.endLine == pos.line)) = true then (cE c n sc o).map (fun o => E.me .pop o []) else none) = some ce := h
            split at h
            · rename_i hc
              simp only [Bool.and_eq_true, decide_eq_true_eq] at hc
              obtain ⟨co, h1, rfl⟩ := opt_map h
              have g := pe_pop (pos := pos) s hc.1.1 hc.1.2 hc.2 (ih.e s h1).1
              exact ⟨g, pt_of g fun _ => rfl⟩
            · cases h
          | cons a as =>
            have h : (if (plainRecv o && (apos.endLine == pos.line)) = true then (if m = ("get" : Str) then (match (generalizing := false) dctOf c sc o, as with
                | some kvs, [d] => (match (generalizing := false) cE c n sc a, cE c n sc d with
                  | some a, some d => some (E.kget kvs a d)
                  | _, _ => none)
                | _, _ => none)
              else if m = ("count" : Str) then (match (generalizing := false) as, cE c n sc o, cE c n sc a with
                | [], some o, some a => some (E.cnt o a)
                | _, _, _ => none)
              else if m = ("append" : Str) then (match (generalizing := false) as, cE c n sc o, cE c n sc a with
                | [], some o, some a => some (E.me .append o [a])
                | _, _, _ => none)
              else if ((clsM c m).isEmpty || !isNm o || !decide (as.length < 20)) = true then none else (match (generalizing := false) cE c n sc o, cEs c n sc (a :: as) with
                | some o, some as => some (E.mth (clsM c m) m.cps.toList o as)
                | _, _ => none)) else none) = some ce := h
            split at h
            · rename_i hc
              simp only [Bool.and_eq_true] at hc
              split at h
              · rename_i hm
                split at h
                · rename_i kvs d hk _
                  split at h
                  · rename_i ca cd h1 h2
                    cases h
                    have g := pe_kgetG (pos := pos) s hc.1 hm hc.2 hk (ih.e s h1).1 (ih.e s h2).1 (star_of h1) (star_of h2)
                    exact ⟨g, pt_of g fun _ => rfl⟩
                  · cases h
                · cases h
              split at h
              · rename_i hm
                split at h
                · rename_i co ca h1 h2 _
                  cases h
                  have g := pe_cntG (pos := pos) s hc.1 hm hc.2 (ih.e s h1).1 (ih.e s h2).1 (star_of h2)
                  exact ⟨g, pt_of g fun _ => rfl⟩
                · cases h
              split at h
              · rename_i hm
                split at h
                · rename_i co ca h1 h2 h3
                  cases h
                  have g := pe_app (pos := pos) s hc.1 hm hc.2 (ih.e s ‹cE c n sc o = some co›).1 (ih.e s ‹cE c n sc a = some ca›).1 (star_of ‹cE c n sc a = some ca›)
                  exact ⟨g, pt_of g fun _ => rfl⟩
                · cases h
              · split at h
                · cases h
                · rename_i hnm
                  split at h
                  · rename_i co cas h1 h2
                    cases h
                    have hst := stars_of X.env h2
                    have hst1 : starEach (a :: as) X.env = (false, eval a X.env) :: starEach as X.env := by
                      have h3 := h2
                      cases n with
                      | zero => cases h3
                      | succ n =>
                        unfold cEs at h3
                        split at h3
                        · rename_i h4 _
                          exact star_of h4 _ _
                        · cases h3
                    have g : PE X (.Call (.Attribute o m apos) (a :: as) [] pos) (tE p W (.mth (clsM c m) m.cps.toList co cas)) := by
                      have hlen : (a :: as).length < 30 := by
                        have : decide (as.length < 20) = true := by
                          cases q : decide (as.length < 20) with
                          | true => rfl
                          | false => exact absurd (by rw [q]; simp) hnm
                        have := of_decide_eq_true this
                        rw [List.length_cons]
                        omega
                      have hbs : attributeBase o m X.env (eval o X.env) = eval o X.env := by
                        have hr := hc.1
                        cases o <;> first | rfl | cases hr
                      exact pe_mthG s hc.1 hc.2 (ih.e s h1).1 (ih.a s h2) hst1 (noStar pos (tail_stars hst hst1)) (mth_eq hbs hst hlen hc.2)
                    exact ⟨g, pt_of g fun _ => rfl⟩
                  · cases h
            · cases h
        | _ => cases h
    | _ => cases h
theorem snd_all : ∀ n : Nat, Snd p c n
  | 0 => { e := fun _ h => (by cases h), a := fun _ h => (by cases h), o := fun _ h => (by cases h), i := fun _ h => (by cases h), b := fun _ h => (by cases h), w := fun _ h => (by cases h) }
  | n + 1 => snd_step (snd_all n)
end
end Mn

/-! Statements: what their code does. -/
namespace Mn
open PySem PySem.Spec PyProof.Rows L2
/-- what is wanted of a statement's end -/
def PostS (p : Pm) (F Z : Hp) (m : Mp) (D : Ends) (E : WX) : RS → Prop
  | .nx env S => ∀ Z' m' H' σ', Ext Z m Z' m' → SR p.K F Z' m' S H' → RE p.K Z' m' env σ' → D.nx σ' H'
  | .rt d S => ∀ Z' m' H' v, Ext Z m Z' m' → SR p.K F Z' m' S H' → RD p.K Z' m' d v → D.rt v H'
  | .bk env S => ∀ Z' m' H' σ', Ext Z m Z' m' → SR p.K F Z' m' S H' → RE p.K Z' m' env σ' → D.bk σ' H'
  | .ct env S => ∀ Z' m' H' σ', Ext Z m Z' m' → SR p.K F Z' m' S H' → RE p.K Z' m' env σ' → D.ct σ' H'
  | .exc x env S => ∀ Z' m' H' σ' cls d, Ext Z m Z' m' → SR p.K F Z' m' S H' → RE p.K Z' m' env σ' → XRel p.ca x cls d → E cls d σ' H'
  | .bad => False
section
variable {α β : Type} {p : Pm} {F Z Z1 : Hp} {m m1 : Mp} {D : Ends} {E : WX}
theorem PostS.ext {r : RS} (h : PostS p F Z m D E r) (e : Ext Z m Z1 m1) : PostS p F Z1 m1 D E r := by
  cases r with
  | nx env S => exact fun Z' m' H' σ' e' => h Z' m' H' σ' (e.trans e')
  | rt d S => exact fun Z' m' H' σ' e' => h Z' m' H' σ' (e.trans e')
  | bk env S => exact fun Z' m' H' σ' e' => h Z' m' H' σ' (e.trans e')
  | ct env S => exact fun Z' m' H' σ' e' => h Z' m' H' σ' (e.trans e')
  | exc x env S => exact fun Z' m' H' σ' c d e' => h Z' m' H' σ' c d (e.trans e')
  | bad => exact h
theorem PostS.to {T : Hp → Mp → α → β → Prop} {r : R α} {env : Env} {σ : L2.St} {f : α → Sto → RS} {G : β → Hp → Prop} (h : PostS p F Z m D E (r.to env f)) (re : RE p.K Z m env σ)
    (k : ∀ d S1 Z1 m1 H1 v, r = .ok d S1 → Ext Z m Z1 m1 → SR p.K F Z1 m1 S1 H1 → T Z1 m1 d v → PostS p F Z1 m1 D E (f d S1) → G v H1) : Post p F Z m T G (fun cls d H' => E cls d σ H') r := by
  cases r with
  | ok d S =>
    intro Z' m' H' v e s t
    exact k d S Z' m' H' v rfl e s t (PostS.ext (r := f d S) h e)
  | exc x S =>
    intro Z' m' H' cls d e s xr
    exact h Z' m' H' σ cls d e s (re.mono e) xr
  | bad => exact h
theorem PostS.bind {r : RS} {f : Env → Sto → RS} {N : L2.St → Hp → Prop} (h : PostS p F Z m D E (r.bind f))
    (k : ∀ env S1 Z1 m1 H1 σ1, Ext Z m Z1 m1 → SR p.K F Z1 m1 S1 H1 → RE p.K Z1 m1 env σ1 → PostS p F Z1 m1 D E (f env S1) → N σ1 H1) : PostS p F Z m { D with nx := N } E r := by
  cases r with
  | nx env S =>
    intro Z' m' H' σ' e s t
    exact k env S Z' m' H' σ' e s t (PostS.ext (r := f env S) h e)
  | rt d S => exact h
  | bk env S => exact h
  | ct env S => exact h
  | exc x env S => exact h
  | bad => exact h
end
theorem R.to_bind {α γ : Type} (r : R α) (env : Env) (f : α → Sto → R γ) (g : γ → Sto → RS) : (r.bind f).to env g = r.to env fun a S => (f a S).to env g := by cases r <;> rfl
theorem evC_to (cl : Calls) (ce : E) (env env' : Env) (S : Sto) (f : Bool → Sto → RS) :
    ((evE cl ce env S).to env' fun x S1 => match x with
      | .bl true => f true S1
      | .bl false => f false S1
      | _ => .bad) = (evC cl (some ce) env S).to env' f := by
  show _ = ((evE cl ce env S).bind fun x S1 => match x with
      | .bl i => R.ok i S1
      | _ => .bad).to env' f
  rw [R.to_bind]
  congr 1
  funext x S1
  cases x <;> first | rfl | (rename_i b; cases b <;> rfl)
section
variable (p : Pm) (W : WX)
def tS (c : S) : TS := fun D σ H => ∃ F Z m S env, RE p.K Z m env σ ∧ SR p.K F Z m S H ∧ PostS p F Z m D W (exS p.sub p.cl c env S)
def tSs (c : List S) : TS := fun D σ H => ∃ F Z m S env, RE p.K Z m env σ ∧ SR p.K F Z m S H ∧ PostS p F Z m D W (exSs p.sub p.cl c env S)
end
/-- the classes of exceptions -/
structure Exk (p : Pm) (gl : List (Str × GV)) (mg : Str → Option Value) : Prop where
  exc : ∀ x i, gl.lookup x = some (.exc i) → mg x = some (.ref (p.ca i)) ∧ PySem.W.keepIn p.K (.ref (p.ca i)) = true ∧ PySem.W.subIn p.K (.ref (p.ca i)) (.type "BaseException") = some true ∧ PySem.W.typeIn p.K (.ref (p.ca i)) = some (.type "type") ∧
    (∀ j, PySem.W.exmOne p.K (.ref (p.ca j)) (.ref (p.ca i)) = some (p.sub j i)) ∧ (∀ j, PySem.W.kitOne p.K (.ref (p.ca j)) (.ref (p.ca i)) = some (p.sub j i)) ∧
    ∃ (bmB : List Value) (B newId initId : String), ExcBaseFacts B newId initId bmB ∧ PySem.W.excIn p.K (p.ca i) bmB newId = true
  all : ∀ i, ExcC p.K (p.ca i)
/-- where statements stand -/
structure SitS (p : Pm) (c : CS) (W : WX) (lv : Nat) (X : Cx) (sc : Scope) : Prop extends Sit p c W lv X sc where
  po : PassesOwn (model X.prog X.w) X.A X.env X.xe
  st : X.stack = X.env :: X.outer
  fr : X.env.frame = some X.env.locals
  sto : Sto1 sc X
  xk : Exk p c.gl X.mg
theorem SitS.tr {p : Pm} {c : CS} {W W' : WX} {lv : Nat} {X : Cx} {sc : Scope} (s : SitS p c W lv X sc) {pn : List (Addr × Obj)} {xe : Value → Shared → Prop} (tk : Takes (X.tr pn xe) W') (po : PassesOwn (model X.prog X.w) X.A X.env xe) : SitS p c W' lv (X.tr pn xe) sc :=
  ⟨⟨⟨s.ok.k, s.ok.calm, s.ok.nd, s.ok.room, s.ok.gd, tk, s.ok.kind⟩, s.g, s.n, s.s⟩, po, s.st, s.fr, ⟨s.sto.loc, s.sto.cel⟩, s.xk⟩

/-! ### the code of statements -/
def isCompE : Expr → Bool
  | .ListComp .. | .SetComp .. | .DictComp .. => true
  | _ => false
/-- name = [..] : the list of the comprehension itself is stored -/
def lcSame (sc : Scope) (x : Str) (px : Pos) (scope : Scope) (pos : Pos) : Bool := (sc.names.lookup x == some .local) && (px.line == pos.line) && !(scope.names.any fun (n, k) => n == x && (k == .local || k == .cell))
/-- which stores go from the right; none: not told -/
def parN (sc : Scope) (ts vs : List Expr) : Option (Option (List Str)) :=
  if !(ts.length == 2 || ts.length == 3) || vs.length != ts.length then some none
  else if (vs.any fun | .Starred .. => true | _ => false) = true then some none
  else
    let line := (ts.head?.map (·.pos.line)).getD 0
    let names := ts.filterMap fun
      | .Name id pos => if sc.names.lookup id == some .local && pos.line == line then some id else none
      | _ => none
    if (names.length != ts.length || names.eraseDups.length != names.length) = true then some none
    else if vs.all (foldedForSure 8) = true then some none
    else if vs.all (constantsAlone 8) = true then none
    else some (some names)
def isNameE : Expr → Bool
  | .Name .. => true
  | _ => false
section
variable (c : CS) (sc : Scope)
def exI (x : Str) : Option Nat := if okName x then (match sc.names.lookup x with
  | some .globalImplicit => (match c.gl.lookup x with
    | some (.exc i) => some i
    | _ => none)
  | _ => none) else none
def locI (x : Str) : Option Nat := if okName x then (match sc.names.lookup x with
  | some .local => slotOf c.N x
  | some .cell => slotOf c.N x
  | _ => none) else none
def cH : List ExceptHandler → Option (List (Nat × HX))
  | [] => some []
  | .ExceptHandler (some (.Name x _)) none [.Return (some (.Constant v k q)) _] _ :: r => (match exI c sc x, cE c 1 sc (.Constant v k q), cH r with
    | some i, some (E.lit d), some r => some ((i, HX.lit d) :: r)
    | _, _, _ => none)
  | .ExceptHandler (some (.Name x _)) none [.Return (some (.Name y _)) _] _ :: r => (match exI c sc x, locI c sc y, cH r with
    | some i, some v, some r => some ((i, HX.vr v) :: r)
    | _, _, _ => none)
  | _ => none
/-- except x as nm: return f(e, y) -/
def tryAs : List ExceptHandler → Option (Str × Str × Str × Str × Str)
  | [.ExceptHandler (some (.Name x _)) (some nm) [.Return (some (.Call (.Name f _) [.Name e _, .Name y _] [] _)) _] _] => some (x, nm, f, e, y)
  | _ => none
theorem tryAs_ok {hs : List ExceptHandler} {x nm f e y : Str} (h : tryAs hs = some (x, nm, f, e, y)) : ∃ q1 q2 q3 q4 q5 q6 q7, hs = [.ExceptHandler (some (.Name x q1)) (some nm) [.Return (some (.Call (.Name f q2) [.Name e q3, .Name y q4] [] q5)) q6] q7] := by
  unfold tryAs at h
  split at h
  · cases h
    exact ⟨_, _, _, _, _, _, _, rfl⟩
  · cases h
mutual
def cS : Nat → Stmt → Option S
  | 0, _ => none
  | n + 1, s => match s with
    | .Expr e _ => (match e with
      | .Constant (.str _) _ _ => some .pas
      | e => if isCompE e then none else (cE c n sc e).map .ex)
    | .Assign [tg] e _ => (match tg with
      | .Name x px => (match e with
        | .ListComp _ gens scope pos => (match lcSame sc x px scope pos, cT c.N sc n tg, cE c n sc e, gens with
          | true, some (.nm i), some e, [_] => some (.asg (.nm i) e)
          | false, some t, some e, _ => some (.asg t e)
          | _, _, _, _ => none)
        | e => if isCompE e then none else (match cT c.N sc n tg, cE c n sc e with
          | some t, some e => some (.asg t e)
          | _, _ => none))
      | .Attribute o f _ => if isCompE e then none else (match cE c n sc e, cE c n sc o with
        | some e, some o => some (.sfl (clsF c f) f.cps.toList o e)
        | _, _ => none)
      | .Subscript o i _ => (match cE c n sc e, cE c n sc o, cE c n sc i with
        | some e, some o, some i => some (.six o i e)
        | _, _, _ => none)
      | .Tuple ts _ _ => (match e with
        | .Tuple vs _ _ => (match parN sc ts vs with
          | some none => (match cT c.N sc n tg, cE c n sc e with
            | some t, some e => some (.asg t e)
            | _, _ => none)
          | some (some ns) => (match ts, vs with
            | [.Name x _, .Name y _], [_, _] => if ns = [x, y] ∧ sc.names.lookup x = some .local ∧ sc.names.lookup y = some .local then (match slotOf c.N x, slotOf c.N y, cEs c n sc vs with
              | some i, some j, some es => if i = j then none else some (.asg (.tp [.nm i, .nm j]) (.tup es))
              | _, _, _ => none) else none
            | [.Name x _, .Name y _, .Name z _], [_, _, _] => if ns = [x, y, z] ∧ sc.names.lookup x = some .local ∧ sc.names.lookup y = some .local ∧ sc.names.lookup z = some .local then (match slotOf c.N x, slotOf c.N y, slotOf c.N z, cEs c n sc vs with
              | some i, some j, some l, some es => if i = j ∨ i = l ∨ j = l then none else some (.asg (.tp [.nm i, .nm j, .nm l]) (.tup es))
              | _, _, _, _ => none) else none
            | _, _ => none)
          | none => none)
        | e => (match cT c.N sc n tg, cE c n sc e with
          | some t, some e => some (.asg t e)
          | _, _ => none))
      | _ => none)
    | .AugAssign (.Name x _) o e _ => (match locI c sc x, boOf o, cE c n sc e with
      | some i, some o, some e => some (.aug i o e)
      | _, _, _ => none)
    | .If t a b _ => (match cE c n sc t, cSs n a, cSs n b with
      | some t, some a, some b => some (.ifs t a b)
      | _, _, _ => none)
    | .For tg iter body [] _ => if isSet iter then none else (match cT c.N sc n tg, cW c n sc tg iter, cSs n body with
      | some t, some (w, its), some b => some (.forr t w its b)
      | _, _, _ => none)
    | .While t body [] _ => (match cE c n sc t, cSs n body with
      | some t, some b => some (.whl 100000 t b)
      | _, _ => none)
    | .Return none _ => some .retn
    | .Return (some e) _ => (cE c n sc e).map .ret
    | .Break _ => some .brk
    | .Continue _ => some .cnt
    | .Pass _ => some .pas
    | .Raise (some (.Call (.Name x _) [.Constant (.str _) _ _] [] _)) none _ => (exI c sc x).map .rais
    | .Try body hs [] [] _ => (match tryAs hs with
      | some (x, nm, f, e, y) => if decide (f = ("isinstance" : Str)) && c.isB sc f && decide (e = nm) && okName nm && decide (sc.names.lookup nm = some .local) then (match exI c sc x, exI c sc y, slotOf c.N nm, cSs n body with
        | some i, some j, some sl, some b => some (.tryo b [(i, .isx sl j)])
        | _, _, _, _ => none) else none
      | none => (match hs, cSs n body, cH c sc hs with
        | _ :: _, some b, some h => some (.tryo b h)
        | _, _, _ => none))
    | _ => none
def cSs : Nat → List Stmt → Option (List S)
  | 0, _ => none
  | _ + 1, [] => some []
  | n + 1, s :: ss => match cSs n ss with
    | some ss => some ((match cS n s with
      | some s => s
      | none => .bad) :: ss)
    | none => none
end
end
end Mn

/-! Statements: the theorem. -/
namespace Mn
open PySem PySem.Spec PyProof.Rows L2
section
variable {p : Pm} {c : CS} {W : WX} {lv : Nat} {X : Cx} {sc : Scope}
theorem rd_asg {t : Tg} {e : E} : ∀ D σ H, tS p W (.asg t e) D σ H → tAsg (tE p W e) (tG p t) D σ H := fun D σ H q => by
  obtain ⟨F, Z, m, S, env, re, sr, h⟩ := q
  refine ⟨F, Z, m, S, env, re, sr, PostS.to h re fun d S1 Z1 m1 H1 v _ e1 s1 rd h1 => ?_⟩
  cases hb : bindT t d env with
  | none =>
    rw [hb] at h1
    exact False.elim h1
  | some env' =>
    rw [hb] at h1
    exact ⟨F, Z1, m1, S1, env, d, env', re.mono e1, s1, rd, hb, fun σ' re' _ => h1 _ _ _ _ Ext.refl s1 re'⟩
theorem rd_asgN {i : Nat} {e : E} {t : TE} (hi : i < X.N.length) (k : ∀ σ H Q, tE p W e σ H Q → t σ H Q) : ∀ D σ H, tS p W (.asg (.nm i) e) D σ H → tAsg t (gName i) D σ H := fun D σ H q => by
  refine k σ H _ ?_
  obtain ⟨F, Z, m, S, env, re, sr, h⟩ := q
  refine ⟨F, Z, m, S, env, re, sr, PostS.to h re fun d S1 Z1 m1 H1 v _ e1 s1 rd h1 => ?_⟩
  have h2 : PostS p F Z1 m1 D W (match (if i < env.length then frL (env.set i (some d)) some else none : Option Env) with
    | some env' => .nx env' S1
    | none => .bad) := h1
  split at h2
  · rename_i env' he
    split at he
    · rw [frL_eq] at he
      cases he
      exact h2 _ _ _ _ Ext.refl s1 ((re.mono e1).set i rd)
    · cases he
  · exact False.elim h2
theorem sw_plain {e : Expr} {t : Option Expr} {l : Nat} {env : PySem.Env} (h : isCompE e = false) : swapsWith e t l env = pure false := by
  cases e <;> first | rfl | cases h
theorem sw_tg {e t : Expr} {l : Nat} {env : PySem.Env} (h : isNameE t = false) : swapsWith e (some t) l env = pure false := by
  cases e <;> first | rfl | (cases t <;> first | rfl | cases h)
theorem sw_lc {elt : Expr} {gs : List Comprehension} {scope : Scope} {pos px : Pos} {x : Str} {l : Nat} {env : PySem.Env} (hk : env.scope.kind = .function) : swapsWith (.ListComp elt gs scope pos) (some (.Name x px)) l env = pure (lcSame env.scope x px scope pos) := by
  have hb : env.blockKind = .function := by unfold PySem.Env.blockKind; rw [hk]; rfl
  have ky : env.kindOf x = env.scope.names.lookup x := rfl
  unfold swapsWith lcSame
  simp only [hb, ky, Expr.pos]
  rfl
theorem sws_one {t e : Expr} {l : Nat} {env : PySem.Env} : swapsWithSole [t] e l env = swapsWith e (some t) l env := rfl
theorem par_eq {ts vs : List Expr} {kt : Nat} {pt : Pos} {k2 : Nat} {pt2 : Pos} {env : PySem.Env} {r : Option (List Str)} (hk : env.scope.kind = .function) (h : parN env.scope ts vs = some r) : swappedStores [.Tuple ts kt pt] (.Tuple vs k2 pt2) env = pure r := by
  have hb : (env.blockKind != .function) = false := by unfold PySem.Env.blockKind; rw [hk]; rfl
  have ky : ∀ x, env.kindOf x = env.scope.names.lookup x := fun _ => rfl
  unfold parN at h
  unfold swappedStores
  simp only [hb, ky, Bool.or_false]
  split at h
  · rename_i h1
    cases h
    split
    · rfl
    · rename_i g
      exact absurd h1 g
  · rename_i h1
    split
    · rename_i g
      exact absurd g h1
    · split at h
      · rename_i h2
        cases h
        split
        · rfl
        · rename_i g
          exact absurd h2 g
      · rename_i h2
        dsimp only at h
        split
        · rename_i g
          exact absurd g h2
        · split at h
          · rename_i h3
            cases h
            split
            · rfl
            · rename_i g
              exact absurd h3 g
          · rename_i h3
            split
            · rename_i g
              exact absurd g h3
            · split at h
              · rename_i h4
                cases h
                split
                · rfl
                · rename_i g
                  exact absurd h4 g
              · rename_i h4
                split
                · rename_i g
                  exact absurd g h4
                · split at h
                  · cases h
                  · rename_i h5
                    cases h
                    split
                    · rename_i g
                      exact absurd g h5
                    · rfl

theorem lc_inv {elt : Expr} {gens : List Comprehension} {scope : Scope} {pos : Pos} {n : Nat} {ce : E} (hg1 : gens.length = 1) (h : cE c (n + 1) sc (.ListComp elt gens scope pos) = some ce) : ∃ tg iter ifs t w its cond ce2, gens = [⟨tg, iter, ifs, 0⟩] ∧ ce = .comp (c.isCel pos) t w its cond ce2 ((ownOf c.N scope).map (·.2)) ∧ isSet iter = false ∧ blkC c.N sc scope (ownOf c.N scope) = true ∧
    cT c.N scope n tg = some t ∧ cW c n sc tg iter = some (w, its) ∧ cI c n (relS scope sc) ifs = some cond ∧ cE c n (relS scope sc) elt = some ce2 := by
  cases gens with
  | nil => cases h
  | cons g gs =>
    cases gs with
    | cons _ _ => simp at hg1
    | nil =>
      obtain ⟨tg, iter, ifs, ⟨_ | _⟩ | _⟩ := g <;> first | (cases h; done) | skip
      have h : (if (isSet iter || !blkC c.N sc scope (ownOf c.N scope)) = true then none else (match (generalizing := false) cT c.N scope n tg, cW c n sc tg iter, cI c n (relS scope sc) ifs, cE c n (relS scope sc) elt with
        | some t, some (w, its), some cond, some e => some (E.comp (c.isCel pos) t w its cond e ((ownOf c.N scope).map (·.2)))
        | _, _, _, _ => none)) = some ce := h
      split at h
      · cases h
      · rename_i hb
        split at h
        · rename_i t w its cond ce2 h1 h2 h3 h4
          cases h
          simp only [Bool.or_eq_true, Bool.not_eq_true', not_or, Bool.not_eq_false, Bool.not_eq_true] at hb
          exact ⟨tg, iter, ifs, t, w, its, cond, ce2, rfl, rfl, hb.1, hb.2, h1, h2, h3, h4⟩
        · cases h
theorem exI_ok (s : SitS p c W lv X sc) {x : Str} {i : Nat} (h : exI c sc x = some i) : Gl X x ∧ (x == ("__debug__" : Str)) = false ∧ c.gl.lookup x = some (.exc i) := by
  unfold exI at h
  split at h
  · rename_i hn
    split at h
    · rename_i hl
      split at h
      · rename_i i' he
        cases h
        exact ⟨gl_of s.toSit hl, (okName_ok hn).1, he⟩
      · cases h
    · cases h
  · cases h
theorem locI_ok (s : SitS p c W lv X sc) {x : Str} {i : Nat} (h : locI c sc x = some i) : X.N[i]? = some x ∧ Loc X.env.scope x ∧ (X.fn x = true ∨ X.env.scope.names.lookup x = some .local) ∧ (x == ("__debug__" : Str)) = false ∧ (x == ("__classdict__" : Str)) = false := by
  unfold locI at h
  split at h
  · rename_i hn
    obtain ⟨n1, n2⟩ := okName_ok hn
    split at h
    · rename_i hl
      refine ⟨?_, .inl (s.sto.loc x hl), .inr (s.sto.loc x hl), n1, n2⟩
      rw [s.n]
      exact slotOf_ok h
    · rename_i hl
      refine ⟨?_, .inr (s.sto.cel x hl).1, .inl (s.sto.cel x hl).2, n1, n2⟩
      rw [s.n]
      exact slotOf_ok h
    · cases h
  · cases h
theorem Loc.vis {sc : Scope} {x : Str} (h : Loc sc x) : Vis sc x := h.elim .inl fun h => .inr (.inl h)
theorem Exk.names (s : SitS p c W lv X sc) {x : Str} {i : Nat} (h : exI c sc x = some i) : Names X x (.ref (p.ca i)) := by
  obtain ⟨h1, h2, h3⟩ := exI_ok s h
  exact ⟨h1, h2, .inl (s.xk.exc x i h3).1⟩
/-! ### loops -/
theorem rd_for {t : Tg} {w : Wt} {its : List E} {b : List S} : ∀ D σ H, tS p W (.forr t w its b) D σ H → tFor (tI p W w its) (tG p t) (tSs p W b) D σ H := fun D σ H q => by
  obtain ⟨F, Z, m, S, env, re, sr, h⟩ := q
  have h : PostS p F Z m D W ((evEs p.cl its env S).to env fun ws S0 => (R.of S0 (walk w ws)).to env fun xs S1 => forL (fun x env1 S2 => match bindT t x env1 with
    | some env2 => exSs p.sub p.cl b env2 S2
    | none => .bad) xs env S1) := h
  rw [← R.to_bind] at h
  generalize hf : (fun (x : Mn.D) (env1 : Env) (S2 : Sto) => (match bindT t x env1 with
    | some env2 => exSs p.sub p.cl b env2 S2
    | none => .bad : RS)) = f at h
  refine ⟨F, Z, m, S, env, re, sr, PostS.to h re fun xs S1 Z1 m1 H1 J _ e1 sr1 fol h1 => ?_⟩
  refine ⟨fun i n σ H => n = xs.length - i ∧ i ≤ xs.length ∧ ∃ Zi mi Si envi, Ext Z1 m1 Zi mi ∧ RE p.K Zi mi envi σ ∧ SR p.K F Zi mi Si H ∧ PostS p F Zi mi D W (forL f (xs.drop i) envi Si), ⟨_, rfl, Nat.zero_le _, Z1, m1, S1, env, Ext.refl, re.mono e1, sr1, h1⟩, ?_⟩
  rintro i n σ2 H2 ⟨rfl, hi2, Zi, mi, Si, envi, ei, rei, sri, hP⟩
  obtain ⟨f1, f2⟩ := fol.mono ei i H2 sri.zs
  by_cases hl : i < xs.length
  · have hx : xs[i]? = some xs[i] := List.getElem?_eq_getElem hl
    obtain ⟨go, yl⟩ := f1 _ hx
    refine .inr ⟨go, fun σ' H' => _, fun σ' H' hN => ⟨xs.length - (i + 1), by omega, hN⟩, fun x H3 y => ?_⟩
    obtain ⟨Z2, e2, sr2, rd2⟩ : ∃ Z2, Ext Zi mi Z2 mi ∧ SR p.K F Z2 mi Si H3 ∧ RD p.K Z2 mi xs[i] x := by
      rcases yl x H3 y with ⟨rfl, rd⟩ | ⟨T, vs, es, hT, rfl, e3, rds, rfl⟩
      · exact ⟨Zi, Ext.refl, sri, rd⟩
      · obtain ⟨s2, x2⟩ := sri.newZ (.tup vs) hT
        rw [e3]
        exact ⟨_, x2, s2, .tup (fun z => Bool.noConfusion z) (.inl (.inl upd_same)) (rds.mono x2)⟩
    have hP2 := PostS.ext hP e2
    rw [List.drop_eq_getElem_cons hl] at hP2
    have hP3 : PostS p F Z2 mi D W (match f xs[i] envi Si with
      | .nx env' S' => forL f (xs.drop (i + 1)) env' S'
      | .ct env' S' => forL f (xs.drop (i + 1)) env' S'
      | .bk env' S' => .nx env' S'
      | r => r) := hP2
    cases hb : bindT t xs[i] envi with
    | none =>
      have e : f xs[i] envi Si = .bad := by
        rw [← hf]
        dsimp only
        rw [hb]
      rw [e] at hP3
      exact False.elim hP3
    | some env' =>
      have e : f xs[i] envi Si = exSs p.sub p.cl b env' Si := by
        rw [← hf]
        dsimp only
        rw [hb]
      rw [e] at hP3
      refine ⟨F, Z2, mi, Si, envi, xs[i], env', rei.mono e2, sr2, rd2, hb, fun σ2 re2 _ => ⟨F, Z2, mi, Si, env', re2, sr2, ?_⟩⟩
      generalize exSs p.sub p.cl b env' Si = r at hP3 ⊢
      cases r with
      | nx env3 S3 =>
        intro Z3 m3 H4 σ4 e3 sr3 re3
        exact ⟨rfl, by omega, Z3, m3, S3, env3, ei.trans (e2.trans e3), re3, sr3, PostS.ext hP3 e3⟩
      | ct env3 S3 =>
        intro Z3 m3 H4 σ4 e3 sr3 re3
        exact ⟨rfl, by omega, Z3, m3, S3, env3, ei.trans (e2.trans e3), re3, sr3, PostS.ext hP3 e3⟩
      | bk env3 S3 => exact hP3
      | rt d S3 => exact hP3
      | exc x env3 S3 => exact hP3
      | bad => exact hP3
  · have hi3 : i = xs.length := by omega
    refine .inl ⟨f2 (by omega), ?_⟩
    rw [hi3, List.drop_length] at hP
    exact hP _ _ _ _ Ext.refl sri rei
theorem rd_whl {n : Nat} {e : E} {b : List S} : ∀ D σ H, tS p W (.whl n e b) D σ H → tWhile (tT p W e) (tSs p W b) D σ H := fun D σ H q => by
  obtain ⟨F, Z, m, S, env, re, sr, h⟩ := q
  have h : PostS p F Z m D W (whL (fun env1 S1 => evC p.cl (some e) env1 S1) (fun env1 S1 => exSs p.sub p.cl b env1 S1) n env S) := h
  refine ⟨fun k σ H => ∃ Zi mi Si envi, RE p.K Zi mi envi σ ∧ SR p.K F Zi mi Si H ∧ PostS p F Zi mi D W (whL (fun env1 S1 => evC p.cl (some e) env1 S1) (fun env1 S1 => exSs p.sub p.cl b env1 S1) k envi Si), ⟨n, Z, m, S, env, re, sr, h⟩, ?_⟩
  rintro k σ1 H1 ⟨Zi, mi, Si, envi, rei, sri, hP⟩
  cases k with
  | zero => exact False.elim hP
  | succ k =>
    have hP : PostS p F Zi mi D W ((evC p.cl (some e) envi Si).to envi fun k' S1 => match k' with
      | true => (match exSs p.sub p.cl b envi S1 with
        | .nx env' S' => whL (fun env1 S1 => evC p.cl (some e) env1 S1) (fun env1 S1 => exSs p.sub p.cl b env1 S1) k env' S'
        | .ct env' S' => whL (fun env1 S1 => evC p.cl (some e) env1 S1) (fun env1 S1 => exSs p.sub p.cl b env1 S1) k env' S'
        | .bk env' S' => .nx env' S'
        | r => r)
      | false => .nx envi S1) := hP
    refine ⟨F, Zi, mi, Si, envi, rei, sri, PostS.to hP rei fun d S1 Z1 m1 H1 v _ e1 s1 rd h1 => ?_⟩
    subst rd
    cases d with
    | false => exact h1 _ _ _ _ Ext.refl s1 (rei.mono e1)
    | true =>
      refine ⟨fun σ' H' => ∃ Zi mi Si envi, RE p.K Zi mi envi σ' ∧ SR p.K F Zi mi Si H' ∧ PostS p F Zi mi D W (whL (fun env1 S1 => evC p.cl (some e) env1 S1) (fun env1 S1 => exSs p.sub p.cl b env1 S1) k envi Si), fun σ' H' q => ⟨k, Nat.lt_succ_self k, q⟩, F, Z1, m1, S1, envi, rei.mono e1, s1, ?_⟩
      dsimp only at h1
      generalize exSs p.sub p.cl b envi S1 = r at h1 ⊢
      cases r with
      | nx env3 S3 =>
        intro Z3 m3 H4 σ4 e3 sr3 re3
        exact ⟨Z3, m3, S3, env3, re3, sr3, PostS.ext h1 e3⟩
      | ct env3 S3 =>
        intro Z3 m3 H4 σ4 e3 sr3 re3
        exact ⟨Z3, m3, S3, env3, re3, sr3, PostS.ext h1 e3⟩
      | bk env3 S3 => exact h1
      | rt d S3 => exact h1
      | exc x env3 S3 => exact h1
      | bad => exact h1
end
end Mn

/-! Statements: all forms. -/
namespace Mn
open PySem PySem.Spec PyProof.Rows L2
structure SndS (p : Pm) (c : CS) (n : Nat) : Prop where
  s : ∀ {W : WX} {lv : Nat} {X : Cx} {sc : Scope} {e : Stmt} {ce : S}, SitS p c W lv X sc → cS c sc n e = some ce → PS X e (tS p W ce)
  ss : ∀ {W : WX} {lv : Nat} {X : Cx} {sc : Scope} {e : List Stmt} {ce : List S}, SitS p c W lv X sc → cSs c sc n e = some ce → PSs X e (tSs p W ce)
section
variable {p : Pm} {c : CS} {W : WX} {lv : Nat} {X : Cx} {sc : Scope}
theorem rd_ex {e : E} : ∀ D σ H, tS p W (.ex e) D σ H → tDrop (tE p W e) D σ H := fun D σ H q => by
  obtain ⟨F, Z, m, S, env, re, sr, h⟩ := q
  exact ⟨F, Z, m, S, env, re, sr, PostS.to h re fun d S1 Z1 m1 H1 v _ e1 s1 rd h1 => h1 _ _ _ _ Ext.refl s1 (re.mono e1)⟩
theorem rd_ret {e : E} : ∀ D σ H, tS p W (.ret e) D σ H → tRet (tE p W e) D σ H := fun D σ H q => by
  obtain ⟨F, Z, m, S, env, re, sr, h⟩ := q
  exact ⟨F, Z, m, S, env, re, sr, PostS.to h re fun d S1 Z1 m1 H1 v _ e1 s1 rd h1 => h1 _ _ _ _ Ext.refl s1 rd⟩
theorem rd_pas {D : Ends} {σ : L2.St} {H : Hp} (q : tS p W .pas D σ H) : D.nx σ H := by
  obtain ⟨F, Z, m, S, env, re, sr, h⟩ := q
  exact h _ _ _ _ Ext.refl sr re
theorem rd_if {e : E} {a b : List S} : ∀ D σ H, tS p W (.ifs e a b) D σ H → tIfS (tT p W e) (tSs p W a) (tSs p W b) D σ H := fun D σ H q => by
  obtain ⟨F, Z, m, S, env, re, sr, h⟩ := q
  have h : PostS p F Z m D W ((evE p.cl e env S).to env fun x S1 => match x with
    | .bl true => exSs p.sub p.cl a env S1
    | .bl false => exSs p.sub p.cl b env S1
    | _ => .bad) := h
  have e3 : ((evE p.cl e env S).to env fun x S1 => match x with
    | .bl true => exSs p.sub p.cl a env S1
    | .bl false => exSs p.sub p.cl b env S1
    | _ => .bad) = (evC p.cl (some e) env S).to env fun k S1 => match k with
    | true => exSs p.sub p.cl a env S1
    | false => exSs p.sub p.cl b env S1 := evC_to p.cl e env env S fun k S1 => match k with
    | true => exSs p.sub p.cl a env S1
    | false => exSs p.sub p.cl b env S1
  rw [e3] at h
  refine ⟨F, Z, m, S, env, re, sr, PostS.to h re fun k S1 Z1 m1 H1 v _ e1 s1 rd h1 => ?_⟩
  subst rd
  cases k with
  | true => exact ⟨F, Z1, m1, S1, env, re.mono e1, s1, h1⟩
  | false => exact ⟨F, Z1, m1, S1, env, re.mono e1, s1, h1⟩
theorem rd_aug {i : Nat} {o : BO} {e : E} : ∀ D σ H, tS p W (.aug i o e) D σ H → tAug i (tE p W e) (fun v w H Q => ∃ F Z m S x y, SR p.K F Z m S H ∧ RD p.K Z m x v ∧ RD p.K Z m y w ∧ Post p F Z m (RD p.K) Q (fun cls d H' => W cls d σ H') (iop o x y S)) D σ H := fun D σ H q => by
  obtain ⟨F, Z, m, S, env, re, sr, h⟩ := q
  have h : PostS p F Z m D W (match env[i]? with
    | some (some x) => (evE p.cl e env S).to env fun y S1 => (iop o x y S1).to env fun z S2 => frL (env.set i (some z)) fun e2 => .nx e2 S2
    | _ => .bad) := h
  split at h
  · rename_i x hx
    obtain ⟨v, h1, h2⟩ := re.2 i x hx
    refine ⟨v, h1, F, Z, m, S, env, re, sr, PostS.to h re fun y S1 Z1 m1 H1 w _ e1 s1 rd h3 => ⟨F, Z1, m1, S1, x, y, s1, h2.mono e1, rd, PostS.to h3 (re.mono e1) fun z S2 Z2 m2 H2 u _ e2 s2 rd2 h4 => ?_⟩⟩
    rw [frL_eq] at h4
    exact h4 _ _ _ _ Ext.refl s2 (((re.mono e1).mono e2).set i rd2)
  · exact False.elim h
theorem rd_six {o i e : E} : ∀ D σ H, tS p W (.six o i e) D σ H → tAsg (tE p W e) (gSub (tE p W o) (tE p W i) (fun o i v H Q => ∃ F Z m S x y d S', SR p.K F Z m S H ∧ RD p.K Z m x o ∧ RD p.K Z m y i ∧ RD p.K Z m d v ∧ sixf x y d S = some S' ∧ ∀ H', SR p.K F Z m S' H' → Q H')) D σ H := fun D σ H q => by
  obtain ⟨F, Z, m, S, env, re, sr, h⟩ := q
  refine ⟨F, Z, m, S, env, re, sr, PostS.to h re fun d S1 Z1 m1 H1 v _ e1 s1 rd h1 => ⟨F, Z1, m1, S1, env, re.mono e1, s1, PostS.to h1 (re.mono e1) fun x S2 Z2 m2 H2 ov _ e2 s2 rx h2 => ⟨F, Z2, m2, S2, env, (re.mono e1).mono e2, s2, PostS.to h2 ((re.mono e1).mono e2) fun y S3 Z3 m3 H3 iv _ e3 s3 ry h3 => ?_⟩⟩⟩
  cases hs : sixf x y d S3 with
  | none =>
    rw [hs] at h3
    exact False.elim h3
  | some S4 =>
    rw [hs] at h3
    exact ⟨F, Z3, m3, S3, x, y, d, S4, s3, rx.mono e3, ry, rd.mono (e2.trans e3), hs, fun H' s4 => h3 _ _ _ _ Ext.refl s4 (((re.mono e1).mono e2).mono e3)⟩
theorem rd_par {i j : Nat} {es : List E} : ∀ D σ H, tS p W (.asg (.tp [.nm i, .nm j]) (.tup es)) D σ H → tPar i j (tA p W es) D σ H := fun D σ H q => by
  obtain ⟨F, Z, m, S, env, re, sr, h⟩ := q
  have h : PostS p F Z m D W (((evEs p.cl es env S).bind fun xs S1 => if xs.length ≤ line then R.ok (Mn.D.tup true xs) S1 else .bad).to env fun d S1 => match bindT (.tp [.nm i, .nm j]) d env with
    | some env' => RS.nx env' S1
    | none => .bad) := h
  rw [R.to_bind] at h
  refine ⟨F, Z, m, S, env, re, sr, PostS.to h re fun xs S1 Z1 m1 H1 vs _ e1 s1 rds h1 => ?_⟩
  split at h1
  · have h2 : PostS p F Z1 m1 D W (match bindT (.tp [.nm i, .nm j]) (.tup true xs) env with
      | some env' => RS.nx env' S1
      | none => .bad) := h1
    cases hb : bindT (.tp [.nm i, .nm j]) (.tup true xs) env with
    | none =>
      rw [hb] at h2
      exact False.elim h2
    | some env' =>
      rw [hb] at h2
      cases rds with
      | nil => cases hb
      | @cons d1 v1 _ _ r1 rs =>
        have hb : (match (if i < env.length then frL (env.set i (some d1)) some else none : Option Env) with
          | some env2 => bindT.bindTs [.nm j] _ env2
          | none => none) = some env' := hb
        rw [frL_eq] at hb
        split at hb
        · rename_i env2 he
          split at he
          · cases he
            cases rs with
            | nil => cases hb
            | @cons d2 v2 _ _ r2 rs =>
              have hb : (match (if j < (env.set i (some d1)).length then frL ((env.set i (some d1)).set j (some d2)) some else none : Option Env) with
                | some env2 => bindT.bindTs [] _ env2
                | none => none) = some env' := hb
              rw [frL_eq] at hb
              split at hb
              · rename_i env3 he
                split at he
                · cases he
                  cases rs with
                  | cons _ _ => cases hb
                  | nil =>
                    cases hb
                    exact ⟨v1, v2, rfl, h2 _ _ _ _ Ext.refl s1 (((re.mono e1).set i r1).set j r2)⟩
                · cases he
              · cases hb
          · cases he
        · cases hb
  · exact False.elim h1
theorem rd_par3 {i j l : Nat} {es : List E} : ∀ D σ H, tS p W (.asg (.tp [.nm i, .nm j, .nm l]) (.tup es)) D σ H → tPar3 i j l (tA p W es) D σ H := fun D σ H q => by
  obtain ⟨F, Z, m, S, env, re, sr, h⟩ := q
  have h : PostS p F Z m D W (((evEs p.cl es env S).bind fun xs S1 => if xs.length ≤ line then R.ok (Mn.D.tup true xs) S1 else .bad).to env fun d S1 => match bindT (.tp [.nm i, .nm j, .nm l]) d env with
    | some env' => RS.nx env' S1
    | none => .bad) := h
  rw [R.to_bind] at h
  refine ⟨F, Z, m, S, env, re, sr, PostS.to h re fun xs S1 Z1 m1 H1 vs _ e1 s1 rds h1 => ?_⟩
  split at h1
  · have h2 : PostS p F Z1 m1 D W (match bindT (.tp [.nm i, .nm j, .nm l]) (.tup true xs) env with
      | some env' => RS.nx env' S1
      | none => .bad) := h1
    cases hb : bindT (.tp [.nm i, .nm j, .nm l]) (.tup true xs) env with
    | none =>
      rw [hb] at h2
      exact False.elim h2
    | some env' =>
      rw [hb] at h2
      cases rds with
      | nil => cases hb
      | @cons d1 v1 _ _ r1 rs =>
        have hb : (match (if i < env.length then frL (env.set i (some d1)) some else none : Option Env) with
          | some env2 => bindT.bindTs [.nm j, .nm l] _ env2
          | none => none) = some env' := hb
        rw [frL_eq] at hb
        split at hb
        · rename_i env2 he
          split at he
          · cases he
            cases rs with
            | nil => cases hb
            | @cons d2 v2 _ _ r2 rs =>
              have hb : (match (if j < (env.set i (some d1)).length then frL ((env.set i (some d1)).set j (some d2)) some else none : Option Env) with
                | some env2 => bindT.bindTs [.nm l] _ env2
                | none => none) = some env' := hb
              rw [frL_eq] at hb
              split at hb
              · rename_i env3 he
                split at he
                · cases he
                  cases rs with
                  | nil => cases hb
                  | @cons d3 v3 _ _ r3 rs =>
                    have hb : (match (if l < ((env.set i (some d1)).set j (some d2)).length then frL (((env.set i (some d1)).set j (some d2)).set l (some d3)) some else none : Option Env) with
                      | some env2 => bindT.bindTs [] _ env2
                      | none => none) = some env' := hb
                    rw [frL_eq] at hb
                    split at hb
                    · rename_i env4 he
                      split at he
                      · cases he
                        cases rs with
                        | cons _ _ => cases hb
                        | nil =>
                          cases hb
                          exact ⟨v1, v2, v3, rfl, h2 _ _ _ _ Ext.refl s1 ((((re.mono e1).set i r1).set j r2).set l r3)⟩
                      · cases he
                    · cases hb
                · cases he
              · cases hb
          · cases he
        · cases hb
  · exact False.elim h1

/-! ### except suites -/
def tRV (d : Mn.D) (i : Option Nat) : TS := fun D σ H => True
/-- isinstance(e, y) handed back, e the exception -/
def tsIsx (p : Pm) (i j : Nat) : Addr → Value → Option Addr → TS := fun a cls d D σ H => ∃ x, cls = .ref (p.ca x) ∧ d = none ∧ σ[i]? = some (some (.ref a)) ∧ D.rt (.bl (p.sub x j)) H
theorem suite_isx (s : SitS p c W lv X sc) {nm y f : Str} {i j : Nat} {p1 p2 p3 pos rpos : Pos} (hf : f = ("isinstance" : Str)) (hb : c.isB sc f = true) (hi : X.N[i]? = some nm) (hl : X.env.scope.names.lookup nm = some .local) (hn : okName nm = true) (hy : exI c sc y = some j)
    {a : Addr} {oe : Obj} {cls : Value} {d : Option Addr} {pn : List (Addr × Obj)} (hz : Zc cls d oe) (hd : ∃ vs, oe.data = .fields vs) :
    PSs (X.suite a ((a, oe) :: pn)) [.Return (some (.Call (.Name f p1) [.Name nm p2, .Name y p3] [] pos)) rpos] (tsIsx p i j a cls d) := by
  refine ⟨fun pins s0 σ H D I q => ?_⟩
  obtain ⟨x, rfl, rfl, hs, q⟩ := q
  subst hf
  obtain ⟨g1, g2, g3⟩ := isB_ok s.toSit hb
  obtain ⟨n1, n2⟩ := okName_ok hn
  obtain ⟨y1, y2, y3⟩ := exI_ok s hy
  obtain ⟨y4, y5, y6, y7, y8, y9, y10⟩ := s.xk.exc y j y3
  have hE : ExcC X.K (p.ca x) := by
    rw [s.ok.k]
    exact s.xk.all x
  have arg : PA (X.suite a ((a, oe) :: pn)) [.Name nm p2, .Name y p3] (tCons (tVar i) (tCons (tC (.ref (p.ca j))) tNil)) :=
    pa_cons (pe_var (X := X.suite a ((a, oe) :: pn)) hi (.inl hl) n1 n2) (pa_cons (pe_glob (X := X.suite a ((a, oe) :: pn)) y1 y4 rfl y2) pa_nil)
  refine (pss_one (ps_ret (pe_callB (call_isE hE hz hd) g1 g2 (by decide +kernel) arg (by decide) (by decide)))).run pins s0 σ H D I ?_
  refine ⟨.ref a, hs, .ref (p.ca j), .ref (p.ca j), p.sub x j, rfl, fun u hu => hu, ?_, q⟩
  rw [s.ok.k]
  exact y9 x

/-- the clauses of a try -/
theorem hds_ok (s : SitS p c W lv X sc) : ∀ {hs : List ExceptHandler} {hx : List (Nat × HX)}, cH c sc hs = some hx → ∃ l, HdsOk X hs l ∧
    ∀ (D : Ends) (F Z : Hp) (m : Mp) (x : Ex) (env : Env) (S : Sto), PostS p F Z m D W (hdls p.sub x env S hx) →
      ∀ Z' m' H' σ' cls d, Ext Z m Z' m' → SR p.K F Z' m' S H' → RE p.K Z' m' env σ' → XRel p.ca x cls d → wMany X.K W D l cls d σ' H'
  | [], hx, h => by
    cases h
    exact ⟨[], .nil, fun D F Z m x env S hP => hP⟩
  | .ExceptHandler ty nm body pos :: r, hx, h => by
    have fin : ∀ {y : Str} {py rp : Pos} {e : Expr} {i : Nat} {hr : List (Nat × HX)} {h1 : HX} {ts : TS}, exI c sc y = some i → cH c sc r = some hr →
        (∀ (a : Addr) (oe : Obj) (pn : List (Addr × Obj)), PSs (X.suite a ((a, oe) :: pn)) [.Return (some e) rp] ts) →
        (∀ (D : Ends) (F Z : Hp) (m : Mp) (x : Ex) (env : Env) (S : Sto) (dd : Mn.D), hdl p.sub x env h1 = some dd → (∀ Z' m' H' v, Ext Z m Z' m' → SR p.K F Z' m' S H' → RD p.K Z' m' dd v → D.rt v H') → ∀ Z' m' H' σ', Ext Z m Z' m' → SR p.K F Z' m' S H' → RE p.K Z' m' env σ' → ts D σ' H') →
        ∃ l, HdsOk X (.ExceptHandler (some (.Name y py)) none [.Return (some e) rp] pos :: r) l ∧
          ∀ (D : Ends) (F Z : Hp) (m : Mp) (x : Ex) (env : Env) (S : Sto), PostS p F Z m D W (hdls p.sub x env S ((i, h1) :: hr)) →
            ∀ Z' m' H' σ' cls d, Ext Z m Z' m' → SR p.K F Z' m' S H' → RE p.K Z' m' env σ' → XRel p.ca x cls d → wMany X.K W D l cls d σ' H' := fun {y py rp e i hr h1 ts} hy hc hs hts => by
      obtain ⟨l, hl, k⟩ := hds_ok s hc
      refine ⟨(.ref (p.ca i), fun _ _ _ => ts) :: l, .cons (Exk.names s hy) (fun a oe cls d pn _ _ => hs a oe pn) hl, fun D F Z m x env S hP Z' m' H' σ' cls d e sr re xr => ?_⟩
      obtain ⟨_, _, hg⟩ := exI_ok s hy
      refine ⟨p.sub x.cls i, ?_, fun hb a ha => ?_, fun hb => ?_⟩
      · rw [s.ok.k, xr.1]
        exact (s.xk.exc y i hg).2.2.2.2.1 x.cls
      · have hP : PostS p F Z m D W (if p.sub x.cls i = true then (match hdl p.sub x env h1 with
          | some d => RS.rt d S
          | none => .bad) else hdls p.sub x env S hr) := hP
        rw [if_pos hb] at hP
        cases hd : hdl p.sub x env h1 with
        | none =>
          rw [hd] at hP
          exact False.elim hP
        | some dd =>
          rw [hd] at hP
          exact hts D F Z m x env S dd hd hP _ _ _ _ e sr re
      · have hP : PostS p F Z m D W (if p.sub x.cls i = true then (match hdl p.sub x env h1 with
          | some d => RS.rt d S
          | none => .bad) else hdls p.sub x env S hr) := hP
        rw [if_neg (by rw [hb]; exact Bool.false_ne_true)] at hP
        exact k D F Z m x env S hP _ _ _ _ _ _ e sr re xr
    cases ty with
    | none => cases h
    | some ty =>
      cases ty <;> first | (cases h; done) | skip
      rename_i y py
      cases nm with
      | some _ => cases h
      | none =>
        cases body with
        | nil => cases h
        | cons b bs =>
          cases b <;> first | (cases h; done) | skip
          rename_i oe rp
          cases oe with
          | none => cases h
          | some e =>
            cases bs with
            | cons _ _ => cases e <;> cases h
            | nil =>
              cases e <;> first | (cases h; done) | skip
              · rename_i v k q
                have h : (match (generalizing := false) exI c sc y, cE c 1 sc (.Constant v k q), cH c sc r with
                  | some i, some (E.lit d), some r => some ((i, HX.lit d) :: r)
                  | _, _, _ => none) = some hx := h
                split at h
                · rename_i i d hr h1 h2 h3
                  cases h
                  refine fin (ts := tRet (tE p W (.lit d))) h1 h3 (fun a oe pn => pss_one (ps_ret (pe_const (sc := sc) (c := c) (n := 0) h2))) fun D F Z m x env S dd hd q Z' m' H' σ' e sr re => ?_
                  cases hd
                  exact ⟨F, Z', m', S, env, re, sr, fun Z2 m2 H2 v e2 s2 r2 => q _ _ _ _ (e.trans e2) s2 r2⟩
                · cases h
              · rename_i v q
                have h : (match (generalizing := false) exI c sc y, locI c sc v, cH c sc r with
                  | some i, some v, some r => some ((i, HX.vr v) :: r)
                  | _, _, _ => none) = some hx := h
                split at h
                · rename_i i vi hr h1 h2 h3
                  cases h
                  obtain ⟨l1, l2, l3, l4, l5⟩ := locI_ok s h2
                  refine fin (ts := tRet (tVar vi)) h1 h3 (fun a oe pn => pss_one (ps_ret (pe_var (X := X.suite a ((a, oe) :: pn)) l1 (Mn.Loc.vis l2) l4 l5))) fun D F Z m x env S dd hd q Z' m' H' σ' e sr re => ?_
                  have hd : (match env[vi]? with
                    | some (some d) => some d
                    | _ => none) = some dd := hd
                  split at hd
                  · rename_i d he
                    rw [Option.some.inj hd] at he
                    obtain ⟨w, w1, w2⟩ := re.2 vi dd he
                    exact ⟨w, w1, q _ _ _ _ e sr w2⟩
                  · cases hd
                · cases h
end
end Mn

/-! Statements: the induction. -/
namespace Mn
open PySem PySem.Spec PyProof.Rows L2
section
variable {p : Pm} {c : CS} {W : WX} {lv : Nat} {X : Cx} {sc : Scope}
theorem cT_at (s : SitS p c W lv X sc) {n : Nat} {e : Expr} {t : Tg} (h : cT c.N sc n e = some t) : PG X e (tG p t) := by
  refine cT_ok s.ok s.sto (n := n) ?_
  rw [s.n]
  exact h
theorem slot_at (s : SitS p c W lv X sc) {x : Str} {i : Nat} (h : slotOf c.N x = some i) : X.N[i]? = some x := by
  rw [s.n]
  exact slotOf_ok h
theorem ps_plain (s : SitS p c W lv X sc) {n : Nat} {tg e : Expr} {t : Tg} {ce : E} {pos : Pos} (h1 : cT c.N sc n tg = some t) (h2 : cE c n sc e = some ce) (hs : swapsWith e (some tg) pos.line X.env = pure false) (hw : swappedStores [tg] e X.env = pure none)
    (ha : (assignEach [tg] X.env).map (·.2) = [assign tg X.env]) : PS X (.Assign [tg] e pos) (tS p W (.asg t ce)) :=
  PS.imp (ps_asg ((snd_all n).e s.toSit h2).1 (cT_at s h1) hs hw ha) rd_asg
theorem asgName (s : SitS p c W lv X sc) {n : Nat} {x : Str} {px : Pos} {e : Expr} {pos : Pos} {cs : S} (h : cS c sc (n + 1) (.Assign [.Name x px] e pos) = some cs) : PS X (.Assign [.Name x px] e pos) (tS p W cs) := by
  have gen : isCompE e = false → (match (generalizing := false) cT c.N sc n (.Name x px), cE c n sc e with
      | some t, some e => some (S.asg t e)
      | _, _ => none) = some cs → PS X (.Assign [.Name x px] e pos) (tS p W cs) := fun hc h => by
    split at h
    · rename_i t ce h1 h2
      cases h
      exact ps_plain s h1 h2 (sw_plain hc) (by cases e <;> rfl) rfl
    · cases h
  cases e with
  | ListComp elt gens scope pos2 =>
    have h : (match (generalizing := false) lcSame sc x px scope pos2, cT c.N sc n (.Name x px), cE c n sc (.ListComp elt gens scope pos2), gens with
      | true, some (.nm i), some e, [_] => some (S.asg (.nm i) e)
      | false, some t, some e, _ => some (S.asg t e)
      | _, _, _, _ => none) = some cs := h
    have hsw : ∀ l, swapsWith (.ListComp elt gens scope pos2) (some (.Name x px)) l X.env = pure (lcSame sc x px scope pos2) := fun l => by
      rw [sw_lc s.ok.kind, s.s]
    have key : (∃ i ce g0, gens = [g0] ∧ lcSame sc x px scope pos2 = true ∧ cT c.N sc n (.Name x px) = some (.nm i) ∧ cE c n sc (.ListComp elt gens scope pos2) = some ce ∧ cs = .asg (.nm i) ce) ∨
        (∃ t ce, lcSame sc x px scope pos2 = false ∧ cT c.N sc n (.Name x px) = some t ∧ cE c n sc (.ListComp elt gens scope pos2) = some ce ∧ cs = .asg t ce) := by
      split at h
      · exact .inl ⟨_, _, _, rfl, ‹_›, ‹_›, ‹_›, (Option.some.inj h).symm⟩
      · exact .inr ⟨_, _, ‹_›, ‹_›, ‹_›, (Option.some.inj h).symm⟩
      · cases h
    rcases key with ⟨i, ce, g0, rfl, hl, h1, h2, rfl⟩ | ⟨t, ce, hl, h1, h2, rfl⟩
    · cases n with
      | zero => cases h2
      | succ n =>
        obtain ⟨tg, iter, ifs, t, w, its, cond, ce2, hg, rfl, b1, b2, k1, k2, k3, k4⟩ := lc_inv rfl h2
        cases hg
        have hx : sc.names.lookup x = some .local := by
          have hl2 := hl
          unfold lcSame at hl2
          simp only [Bool.and_eq_true] at hl2
          exact eq_of_beq hl2.1.1
        have hi : slotOf c.N x = some i := by
          have h3 : (match (generalizing := false) sc.names.lookup x with
            | some .local | some .cell => (slotOf c.N x).map Tg.nm
            | _ => none) = some (.nm i) := h1
          rw [hx] at h3
          obtain ⟨j, h4, h5⟩ := opt_map h3
          cases h5
          exact h4
        have hown : ∀ i ∈ tgSl t, i ∈ (ownOf c.N scope).map (·.2) := tgSl_own k1
        have ok : BlkOk X.N X.env.scope scope (ownOf c.N scope) := by
          rw [s.n, s.s]
          exact blkOk_by b2
        have k1 : cT X.N scope n tg = some t := by
          rw [s.n]
          exact k1
        have hN := slot_at s hi
        refine PS.imp (ps_setLc (g := tG p t) (tt := tCo p W0 cond) (te := tE p W0 ce2) s.ok.calm s.ok.nd hN (s.sto.loc x hx) ((hsw _).trans (by rw [hl])) ((snd_all n).w s.toSit k2) ok (fun s0 H C cl fp => ?_) (fun s0 H C cl fp => ?_) (fun s0 H C cl fp => ?_) (noFold b1 _)) (rd_asgN (X := X) (List.getElem?_eq_some_iff.mp hN).1 (lc_ok hown))
        · exact cT_ok (s.ok.blk ok.kind) blk_sto k1
        · exact (snd_all n).i (blk_sit s.toSit ok.kind) k3
        · exact ((snd_all n).e (blk_sit s.toSit ok.kind) k4).1
    · exact ps_plain s h1 h2 ((hsw _).trans (by rw [hl])) rfl rfl
  | SetComp _ _ _ _ => cases h
  | DictComp _ _ _ _ _ => cases h
  | _ => exact gen rfl h
theorem asgTup (s : SitS p c W lv X sc) {n : Nat} {ts : List Expr} {kt : Nat} {pt : Pos} {e : Expr} {pos : Pos} {cs : S} (h : cS c sc (n + 1) (.Assign [.Tuple ts kt pt] e pos) = some cs) : PS X (.Assign [.Tuple ts kt pt] e pos) (tS p W cs) := by
  have gen : swappedStores [.Tuple ts kt pt] e X.env = pure none → (match (generalizing := false) cT c.N sc n (.Tuple ts kt pt), cE c n sc e with
      | some t, some e => some (S.asg t e)
      | _, _ => none) = some cs → PS X (.Assign [.Tuple ts kt pt] e pos) (tS p W cs) := fun hc h => by
    split at h
    · rename_i t ce h1 h2
      cases h
      exact ps_plain s h1 h2 (sw_tg rfl) hc rfl
    · cases h
  cases e with
  | Tuple vs k2 p2 =>
    have h : (match (generalizing := false) parN sc ts vs with
      | some none => (match (generalizing := false) cT c.N sc n (.Tuple ts kt pt), cE c n sc (.Tuple vs k2 p2) with
        | some t, some e => some (S.asg t e)
        | _, _ => none)
      | some (some ns) => (match (generalizing := false) ts, vs with
        | [.Name x _, .Name y _], [_, _] => if ns = [x, y] ∧ sc.names.lookup x = some .local ∧ sc.names.lookup y = some .local then (match (generalizing := false) slotOf c.N x, slotOf c.N y, cEs c n sc vs with
          | some i, some j, some es => if i = j then none else some (S.asg (.tp [.nm i, .nm j]) (.tup es))
          | _, _, _ => none) else none
        | [.Name x _, .Name y _, .Name z _], [_, _, _] => if ns = [x, y, z] ∧ sc.names.lookup x = some .local ∧ sc.names.lookup y = some .local ∧ sc.names.lookup z = some .local then (match (generalizing := false) slotOf c.N x, slotOf c.N y, slotOf c.N z, cEs c n sc vs with
          | some i, some j, some l, some es => if i = j ∨ i = l ∨ j = l then none else some (S.asg (.tp [.nm i, .nm j, .nm l]) (.tup es))
          | _, _, _, _ => none) else none
        | _, _ => none)
      | none => none) = some cs := h
    have par : ∀ {r}, parN sc ts vs = some r → swappedStores [.Tuple ts kt pt] (.Tuple vs k2 p2) X.env = pure r := fun {r} h => by
      refine par_eq s.ok.kind ?_
      rw [s.s]
      exact h
    split at h
    · rename_i hp
      exact gen (par hp) h
    · rename_i ns hp
      split at h
      · rename_i x px y py a b
        split at h
        · rename_i hh
          obtain ⟨rfl, hx, hy⟩ := hh
          split at h
          · rename_i i j es h1 h2 h3
            split at h
            · cases h
            · rename_i hij
              cases h
              exact PS.imp (ps_par s.ok.calm s.ok.nd (slot_at s h1) (slot_at s h2) hij (s.sto.loc _ hx) (s.sto.loc _ hy) ((snd_all n).a s.toSit h3) (par hp)) rd_par
          · cases h
        · cases h
      · rename_i x px y py z pz a b d
        split at h
        · rename_i hh
          obtain ⟨rfl, hx, hy, hz⟩ := hh
          split at h
          · rename_i i j l es h1 h2 h4 h3
            split at h
            · cases h
            · rename_i hij
              cases h
              simp only [not_or] at hij
              exact PS.imp (ps_par3 s.ok.calm s.ok.nd (slot_at s h1) (slot_at s h2) (slot_at s h4) hij.1 hij.2.1 hij.2.2 (s.sto.loc _ hx) (s.sto.loc _ hy) (s.sto.loc _ hz) ((snd_all n).a s.toSit h3) (par hp)) rd_par3
          · cases h
        · cases h
      · cases h
    · cases h
  | _ => exact gen rfl h
theorem asgSub (s : SitS p c W lv X sc) {n : Nat} {o i : Expr} {p2 : Pos} {e : Expr} {pos : Pos} {cs : S} (h : cS c sc (n + 1) (.Assign [.Subscript o i p2] e pos) = some cs) : PS X (.Assign [.Subscript o i p2] e pos) (tS p W cs) := by
  have h : (match (generalizing := false) cE c n sc e, cE c n sc o, cE c n sc i with
    | some e, some o, some i => some (S.six o i e)
    | _, _, _ => none) = some cs := h
  split at h
  · rename_i ce co ci h1 h2 h3
    cases h
    have ha : ∀ v, assign (.Subscript o i p2) X.env v = (do
        let ov ← holding [v] (eval o X.env)
        let iv ← holding [v, ov] (eval i X.env)
        standAt p2
        holding [v, ov, iv] (setItem ov iv v)
        release [v, ov, iv] []) := fun v => by
      cases n with
      | zero => cases h3
      | succ n => cases i <;> first | rfl | (cases h3; done)
    exact PS.imp (ps_asg ((snd_all n).e s.toSit h1).1 (pg_sub ((snd_all n).e s.toSit h2).1 ((snd_all n).e s.toSit h3).1 (set_sixf (p := p)) ha) (sws_one.trans (sw_tg (t := .Subscript o i p2) rfl)) (by cases e <;> rfl) rfl) rd_six
  · cases h

theorem putK_ok {K : PySem.W.Frag} {Z : Hp} {m : Mp} {f : Str} {d : Mn.D} {v : V} (r : RD K Z m d v) : ∀ {fs : List (List Nat × Mn.D)} {vs : List (Str × V)}, RFs K Z m fs vs → RFs K Z m (putK f.cps.toList d fs) (putF f v vs) ∧ fs.length = vs.length
  | _, _, .nil => by
    refine ⟨?_, rfl⟩
    have := RFs.cons (K := K) (Z := Z) (m := m) (f := f.cps.toList) r .nil
    rw [tx_cps] at this
    exact this
  | _, _, .cons (f := g) (d := x) (v := w) (ds := ds) (vs := vs) r0 rs => by
    obtain ⟨i1, i2⟩ := putK_ok (f := f) r rs
    refine ⟨?_, by rw [List.length_cons, List.length_cons, i2]⟩
    by_cases hg : g = f.cps.toList
    · have e1 : putK f.cps.toList d ((g, x) :: ds) = (g, d) :: ds := if_pos hg
      have e2 : putF f v ((tx g, w) :: vs) = (tx g, v) :: vs := if_pos (by rw [hg, tx_cps])
      rw [e1, e2]
      exact .cons r rs
    · have e1 : putK f.cps.toList d ((g, x) :: ds) = (g, x) :: putK f.cps.toList d ds := if_neg hg
      have e2 : putF f v ((tx g, w) :: vs) = (tx g, w) :: putF f v vs := if_neg fun z => hg (by
        have : tx g = tx f.cps.toList := by rw [tx_cps]; exact z
        exact tx_inj.mp this)
      rw [e1, e2]
      exact .cons r0 i1
theorem asgFld (s : SitS p c W lv X sc) {n : Nat} {o : Expr} {f : Str} {p2 : Pos} {e : Expr} {pos : Pos} {cs : S} (h : cS c sc (n + 1) (.Assign [.Attribute o f p2] e pos) = some cs) : PS X (.Assign [.Attribute o f p2] e pos) (tS p W cs) := by
  have h : (if isCompE e = true then none else (match (generalizing := false) cE c n sc e, cE c n sc o with
    | some e, some o => some (S.sfl (clsF c f) f.cps.toList o e)
    | _, _ => none)) = some cs := h
  split at h
  · cases h
  · rename_i hc
    split at h
    · rename_i ce co h1 h2
      cases h
      refine PS.imp (ps_fld ((snd_all n).e s.toSit h2).1 ((snd_all n).e s.toSit h1).1 (sw_plain (by simpa using hc))) fun D σ H q => ?_
      obtain ⟨F, Z, m, S, env, re, sr, h⟩ := q
      refine ⟨F, Z, m, S, env, re, sr, PostS.to h re fun d S1 Z1 m1 H1 v _ e1 s1 rd h3 => ⟨F, Z1, m1, S1, env, re.mono e1, s1, PostS.to h3 (re.mono e1) fun x S2 Z2 m2 H2 ov _ e2 s2 rx h4 => ?_⟩⟩
      cases hs : sflf (clsF c f) f.cps.toList x d S2 with
      | none =>
        rw [hs] at h4
        exact False.elim h4
      | some S3 =>
        rw [hs] at h4
        obtain ⟨k, rfl⟩ : ∃ k, x = .ref k := by cases x <;> first | cases hs | exact ⟨_, rfl⟩
        have hs : (match S2.get k with
          | some (.ins c' fs) => if c' ∈ clsF c f ∧ fs.length < 1000 then some (S2.put k (.ins c' (putK f.cps.toList d fs))) else none
          | _ => none) = some S3 := hs
        split at hs
        · rename_i y fs hy
          split at hs
          · rename_i hin
            cases hs
            obtain ⟨a, dx, vs, rfl, hm, ha, rf⟩ := s2.obj rx hy
            obtain ⟨fl, ms, mk, hl, hf⟩ := clsF_ok hin.1
            obtain ⟨k1, k2, k3⟩ := s.g.obj _ fl ms mk hl
            have k4 := k2 _ hf
            rw [tx_cps] at k4
            obtain ⟨g1, g2⟩ := putK_ok (f := f) (rd.mono e2) rf
            refine ⟨a, He.ga p.K (tx y), dx, vs, rfl, ha, ?_, ?_, by rw [← g2]; exact hin.2, ?_⟩
            · rw [s.ok.k]
              exact k1
            · rw [s.ok.k]
              exact k4
            · exact h4 _ _ _ _ Ext.refl (s2.putO hy hm (.ins g1)) ((re.mono e1).mono e2)
          · cases hs
        · cases hs
    · cases h
theorem snds_step {n : Nat} (ih : SndS p c n) : SndS p c (n + 1) where
  ss := fun {W lv X sc e ce} s h => by
    cases e with
    | nil =>
      cases h
      refine PSs.imp pss_nil fun D σ H q => ?_
      obtain ⟨F, Z, m, S, env, re, sr, h⟩ := q
      exact h _ _ _ _ Ext.refl sr re
    | cons e es =>
      unfold cSs at h
      split at h
      · rename_i as h2
        cases h
        have head : PS X e (tS p W (match cS c sc n e with
          | some s => s
          | none => .bad)) := by
          cases h1 : cS c sc n e with
          | some a => exact ih.s s h1
          | none =>
            refine ⟨fun pins s0 σ H D I q => ?_⟩
            obtain ⟨F, Z, m, S, env, re, sr, h⟩ := q
            exact False.elim h
        refine PSs.imp (pss_cons head (ih.ss s h2)) fun D σ H q => ?_
        obtain ⟨F, Z, m, S, env, re, sr, h⟩ := q
        exact ⟨F, Z, m, S, env, re, sr, PostS.bind h fun env S1 Z1 m1 H1 σ1 e1 s1 re1 h1 => ⟨F, Z1, m1, S1, env, re1, s1, h1⟩⟩
      · cases h
  s := fun {W lv X sc e ce} s h => by
    cases e with
    | Expr e pos =>
      have gen : (if isCompE e then none else (cE c n sc e).map S.ex) = some ce → PS X (.Expr e pos) (tS p W ce) := fun h => by
        split at h
        · cases h
        · rename_i hc
          obtain ⟨a, h1, rfl⟩ := opt_map h
          exact PS.imp (ps_expr ((snd_all n).e s.toSit h1).1 (sw_plain (by simpa using hc))) rd_ex
      cases e with
      | Constant v k q =>
        cases v with
        | str x =>
          cases h
          exact PS.imp ps_doc fun D σ H q => rd_pas q
        | _ => exact gen h
      | _ => exact gen h
    | Assign tgs e pos =>
      cases tgs with
      | nil => cases h
      | cons tg tgs =>
        cases tgs with
        | cons _ _ => cases h
        | nil =>
          cases tg with
          | Name x px => exact asgName s h
          | Tuple ts k q => exact asgTup s h
          | Subscript o i q => exact asgSub s h
          | Attribute o f q => exact asgFld s h
          | _ => cases h
    | AugAssign tg o e pos =>
      cases tg with
      | Name x px =>
        have h : (match (generalizing := false) locI c sc x, boOf o, cE c n sc e with
          | some i, some o, some e => some (S.aug i o e)
          | _, _, _ => none) = some ce := h
        split at h
        · rename_i i bo ce h1 h2 h3
          cases h
          obtain ⟨l1, l2, l3, l4, l5⟩ := locI_ok s h1
          have eo := boOf_ok h2
          subst eo
          have gen : PS X (.AugAssign (.Name x px) (opOf bo) e pos) (fun D σ H => tAug i (tE p W ce) (fun v w H Q => ∃ F Z m S x y, SR p.K F Z m S H ∧ RD p.K Z m x v ∧ RD p.K Z m y w ∧ Post p F Z m (RD p.K) Q (fun cls d H' => W cls d σ H') (iop bo x y S)) D σ H) :=
            ⟨fun pins s0 σ H D I q => (ps_aug s.ok.nd l1 l2 ((snd_all n).e s.toSit h3).1 (ip_iop (p := p) (E := fun cls d H' => W cls d σ H') bo) l3).run pins s0 σ H D I q⟩
          exact PS.imp gen rd_aug
        · cases h
      | _ => cases h
    | If t a b pos =>
      have h : (match (generalizing := false) cE c n sc t, cSs c sc n a, cSs c sc n b with
        | some t, some a, some b => some (S.ifs t a b)
        | _, _, _ => none) = some ce := h
      split at h
      · rename_i ct ca cb h1 h2 h3
        cases h
        exact PS.imp (ps_if ((snd_all n).e s.toSit h1).2 (ih.ss s h2) (ih.ss s h3)) rd_if
      · cases h
    | For tg iter body orelse pos =>
      cases orelse with
      | cons _ _ => cases h
      | nil =>
        have h : (if isSet iter = true then none else (match (generalizing := false) cT c.N sc n tg, cW c n sc tg iter, cSs c sc n body with
          | some t, some (w, its), some b => some (S.forr t w its b)
          | _, _, _ => none)) = some ce := h
        split at h
        · cases h
        · rename_i hb
          split at h
          · rename_i t w its b h1 h2 h3
            cases h
            exact PS.imp (ps_for s.po s.ok.calm ((snd_all n).w s.toSit h2) (cT_at s h1) (ih.ss s h3) (noFold (by simpa using hb) _)) rd_for
          · cases h
    | While t body orelse pos =>
      cases orelse with
      | cons _ _ => cases h
      | nil =>
        have h : (match (generalizing := false) cE c n sc t, cSs c sc n body with
          | some t, some b => some (S.whl 100000 t b)
          | _, _ => none) = some ce := h
        split at h
        · rename_i ct b h1 h2
          cases h
          exact PS.imp (ps_while s.po ((snd_all n).e s.toSit h1).2 (ih.ss s h2)) rd_whl
        · cases h
    | Return oe pos =>
      cases oe with
      | none =>
        cases h
        refine PS.imp ps_retN fun D σ H q => ?_
        obtain ⟨F, Z, m, S, env, re, sr, h⟩ := q
        exact h _ _ _ _ Ext.refl sr RD.non
      | some e =>
        obtain ⟨a, h1, rfl⟩ := opt_map (show (cE c n sc e).map S.ret = some ce from h)
        exact PS.imp (ps_ret ((snd_all n).e s.toSit h1).1) rd_ret
    | Break pos =>
      cases h
      refine PS.imp ps_break fun D σ H q => ?_
      obtain ⟨F, Z, m, S, env, re, sr, h⟩ := q
      exact h _ _ _ _ Ext.refl sr re
    | Continue pos =>
      cases h
      refine PS.imp ps_continue fun D σ H q => ?_
      obtain ⟨F, Z, m, S, env, re, sr, h⟩ := q
      exact h _ _ _ _ Ext.refl sr re
    | Pass pos =>
      cases h
      exact PS.imp ps_pass fun D σ H q => rd_pas q
    | Raise oe cause pos =>
      cases oe with
      | none => cases h
      | some e =>
        cases e <;> first | (cases h; done) | skip
        rename_i f args kws cpos
        cases f <;> first | (cases h; done) | skip
        rename_i x px
        cases args with
        | nil => cases h
        | cons a as =>
          cases a <;> first | (cases h; done) | skip
          rename_i v k q
          cases v <;> first | (cases h; done) | skip
          rename_i z
          cases as with
          | cons _ _ => cases h
          | nil =>
            cases kws with
            | cons _ _ => cases h
            | nil =>
              cases cause with
              | some _ => cases h
              | none =>
                obtain ⟨i, h1, rfl⟩ := opt_map (show (exI c sc x).map S.rais = some ce from h)
                obtain ⟨g1, g2, g3⟩ := exI_ok s h1
                obtain ⟨y4, y5, y6, y7, y8, y9, bmB, B, nI, iI, y10, y11⟩ := s.xk.exc x i g3
                have y5 : PySem.W.keepIn X.K (.ref (p.ca i)) = true := by
                  rw [s.ok.k]
                  exact y5
                have y11 : PySem.W.excIn X.K (p.ca i) bmB nI = true := by
                  rw [s.ok.k]
                  exact y11
                have rs : Raises X (.ref (p.ca i)) := by
                  refine raises_own ?_ ?_
                  · rw [s.ok.k]
                    exact y6
                  · rw [s.ok.k]
                    exact y7
                refine PS.imp (ps_raise s.ok.calm s.ok.tk (pmk_own y10 y11 y4 y5 rs g1 g2)) fun D σ H q => ?_
                obtain ⟨F, Z, m, S, env, re, sr, h⟩ := q
                exact h _ _ _ _ _ _ Ext.refl sr re ⟨rfl, fun _ => rfl⟩
    | Try body hs orelse fin pos =>
      cases orelse with
      | cons _ _ => cases h
      | nil =>
        cases fin with
        | cons _ _ => cases h
        | nil =>
          replace h : (match (generalizing := false) tryAs hs with
            | some (x, nm, f, e, y) => if (decide (f = ("isinstance" : Str)) && c.isB sc f && decide (e = nm) && okName nm && decide (sc.names.lookup nm = some .local)) = true then (match (generalizing := false) exI c sc x, exI c sc y, slotOf c.N nm, cSs c sc n body with
              | some i, some j, some sl, some b => some (S.tryo b [(i, .isx sl j)])
              | _, _, _, _ => none) else none
            | none => (match (generalizing := false) hs, cSs c sc n body, cH c sc hs with
              | _ :: _, some b, some h => some (S.tryo b h)
              | _, _, _ => none)) = some ce := h
          have hb : ∀ {b : List S}, cSs c sc n body = some b → ∀ (W' : WX) (pn : List (Addr × Obj)) (xe : Value → Shared → Prop), Takes (X.tr pn xe) W' → PassesOwn (model X.prog X.w) X.A X.env xe → PSs (X.tr pn xe) body (tSs p W' b) := fun {b} hb W' pn xe tk po => ih.ss (s.tr tk po) hb
          split at h
          · rename_i x nm f e y ht
            obtain ⟨q1, q2, q3, q4, q5, q6, q7, rfl⟩ := tryAs_ok ht
            split at h
            · rename_i hh
              simp only [Bool.and_eq_true, decide_eq_true_eq] at hh
              obtain ⟨⟨⟨⟨hf, hB⟩, rfl⟩, hok⟩, hl⟩ := hh
              split at h
              · rename_i i j sl b h1 h2 h3 h4
                cases h
                have hN := slot_at s h3
                have hloc := s.sto.loc _ hl
                refine PS.imp (ps_try_as s.st s.fr s.ok.nd hN hloc (Exk.names s h1) s.ok.tk (hb h4) (fun a oe cls d pn hz hd => suite_isx s (W := W) (i := sl) hf hB hN hloc hok h2 hz hd)) fun D σ H q => ?_
                obtain ⟨F, Z, m, S, env, re, sr, h⟩ := q
                refine ⟨F, Z, m, S, env, re, sr, ?_⟩
                have h : PostS p F Z m D W (match exSs p.sub p.cl b env S with
                  | .exc x env1 S1 => hdls p.sub x env1 S1 [(i, .isx sl j)]
                  | r => r) := h
                generalize exSs p.sub p.cl b env S = r at h ⊢
                cases r with
                | exc x env1 S1 =>
                  intro Z' m' H' σ' cls d e sr re xr
                  obtain ⟨_, _, hg⟩ := exI_ok s h1
                  have h : PostS p F Z m D W (if p.sub x.cls i = true then (match hdl p.sub x env1 (.isx sl j) with
                    | some d => RS.rt d S1
                    | none => .bad) else .exc x env1 S1) := h
                  refine ⟨p.sub x.cls i, ?_, fun hb a ha => ?_, fun hb => ?_⟩
                  · rw [s.ok.k, xr.1]
                    exact (s.xk.exc _ i hg).2.2.2.2.1 x.cls
                  · rw [if_pos hb] at h
                    have hfs : x.fs = [] := by
                      cases hfs : x.fs with
                      | nil => rfl
                      | cons _ _ =>
                        have e : hdl p.sub x env1 (.isx sl j) = none := by
                          unfold hdl
                          rw [hfs]
                        rw [e] at h
                        exact False.elim h
                    have e3 : hdl p.sub x env1 (.isx sl j) = if sl < env1.length then some (.bl (p.sub x.cls j)) else none := by
                      unfold hdl
                      rw [hfs]
                    rw [e3] at h
                    by_cases hlt : sl < env1.length
                    · rw [if_pos hlt] at h
                      exact ⟨x.cls, xr.1, xr.2 hfs, List.getElem?_set_self (by rw [← re.1]; exact hlt), h _ _ _ _ e sr (RD.bl _)⟩
                    · rw [if_neg hlt] at h
                      exact False.elim h
                  · rw [if_neg (by rw [hb]; exact Bool.false_ne_true)] at h
                    exact h _ _ _ _ _ _ e sr re xr
                | nx _ _ => exact h
                | rt _ _ => exact h
                | bk _ _ => exact h
                | ct _ _ => exact h
                | bad => exact h
              · cases h
            · cases h
          · obtain ⟨b, hx, h0, hs, h1, h2, rfl, rfl⟩ : ∃ b hx h0 t, cSs c sc n body = some b ∧ cH c sc hs = some hx ∧ hs = h0 :: t ∧ S.tryo b hx = ce := by
              split at h
              · exact ⟨_, _, _, _, ‹_›, ‹_›, rfl, Option.some.inj h⟩
              · cases h
            · obtain ⟨l, hl, k⟩ := hds_ok s h2
              refine PS.imp (ps_try_many s.st s.fr s.ok.tk (hb h1) hl) fun D σ H q => ?_
              obtain ⟨F, Z, m, S, env, re, sr, h⟩ := q
              refine ⟨F, Z, m, S, env, re, sr, ?_⟩
              have h : PostS p F Z m D W (match exSs p.sub p.cl b env S with
                | .exc x env1 S1 => hdls p.sub x env1 S1 hx
                | r => r) := h
              generalize exSs p.sub p.cl b env S = r at h ⊢
              cases r with
              | exc x env1 S1 =>
                intro Z' m' H' σ' cls d e sr re xr
                exact k D F Z m x env1 S1 h _ _ _ _ _ _ e sr re xr
              | nx _ _ => exact h
              | rt _ _ => exact h
              | bk _ _ => exact h
              | ct _ _ => exact h
              | bad => exact h
    | _ => cases h
theorem snds_all : ∀ n : Nat, SndS p c n
  | 0 => { s := fun _ h => (by cases h), ss := fun _ h => (by cases h) }
  | n + 1 => snds_step (snds_all n)
end
end Mn

/-! Defs: what the machine's run of them answers, they answer. -/
namespace Mn
open PySem PySem.Spec PyProof.Rows L2
/-- of a def: its parameters, its names by slot, whether what it made goes at its end -/
structure Dn where
  ps : List Str
  N : List Str
  fr : Bool
def fsB (N ps : List Str) (sc : Scope) : Bool := (match sc.kind with
  | .function => true
  | _ => false) && (!sc.isCoroutine && (!sc.isGenerator && (decide N.Nodup && (decide (N.take ps.length = ps) && ((ps.all fun x => match sc.names.lookup x with
  | some .local => true
  | some .cell => true
  | _ => false) && sc.names.all fun y => match y.2 with
  | .free => false
  | _ => true)))))
theorem fsB_ok {N ps : List Str} {sc : Scope} (h : fsB N ps sc = true) : FnScope N ps sc := by
  unfold fsB at h
  simp only [Bool.and_eq_true, decide_eq_true_eq, List.all_eq_true, Bool.not_eq_true'] at h
  obtain ⟨h1, h2, h3, h4, h5, h6, h7⟩ := h
  refine ⟨?_, h2, h3, h4, h5, fun x hx => ?_, fun y hy z => ?_⟩
  · split at h1
    · assumption
    · cases h1
  · have := h6 x hx
    split at this
    · exact .inl ‹_›
    · exact .inr ‹_›
    · cases this
  · have := h7 y hy
    rw [z] at this
    cases this
def cDf (gl : List (Str × GV)) (bl : List Str) (cel : List (Nat × Nat)) (d : He.DefD) (n : Dn) : Option Df :=
  if (fsB n.N n.ps d.scope && d.dfl.isEmpty && d.kwd.isEmpty) = true then (match cSs ⟨gl, bl, n.N, cel⟩ d.scope 400 d.body with
    | some b => some ⟨n.ps.length, n.N.length, b, n.fr⟩
    | none => none) else none
def compAll (gl : List (Str × GV)) (bl : List Str) (cel : List (Nat × Nat)) : List He.DefD → List Dn → Option (List Df)
  | [], [] => some []
  | d :: fn, n :: dn => match cDf gl bl cel d n, compAll gl bl cel fn dn with
    | some f, some fs => some (f :: fs)
    | _, _ => none
  | _, _ => none
theorem compAll_at {gl : List (Str × GV)} {bl : List Str} {cel : List (Nat × Nat)} : ∀ {fn : List He.DefD} {dn : List Dn} {ds : List Df}, compAll gl bl cel fn dn = some ds → ∀ {i : Nat} {f : Df}, ds[i]? = some f → ∃ d n, fn[i]? = some d ∧ dn[i]? = some n ∧ cDf gl bl cel d n = some f
  | [], [], ds, h, i, f, e => by
    cases h
    simp at e
  | [], _ :: _, ds, h, i, f, e => by cases h
  | _ :: _, [], ds, h, i, f, e => by cases h
  | d :: fn, n :: dn, ds, h, i, f, e => by
    unfold compAll at h
    split at h
    · rename_i f0 fs h1 h2
      cases h
      cases i with
      | zero =>
        cases e
        exact ⟨d, n, rfl, rfl, h1⟩
      | succ i => exact compAll_at h2 (i := i) e
    · cases h
section
variable {P : Program} {w : World} {K : PySem.W.Frag} {mg : Str → Option Value} {base : Heap} {ca : Nat → Addr} {sub : Nat → Nat → Bool} {gl : List (Str × GV)} {bl : List Str} {cel : List (Nat × Nat)}
theorem start_env {N : List Str} {ds : List Mn.D} {vs : List V} {Z : Hp} {m : Mp} (h : RDs K Z m ds vs) : RE K Z m (ds.map some ++ List.replicate (N.length - ds.length) none) (L2.start N vs) := by
  have hl := h.length
  refine ⟨?_, fun i d q => ?_⟩
  · unfold L2.start
    simp [hl]
  · by_cases hi : i < ds.length
    · rw [List.getElem?_append_left (by simpa using hi), List.getElem?_map] at q
      obtain ⟨e, he, he2⟩ := Option.map_eq_some_iff.mp q
      cases he2
      obtain ⟨v, h1, h2⟩ := h.get he
      refine ⟨v, ?_, h2⟩
      unfold L2.start
      rw [List.getElem?_append_left (by simpa [← hl] using hi), List.getElem?_map, h1]
      rfl
    · rw [List.getElem?_append_right (by simpa using Nat.le_of_not_lt hi)] at q
      obtain ⟨_, q2⟩ := List.getElem?_eq_some_iff.mp q
      simp at q2
/-- one def, one level up -/
theorem def_step {lv : Nat} {cl : Calls} {d : He.DefD} {n : Dn} {f : Df} {fd : FuncData} {fa : Addr} (hf : cDf gl bl cel d n = some f) (F : FunD K d.name d.qual d.params d.body d.scope (d.dvs K) (d.kws K) fa fd)
    (hb : ∀ (kV doc pm : Value) (an : Option Addr) (cdv ct : Value) (us : List Value), us.length = n.ps.length → bindArgs (PySem.W.fnOf d.name d.qual d.params d.body d.scope .none kV doc pm an cdv ct) ⟨us, []⟩ = pure (n.ps.zip us))
    (G : Gok ⟨K, sub, cl, ca⟩ gl bl lv P w mg base) (xk : Exk ⟨K, sub, cl, ca⟩ gl mg) {p : Pm} (hp : p.K = K) (hpc : p.ca = ca) : FnG P w K mg base (lv + 1) fa (spR p (f.run sub cl)) := by
  unfold cDf at hf
  split at hf
  · rename_i hh
    simp only [Bool.and_eq_true, List.isEmpty_iff] at hh
    obtain ⟨⟨hs, hd⟩, hk⟩ := hh
    split at hf
    · rename_i code hcd
      cases hf
      have S := fsB_ok hs
      refine ⟨fun A outer s H us vs Q E hr hg e0 r h => ?_⟩
      obtain ⟨F', Z, m, St, ds, sr, rds, h⟩ := h
      rw [hp] at sr rds
      have bd : BindsTo s fd ⟨us, []⟩ (n.ps.zip us) ∨ us.length ≠ n.ps.length := by
        by_cases hl : us.length = n.ps.length
        · refine .inl ?_
          have e1 : d.dvs K = [] := by unfold He.DefD.dvs; rw [hd]; rfl
          rw [e1] at F
          exact F.bindsA hb s us hl
        · exact .inr hl
      have lens : ds.length = us.length := rds.length.trans r.length
      have h : Post p F' Z m (RD p.K) Q E (if ds.length = n.ps.length then (match exSs sub cl code (ds.map some ++ List.replicate (n.N.length - n.ps.length) none) St with
        | .rt d S1 => if n.fr then R.ok (S1.out St.next d) (S1.trim St.next (belD St.next (S1.out St.next d))) else .ok d S1
        | .nx _ S1 => .ok .non (if n.fr then S1.trim St.next true else S1)
        | .exc x _ S1 => .exc x (if n.fr then S1.trim St.next (belF St.next x.fs) else S1)
        | _ => .bad) else .bad) := h
      split at h
      · rename_i hl
        have bd2 : BindsTo s fd ⟨us, []⟩ (n.ps.zip us) := bd.elim id fun z => absurd (lens.symm.trans hl) z
        obtain ⟨oc, od, dV, kV, doc, pm, an, cdv, ct, osl, rfl, lk, hcd2, _, _⟩ := F.ex
        refine LamX.run_ofS lk hcd2 S hr e0 bd2 r ((r.length.trans (lens.symm.trans hl))) fun hroom => ⟨tSs ⟨K, sub, cl, ca⟩ (fun cls d _ H => E cls d H) code, ?_, ?_⟩
        · refine (snds_all (p := ⟨K, sub, cl, ca⟩) (c := ⟨gl, bl, n.N, cel⟩) 400).ss (lv := lv) (sc := d.scope) ?_ hcd
          exact ⟨⟨⟨rfl, rfl, S.nd, hroom, hg, takes_of rfl rfl rfl rfl, S.kind⟩, G, rfl, rfl⟩, passes_of rfl, rfl, rfl, ⟨fun _ h => h, fun _ h => ⟨h, rfl⟩⟩, xk⟩
        · refine ⟨F', Z, m, St, _, start_env (N := n.N) rds, sr, ?_⟩
          rw [hl]
          have tr : ∀ {Z' : Hp} {m' : Mp} {S1 : Sto} {H' : Hp} (b : Bool), Ext Z m Z' m' → SR K F' Z' m' S1 H' → ∃ m'', Ext Z m Z' m'' ∧ SR p.K F' Z' m'' (if n.fr = true then S1.trim St.next b else S1) H' := fun {Z' m' S1 H'} b e q => by
            rw [hp]
            split
            · obtain ⟨m'', q1, q2, _⟩ := q.trim (m0 := m) (n := St.next) (fun k a h => ⟨sr.nx k a h, e.m k a h⟩) b
              exact ⟨m'', ⟨e.z, q2⟩, q1⟩
            · exact ⟨m', e, q⟩
          generalize exSs sub cl code (ds.map some ++ List.replicate (n.N.length - n.ps.length) none) St = res at h ⊢
          cases res with
          | nx env S1 =>
            intro Z' m' H' σ' e1 s1 _
            obtain ⟨m'', e2, s2⟩ := tr true e1 s1
            exact h Z' m'' H' .non e2 s2 .non
          | rt x S1 =>
            intro Z' m' H' v e1 s1 r1
            have h : Post p F' Z m (RD p.K) Q E (if n.fr = true then R.ok (S1.out St.next x) (S1.trim St.next (belD St.next (S1.out St.next x))) else .ok x S1) := h
            split at h
            · obtain ⟨Z'', m'', e2, e3, s2, r2⟩ := s1.exit (m0 := m) (n := St.next) (fun k a h => ⟨sr.nx k a h, e1.m k a h⟩) r1
              rw [hp] at h
              exact h Z'' m'' H' v ⟨e1.z.trans e2, e3⟩ (by rw [hp]; exact s2) r2
            · exact h Z' m' H' v e1 (by rw [hp]; exact s1) (by rw [hp]; exact r1)
          | exc x env S1 =>
            intro Z' m' H' σ' cls dd e1 s1 _ xr
            obtain ⟨m'', e2, s2⟩ := tr (belF St.next x.fs) e1 s1
            exact h Z' m'' H' cls dd e2 s2 (by rw [hpc]; exact xr)
          | bk _ _ => exact False.elim h
          | ct _ _ => exact False.elim h
          | bad => exact False.elim h
      · exact False.elim h
    · cases hf
  · cases hf
end
end Mn

/-! A law's end. -/
namespace Mn
open PySem PySem.Spec PyProof.Rows L2
/-! ### every level -/
section
variable {P : Program} {w : World} {K : PySem.W.Frag} {mg : Str → Option Value} {base : Heap} {ca : Nat → Addr} {sub : Nat → Nat → Bool} {gl : List (Str × GV)} {bl : List Str} {cel : List (Nat × Nat)}
theorem run_zero {ds : List Df} (i : Nat) (xs : List Mn.D) (S : Sto) : run sub ds 0 i xs S = .bad := rfl
theorem run_succ {ds : List Df} (k i : Nat) (xs : List Mn.D) (S : Sto) : run sub ds (k + 1) i xs S = if i < 1000000 then (match ds[i]? with
    | some f => f.run sub (run sub ds k) xs S
    | none => .bad) else run sub ds k (i - 1000000) xs S := rfl
theorem run_mak {ds : List Df} (k j : Nat) : run sub ds (k + 1) (1000000 + j) = run sub ds k j := by
  funext xs S
  rw [run_succ, if_neg (by omega), Nat.add_sub_cancel_left]
theorem fn_bad {lv : Nat} {fa : Addr} {p : Pm} {g : List Mn.D → Sto → R Mn.D} (h : ∀ xs S, g xs S = .bad) : FnG P w K mg base lv fa (spR p g) := by
  refine ⟨fun A outer s H us vs Q E hr hg e0 r q => ?_⟩
  obtain ⟨F, Z, m, S, ds, sr, rds, q⟩ := q
  rw [h] at q
  exact False.elim q
theorem levels {fn : List He.DefD} {dn : List Dn} {ds : List Df} (hc : compAll gl bl cel fn dn = some ds)
    (hfn : ∀ (i : Nat) (d : He.DefD), fn[i]? = some d → ∃ fd, FunD K d.name d.qual d.params d.body d.scope (d.dvs K) (d.kws K) (He.fAd K d.at_) fd)
    (hb : ∀ (i : Nat) (d : He.DefD) (n : Dn), fn[i]? = some d → dn[i]? = some n → ∀ (kV doc pm : Value) (an : Option Addr) (cdv ct : Value) (us : List Value), us.length = n.ps.length → bindArgs (PySem.W.fnOf d.name d.qual d.params d.body d.scope .none kV doc pm an cdv ct) ⟨us, []⟩ = pure (n.ps.zip us))
    (hgl : ∀ x i, gl.lookup x = some (.fn i) → ∃ d, fn[i]? = some d ∧ mg x = some (.ref (He.fAd K d.at_)) ∧ PySem.W.keepIn K (.ref (He.fAd K d.at_)) = true)
    (hlit : ∀ x d, gl.lookup x = some (.lit d) → ∃ v u, mg x = some u ∧ RelV v u ∧ ∀ Z m, RD K Z m d v) (hfree : ∀ x, x ∈ bl → mg x = none)
    (hdct : ∀ x kvs, gl.lookup x = some (.dct kvs) → ∃ a es n, mg x = some (.ref a) ∧ KDict K w a es n ∧ ∀ s, match kfind s kvs with
      | some d => ∃ v u, PySem.W.nsIn K a (tx s) = some (some u) ∧ RelV v u ∧ ∀ Z m, RD K Z m d v
      | none => PySem.W.nsIn K a (tx s) = some none)
    (hlen : fn.length ≤ 1000000)
    (hmak : ∀ x fs ms i, gl.lookup x = some (.obj fs ms (some i)) → mg x = some (.ref (He.ga K x)) ∧ PySem.W.keepIn K (.ref (He.ga K x)) = true ∧ ∃ d, fn[i]? = some d ∧ L2.Mk K (He.ga K x) (He.fAd K d.at_))
    (hobj : ∀ x fs ms mk, gl.lookup x = some (.obj fs ms mk) → Cls K (He.ga K x) ∧ (∀ f ∈ fs, NoAttr K (He.ga K x) (tx f)) ∧ ∀ m i, ms.lookup m = some i → ∃ d, fn[i]? = some d ∧ Meth K (He.ga K x) (tx m) (He.fAd K d.at_)) (xk : ∀ cl, Exk ⟨K, sub, cl, ca⟩ gl mg) :
    ∀ (k i : Nat) (d : He.DefD) (cl : Calls), fn[i]? = some d → FnG P w K mg base k (He.fAd K d.at_) (spR ⟨K, sub, cl, ca⟩ (run sub ds k i))
  | 0, i, d, cl, hd => fn_bad fun _ _ => rfl
  | k + 1, i, d, cl, hd => by
    have hi : i < 1000000 := Nat.lt_of_lt_of_le (List.getElem?_eq_some_iff.mp hd).1 hlen
    cases hf : ds[i]? with
    | none =>
      refine fn_bad fun xs S => ?_
      show (if i < 1000000 then (match ds[i]? with
        | some f => f.run sub (run sub ds k) xs S
        | none => .bad) else run sub ds k (i - 1000000) xs S) = .bad
      rw [if_pos hi, hf]
    | some f =>
      obtain ⟨d', n, h1, h2, h3⟩ := compAll_at hc hf
      rw [hd] at h1
      cases h1
      obtain ⟨fd, F⟩ := hfn i d hd
      have e : run sub ds (k + 1) i = f.run sub (run sub ds k) := by
        funext xs S
        show (if i < 1000000 then (match ds[i]? with
          | some f => f.run sub (run sub ds k) xs S
          | none => .bad) else run sub ds k (i - 1000000) xs S) = _
        rw [if_pos hi, hf]
      rw [e]
      have mak : ∀ x fs ms j, gl.lookup x = some (.obj fs ms (some j)) → mg x = some (.ref (He.ga K x)) ∧ PySem.W.keepIn K (.ref (He.ga K x)) = true ∧ ((∀ xs S, run sub ds k (1000000 + j) xs S = .bad) ∨
          ∃ lv' f, k = lv' + 1 ∧ L2.Mk K (He.ga K x) f ∧ FnG P w K mg base lv' f (spR ⟨K, sub, run sub ds k, ca⟩ (run sub ds k (1000000 + j)))) := fun x fs ms j hx => by
        obtain ⟨g1, g2, dj, g3, g4⟩ := hmak x fs ms j hx
        refine ⟨g1, g2, ?_⟩
        rcases Nat.eq_zero_or_pos k with hz | hz
        · exact .inl fun xs S => by
            rw [hz]
            exact run_zero _ xs S
        · obtain ⟨k', hk'⟩ : ∃ k', k = k' + 1 := ⟨k - 1, by omega⟩
          have e2 : run sub ds k (1000000 + j) = run sub ds k' j := by
            rw [hk']
            exact run_mak k' j
          have lower := levels hc hfn hb hgl hlit hfree hdct hlen hmak hobj xk k' j dj (run sub ds k) g3
          rw [e2]
          exact .inr ⟨k', _, hk', g4, lower⟩
      refine def_step h3 F (hb i d n hd h2) ⟨fun x j hx => ?_, hlit, hfree, mak, fun x fs ms mk hx => ?_, hdct⟩ (xk _) rfl rfl
      · obtain ⟨dj, g1, g2, g3⟩ := hgl x j hx
        exact ⟨_, g2, g3, levels hc hfn hb hgl hlit hfree hdct hlen hmak hobj xk k j dj _ g1⟩
      · obtain ⟨g1, g2, g3⟩ := hobj x fs ms mk hx
        refine ⟨g1, g2, fun m j hm => ?_⟩
        obtain ⟨dj, g4, g5⟩ := g3 m j hm
        exact ⟨_, g5, levels hc hfn hb hgl hlit hfree hdct hlen hmak hobj xk k j dj _ g4⟩
termination_by k => k
decreasing_by all_goals omega
end
/-! ### constants of the module -/
mutual
def litB (K : PySem.W.Frag) : Mn.D → Value → Bool
  | .non, .none => true
  | .bl b, .bool c => b == c
  | .int i, .int j _ => decide (i = j)
  | .str s, .str y _ => decide (tx s = y)
  | .tup false xs, .ref a => (match K.lookup a with
    | some ⟨.type c, _, .seq its _, _⟩ => decide (c = "tuple") && (decide (its.size ≤ sizeLine) && litBs K xs its.toList)
    | _ => false)
  | _, _ => false
def litBs (K : PySem.W.Frag) : List Mn.D → List Value → Bool
  | [], [] => true
  | d :: ds, u :: us => litB K d u && litBs K ds us
  | _, _ => false
end
mutual
theorem litB_ok {K : PySem.W.Frag} : ∀ {d : Mn.D} {u : Value}, litB K d u = true → ∃ v, RelV v u ∧ ∀ Z m, RD K Z m d v
  | .non, u, h => by
    cases u <;> first | exact ⟨.non, rfl, fun _ _ => .non⟩ | cases h
  | .bl b, u, h => by
    cases u <;> first | cases h | skip
    rename_i c
    have e : b = c := eq_of_beq (show (b == c) = true from h)
    subst e
    exact ⟨.bl b, rfl, fun _ _ => .bl b⟩
  | .int i, u, h => by
    cases u <;> first | cases h | skip
    rename_i j t
    have e : i = j := of_decide_eq_true h
    subst e
    exact ⟨.int i, ⟨t, rfl⟩, fun _ _ => .int i⟩
  | .str s, u, h => by
    cases u <;> first | cases h | skip
    rename_i y t
    have e : tx s = y := of_decide_eq_true h
    subst e
    exact ⟨.str (tx s), ⟨t, rfl⟩, fun _ _ => .str s⟩
  | .tup true xs, u, h => by cases u <;> cases h
  | .tup false xs, u, h => by
    cases u <;> first | cases h | skip
    rename_i a
    have h : (match K.lookup a with
      | some ⟨.type c, _, .seq its _, _⟩ => decide (c = "tuple") && (decide (its.size ≤ sizeLine) && litBs K xs its.toList)
      | _ => false) = true := h
    split at h
    · rename_i c od its n sl q
      simp only [Bool.and_eq_true, decide_eq_true_eq] at h
      obtain ⟨rfl, h2, h3⟩ := h
      obtain ⟨vs, h4, h5⟩ := litBs_ok h3
      exact ⟨.ref a, rfl, fun Z m => .tup (fun z => Bool.noConfusion z) (.inr ⟨_, its, n, q, rfl, rfl, h2, h4⟩) (h5 Z m)⟩
    · cases h
  | .rep _, u, h => by cases u <;> cases h
  | .lst _, u, h => by cases u <;> cases h
  | .ref _, u, h => by cases u <;> cases h
  | .scr _, u, h => by cases u <;> cases h
theorem litBs_ok {K : PySem.W.Frag} : ∀ {d : List Mn.D} {u : List Value}, litBs K d u = true → ∃ v, Vals v u ∧ ∀ Z m, RDs K Z m d v
  | [], [], _ => ⟨[], .nil, fun _ _ => .nil⟩
  | [], _ :: _, h => by cases h
  | _ :: _, [], h => by cases h
  | d :: ds, u :: us, h => by
    obtain ⟨h1, h2⟩ := Bool.and_eq_true_iff.mp (show (litB K d u && litBs K ds us) = true from h)
    obtain ⟨v, q1, q2⟩ := litB_ok h1
    obtain ⟨vs, q3, q4⟩ := litBs_ok h2
    exact ⟨v :: vs, .cons q1 q3, fun Z m => .cons (q2 Z m) (q4 Z m)⟩
end
/-! ### written dicts -/
def entB (K : PySem.W.Frag) : List (List Nat × Mn.D) → List DictEntry → Bool
  | [], [] => true
  | (k, d) :: r, e :: es => (match e.key with
    | .str y _ => decide (tx k = y)
    | _ => false) && (litB K d e.val && entB K r es)
  | _, _ => false
theorem entB_ok {K : PySem.W.Frag} : ∀ {kvs : List (List Nat × Mn.D)} {es : List DictEntry}, entB K kvs es = true → es.any (·.refKey) = false ∧ ∀ s, match kfind s kvs with
    | some d => ∃ v u e, es.find? (·.key.isStr (tx s)) = some e ∧ e.val = u ∧ RelV v u ∧ ∀ Z m, RD K Z m d v
    | none => es.find? (·.key.isStr (tx s)) = none
  | [], [], _ => ⟨rfl, fun _ => rfl⟩
  | [], _ :: _, h => by cases h
  | _ :: _, [], h => by cases h
  | (k, d) :: r, e :: es, h => by
    obtain ⟨h1, h2⟩ := Bool.and_eq_true_iff.mp (show ((match e.key with
      | .str y _ => decide (tx k = y)
      | _ => false) && (litB K d e.val && entB K r es)) = true from h)
    obtain ⟨h3, h4⟩ := Bool.and_eq_true_iff.mp h2
    obtain ⟨i1, i2⟩ := entB_ok h4
    obtain ⟨v, l1, l2⟩ := litB_ok h3
    split at h1
    · rename_i y t ey
      have ek : tx k = y := of_decide_eq_true h1
      subst ek
      have er : e.refKey = false := by
        unfold DictEntry.refKey
        rw [ey]
      refine ⟨by rw [List.any_cons, er, i1]; rfl, fun s => ?_⟩
      have es' : e.key.isStr (tx s) = (tx k == tx s) := by rw [ey]; rfl
      by_cases hk : k = s
      · subst hk
        have e1 : kfind k ((k, d) :: r) = some d := if_pos rfl
        rw [e1]
        refine ⟨v, e.val, e, ?_, rfl, l1, l2⟩
        rw [List.find?_cons, es']
        simp
      · have e1 : kfind s ((k, d) :: r) = kfind s r := if_neg hk
        have e2 : (tx k == tx s) = false := by
          have : tx k ≠ tx s := fun z => hk (tx_inj.mp z)
          simp [this]
        rw [e1, List.find?_cons, es', e2]
        exact i2 s
    · cases h1
def dctB (K : PySem.W.Frag) (a : Addr) (kvs : List (List Nat × Mn.D)) : Bool := match K.lookup a with
  | some ⟨_, _, .dict es _, _⟩ => entB K kvs es.toList
  | _ => false
theorem dctB_ok {K : PySem.W.Frag} {w : World} {a : Addr} {es : Array DictEntry} {n : Nat} {kvs : List (List Nat × Mn.D)} (D : KDict K w a es n) (h : dctB K a kvs = true) (s : List Nat) : match kfind s kvs with
    | some d => ∃ v u, PySem.W.nsIn K a (tx s) = some (some u) ∧ RelV v u ∧ ∀ Z m, RD K Z m d v
    | none => PySem.W.nsIn K a (tx s) = some none := by
  unfold dctB at h
  rw [D.at_] at h
  obtain ⟨h1, h2⟩ := entB_ok h
  have h3 := h2 s
  have e : PySem.W.nsIn K a (tx s) = (match es.toList.find? (·.key.isStr (tx s)) with
      | some e => some (some e.val)
      | none => if es.toList.any (·.refKey) then none else some none) := by
    unfold PySem.W.nsIn
    rw [D.at_]
    rfl
  cases q : kfind s kvs with
  | some d =>
    rw [q] at h3
    obtain ⟨v, u, en, f1, f2, f3, f4⟩ := h3
    refine ⟨v, u, ?_, f3, f4⟩
    rw [e, f1, ← f2]
  | none =>
    rw [q] at h3
    show PySem.W.nsIn K a (tx s) = some none
    rw [e, h3, h1]
    rfl
/-- the dicts of the text: name, keys -/
def dctsOf (gl : List (Str × GV)) : List (Str × List Str) := gl.filterMap fun e => match e.2 with
  | .dct kvs => some (e.1, kvs.map fun q => tx q.1)
  | _ => none
/-! ### what the head tells -/
def subT (T : List (List Bool)) (i j : Nat) : Bool := ((if i < T.length then T.getD i [] else T.getD 0 [])).getD j false
def xName (xs : List Str) (i : Nat) : Str := if i < xs.length then xs.getD i Str.empty else xs.getD 0 Str.empty
def excCB (K : PySem.W.Frag) (D : Addr) : Bool := He.eqO (PySem.W.findIn K (.ref D) "__getattribute__") (some (some (.builtin "BaseException.__getattribute__"))) && (He.eqO (PySem.W.findIn K (.ref D) "__getattr__") (some none) && (decide (PySem.W.subIn K (.ref D) (.type "BaseException") = some true) &&
  (PySem.W.hasDictIn K D && (He.eqO (PySem.W.findIn K (.ref D) "__class__") (some (some (.builtin "object.__class__"))) && (He.eqO (PySem.W.specialIn K (.builtin "object.__class__") "__get__") (some (some (.builtin "getset_descriptor.__get__"))) &&
  (decide (PySem.W.takesIn K (.builtin "object.__class__") = some true) && decide (PySem.W.mroIn K D (.type "object") = some true)))))))
theorem excCB_ok {K : PySem.W.Frag} {D : Addr} (h : excCB K D = true) : ExcC K D := by
  unfold excCB at h
  simp only [Bool.and_eq_true, decide_eq_true_eq] at h
  obtain ⟨h1, h2, h3, h4, h5, h6, h7, h8⟩ := h
  exact ⟨He.eqO_ok h1, He.eqO_ok h2, h3, h4, He.eqO_ok h5, He.eqO_ok h6, h7, h8⟩
def glB (fn : List He.DefD) (xs : List Str) (K : PySem.W.Frag) (e : Str × GV) : Bool := match e.2 with
  | .fn i => (match fn[i]? with
    | some d => decide (d.at_ = (e.1, none)) && He.Fa.ok K (.glo e.1)
    | none => false)
  | .lit d => (match PySem.W.nsIn K mainGlobals e.1 with
    | some (some u) => litB K d u
    | _ => false)
  | .dct kvs => He.Fa.ok K (.glo e.1) && dctB K (He.ga K e.1) kvs
  | .obj fs ms mk => (match mk with
    | some i => He.Fa.ok K (.glo e.1) && (He.Fa.ok K (.mkr e.1) && (match fn[i]? with
      | some d => decide (d.at_ = (e.1, some ("__init__" : Str)))
      | none => false))
    | none => true) && (He.Fa.ok K (.cls e.1) && ((fs.all fun f => He.Fa.ok K (.noat e.1 (tx f))) && ms.all fun q => (match fn[q.2]? with
    | some d => decide (d.at_ = (e.1, some (tx q.1))) && He.Fa.ok K (.meth e.1 (tx q.1))
    | none => false)))
  | .exc i => decide (i < xs.length) && (decide (xName xs i = e.1) && (He.Fa.ok K (.glo e.1) && He.Fa.ok K (.exc e.1)))
def xB (xs : List Str) (T : List (List Bool)) (K : PySem.W.Frag) : Bool := decide (xs.length = T.length) && (xs.all (fun x => excCB K (He.ga K x)) && ((List.range xs.length).all fun i => (List.range xs.length).all fun j =>
  decide (PySem.W.exmOne K (.ref (He.ga K (xName xs i))) (.ref (He.ga K (xName xs j))) = some (subT T i j)) && decide (PySem.W.kitOne K (.ref (He.ga K (xName xs i))) (.ref (He.ga K (xName xs j))) = some (subT T i j))))
def factB (gl : List (Str × GV)) (bl : List Str) (fn : List He.DefD) (xs : List Str) (T : List (List Bool)) (K : PySem.W.Frag) : Bool :=
  gl.all (glB fn xs K) && ((bl.all fun x => He.Fa.ok K (.free x)) && (if xs.isEmpty then true else xB xs T K))
abbrev AlM : Type := (He.AlD × Bool) × List (Option (List (Option (Str × Int))))
def dctW (gl : List (Str × GV)) (K : PySem.W.Frag) : List (Option (List (Option (Str × Int)))) := (dctsOf gl).map fun t => He.dicW K (He.ga K t.1)
def obsM (n : Nat) (gl : List (Str × GV)) (bl : List Str) (fn : List He.DefD) (xs : List Str) (T : List (List Bool)) (g : Addr → Option Obj) : AlM := ((He.obsD [] fn (He.frG g (He.asD g n)), factB gl bl fn xs T (He.frG g (He.asD g n))), dctW gl (He.frG g (He.asD g n)))
def hookM (n : Nat) (gl : List (Str × GV)) (bl : List Str) (fn : List He.DefD) (xs : List Str) (T : List (List Bool)) : PySem.W.Hook where
  α := AlM
  obs := fun s => obsM n gl bl fn xs T s.heap.get?
  val := fun w => ((He.valD fn, true), (dctsOf gl).map fun t : Str × List Str => some (He.keysIn w.params t.2))
  says := fun w h => ∃ K : PySem.W.Frag, K.In h ∧ He.SaysD [] fn K ∧ factB gl bl fn xs T K = true ∧ dctW gl K = (dctsOf gl).map fun t => some (He.keysIn w.params t.2)
  of := fun _ _ e => ⟨_, He.frG_in, congrArg (fun z : AlM => z.1.1) e, congrArg (fun z : AlM => z.1.2) e, (by exact congrArg (fun z : AlM => z.2) e)⟩
  keeps := fun _ _ _ ⟨K, hK, c⟩ k => ⟨K, PySem.W.Frag.In.keeps hK k, c⟩
theorem obsM_eq {n : Nat} {gl : List (Str × GV)} {bl : List Str} {fn : List He.DefD} {xs : List Str} {T : List (List Bool)} {g : Addr → Option Obj} {s : Shared} (h : ∀ a, g a = s.heap.get? a) : obsM n gl bl fn xs T g = (hookM n gl bl fn xs T).obs s := by
  have e : g = s.heap.get? := funext h
  rw [e] <;> rfl
section
variable {gl : List (Str × GV)} {bl : List Str} {fn : List He.DefD} {xs : List Str} {T : List (List Bool)} {K : PySem.W.Frag} {h : Heap} {mg : Str → Option Value}
theorem mem_lookup {x : Str} {g : GV} (e : gl.lookup x = some g) : (x, g) ∈ gl := PySem.mem_of_lookup e
theorem xName_in {i : Nat} (h : xs ≠ []) : xName xs i ∈ xs := by
  have h0 : 0 < xs.length := List.length_pos_iff.mpr h
  unfold xName
  split
  · rename_i hi
    rw [List.getD_eq_getElem?_getD, List.getElem?_eq_getElem hi]
    exact List.getElem_mem hi
  · rw [List.getD_eq_getElem?_getD, List.getElem?_eq_getElem h0]
    exact List.getElem_mem h0
theorem exk_of (X : K.In h) (G : h.Ns mainGlobals mg) (hx : xs ≠ []) (f : factB gl bl fn xs T K = true) (cl : Calls) : Exk ⟨K, subT T, cl, fun i => He.ga K (xName xs i)⟩ gl mg := by
  unfold factB at f
  have hx2 : xs.isEmpty = false := by cases xs <;> first | rfl | exact absurd rfl hx
  rw [hx2, if_neg Bool.false_ne_true] at f
  obtain ⟨f1, f2⟩ := He.ba f
  obtain ⟨_, f3⟩ := He.ba f2
  unfold xB at f3
  obtain ⟨f4, f5⟩ := He.ba f3
  obtain ⟨f6, f7⟩ := He.ba f5
  have hlen := of_decide_eq_true f4
  have h0 : 0 < xs.length := List.length_pos_iff.mpr hx
  have at2 : ∀ i j, j < xs.length → PySem.W.exmOne K (.ref (He.ga K (xName xs i))) (.ref (He.ga K (xName xs j))) = some (subT T i j) ∧ PySem.W.kitOne K (.ref (He.ga K (xName xs i))) (.ref (He.ga K (xName xs j))) = some (subT T i j) := fun i j hj => by
    have key : ∀ i, i < xs.length → PySem.W.exmOne K (.ref (He.ga K (xName xs i))) (.ref (He.ga K (xName xs j))) = some (subT T i j) ∧ PySem.W.kitOne K (.ref (He.ga K (xName xs i))) (.ref (He.ga K (xName xs j))) = some (subT T i j) := fun i hi => by
      have := List.all_eq_true.mp (List.all_eq_true.mp f7 i (List.mem_range.mpr hi)) j (List.mem_range.mpr hj)
      obtain ⟨a, b⟩ := He.ba this
      exact ⟨of_decide_eq_true a, of_decide_eq_true b⟩
    by_cases hi : i < xs.length
    · exact key i hi
    · have e1 : xName xs i = xName xs 0 := by
        unfold xName
        rw [if_neg hi, if_pos h0]
      have e2 : subT T i j = subT T 0 j := by
        unfold subT
        rw [if_neg (by rw [← hlen]; exact hi), if_pos (by rw [← hlen]; exact h0)]
      rw [e1, e2]
      exact key 0 h0
  refine ⟨fun x i e => ?_, fun i => excCB_ok (List.all_eq_true.mp f6 _ (xName_in hx))⟩
  have := List.all_eq_true.mp f1 _ (mem_lookup e)
  have this : (decide (i < xs.length) && (decide (xName xs i = x) && (He.Fa.ok K (.glo x) && He.Fa.ok K (.exc x)))) = true := this
  obtain ⟨a1, a2⟩ := He.ba this
  obtain ⟨a3, a4⟩ := He.ba a2
  obtain ⟨a5, a6⟩ := He.ba a4
  have hi := of_decide_eq_true a1
  have hn := of_decide_eq_true a3
  obtain ⟨b1, b2, b3, b4⟩ := He.exc_ok a6
  show mg x = some (.ref (He.ga K (xName xs i))) ∧ PySem.W.keepIn K (.ref (He.ga K (xName xs i))) = true ∧ PySem.W.subIn K (.ref (He.ga K (xName xs i))) (.type "BaseException") = some true ∧ PySem.W.typeIn K (.ref (He.ga K (xName xs i))) = some (.type "type") ∧
    (∀ j, PySem.W.exmOne K (.ref (He.ga K (xName xs j))) (.ref (He.ga K (xName xs i))) = some (subT T j i)) ∧ (∀ j, PySem.W.kitOne K (.ref (He.ga K (xName xs j))) (.ref (He.ga K (xName xs i))) = some (subT T j i)) ∧ _
  refine ⟨?_, ?_, ?_, ?_, fun j => (at2 j i hi).1, fun j => (at2 j i hi).2, ?_⟩
  · rw [hn]
    exact He.glo_ok X G a5
  · rw [hn]
    exact b2
  · rw [hn]
    exact b3
  · rw [hn]
    exact b4
  · refine ⟨_, _, _, _, PySem.F.excBase_ValueError, ?_⟩
    show PySem.W.excIn K (He.ga K (xName xs i)) _ _ = true
    rw [hn]
    exact b1

end
/-! ### the call -/
section
variable {P : Program} {w : World} {K : PySem.W.Frag} {mg mb : Str → Option Value} {k : Nat} {fa a : Addr} {sp : Sp} {s₁ : Shared} {vs : List Value} {ns : List Int}
theorem at_base {H : Hp} (hr : Room k callerA) (KX : K.In s₁.heap) (ng : s₁.heap.Ns mainGlobals mg) (nb : s₁.heap.Ns builtinsNs mb) (bb : ∀ x : Str, x ≠ "__name__" → mb x = bootBuiltins x) (lim : s₁.heap.NoLimit) (gn : s₁.gens = #[])
    (ob : s₁.heap.get? a = some { cls := .type "list", data := .seq vs.toArray }) (only : ∀ b, H b = none ∨ b = a ∧ K.lookup a = none) (ok : HOk P w H s₁.heap) (frz : ∀ b u, H b = some u → ∃ o xs, u = .frz o (.lst xs))
    (F : ∀ base : Heap, K.In base → base.Ns mainGlobals mg → FnG P w K mg base k fa sp) (q : sp [.ref a] H (fun v _ => v = .bl true) fun _ _ _ => False) :
    codeAny (model P w) callerA (.call (.ref fa) ⟨[.ref a], []⟩) (fun r s' => r = .ok (.ret (.bool true)) ∧ OldK s₁.heap s'.heap ∧ s'.os = s₁.os ∧ AllBare s'.gens) s₁ := by
  have keep : ∀ {b : Addr} {o : Obj}, s₁.heap.get? b = some o → (∀ us n, o.data ≠ .seq us n) → (hidT s₁.heap H).get? b = some o := fun {b o} e hd => by
    rcases only b with z | ⟨rfl, _⟩
    · exact hidT_get e z
    · rw [ob] at e
      cases e
      exact absurd rfl (hd _ _)
  have dict : ∀ {b : Addr} {m : Str → Option Value}, s₁.heap.Ns b m → (hidT s₁.heap H).Ns b m := fun ⟨o, es, ep, e, d, r⟩ => ⟨o, es, ep, keep e (fun us n z => by rw [d] at z; cases z), d, r⟩
  have inB : K.In (hidT s₁.heap H) := fun b o e => by
    rcases only b with z | ⟨rfl, z⟩
    · exact hidT_get (KX b o e) z
    · rw [z] at e
      cases e
  have md : L2.Mod K mg (hidT s₁.heap H) := ⟨inB, dict ng, ⟨mb, dict nb, bb⟩, by
    obtain ⟨mc, l1, l2⟩ := lim
    exact ⟨mc, dict l1, l2⟩⟩
  have en : Env0 P w K mg (hidT s₁.heap H) callerA [] s₁ H := ⟨rfl, md, fun _ _ e => of_hidT e, Nat.le_of_eq (hidT_size _ _), trivial, (fun b hb => by cases hb), ok, .of_eq gn⟩
  have rv : Vals [V.ref a] [Value.ref a] := .cons rfl .nil
  refine codeAny_mono ((F _ inB (dict ng)).go callerA [] s₁ H _ _ _ _ hr rfl en rv q) fun r s' hres => ?_
  cases r with
  | error e =>
    obtain ⟨_, _, _, _, _, _, _, _, _, _, _, _, z⟩ := hres
    exact False.elim z
  | ok fl =>
    cases fl <;> first | exact False.elim hres | skip
    rename_i u
    obtain ⟨v, H', os, bare, un, ok', ru, ev⟩ := hres
    have ev : v = V.bl true := ev
    rw [ev] at ru
    have eu : u = Value.bool true := ru
    rw [eu]
    refine ⟨rfl, OldK.of_keep fun b o e => ?_, os, bare⟩
    cases hb : H b with
    | none => exact un.keep b o e hb (fun z => by cases z) (fun z => by cases z)
    | some x =>
      obtain ⟨o2, xs, ex⟩ := frz b x hb
      subst ex
      have g1 := (ok b _ hb).1
      have g2 := (ok' b _ (un.frzs b o2 _ hb)).1
      rw [e] at g1
      cases g1
      exact g2
theorem scr_call (hr : Room k callerA) (KX : K.In s₁.heap) (ng : s₁.heap.Ns mainGlobals mg) (nb : s₁.heap.Ns builtinsNs mb) (bb : ∀ x : Str, x ≠ "__name__" → mb x = bootBuiltins x) (lim : s₁.heap.NoLimit) (gn : s₁.gens = #[])
    (ob : s₁.heap.get? a = some { cls := .type "list", data := .seq vs.toArray }) (ni : IntsAre vs ns) (nl : ns.length ≤ sizeLine)
    (F : ∀ base : Heap, K.In base → base.Ns mainGlobals mg → FnG P w K mg base k fa sp) (hsp : ∀ H : Hp, SqL K H a (ns.map V.int) → sp [.ref a] H (fun v _ => v = .bl true) fun _ _ _ => False) :
    codeAny (model P w) callerA (.call (.ref fa) ⟨[.ref a], []⟩) (fun r s' => r = .ok (.ret (.bool true)) ∧ OldK s₁.heap s'.heap ∧ s'.os = s₁.os ∧ AllBare s'.gens) s₁ := by
  have rel := vals_ints ni
  cases lk : K.lookup a with
  | some o =>
    have own := KX a o lk
    rw [ob] at own
    cases own
    have sq : SqL K (fun _ => none) a (ns.map V.int) := .inr ⟨_, vs.toArray, _, lk, rfl, rfl, rfl, by rw [List.size_toArray, ni.length]; exact nl, by rw [List.toList_toArray]; exact rel⟩
    exact at_base (H := fun _ => none) hr KX ng nb bb lim gn ob (fun _ => .inl rfl) (fun b u z => by cases (show (none : Option HO) = some u from z)) (fun b u z => by cases (show (none : Option HO) = some u from z)) F (hsp _ sq)
  | none =>
    generalize hH : (fun b => if b = a then some (HO.frz { cls := .type "list", data := .seq vs.toArray } (.lst (ns.map V.int))) else none : Hp) = H
    have hat : H a = some (HO.frz { cls := .type "list", data := .seq vs.toArray } (.lst (ns.map V.int))) := by
      rw [← hH]
      exact if_pos rfl
    have hno : ∀ b, b ≠ a → H b = none := fun b hb => by
      rw [← hH]
      exact if_neg hb
    have only : ∀ b, H b = none ∨ b = a ∧ K.lookup a = none := fun b => by
      by_cases hb : b = a
      · exact .inr ⟨hb, lk⟩
      · exact .inl (hno b hb)
    have is : ∀ b u, H b = some u → b = a ∧ u = HO.frz { cls := .type "list", data := .seq vs.toArray } (.lst (ns.map V.int)) := fun b u e => by
      by_cases hb : b = a
      · subst hb
        rw [hat] at e
        exact ⟨rfl, (Option.some.inj e).symm⟩
      · rw [hno b hb] at e
        cases e
    refine at_base hr KX ng nb bb lim gn ob only (fun b u e => ?_) (fun b u e => ⟨_, _, (is b u e).2⟩) F (hsp _ (.inl (.inr ⟨_, hat⟩)))
    obtain ⟨rfl, rfl⟩ := is b u e
    exact ⟨ob, by rw [List.length_map]; exact nl, vs, _, rel, ob⟩
end
/-- the law's walk -/
theorem walkM {l : PySem.W.OpenLaw} {n k : Nat} {q : Program} {loose : List Str} {XP : (Str → Option Value) → Heap → Prop} {YP : World → Heap → Prop} {d : DefRec} (hn : l.most = some n) (hn2 : n ≤ sizeLine) (hdf : d.params.defaults = []) (hr : Room k callerA)
    (F : ∀ (w : World) (mg : Str → Option Value) (fa : Addr) (h : Heap), YP w h → h.Ns mainGlobals mg → mg d.name = some (.ref fa) → ∃ (K : PySem.W.Frag) (sp : Sp), K.In h ∧
      (∀ (H : Hp) (a : Addr) (ns : List Int), ns.length ≤ n → SqL K H a (ns.map V.int) → sp [.ref a] H (fun v _ => v = .bl true) fun _ _ _ => False) ∧ ∀ base : Heap, K.In base → base.Ns mainGlobals mg → FnG l.prog w K mg base k fa sp) :
    PySem.W.WalkO q loose XP YP l.row.toRowW d [] (fun f vs => PySem.call f vs) := by
  refine Att.attach_call hn hdf fun w s₀ s₁ mg mb fa o pm cd doc a vs ns G Y ho hd hcd hmg hobj hints hlen hg => ?_
  obtain ⟨K, sp, KX, h1, h2⟩ := F w mg fa _ Y G.T.g hmg
  exact scr_call hr KX G.T.g G.T.b G.T.builtins G.T.nolimit hg hobj hints (Nat.le_trans hlen hn2) h2 fun H z => h1 H a ns hlen z
/-- a law whose defs are fn (the law's own the j-th), by the machine -/
theorem walkL {l : PySem.W.OpenLaw} {n k j nh : Nat} {q : Program} {loose : List Str} {XP : (Str → Option Value) → Heap → Prop} {d : DefRec} {gl : List (Str × GV)} {bl : List Str} {fn : List He.DefD} {xs : List Str} {T : List (List Bool)} {dn : List Dn} {cel : List (Nat × Nat)} {ds : List Df} {dl : He.DefD}
    (hn : l.most = some n) (hn2 : n ≤ sizeLine) (hdf : d.params.defaults = []) (hr : Room k callerA) (hlen : fn.length ≤ 1000000) (hx : xs ≠ []) (hc : compAll gl bl cel fn dn = some ds) (hj : fn[j]? = some dl) (hdl : gl.lookup d.name = some (.fn j))
    (hb : ∀ (i : Nat) (d : He.DefD) (n : Dn), fn[i]? = some d → dn[i]? = some n → ∀ (kV doc pm : Value) (an : Option Addr) (cdv ct : Value) (us : List Value), us.length = n.ps.length → bindArgs (PySem.W.fnOf d.name d.qual d.params d.body d.scope .none kV doc pm an cdv ct) ⟨us, []⟩ = pure (n.ps.zip us))
    (go : ∀ ns : List Int, ns.length ≤ n → ∃ S', run (subT T) ds k j [.scr ns] ⟨0, []⟩ = .ok (.bl true) S') :
    PySem.W.WalkO q loose XP (hookM nh gl bl fn xs T).says l.row.toRowW d [] (fun f vs => PySem.call f vs) := by
  refine walkM (k := k) hn hn2 hdf hr fun w mg fa h Y G hmg => ?_
  obtain ⟨K, KX, c, f, fd⟩ := Y
  have f0 := f
  unfold factB at f0
  obtain ⟨f1, f2⟩ := He.ba f0
  obtain ⟨f3, _⟩ := He.ba f2
  have hfn : ∀ (i : Nat) (d : He.DefD), fn[i]? = some d → ∃ fd, FunD K d.name d.qual d.params d.body d.scope (d.dvs K) (d.kws K) (He.fAd K d.at_) fd := fun i d e => c.def_ i e
  have hgl : ∀ x i, gl.lookup x = some (.fn i) → ∃ d, fn[i]? = some d ∧ mg x = some (.ref (He.fAd K d.at_)) ∧ PySem.W.keepIn K (.ref (He.fAd K d.at_)) = true := fun x i e => by
    have h1 : (match fn[i]? with
      | some d => decide (d.at_ = (x, none)) && He.Fa.ok K (.glo x)
      | none => false) = true := List.all_eq_true.mp f1 _ (mem_lookup e)
    split at h1
    · rename_i d hd
      obtain ⟨h2, h3⟩ := He.ba h1
      obtain ⟨fd, F⟩ := hfn i d hd
      refine ⟨d, hd, ?_, F.kp⟩
      have e2 : d.at_ = (x, none) := of_decide_eq_true h2
      rw [e2]
      exact He.glo_ok KX G h3
    · cases h1
  have hlit : ∀ x d, gl.lookup x = some (.lit d) → ∃ v u, mg x = some u ∧ RelV v u ∧ ∀ Z m, RD K Z m d v := fun x d e => by
    have h1 : (match PySem.W.nsIn K mainGlobals x with
      | some (some u) => litB K d u
      | _ => false) = true := List.all_eq_true.mp f1 _ (mem_lookup e)
    split at h1
    · rename_i u hu
      obtain ⟨v, h2, h3⟩ := litB_ok h1
      exact ⟨v, u, PySem.W.mg_of KX G hu, h2, h3⟩
    · cases h1
  have hdct : ∀ x kvs, gl.lookup x = some (.dct kvs) → ∃ a es n, mg x = some (.ref a) ∧ KDict K w a es n ∧ ∀ s, match kfind s kvs with
      | some d => ∃ v u, PySem.W.nsIn K a (tx s) = some (some u) ∧ RelV v u ∧ ∀ Z m, RD K Z m d v
      | none => PySem.W.nsIn K a (tx s) = some none := fun x kvs e => by
    have hm := mem_lookup e
    have h1 : (He.Fa.ok K (.glo x) && dctB K (He.ga K x) kvs) = true := List.all_eq_true.mp f1 _ hm
    obtain ⟨h2, h3⟩ := He.ba h1
    have hin : (x, kvs.map fun q => tx q.1) ∈ dctsOf gl := List.mem_filterMap.mpr ⟨(x, .dct kvs), hm, rfl⟩
    have hw : He.dicW K (He.ga K x) = some (He.keysIn w.params (kvs.map fun q => tx q.1)) := by
      have := List.map_inj_left.mp (show (dctsOf gl).map (fun t => He.dicW K (He.ga K t.1)) = (dctsOf gl).map fun t => some (He.keysIn w.params t.2) from fd) _ hin
      exact this
    obtain ⟨es, n, D⟩ := He.dicW_ok hw
    exact ⟨_, es, n, He.glo_ok KX G h2, D, dctB_ok D h3⟩
  have obj0 : ∀ x fs ms mk, gl.lookup x = some (.obj fs ms mk) → (match mk with
      | some i => He.Fa.ok K (.glo x) && (He.Fa.ok K (.mkr x) && (match fn[i]? with
        | some d => decide (d.at_ = (x, some ("__init__" : Str)))
        | none => false))
      | none => true) = true ∧ (He.Fa.ok K (.cls x) && ((fs.all fun f => He.Fa.ok K (.noat x (tx f))) && ms.all fun q => (match fn[q.2]? with
      | some d => decide (d.at_ = (x, some (tx q.1))) && He.Fa.ok K (.meth x (tx q.1))
      | none => false))) = true := fun x fs ms mk e => He.ba (List.all_eq_true.mp f1 _ (mem_lookup e))
  have hmak : ∀ x fs ms i, gl.lookup x = some (.obj fs ms (some i)) → mg x = some (.ref (He.ga K x)) ∧ PySem.W.keepIn K (.ref (He.ga K x)) = true ∧ ∃ d, fn[i]? = some d ∧ L2.Mk K (He.ga K x) (He.fAd K d.at_) := fun x fs ms i e => by
    obtain ⟨h2, h3⟩ := He.ba (obj0 x fs ms _ e).1
    obtain ⟨h4, h5⟩ := He.ba h3
    have M := He.mkr_ok h4
    refine ⟨He.glo_ok KX G h2, M.kp, ?_⟩
    split at h5
    · rename_i d hd
      refine ⟨d, hd, ?_⟩
      rw [of_decide_eq_true h5]
      exact M
    · cases h5
  have hobj : ∀ x fs ms mk, gl.lookup x = some (.obj fs ms mk) → Cls K (He.ga K x) ∧ (∀ f ∈ fs, NoAttr K (He.ga K x) (tx f)) ∧ ∀ m i, ms.lookup m = some i → ∃ d, fn[i]? = some d ∧ Meth K (He.ga K x) (tx m) (He.fAd K d.at_) := fun x fs ms mk e => by
    have h1 := (obj0 x fs ms mk e).2
    obtain ⟨h2, h3⟩ := He.ba h1
    obtain ⟨h4, h5⟩ := He.ba h3
    refine ⟨He.cls_ok h2, fun f hf => He.noat_ok (List.all_eq_true.mp h4 f hf), fun m i hm => ?_⟩
    have h6 := List.all_eq_true.mp h5 _ (mem_look hm)
    dsimp only at h6
    split at h6
    · rename_i d hd
      obtain ⟨h7, h8⟩ := He.ba h6
      refine ⟨d, hd, ?_⟩
      rw [of_decide_eq_true h7]
      exact He.meth_ok h8
    · cases h6
  have hfree : ∀ x, x ∈ bl → mg x = none := fun x e => He.free_ok KX G (List.all_eq_true.mp f3 x e)
  refine ⟨K, spR ⟨K, subT T, fun _ _ _ => .bad, fun i => He.ga K (xName xs i)⟩ (run (subT T) ds k j), KX, fun H a ns hl sq => ?_, fun base bK bG => ?_⟩
  · obtain ⟨S', e⟩ := go ns hl
    refine ⟨fun _ => none, H, fun _ => none, ⟨0, []⟩, [.scr ns], ?_, .cons (.scr sq) .nil, ?_⟩
    · refine ⟨fun b o z => ?_, Same.refl _, fun b o z => ?_, fun n xs z => ?_, fun n n' a xs xs' z => ?_, fun n a z => ?_⟩
      · cases (show (none : Option HO) = some o from z)
      · cases (show (none : Option HO) = some o from z)
      · cases z
      · cases z
      · cases (show (none : Option Addr) = some a from z)
    · rw [e]
      intro Z' m' H' v _ _ rd
      cases rd
      rfl
  · have hL := levels (base := base) (w := w) (P := l.prog) hc hfn hb hgl hlit hfree hdct hlen hmak hobj (fun cl => exk_of KX G hx f cl) k j dl (fun _ _ _ => .bad) hj
    obtain ⟨d', h1, h2, _⟩ := hgl _ _ hdl
    rw [hj] at h1
    cases h1
    rw [hmg] at h2
    cases h2
    exact hL
end Mn

namespace Law
open PySem PySem.Spec PyProof.Rows L2 Mn
def top (i : Nat) : Stmt := PySem.Challenge.pw_gasahead_k28_whole_orders_of_statements.main.body.getD i (.Pass ⟨0, 0, 0, 0⟩)
def methAt (st : Stmt) (j : Nat) : Stmt := match st with
  | .ClassDef _ _ _ b _ _ _ _ _ _ _ => b.getD j (.Pass ⟨0, 0, 0, 0⟩)
  | s => s
def d0 : He.DefD := ⟨("is_whole", none), "is_whole", "is_whole", defArgs (top 10), defBody (top 10), defScope (top 10), [], []⟩
def d1 : He.DefD := ⟨("is_tuple_of", none), "is_tuple_of", "is_tuple_of", defArgs (top 11), defBody (top 11), defScope (top 11), [], []⟩
def d2 : He.DefD := ⟨("ascends", none), "ascends", "ascends", defArgs (top 12), defBody (top 12), defScope (top 12), [], []⟩
def d3 : He.DefD := ⟨("is_name", none), "is_name", "is_name", defArgs (top 31), defBody (top 31), defScope (top 31), [], []⟩
def d4 : He.DefD := ⟨("is_kind", none), "is_kind", "is_kind", defArgs (top 32), defBody (top 32), defScope (top 32), [], []⟩
def d5 : He.DefD := ⟨("are_kinds", none), "are_kinds", "are_kinds", defArgs (top 33), defBody (top 33), defScope (top 33), [], []⟩
def d6 : He.DefD := ⟨("bodies_in", none), "bodies_in", "bodies_in", defArgs (top 34), defBody (top 34), defScope (top 34), [], []⟩
def d7 : He.DefD := ⟨("fits_entries", none), "fits_entries", "fits_entries", defArgs (top 35), defBody (top 35), defScope (top 35), [], []⟩
def d8 : He.DefD := ⟨("fits_head", none), "fits_head", "fits_head", defArgs (top 42), defBody (top 42), defScope (top 42), [], []⟩
def d9 : He.DefD := ⟨("fits_ending", none), "fits_ending", "fits_ending", defArgs (top 43), defBody (top 43), defScope (top 43), [], []⟩
def d10 : He.DefD := ⟨("fits_judged", none), "fits_judged", "fits_judged", defArgs (top 44), defBody (top 44), defScope (top 44), [], []⟩
def d11 : He.DefD := ⟨("is_judged", none), "is_judged", "is_judged", defArgs (top 46), defBody (top 46), defScope (top 46), [], []⟩
def d12 : He.DefD := ⟨("parts_of", none), "parts_of", "parts_of", defArgs (top 51), defBody (top 51), defScope (top 51), [], []⟩
def d13 : He.DefD := ⟨("own_orders", none), "own_orders", "own_orders", defArgs (top 52), defBody (top 52), defScope (top 52), [], []⟩
def d14 : He.DefD := ⟨("expression_orders", none), "expression_orders", "expression_orders", defArgs (top 53), defBody (top 53), defScope (top 53), [], []⟩
def d15 : He.DefD := ⟨("statement_orders", none), "statement_orders", "statement_orders", defArgs (top 54), defBody (top 54), defScope (top 54), [], []⟩
def d16 : He.DefD := ⟨("block_orders", none), "block_orders", "block_orders", defArgs (top 55), defBody (top 55), defScope (top 55), [], []⟩
def d17 : He.DefD := ⟨("body_of", none), "body_of", "body_of", defArgs (top 56), defBody (top 56), defScope (top 56), [], []⟩
def d18 : He.DefD := ⟨("count_orders", none), "count_orders", "count_orders", defArgs (top 57), defBody (top 57), defScope (top 57), [], []⟩
def d19 : He.DefD := ⟨("need_judged", none), "need_judged", "need_judged", defArgs (top 58), defBody (top 58), defScope (top 58), [], []⟩
def d20 : He.DefD := ⟨("compiled", none), "compiled", "compiled", defArgs (top 59), defBody (top 59), defScope (top 59), [], []⟩
def d21 : He.DefD := ⟨("_law_cup", none), "_law_cup", "_law_cup", defArgs (top 61), defBody (top 61), defScope (top 61), [], []⟩
def d22 : He.DefD := ⟨("_law_roll", none), "_law_roll", "_law_roll", defArgs (top 62), defBody (top 62), defScope (top 62), [], []⟩
def d23 : He.DefD := ⟨("_law_some", none), "_law_some", "_law_some", defArgs (top 63), defBody (top 63), defScope (top 63), [], []⟩
def d24 : He.DefD := ⟨("_law_n", none), "_law_n", "_law_n", defArgs (top 64), defBody (top 64), defScope (top 64), [], []⟩
def d25 : He.DefD := ⟨("_law_two", none), "_law_two", "_law_two", defArgs (top 65), defBody (top 65), defScope (top 65), [], []⟩
def d26 : He.DefD := ⟨("_law_around", none), "_law_around", "_law_around", defArgs (top 66), defBody (top 66), defScope (top 66), [], []⟩
def d27 : He.DefD := ⟨("_law_rows", none), "_law_rows", "_law_rows", defArgs (top 67), defBody (top 67), defScope (top 67), [], []⟩
def d28 : He.DefD := ⟨("law", none), "law", "law", defArgs (top 68), defBody (top 68), defScope (top 68), [], []⟩
def d29 : He.DefD := ⟨("Judge", some "__init__"), "__init__", "Judge.__init__", defArgs (methAt (top 41) 0), defBody (methAt (top 41) 0), defScope (methAt (top 41) 0), [], []⟩
def d30 : He.DefD := ⟨("Judge", some "is_local"), "is_local", "Judge.is_local", defArgs (methAt (top 41) 1), defBody (methAt (top 41) 1), defScope (methAt (top 41) 1), [], []⟩
def d31 : He.DefD := ⟨("Judge", some "is_part"), "is_part", "Judge.is_part", defArgs (methAt (top 41) 2), defBody (methAt (top 41) 2), defScope (methAt (top 41) 2), [], []⟩
def d32 : He.DefD := ⟨("Judge", some "is_call"), "is_call", "Judge.is_call", defArgs (methAt (top 41) 3), defBody (methAt (top 41) 3), defScope (methAt (top 41) 3), [], []⟩
def d33 : He.DefD := ⟨("fits_polynomial", none), "fits_polynomial", "fits_polynomial", defArgs (top 15), defBody (top 15), defScope (top 15), [], []⟩
def d34 : He.DefD := ⟨("fits_wide", none), "fits_wide", "fits_wide", defArgs (top 14), defBody (top 14), defScope (top 14), [], []⟩
def d35 : He.DefD := ⟨("fits_term", none), "fits_term", "fits_term", defArgs (top 13), defBody (top 13), defScope (top 13), [], []⟩
def d36 : He.DefD := ⟨("Judge", some "fits_plain"), "fits_plain", "Judge.fits_plain", defArgs (methAt (top 41) 4), defBody (methAt (top 41) 4), defScope (methAt (top 41) 4), [], []⟩
def d37 : He.DefD := ⟨("Judge", some "fits"), "fits", "Judge.fits", defArgs (methAt (top 41) 5), defBody (methAt (top 41) 5), defScope (methAt (top 41) 5), [], []⟩
def d38 : He.DefD := ⟨("taken_kind", none), "taken_kind", "taken_kind", defArgs (top 39), defBody (top 39), defScope (top 39), [], []⟩
def d39 : He.DefD := ⟨("Judge", some "fits_some"), "fits_some", "Judge.fits_some", defArgs (methAt (top 41) 6), defBody (methAt (top 41) 6), defScope (methAt (top 41) 6), [], []⟩
def d40 : He.DefD := ⟨("Judge", some "fits_out"), "fits_out", "Judge.fits_out", defArgs (methAt (top 41) 7), defBody (methAt (top 41) 7), defScope (methAt (top 41) 7), [], []⟩
def d41 : He.DefD := ⟨("Judge", some "fits_branch"), "fits_branch", "Judge.fits_branch", defArgs (methAt (top 41) 8), defBody (methAt (top 41) 8), defScope (methAt (top 41) 8), [], []⟩
def d42 : He.DefD := ⟨("Judge", some "fits_short"), "fits_short", "Judge.fits_short", defArgs (methAt (top 41) 9), defBody (methAt (top 41) 9), defScope (methAt (top 41) 9), [], []⟩
def d43 : He.DefD := ⟨("Judge", some "is_statement"), "is_statement", "Judge.is_statement", defArgs (methAt (top 41) 10), defBody (methAt (top 41) 10), defScope (methAt (top 41) 10), [], []⟩
def d44 : He.DefD := ⟨("Judge", some "is_block"), "is_block", "Judge.is_block", defArgs (methAt (top 41) 11), defBody (methAt (top 41) 11), defScope (methAt (top 41) 11), [], []⟩
def fn : List He.DefD := [d0, d1, d2, d3, d4, d5, d6, d7, d8, d9, d10, d11, d12, d13, d14, d15, d16, d17, d18, d19, d20, d21, d22, d23, d24, d25, d26, d27, d28, d29, d30, d31, d32, d33, d34, d35, d36, d37, d38, d39, d40, d41, d42, d43, d44]
def n0 : Dn := ⟨[("value" : Str), ("low" : Str), ("high" : Str)], [("value" : Str), ("low" : Str), ("high" : Str)], false⟩
def n1 : Dn := ⟨[("value" : Str), ("low" : Str), ("high" : Str)], [("value" : Str), ("low" : Str), ("high" : Str)], false⟩
def n2 : Dn := ⟨[("items" : Str)], [("items" : Str), ("one" : Str), ("other" : Str)], false⟩
def n3 : Dn := ⟨[("value" : Str)], [("value" : Str), ("sign" : Str)], false⟩
def n4 : Dn := ⟨[("value" : Str)], [("value" : Str)], false⟩
def n5 : Dn := ⟨[("value" : Str), ("most" : Str)], [("value" : Str), ("most" : Str), ("one" : Str)], false⟩
def n6 : Dn := ⟨[("order" : Str)], [("order" : Str)], false⟩
def n7 : Dn := ⟨[("value" : Str), ("many" : Str)], [("value" : Str), ("many" : Str), ("one" : Str)], false⟩
def n8 : Dn := ⟨[("value" : Str)], [("value" : Str)], false⟩
def n9 : Dn := ⟨[("judge" : Str), ("function" : Str)], [("judge" : Str), ("function" : Str)], false⟩
def n10 : Dn := ⟨[("value" : Str)], [("value" : Str), ("names" : Str), ("at" : Str), ("function" : Str), ("judge" : Str), ("one" : Str)], true⟩
def n11 : Dn := ⟨[("value" : Str)], [("value" : Str)], false⟩
def n12 : Dn := ⟨[("node" : Str)], [("node" : Str), ("at" : Str)], false⟩
def n13 : Dn := ⟨[("node" : Str), ("bodies" : Str)], [("node" : Str), ("bodies" : Str), ("word" : Str), ("stores" : Str), ("kinds" : Str), ("one" : Str), ("name" : Str)], false⟩
def n14 : Dn := ⟨[("node" : Str)], [("node" : Str), ("found" : Str), ("part" : Str), ("first" : Str), ("behind" : Str)], false⟩
def n15 : Dn := ⟨[("node" : Str)], [("node" : Str), ("found" : Str), ("part" : Str), ("bodies" : Str), ("first" : Str), ("behind" : Str), ("at" : Str)], true⟩
def n16 : Dn := ⟨[("block" : Str)], [("block" : Str), ("found" : Str), ("node" : Str)], true⟩
def n17 : Dn := ⟨[("function" : Str)], [("function" : Str), ("found" : Str)], true⟩
def n18 : Dn := ⟨[("body" : Str)], [("body" : Str), ("found" : Str), ("line" : Str), ("own" : Str), ("order" : Str), ("inner" : Str)], true⟩
def n19 : Dn := ⟨[("value" : Str)], [("value" : Str)], false⟩
def n20 : Dn := ⟨[("judged" : Str)], [("judged" : Str), ("functions" : Str), ("at" : Str), ("function" : Str), ("body" : Str)], true⟩
def n21 : Dn := ⟨[("script" : Str)], [("script" : Str), ("cell" : Str)], false⟩
def n22 : Dn := ⟨[("cup" : Str), ("many" : Str)], [("cup" : Str), ("many" : Str), ("deep" : Str), ("found" : Str)], false⟩
def n23 : Dn := ⟨[("cup" : Str), ("things" : Str)], [("cup" : Str), ("things" : Str)], false⟩
def n24 : Dn := ⟨[("number" : Str)], [("number" : Str)], false⟩
def n25 : Dn := ⟨[("word" : Str), ("one" : Str), ("other" : Str)], [("word" : Str), ("one" : Str), ("other" : Str), ("kind" : Str)], false⟩
def n26 : Dn := ⟨[("body" : Str)], [("body" : Str), ("plus" : Str), ("nothing" : Str)], false⟩
def n27 : Dn := ⟨[], [("out" : Str), ("rows" : Str), ("deep" : Str), ("n" : Str), ("a" : Str), ("p" : Str), ("c" : Str), ("yes" : Str), ("ann" : Str), ("tell" : Str)], false⟩
def n28 : Dn := ⟨[("script" : Str)], [("script" : Str), ("cup" : Str), ("rows" : Str), ("turn" : Str), ("some" : Str), ("due" : Str), ("judged" : Str), ("node" : Str), ("orders" : Str), ("place" : Str)], false⟩
def n29 : Dn := ⟨[("self" : Str), ("functions" : Str), ("at" : Str)], [("self" : Str), ("functions" : Str), ("at" : Str)], false⟩
def n30 : Dn := ⟨[("self" : Str), ("value" : Str), ("kind" : Str)], [("self" : Str), ("value" : Str), ("kind" : Str)], false⟩
def n31 : Dn := ⟨[("self" : Str), ("value" : Str), ("kind" : Str)], [("self" : Str), ("value" : Str), ("kind" : Str)], false⟩
def n32 : Dn := ⟨[("self" : Str), ("value" : Str)], [("self" : Str), ("value" : Str), ("many" : Str), ("kinds" : Str), ("result" : Str), ("part" : Str), ("kind" : Str), ("one" : Str)], false⟩
def n33 : Dn := ⟨[("value" : Str), ("many" : Str)], [("value" : Str), ("many" : Str)], false⟩
def n34 : Dn := ⟨[("value" : Str), ("many" : Str), ("terms" : Str), ("exponent" : Str), ("coefficient" : Str)], [("value" : Str), ("many" : Str), ("terms" : Str), ("exponent" : Str), ("coefficient" : Str), ("term" : Str), ("one" : Str)], false⟩
def n35 : Dn := ⟨[("value" : Str), ("many" : Str), ("exponent" : Str), ("coefficient" : Str)], [("value" : Str), ("many" : Str), ("exponent" : Str), ("coefficient" : Str), ("one" : Str)], false⟩
def n36 : Dn := ⟨[("self" : Str), ("value" : Str)], [("self" : Str), ("value" : Str), ("word" : Str), ("told" : Str), ("kind" : Str)], false⟩
def n37 : Dn := ⟨[("self" : Str), ("value" : Str)], [("self" : Str), ("value" : Str), ("kind" : Str), ("fits" : Str)], false⟩
def n38 : Dn := ⟨[("word" : Str)], [("word" : Str)], false⟩
def n39 : Dn := ⟨[("self" : Str), ("value" : Str)], [("self" : Str), ("value" : Str)], false⟩
def n40 : Dn := ⟨[("self" : Str), ("value" : Str)], [("self" : Str), ("value" : Str), ("word" : Str), ("first" : Str), ("last" : Str), ("target" : Str), ("entry" : Str), ("args" : Str), ("amount" : Str), ("polynomial" : Str), ("kind" : Str), ("one" : Str)], false⟩
def n41 : Dn := ⟨[("self" : Str), ("value" : Str), ("deep" : Str)], [("self" : Str), ("value" : Str), ("deep" : Str), ("word" : Str), ("one" : Str), ("two" : Str), ("three" : Str)], false⟩
def n42 : Dn := ⟨[("self" : Str), ("value" : Str)], [("self" : Str), ("value" : Str), ("word" : Str), ("told" : Str)], false⟩
def n43 : Dn := ⟨[("self" : Str), ("value" : Str), ("deep" : Str)], [("self" : Str), ("value" : Str), ("deep" : Str)], false⟩
def n44 : Dn := ⟨[("self" : Str), ("value" : Str), ("deep" : Str)], [("self" : Str), ("value" : Str), ("deep" : Str), ("one" : Str)], false⟩
def dn : List Dn := [n0, n1, n2, n3, n4, n5, n6, n7, n8, n9, n10, n11, n12, n13, n14, n15, n16, n17, n18, n19, n20, n21, n22, n23, n24, n25, n26, n27, n28, n29, n30, n31, n32, n33, n34, n35, n36, n37, n38, n39, n40, n41, n42, n43, n44]
def gl : List (Str × GV) := [(("is_whole" : Str), GV.fn 0), (("is_tuple_of" : Str), GV.fn 1), (("ascends" : Str), GV.fn 2), (("is_name" : Str), GV.fn 3), (("is_kind" : Str), GV.fn 4), (("are_kinds" : Str), GV.fn 5), (("bodies_in" : Str), GV.fn 6), (("fits_entries" : Str), GV.fn 7), (("fits_head" : Str), GV.fn 8), (("fits_ending" : Str), GV.fn 9), (("fits_judged" : Str), GV.fn 10), (("is_judged" : Str), GV.fn 11), (("parts_of" : Str), GV.fn 12), (("own_orders" : Str), GV.fn 13), (("expression_orders" : Str), GV.fn 14), (("statement_orders" : Str), GV.fn 15), (("block_orders" : Str), GV.fn 16), (("body_of" : Str), GV.fn 17), (("count_orders" : Str), GV.fn 18), (("need_judged" : Str), GV.fn 19), (("compiled" : Str), GV.fn 20), (("_law_cup" : Str), GV.fn 21), (("_law_roll" : Str), GV.fn 22), (("_law_some" : Str), GV.fn 23), (("_law_n" : Str), GV.fn 24), (("_law_two" : Str), GV.fn 25), (("_law_around" : Str), GV.fn 26), (("_law_rows" : Str), GV.fn 27), (("law" : Str), GV.fn 28), (("fits_polynomial" : Str), GV.fn 33), (("fits_wide" : Str), GV.fn 34), (("fits_term" : Str), GV.fn 35), (("taken_kind" : Str), GV.fn 38), (("Judge" : Str), GV.obj [([102, 117, 110, 99, 116, 105, 111, 110, 115] : List Nat), ([107, 105, 110, 100, 115] : List Nat), ([109, 97, 110, 121] : List Nat)] [(([105, 115, 95, 108, 111, 99, 97, 108] : List Nat), 30), (([105, 115, 95, 112, 97, 114, 116] : List Nat), 31), (([105, 115, 95, 99, 97, 108, 108] : List Nat), 32), (([102, 105, 116, 115, 95, 112, 108, 97, 105, 110] : List Nat), 36), (([102, 105, 116, 115] : List Nat), 37), (([102, 105, 116, 115, 95, 115, 111, 109, 101] : List Nat), 39), (([102, 105, 116, 115, 95, 111, 117, 116] : List Nat), 40), (([102, 105, 116, 115, 95, 98, 114, 97, 110, 99, 104] : List Nat), 41), (([102, 105, 116, 115, 95, 115, 104, 111, 114, 116] : List Nat), 42), (([105, 115, 95, 115, 116, 97, 116, 101, 109, 101, 110, 116] : List Nat), 43), (([105, 115, 95, 98, 108, 111, 99, 107] : List Nat), 44)] (some 29)), (("TERMS" : Str), GV.lit (Mn.D.int (20))), (("EXPONENT" : Str), GV.lit (Mn.D.int (4))), (("COEFFICIENT" : Str), GV.lit (Mn.D.int (1000000000))), (("PARAMETERS" : Str), GV.lit (Mn.D.int (12))), (("MOST" : Str), GV.lit (Mn.D.int (9223372036854775807))), (("NUM" : Str), GV.lit (Mn.D.str [110, 117, 109])), (("TRUTH" : Str), GV.lit (Mn.D.str [116, 114, 117, 116, 104])), (("NAME" : Str), GV.lit (Mn.D.str [110, 97, 109, 101])), (("KINDS" : Str), GV.lit (Mn.D.tup false [Mn.D.str [110, 117, 109], Mn.D.str [116, 114, 117, 116, 104], Mn.D.str [110, 97, 109, 101]])), (("FUNCTIONS" : Str), GV.lit (Mn.D.int (30))), (("LOCALS" : Str), GV.lit (Mn.D.int (20))), (("ENTRIES" : Str), GV.lit (Mn.D.int (30))), (("NESTED" : Str), GV.lit (Mn.D.int (12))), (("ORDERS" : Str), GV.lit (Mn.D.int (400))), (("MAPS" : Str), GV.lit (Mn.D.int (20))), (("LONGEST" : Str), GV.lit (Mn.D.int (20))), (("LETTERS" : Str), GV.lit (Mn.D.str [97, 98, 99, 100, 101, 102, 103, 104, 105, 106, 107, 108, 109, 110, 111, 112, 113, 114, 115, 116, 117, 118, 119, 120, 121, 122])), (("SIGNS_contracts" : Str), GV.lit (Mn.D.str [97, 98, 99, 100, 101, 102, 103, 104, 105, 106, 107, 108, 109, 110, 111, 112, 113, 114, 115, 116, 117, 118, 119, 120, 121, 122, 65, 66, 67, 68, 69, 70, 71, 72, 73, 74, 75, 76, 77, 78, 79, 80, 81, 82, 83, 84, 85, 86, 87, 88, 89, 90, 48, 49, 50, 51, 52, 53, 54, 55, 56, 57])), (("OWN" : Str), GV.lit (Mn.D.tup false [Mn.D.str [99, 111, 117, 110, 116], Mn.D.str [100, 101, 101, 112], Mn.D.str [100, 105, 118, 105, 100, 101], Mn.D.str [102, 117, 108, 108], Mn.D.str [103, 97, 115], Mn.D.str [110, 111, 98, 111, 100, 121], Mn.D.str [110, 111, 110, 101], Mn.D.str [111, 118, 101, 114], Mn.D.str [112, 111, 111, 114], Mn.D.str [115, 105, 122, 101], Mn.D.str [115, 116, 117, 99, 107], Mn.D.str [117, 110, 100, 101, 114]])), (("RESULTS" : Str), GV.dct [(([43] : List Nat), Mn.D.str [110, 117, 109]), (([45] : List Nat), Mn.D.str [110, 117, 109]), (([42] : List Nat), Mn.D.str [110, 117, 109]), (([47] : List Nat), Mn.D.str [110, 117, 109]), (([114, 101, 115, 116] : List Nat), Mn.D.str [110, 117, 109]), (([60] : List Nat), Mn.D.str [116, 114, 117, 116, 104]), (([60, 61] : List Nat), Mn.D.str [116, 114, 117, 116, 104]), (([62] : List Nat), Mn.D.str [116, 114, 117, 116, 104]), (([62, 61] : List Nat), Mn.D.str [116, 114, 117, 116, 104]), (([61, 61] : List Nat), Mn.D.str [116, 114, 117, 116, 104]), (([33, 61] : List Nat), Mn.D.str [116, 114, 117, 116, 104]), (([105, 115] : List Nat), Mn.D.str [116, 114, 117, 116, 104]), (([97, 110, 100] : List Nat), Mn.D.str [116, 114, 117, 116, 104]), (([111, 114] : List Nat), Mn.D.str [116, 114, 117, 116, 104])]), (("WORDS" : Str), GV.dct [(([111, 119, 110, 101, 100] : List Nat), Mn.D.str [110, 117, 109]), (([99, 97, 109, 101] : List Nat), Mn.D.str [110, 117, 109]), (([109, 101] : List Nat), Mn.D.str [110, 97, 109, 101]), (([99, 97, 108, 108, 101, 114] : List Nat), Mn.D.str [110, 97, 109, 101])]), (("SIGNS_compilers" : Str), GV.dct [(([43] : List Nat), Mn.D.tup false [Mn.D.str [97, 100, 100]]), (([45] : List Nat), Mn.D.tup false [Mn.D.str [115, 117, 98]]), (([42] : List Nat), Mn.D.tup false [Mn.D.str [109, 117, 108]]), (([47] : List Nat), Mn.D.tup false [Mn.D.str [100, 105, 118]]), (([114, 101, 115, 116] : List Nat), Mn.D.tup false [Mn.D.str [114, 101, 115, 116]]), (([60] : List Nat), Mn.D.tup false [Mn.D.str [108, 101, 115, 115]]), (([62] : List Nat), Mn.D.tup false [Mn.D.str [115, 119, 97, 112], Mn.D.str [108, 101, 115, 115]]), (([60, 61] : List Nat), Mn.D.tup false [Mn.D.str [115, 119, 97, 112], Mn.D.str [108, 101, 115, 115], Mn.D.str [110, 111, 116]]), (([62, 61] : List Nat), Mn.D.tup false [Mn.D.str [108, 101, 115, 115], Mn.D.str [110, 111, 116]]), (([61, 61] : List Nat), Mn.D.tup false [Mn.D.str [101, 113, 117, 97, 108]]), (([33, 61] : List Nat), Mn.D.tup false [Mn.D.str [101, 113, 117, 97, 108], Mn.D.str [110, 111, 116]]), (([105, 115] : List Nat), Mn.D.tup false [Mn.D.str [115, 97, 109, 101]]), (([97, 110, 100] : List Nat), Mn.D.tup false [Mn.D.str [97, 110, 100]]), (([111, 114] : List Nat), Mn.D.tup false [Mn.D.str [111, 114]])]), (("PARTS" : Str), GV.dct [(([115, 101, 116] : List Nat), Mn.D.tup false [Mn.D.int (2)]), (([112, 117, 116] : List Nat), Mn.D.tup false [Mn.D.int (2), Mn.D.int (3)]), (([100, 111] : List Nat), Mn.D.tup false [Mn.D.int (1)]), (([105, 102] : List Nat), Mn.D.tup false [Mn.D.int (1)]), (([114, 101, 112, 101, 97, 116] : List Nat), Mn.D.tup false [Mn.D.int (1)]), (([102, 97, 105, 108] : List Nat), Mn.D.tup false []), (([99, 104, 101, 99, 107] : List Nat), Mn.D.tup false [Mn.D.int (1)]), (([116, 101, 108, 108] : List Nat), Mn.D.tup false [Mn.D.int (1)]), (([112, 97, 121] : List Nat), Mn.D.tup false [Mn.D.int (1), Mn.D.int (2)]), (([110, 117, 109] : List Nat), Mn.D.tup false []), (([116, 114, 117, 116, 104] : List Nat), Mn.D.tup false []), (([110, 97, 109, 101, 100] : List Nat), Mn.D.tup false []), (([119, 111, 114, 100] : List Nat), Mn.D.tup false []), (([108, 111, 99, 97, 108] : List Nat), Mn.D.tup false []), (([108, 111, 111, 107] : List Nat), Mn.D.tup false [Mn.D.int (2)]), (([110, 111, 116] : List Nat), Mn.D.tup false [Mn.D.int (1)]), (([98, 105, 110, 97, 114, 121] : List Nat), Mn.D.tup false [Mn.D.int (2), Mn.D.int (3)])]), (("BLOCKS" : Str), GV.dct [(([105, 102] : List Nat), Mn.D.tup false [Mn.D.int (2), Mn.D.int (3)]), (([114, 101, 112, 101, 97, 116] : List Nat), Mn.D.tup false [Mn.D.int (3)])]), (("InvalidJudged" : Str), GV.exc 0)]
def bl : List Str := [("abs" : Str), ("all" : Str), ("bool" : Str), ("enumerate" : Str), ("int" : Str), ("isinstance" : Str), ("len" : Str), ("list" : Str), ("range" : Str), ("repr" : Str), ("set" : Str), ("str" : Str), ("tuple" : Str), ("zip" : Str)]
def cel : List (Nat × Nat) := [(233, 12), (239, 12), (246, 12), (254, 22), (265, 16), (275, 11)]
def xs : List Str := ["InvalidJudged"]
def T : List (List Bool) := [[true]]
def loose0 : List Str := [("GasError" : Str), ("InvalidJudged" : Str), ("TooLong" : Str), ("TERMS" : Str), ("EXPONENT" : Str), ("COEFFICIENT" : Str), ("PARAMETERS" : Str), ("MOST" : Str), ("is_whole" : Str), ("is_tuple_of" : Str), ("ascends" : Str), ("fits_term" : Str), ("fits_wide" : Str), ("fits_polynomial" : Str), ("NUM" : Str), ("TRUTH" : Str), ("NAME" : Str), ("KINDS" : Str), ("FUNCTIONS" : Str), ("LOCALS" : Str), ("ENTRIES" : Str), ("NESTED" : Str), ("ORDERS" : Str), ("MAPS" : Str), ("LONGEST" : Str), ("LETTERS" : Str), ("SIGNS_contracts" : Str), ("OWN" : Str), ("is_name" : Str), ("is_kind" : Str), ("are_kinds" : Str), ("bodies_in" : Str), ("fits_entries" : Str), ("RESULTS" : Str), ("WORDS" : Str)]
def loose1 : List Str := [("taken_kind" : Str), ("Judge" : Str), ("fits_head" : Str), ("fits_ending" : Str), ("fits_judged" : Str), ("is_judged" : Str), ("SIGNS_compilers" : Str), ("PARTS" : Str), ("BLOCKS" : Str), ("parts_of" : Str), ("own_orders" : Str), ("expression_orders" : Str), ("statement_orders" : Str), ("block_orders" : Str), ("body_of" : Str), ("count_orders" : Str), ("need_judged" : Str), ("compiled" : Str), ("_law_cup" : Str), ("_law_roll" : Str), ("_law_some" : Str), ("_law_n" : Str), ("_law_two" : Str), ("_law_around" : Str), ("_law_rows" : Str), ("Judge.__init__" : Str), ("Judge.is_local" : Str), ("Judge.is_part" : Str), ("Judge.is_call" : Str), ("Judge.fits_plain" : Str), ("Judge.fits" : Str), ("Judge.fits_some" : Str), ("Judge.fits_out" : Str), ("Judge.fits_branch" : Str), ("Judge.fits_short" : Str)]
def loose2 : List Str := [("Judge.is_statement" : Str), ("Judge.is_block" : Str)]
def loose : List Str := loose0 ++ loose1 ++ loose2
theorem b0 (kV doc pm : Value) (an : Option Addr) (cdv ct : Value) (us : List Value) (hl : us.length = n0.ps.length) : bindArgs (PySem.W.fnOf d0.name d0.qual d0.params d0.body d0.scope .none kV doc pm an cdv ct) ⟨us, []⟩ = pure (n0.ps.zip us) :=
  match us, hl with
  | [_, _, _], _ => rfl
theorem b1 (kV doc pm : Value) (an : Option Addr) (cdv ct : Value) (us : List Value) (hl : us.length = n1.ps.length) : bindArgs (PySem.W.fnOf d1.name d1.qual d1.params d1.body d1.scope .none kV doc pm an cdv ct) ⟨us, []⟩ = pure (n1.ps.zip us) :=
  match us, hl with
  | [_, _, _], _ => rfl
theorem b2 (kV doc pm : Value) (an : Option Addr) (cdv ct : Value) (us : List Value) (hl : us.length = n2.ps.length) : bindArgs (PySem.W.fnOf d2.name d2.qual d2.params d2.body d2.scope .none kV doc pm an cdv ct) ⟨us, []⟩ = pure (n2.ps.zip us) :=
  match us, hl with
  | [_], _ => rfl
theorem b3 (kV doc pm : Value) (an : Option Addr) (cdv ct : Value) (us : List Value) (hl : us.length = n3.ps.length) : bindArgs (PySem.W.fnOf d3.name d3.qual d3.params d3.body d3.scope .none kV doc pm an cdv ct) ⟨us, []⟩ = pure (n3.ps.zip us) :=
  match us, hl with
  | [_], _ => rfl
theorem b4 (kV doc pm : Value) (an : Option Addr) (cdv ct : Value) (us : List Value) (hl : us.length = n4.ps.length) : bindArgs (PySem.W.fnOf d4.name d4.qual d4.params d4.body d4.scope .none kV doc pm an cdv ct) ⟨us, []⟩ = pure (n4.ps.zip us) :=
  match us, hl with
  | [_], _ => rfl
theorem b5 (kV doc pm : Value) (an : Option Addr) (cdv ct : Value) (us : List Value) (hl : us.length = n5.ps.length) : bindArgs (PySem.W.fnOf d5.name d5.qual d5.params d5.body d5.scope .none kV doc pm an cdv ct) ⟨us, []⟩ = pure (n5.ps.zip us) :=
  match us, hl with
  | [_, _], _ => rfl
theorem b6 (kV doc pm : Value) (an : Option Addr) (cdv ct : Value) (us : List Value) (hl : us.length = n6.ps.length) : bindArgs (PySem.W.fnOf d6.name d6.qual d6.params d6.body d6.scope .none kV doc pm an cdv ct) ⟨us, []⟩ = pure (n6.ps.zip us) :=
  match us, hl with
  | [_], _ => rfl
theorem b7 (kV doc pm : Value) (an : Option Addr) (cdv ct : Value) (us : List Value) (hl : us.length = n7.ps.length) : bindArgs (PySem.W.fnOf d7.name d7.qual d7.params d7.body d7.scope .none kV doc pm an cdv ct) ⟨us, []⟩ = pure (n7.ps.zip us) :=
  match us, hl with
  | [_, _], _ => rfl
theorem b8 (kV doc pm : Value) (an : Option Addr) (cdv ct : Value) (us : List Value) (hl : us.length = n8.ps.length) : bindArgs (PySem.W.fnOf d8.name d8.qual d8.params d8.body d8.scope .none kV doc pm an cdv ct) ⟨us, []⟩ = pure (n8.ps.zip us) :=
  match us, hl with
  | [_], _ => rfl
theorem b9 (kV doc pm : Value) (an : Option Addr) (cdv ct : Value) (us : List Value) (hl : us.length = n9.ps.length) : bindArgs (PySem.W.fnOf d9.name d9.qual d9.params d9.body d9.scope .none kV doc pm an cdv ct) ⟨us, []⟩ = pure (n9.ps.zip us) :=
  match us, hl with
  | [_, _], _ => rfl
theorem b10 (kV doc pm : Value) (an : Option Addr) (cdv ct : Value) (us : List Value) (hl : us.length = n10.ps.length) : bindArgs (PySem.W.fnOf d10.name d10.qual d10.params d10.body d10.scope .none kV doc pm an cdv ct) ⟨us, []⟩ = pure (n10.ps.zip us) :=
  match us, hl with
  | [_], _ => rfl
theorem b11 (kV doc pm : Value) (an : Option Addr) (cdv ct : Value) (us : List Value) (hl : us.length = n11.ps.length) : bindArgs (PySem.W.fnOf d11.name d11.qual d11.params d11.body d11.scope .none kV doc pm an cdv ct) ⟨us, []⟩ = pure (n11.ps.zip us) :=
  match us, hl with
  | [_], _ => rfl
theorem b12 (kV doc pm : Value) (an : Option Addr) (cdv ct : Value) (us : List Value) (hl : us.length = n12.ps.length) : bindArgs (PySem.W.fnOf d12.name d12.qual d12.params d12.body d12.scope .none kV doc pm an cdv ct) ⟨us, []⟩ = pure (n12.ps.zip us) :=
  match us, hl with
  | [_], _ => rfl
theorem b13 (kV doc pm : Value) (an : Option Addr) (cdv ct : Value) (us : List Value) (hl : us.length = n13.ps.length) : bindArgs (PySem.W.fnOf d13.name d13.qual d13.params d13.body d13.scope .none kV doc pm an cdv ct) ⟨us, []⟩ = pure (n13.ps.zip us) :=
  match us, hl with
  | [_, _], _ => rfl
theorem b14 (kV doc pm : Value) (an : Option Addr) (cdv ct : Value) (us : List Value) (hl : us.length = n14.ps.length) : bindArgs (PySem.W.fnOf d14.name d14.qual d14.params d14.body d14.scope .none kV doc pm an cdv ct) ⟨us, []⟩ = pure (n14.ps.zip us) :=
  match us, hl with
  | [_], _ => rfl
theorem b15 (kV doc pm : Value) (an : Option Addr) (cdv ct : Value) (us : List Value) (hl : us.length = n15.ps.length) : bindArgs (PySem.W.fnOf d15.name d15.qual d15.params d15.body d15.scope .none kV doc pm an cdv ct) ⟨us, []⟩ = pure (n15.ps.zip us) :=
  match us, hl with
  | [_], _ => rfl
theorem b16 (kV doc pm : Value) (an : Option Addr) (cdv ct : Value) (us : List Value) (hl : us.length = n16.ps.length) : bindArgs (PySem.W.fnOf d16.name d16.qual d16.params d16.body d16.scope .none kV doc pm an cdv ct) ⟨us, []⟩ = pure (n16.ps.zip us) :=
  match us, hl with
  | [_], _ => rfl
theorem b17 (kV doc pm : Value) (an : Option Addr) (cdv ct : Value) (us : List Value) (hl : us.length = n17.ps.length) : bindArgs (PySem.W.fnOf d17.name d17.qual d17.params d17.body d17.scope .none kV doc pm an cdv ct) ⟨us, []⟩ = pure (n17.ps.zip us) :=
  match us, hl with
  | [_], _ => rfl
theorem b18 (kV doc pm : Value) (an : Option Addr) (cdv ct : Value) (us : List Value) (hl : us.length = n18.ps.length) : bindArgs (PySem.W.fnOf d18.name d18.qual d18.params d18.body d18.scope .none kV doc pm an cdv ct) ⟨us, []⟩ = pure (n18.ps.zip us) :=
  match us, hl with
  | [_], _ => rfl
theorem b19 (kV doc pm : Value) (an : Option Addr) (cdv ct : Value) (us : List Value) (hl : us.length = n19.ps.length) : bindArgs (PySem.W.fnOf d19.name d19.qual d19.params d19.body d19.scope .none kV doc pm an cdv ct) ⟨us, []⟩ = pure (n19.ps.zip us) :=
  match us, hl with
  | [_], _ => rfl
theorem b20 (kV doc pm : Value) (an : Option Addr) (cdv ct : Value) (us : List Value) (hl : us.length = n20.ps.length) : bindArgs (PySem.W.fnOf d20.name d20.qual d20.params d20.body d20.scope .none kV doc pm an cdv ct) ⟨us, []⟩ = pure (n20.ps.zip us) :=
  match us, hl with
  | [_], _ => rfl
theorem b21 (kV doc pm : Value) (an : Option Addr) (cdv ct : Value) (us : List Value) (hl : us.length = n21.ps.length) : bindArgs (PySem.W.fnOf d21.name d21.qual d21.params d21.body d21.scope .none kV doc pm an cdv ct) ⟨us, []⟩ = pure (n21.ps.zip us) :=
  match us, hl with
  | [_], _ => rfl
theorem b22 (kV doc pm : Value) (an : Option Addr) (cdv ct : Value) (us : List Value) (hl : us.length = n22.ps.length) : bindArgs (PySem.W.fnOf d22.name d22.qual d22.params d22.body d22.scope .none kV doc pm an cdv ct) ⟨us, []⟩ = pure (n22.ps.zip us) :=
  match us, hl with
  | [_, _], _ => rfl
theorem b23 (kV doc pm : Value) (an : Option Addr) (cdv ct : Value) (us : List Value) (hl : us.length = n23.ps.length) : bindArgs (PySem.W.fnOf d23.name d23.qual d23.params d23.body d23.scope .none kV doc pm an cdv ct) ⟨us, []⟩ = pure (n23.ps.zip us) :=
  match us, hl with
  | [_, _], _ => rfl
theorem b24 (kV doc pm : Value) (an : Option Addr) (cdv ct : Value) (us : List Value) (hl : us.length = n24.ps.length) : bindArgs (PySem.W.fnOf d24.name d24.qual d24.params d24.body d24.scope .none kV doc pm an cdv ct) ⟨us, []⟩ = pure (n24.ps.zip us) :=
  match us, hl with
  | [_], _ => rfl
theorem b25 (kV doc pm : Value) (an : Option Addr) (cdv ct : Value) (us : List Value) (hl : us.length = n25.ps.length) : bindArgs (PySem.W.fnOf d25.name d25.qual d25.params d25.body d25.scope .none kV doc pm an cdv ct) ⟨us, []⟩ = pure (n25.ps.zip us) :=
  match us, hl with
  | [_, _, _], _ => rfl
theorem b26 (kV doc pm : Value) (an : Option Addr) (cdv ct : Value) (us : List Value) (hl : us.length = n26.ps.length) : bindArgs (PySem.W.fnOf d26.name d26.qual d26.params d26.body d26.scope .none kV doc pm an cdv ct) ⟨us, []⟩ = pure (n26.ps.zip us) :=
  match us, hl with
  | [_], _ => rfl
theorem b27 (kV doc pm : Value) (an : Option Addr) (cdv ct : Value) (us : List Value) (hl : us.length = n27.ps.length) : bindArgs (PySem.W.fnOf d27.name d27.qual d27.params d27.body d27.scope .none kV doc pm an cdv ct) ⟨us, []⟩ = pure (n27.ps.zip us) :=
  match us, hl with
  | [], _ => rfl
theorem b28 (kV doc pm : Value) (an : Option Addr) (cdv ct : Value) (us : List Value) (hl : us.length = n28.ps.length) : bindArgs (PySem.W.fnOf d28.name d28.qual d28.params d28.body d28.scope .none kV doc pm an cdv ct) ⟨us, []⟩ = pure (n28.ps.zip us) :=
  match us, hl with
  | [_], _ => rfl
theorem b29 (kV doc pm : Value) (an : Option Addr) (cdv ct : Value) (us : List Value) (hl : us.length = n29.ps.length) : bindArgs (PySem.W.fnOf d29.name d29.qual d29.params d29.body d29.scope .none kV doc pm an cdv ct) ⟨us, []⟩ = pure (n29.ps.zip us) :=
  match us, hl with
  | [_, _, _], _ => rfl
theorem b30 (kV doc pm : Value) (an : Option Addr) (cdv ct : Value) (us : List Value) (hl : us.length = n30.ps.length) : bindArgs (PySem.W.fnOf d30.name d30.qual d30.params d30.body d30.scope .none kV doc pm an cdv ct) ⟨us, []⟩ = pure (n30.ps.zip us) :=
  match us, hl with
  | [_, _, _], _ => rfl
theorem b31 (kV doc pm : Value) (an : Option Addr) (cdv ct : Value) (us : List Value) (hl : us.length = n31.ps.length) : bindArgs (PySem.W.fnOf d31.name d31.qual d31.params d31.body d31.scope .none kV doc pm an cdv ct) ⟨us, []⟩ = pure (n31.ps.zip us) :=
  match us, hl with
  | [_, _, _], _ => rfl
theorem b32 (kV doc pm : Value) (an : Option Addr) (cdv ct : Value) (us : List Value) (hl : us.length = n32.ps.length) : bindArgs (PySem.W.fnOf d32.name d32.qual d32.params d32.body d32.scope .none kV doc pm an cdv ct) ⟨us, []⟩ = pure (n32.ps.zip us) :=
  match us, hl with
  | [_, _], _ => rfl
theorem b33 (kV doc pm : Value) (an : Option Addr) (cdv ct : Value) (us : List Value) (hl : us.length = n33.ps.length) : bindArgs (PySem.W.fnOf d33.name d33.qual d33.params d33.body d33.scope .none kV doc pm an cdv ct) ⟨us, []⟩ = pure (n33.ps.zip us) :=
  match us, hl with
  | [_, _], _ => rfl
theorem b34 (kV doc pm : Value) (an : Option Addr) (cdv ct : Value) (us : List Value) (hl : us.length = n34.ps.length) : bindArgs (PySem.W.fnOf d34.name d34.qual d34.params d34.body d34.scope .none kV doc pm an cdv ct) ⟨us, []⟩ = pure (n34.ps.zip us) :=
  match us, hl with
  | [_, _, _, _, _], _ => rfl
theorem b35 (kV doc pm : Value) (an : Option Addr) (cdv ct : Value) (us : List Value) (hl : us.length = n35.ps.length) : bindArgs (PySem.W.fnOf d35.name d35.qual d35.params d35.body d35.scope .none kV doc pm an cdv ct) ⟨us, []⟩ = pure (n35.ps.zip us) :=
  match us, hl with
  | [_, _, _, _], _ => rfl
theorem b36 (kV doc pm : Value) (an : Option Addr) (cdv ct : Value) (us : List Value) (hl : us.length = n36.ps.length) : bindArgs (PySem.W.fnOf d36.name d36.qual d36.params d36.body d36.scope .none kV doc pm an cdv ct) ⟨us, []⟩ = pure (n36.ps.zip us) :=
  match us, hl with
  | [_, _], _ => rfl
theorem b37 (kV doc pm : Value) (an : Option Addr) (cdv ct : Value) (us : List Value) (hl : us.length = n37.ps.length) : bindArgs (PySem.W.fnOf d37.name d37.qual d37.params d37.body d37.scope .none kV doc pm an cdv ct) ⟨us, []⟩ = pure (n37.ps.zip us) :=
  match us, hl with
  | [_, _], _ => rfl
theorem b38 (kV doc pm : Value) (an : Option Addr) (cdv ct : Value) (us : List Value) (hl : us.length = n38.ps.length) : bindArgs (PySem.W.fnOf d38.name d38.qual d38.params d38.body d38.scope .none kV doc pm an cdv ct) ⟨us, []⟩ = pure (n38.ps.zip us) :=
  match us, hl with
  | [_], _ => rfl
theorem b39 (kV doc pm : Value) (an : Option Addr) (cdv ct : Value) (us : List Value) (hl : us.length = n39.ps.length) : bindArgs (PySem.W.fnOf d39.name d39.qual d39.params d39.body d39.scope .none kV doc pm an cdv ct) ⟨us, []⟩ = pure (n39.ps.zip us) :=
  match us, hl with
  | [_, _], _ => rfl
theorem b40 (kV doc pm : Value) (an : Option Addr) (cdv ct : Value) (us : List Value) (hl : us.length = n40.ps.length) : bindArgs (PySem.W.fnOf d40.name d40.qual d40.params d40.body d40.scope .none kV doc pm an cdv ct) ⟨us, []⟩ = pure (n40.ps.zip us) :=
  match us, hl with
  | [_, _], _ => rfl
theorem b41 (kV doc pm : Value) (an : Option Addr) (cdv ct : Value) (us : List Value) (hl : us.length = n41.ps.length) : bindArgs (PySem.W.fnOf d41.name d41.qual d41.params d41.body d41.scope .none kV doc pm an cdv ct) ⟨us, []⟩ = pure (n41.ps.zip us) :=
  match us, hl with
  | [_, _, _], _ => rfl
theorem b42 (kV doc pm : Value) (an : Option Addr) (cdv ct : Value) (us : List Value) (hl : us.length = n42.ps.length) : bindArgs (PySem.W.fnOf d42.name d42.qual d42.params d42.body d42.scope .none kV doc pm an cdv ct) ⟨us, []⟩ = pure (n42.ps.zip us) :=
  match us, hl with
  | [_, _], _ => rfl
theorem b43 (kV doc pm : Value) (an : Option Addr) (cdv ct : Value) (us : List Value) (hl : us.length = n43.ps.length) : bindArgs (PySem.W.fnOf d43.name d43.qual d43.params d43.body d43.scope .none kV doc pm an cdv ct) ⟨us, []⟩ = pure (n43.ps.zip us) :=
  match us, hl with
  | [_, _, _], _ => rfl
theorem b44 (kV doc pm : Value) (an : Option Addr) (cdv ct : Value) (us : List Value) (hl : us.length = n44.ps.length) : bindArgs (PySem.W.fnOf d44.name d44.qual d44.params d44.body d44.scope .none kV doc pm an cdv ct) ⟨us, []⟩ = pure (n44.ps.zip us) :=
  match us, hl with
  | [_, _, _], _ => rfl
theorem bs : ∀ (i : Nat) (d : He.DefD) (n : Dn), fn[i]? = some d → dn[i]? = some n → ∀ (kV doc pm : Value) (an : Option Addr) (cdv ct : Value) (us : List Value), us.length = n.ps.length → bindArgs (PySem.W.fnOf d.name d.qual d.params d.body d.scope .none kV doc pm an cdv ct) ⟨us, []⟩ = pure (n.ps.zip us)
  | 0, _, _, rfl, rfl => b0
  | 1, _, _, rfl, rfl => b1
  | 2, _, _, rfl, rfl => b2
  | 3, _, _, rfl, rfl => b3
  | 4, _, _, rfl, rfl => b4
  | 5, _, _, rfl, rfl => b5
  | 6, _, _, rfl, rfl => b6
  | 7, _, _, rfl, rfl => b7
  | 8, _, _, rfl, rfl => b8
  | 9, _, _, rfl, rfl => b9
  | 10, _, _, rfl, rfl => b10
  | 11, _, _, rfl, rfl => b11
  | 12, _, _, rfl, rfl => b12
  | 13, _, _, rfl, rfl => b13
  | 14, _, _, rfl, rfl => b14
  | 15, _, _, rfl, rfl => b15
  | 16, _, _, rfl, rfl => b16
  | 17, _, _, rfl, rfl => b17
  | 18, _, _, rfl, rfl => b18
  | 19, _, _, rfl, rfl => b19
  | 20, _, _, rfl, rfl => b20
  | 21, _, _, rfl, rfl => b21
  | 22, _, _, rfl, rfl => b22
  | 23, _, _, rfl, rfl => b23
  | 24, _, _, rfl, rfl => b24
  | 25, _, _, rfl, rfl => b25
  | 26, _, _, rfl, rfl => b26
  | 27, _, _, rfl, rfl => b27
  | 28, _, _, rfl, rfl => b28
  | 29, _, _, rfl, rfl => b29
  | 30, _, _, rfl, rfl => b30
  | 31, _, _, rfl, rfl => b31
  | 32, _, _, rfl, rfl => b32
  | 33, _, _, rfl, rfl => b33
  | 34, _, _, rfl, rfl => b34
  | 35, _, _, rfl, rfl => b35
  | 36, _, _, rfl, rfl => b36
  | 37, _, _, rfl, rfl => b37
  | 38, _, _, rfl, rfl => b38
  | 39, _, _, rfl, rfl => b39
  | 40, _, _, rfl, rfl => b40
  | 41, _, _, rfl, rfl => b41
  | 42, _, _, rfl, rfl => b42
  | 43, _, _, rfl, rfl => b43
  | 44, _, _, rfl, rfl => b44
  | n + 45, _, _, h, _ => by simp [fn] at h
abbrev rowO : PySem.W.OpenRow := PySem.W.OpenLaw.row PySem.Challenge.rw_gasahead_k28_whole_orders_of_statements
abbrev hk : PySem.W.Hook := hookM 6 gl bl fn xs T
def ob (s : PySem.W.SharedT) : AlM := obsM 6 gl bl fn xs T (HandSHeadRun.getT s)
theorem ob_eq (s : PySem.W.SharedT) : ob s = hk.obs s.abs := obsM_eq (HandSHeadRun.getT_eq s)
end Law

namespace Law
open PySem PySem.Spec PyProof.Rows L2 Mn
/-- is_whole -/
def f0 : Df := ⟨3, 3, [Mn.S.ret (Mn.E.band (Mn.E.isi (Mn.E.var 0) (Mn.Ty.int)) (Mn.E.band (Mn.E.bnot (Mn.E.isi (Mn.E.var 0) (Mn.Ty.bool))) (Mn.E.chn (Mn.CO.le) (Mn.CO.le) (Mn.E.var 1) (Mn.E.var 0) (Mn.E.var 2))))], false⟩
/-- is_tuple_of -/
def f1 : Df := ⟨3, 3, [Mn.S.ret (Mn.E.band (Mn.E.isi (Mn.E.var 0) (Mn.Ty.tuple)) (Mn.E.chn (Mn.CO.le) (Mn.CO.le) (Mn.E.var 1) (Mn.E.bi (Mn.Bi.len) false (Mn.E.var 0)) (Mn.E.var 2)))], false⟩
/-- ascends -/
def f2 : Df := ⟨1, 3, [Mn.S.ret (Mn.E.bi (Mn.Bi.all) false (Mn.E.comp false (Mn.Tg.tp [Mn.Tg.nm 1, Mn.Tg.nm 2]) (Mn.Wt.zip) [Mn.E.var 0, Mn.E.slc (Mn.E.var 0) (some (Mn.E.lit (Mn.D.int 1))) none] none (Mn.E.cmp (Mn.CO.lt) (Mn.E.var 1) (Mn.E.var 2)) [1, 2]))], false⟩
/-- is_name -/
def f3 : Df := ⟨1, 2, [Mn.S.ifs (Mn.E.bor (Mn.E.bnot (Mn.E.isi (Mn.E.var 0) (Mn.Ty.str))) (Mn.E.bnot (Mn.E.chn (Mn.CO.le) (Mn.CO.le) (Mn.E.lit (Mn.D.int 1)) (Mn.E.bi (Mn.Bi.len) false (Mn.E.var 0)) (Mn.E.lit (Mn.D.int 20))))) [Mn.S.ret (Mn.E.lit (Mn.D.bl false))] [], Mn.S.ret (Mn.E.band (Mn.E.cmp (Mn.CO.inn) (Mn.E.ix (Mn.E.var 0) (Mn.E.lit (Mn.D.int 0))) (Mn.E.lit (Mn.D.str [97, 98, 99, 100, 101, 102, 103, 104, 105, 106, 107, 108, 109, 110, 111, 112, 113, 114, 115, 116, 117, 118, 119, 120, 121, 122]))) (Mn.E.bi (Mn.Bi.all) false (Mn.E.comp false (Mn.Tg.nm 1) (Mn.Wt.of) [Mn.E.var 0] none (Mn.E.cmp (Mn.CO.inn) (Mn.E.var 1) (Mn.E.lit (Mn.D.str [97, 98, 99, 100, 101, 102, 103, 104, 105, 106, 107, 108, 109, 110, 111, 112, 113, 114, 115, 116, 117, 118, 119, 120, 121, 122, 65, 66, 67, 68, 69, 70, 71, 72, 73, 74, 75, 76, 77, 78, 79, 80, 81, 82, 83, 84, 85, 86, 87, 88, 89, 90, 48, 49, 50, 51, 52, 53, 54, 55, 56, 57]))) [1])))], false⟩
/-- is_kind -/
def f4 : Df := ⟨1, 1, [Mn.S.ret (Mn.E.band (Mn.E.isi (Mn.E.var 0) (Mn.Ty.str)) (Mn.E.cmp (Mn.CO.inn) (Mn.E.var 0) (Mn.E.lit (Mn.D.tup false [Mn.D.str [110, 117, 109], Mn.D.str [116, 114, 117, 116, 104], Mn.D.str [110, 97, 109, 101]]))))], false⟩
/-- are_kinds -/
def f5 : Df := ⟨2, 3, [Mn.S.ret (Mn.E.band (Mn.E.fn 1 [Mn.E.var 0, Mn.E.lit (Mn.D.int 0), Mn.E.var 1]) (Mn.E.bi (Mn.Bi.all) false (Mn.E.comp false (Mn.Tg.nm 2) (Mn.Wt.of) [Mn.E.var 0] none (Mn.E.fn 4 [Mn.E.var 2]) [2])))], false⟩
/-- bodies_in -/
def f6 : Df := ⟨1, 1, [Mn.S.ifs (Mn.E.cmp (Mn.CO.eq) (Mn.E.ix (Mn.E.var 0) (Mn.E.lit (Mn.D.int 0))) (Mn.E.lit (Mn.D.str [105, 102]))) [Mn.S.ret (Mn.E.lst false [Mn.E.ix (Mn.E.var 0) (Mn.E.lit (Mn.D.int 1)), Mn.E.ix (Mn.E.var 0) (Mn.E.lit (Mn.D.int 2))])] [], Mn.S.ret (Mn.E.ife (Mn.E.cmp (Mn.CO.eq) (Mn.E.ix (Mn.E.var 0) (Mn.E.lit (Mn.D.int 0))) (Mn.E.lit (Mn.D.str [114, 101, 112, 101, 97, 116]))) (Mn.E.lst false [Mn.E.ix (Mn.E.var 0) (Mn.E.lit (Mn.D.int 2))]) (Mn.E.lst false []))], false⟩
/-- fits_entries -/
def f7 : Df := ⟨2, 3, [Mn.S.ifs (Mn.E.bnot (Mn.E.fn 1 [Mn.E.var 0, Mn.E.lit (Mn.D.int 0), Mn.E.lit (Mn.D.int 30)])) [Mn.S.ret (Mn.E.lit (Mn.D.bl false))] [], Mn.S.ifs (Mn.E.bnot (Mn.E.bi (Mn.Bi.all) false (Mn.E.comp false (Mn.Tg.nm 2) (Mn.Wt.of) [Mn.E.var 0] none (Mn.E.band (Mn.E.fn 1 [Mn.E.var 2, Mn.E.lit (Mn.D.int 2), Mn.E.lit (Mn.D.int 2)]) (Mn.E.band (Mn.E.fn 3 [Mn.E.ix (Mn.E.var 2) (Mn.E.lit (Mn.D.int 0))]) (Mn.E.fn 0 [Mn.E.ix (Mn.E.var 2) (Mn.E.lit (Mn.D.int 1)), Mn.E.lit (Mn.D.int 0), Mn.E.bin (Mn.BO.sub) (Mn.E.var 1) (Mn.E.lit (Mn.D.int 1))]))) [2]))) [Mn.S.ret (Mn.E.lit (Mn.D.bl false))] [], Mn.S.ret (Mn.E.fn 2 [Mn.E.comp false (Mn.Tg.nm 2) (Mn.Wt.of) [Mn.E.var 0] none (Mn.E.ix (Mn.E.var 2) (Mn.E.lit (Mn.D.int 0))) [2]])], false⟩
/-- fits_head -/
def f8 : Df := ⟨1, 1, [Mn.S.ifs (Mn.E.bor (Mn.E.bnot (Mn.E.fn 1 [Mn.E.var 0, Mn.E.lit (Mn.D.int 6), Mn.E.lit (Mn.D.int 6)])) (Mn.E.bor (Mn.E.bnot (Mn.E.fn 3 [Mn.E.ix (Mn.E.var 0) (Mn.E.lit (Mn.D.int 0))])) (Mn.E.bnot (Mn.E.fn 5 [Mn.E.ix (Mn.E.var 0) (Mn.E.lit (Mn.D.int 1)), Mn.E.lit (Mn.D.int 12)])))) [Mn.S.ret (Mn.E.lit (Mn.D.bl false))] [], Mn.S.ret (Mn.E.band (Mn.E.bor (Mn.E.cmp (Mn.CO.is) (Mn.E.ix (Mn.E.var 0) (Mn.E.lit (Mn.D.int 2))) (Mn.E.lit (Mn.D.non))) (Mn.E.fn 4 [Mn.E.ix (Mn.E.var 0) (Mn.E.lit (Mn.D.int 2))])) (Mn.E.fn 5 [Mn.E.ix (Mn.E.var 0) (Mn.E.lit (Mn.D.int 3)), Mn.E.lit (Mn.D.int 20)]))], false⟩
/-- fits_ending -/
def f9 : Df := ⟨2, 2, [Mn.S.ifs (Mn.E.cmp (Mn.CO.is) (Mn.E.ix (Mn.E.var 1) (Mn.E.lit (Mn.D.int 2))) (Mn.E.lit (Mn.D.non))) [Mn.S.ret (Mn.E.cmp (Mn.CO.is) (Mn.E.ix (Mn.E.var 1) (Mn.E.lit (Mn.D.int 5))) (Mn.E.lit (Mn.D.non)))] [], Mn.S.ret (Mn.E.mth [([74, 117, 100, 103, 101], 31)] [105, 115, 95, 112, 97, 114, 116] (Mn.E.var 0) [Mn.E.ix (Mn.E.var 1) (Mn.E.lit (Mn.D.int 5)), Mn.E.ix (Mn.E.var 1) (Mn.E.lit (Mn.D.int 2))])], false⟩
/-- fits_judged -/
def f10 : Df := ⟨1, 6, [Mn.S.ifs (Mn.E.bor (Mn.E.bnot (Mn.E.fn 1 [Mn.E.var 0, Mn.E.lit (Mn.D.int 2), Mn.E.lit (Mn.D.int 2)])) (Mn.E.bnot (Mn.E.fn 1 [Mn.E.ix (Mn.E.var 0) (Mn.E.lit (Mn.D.int 0)), Mn.E.lit (Mn.D.int 1), Mn.E.lit (Mn.D.int 30)]))) [Mn.S.ret (Mn.E.lit (Mn.D.bl false))] [], Mn.S.ifs (Mn.E.bor (Mn.E.bnot (Mn.E.bi (Mn.Bi.all) false (Mn.E.comp false (Mn.Tg.nm 5) (Mn.Wt.of) [Mn.E.ix (Mn.E.var 0) (Mn.E.lit (Mn.D.int 0))] none (Mn.E.fn 8 [Mn.E.var 5]) [5]))) (Mn.E.bnot (Mn.E.fn 7 [Mn.E.ix (Mn.E.var 0) (Mn.E.lit (Mn.D.int 1)), Mn.E.bi (Mn.Bi.len) false (Mn.E.ix (Mn.E.var 0) (Mn.E.lit (Mn.D.int 0)))]))) [Mn.S.ret (Mn.E.lit (Mn.D.bl false))] [], Mn.S.asg (Mn.Tg.nm 1) (Mn.E.comp false (Mn.Tg.nm 5) (Mn.Wt.of) [Mn.E.ix (Mn.E.var 0) (Mn.E.lit (Mn.D.int 0))] none (Mn.E.ix (Mn.E.var 5) (Mn.E.lit (Mn.D.int 0))) [5]), Mn.S.ifs (Mn.E.cmp (Mn.CO.lt) (Mn.E.lset (Mn.E.var 1)) (Mn.E.bi (Mn.Bi.len) false (Mn.E.var 1))) [Mn.S.ret (Mn.E.lit (Mn.D.bl false))] [], Mn.S.forr (Mn.Tg.tp [Mn.Tg.nm 2, Mn.Tg.nm 3]) (Mn.Wt.enm) [Mn.E.ix (Mn.E.var 0) (Mn.E.lit (Mn.D.int 0))] [Mn.S.asg (Mn.Tg.nm 4) (Mn.E.mk [74, 117, 100, 103, 101] 29 [Mn.E.ix (Mn.E.var 0) (Mn.E.lit (Mn.D.int 0)), Mn.E.var 2]), Mn.S.ifs (Mn.E.bor (Mn.E.bnot (Mn.E.mth [([74, 117, 100, 103, 101], 44)] [105, 115, 95, 98, 108, 111, 99, 107] (Mn.E.var 4) [Mn.E.ix (Mn.E.var 3) (Mn.E.lit (Mn.D.int 4)), Mn.E.lit (Mn.D.int 1)])) (Mn.E.bnot (Mn.E.fn 9 [Mn.E.var 4, Mn.E.var 3]))) [Mn.S.ret (Mn.E.lit (Mn.D.bl false))] []], Mn.S.ret (Mn.E.lit (Mn.D.bl true))], true⟩
/-- is_judged -/
def f11 : Df := ⟨1, 1, [Mn.S.ret (Mn.E.fn 10 [Mn.E.var 0])], false⟩
/-- parts_of -/
def f12 : Df := ⟨1, 2, [Mn.S.ifs (Mn.E.cmp (Mn.CO.eq) (Mn.E.ix (Mn.E.var 0) (Mn.E.lit (Mn.D.int 0))) (Mn.E.lit (Mn.D.str [99, 97, 108, 108]))) [Mn.S.ret (Mn.E.bi (Mn.Bi.list) false (Mn.E.ix (Mn.E.var 0) (Mn.E.lit (Mn.D.int 2))))] [], Mn.S.ifs (Mn.E.cmp (Mn.CO.eq) (Mn.E.ix (Mn.E.var 0) (Mn.E.lit (Mn.D.int 0))) (Mn.E.lit (Mn.D.str [111, 117, 116]))) [Mn.S.ret (Mn.E.bin (Mn.BO.add) (Mn.E.lst false [Mn.E.ix (Mn.E.var 0) (Mn.E.lit (Mn.D.int 3)), Mn.E.ix (Mn.E.var 0) (Mn.E.lit (Mn.D.int 6))]) (Mn.E.bi (Mn.Bi.list) false (Mn.E.ix (Mn.E.var 0) (Mn.E.lit (Mn.D.int 5)))))] [], Mn.S.ret (Mn.E.comp false (Mn.Tg.nm 1) (Mn.Wt.of) [Mn.E.kix [([115, 101, 116], Mn.D.tup false [Mn.D.int 2]), ([112, 117, 116], Mn.D.tup false [Mn.D.int 2, Mn.D.int 3]), ([100, 111], Mn.D.tup false [Mn.D.int 1]), ([105, 102], Mn.D.tup false [Mn.D.int 1]), ([114, 101, 112, 101, 97, 116], Mn.D.tup false [Mn.D.int 1]), ([102, 97, 105, 108], Mn.D.tup false []), ([99, 104, 101, 99, 107], Mn.D.tup false [Mn.D.int 1]), ([116, 101, 108, 108], Mn.D.tup false [Mn.D.int 1]), ([112, 97, 121], Mn.D.tup false [Mn.D.int 1, Mn.D.int 2]), ([110, 117, 109], Mn.D.tup false []), ([116, 114, 117, 116, 104], Mn.D.tup false []), ([110, 97, 109, 101, 100], Mn.D.tup false []), ([119, 111, 114, 100], Mn.D.tup false []), ([108, 111, 99, 97, 108], Mn.D.tup false []), ([108, 111, 111, 107], Mn.D.tup false [Mn.D.int 2]), ([110, 111, 116], Mn.D.tup false [Mn.D.int 1]), ([98, 105, 110, 97, 114, 121], Mn.D.tup false [Mn.D.int 2, Mn.D.int 3])] (Mn.E.ix (Mn.E.var 0) (Mn.E.lit (Mn.D.int 0)))] none (Mn.E.ix (Mn.E.var 0) (Mn.E.var 1)) [1])], false⟩
/-- own_orders -/
def f13 : Df := ⟨2, 7, [Mn.S.asg (Mn.Tg.nm 2) (Mn.E.ix (Mn.E.var 0) (Mn.E.lit (Mn.D.int 0))), Mn.S.ifs (Mn.E.cmp (Mn.CO.inn) (Mn.E.var 2) (Mn.E.tup [Mn.E.lit (Mn.D.str [110, 117, 109]), Mn.E.lit (Mn.D.str [116, 114, 117, 116, 104]), Mn.E.lit (Mn.D.str [110, 97, 109, 101, 100])])) [Mn.S.ret (Mn.E.tup [Mn.E.lst false [Mn.E.tup [Mn.E.lit (Mn.D.str [99, 111, 110, 115, 116]), Mn.E.ix (Mn.E.var 0) (Mn.E.lit (Mn.D.int 1))]], Mn.E.lst false []])] [], Mn.S.ifs (Mn.E.cmp (Mn.CO.inn) (Mn.E.var 2) (Mn.E.tup [Mn.E.lit (Mn.D.str [119, 111, 114, 100]), Mn.E.lit (Mn.D.str [110, 111, 116]), Mn.E.lit (Mn.D.str [116, 101, 108, 108])])) [Mn.S.ret (Mn.E.tup [Mn.E.lst false [Mn.E.tup [Mn.E.ife (Mn.E.cmp (Mn.CO.eq) (Mn.E.var 2) (Mn.E.lit (Mn.D.str [119, 111, 114, 100]))) (Mn.E.ix (Mn.E.var 0) (Mn.E.lit (Mn.D.int 1))) (Mn.E.var 2)]], Mn.E.lst false []])] [], Mn.S.ifs (Mn.E.cmp (Mn.CO.inn) (Mn.E.var 2) (Mn.E.tup [Mn.E.lit (Mn.D.str [98, 105, 110, 97, 114, 121]), Mn.E.lit (Mn.D.str [112, 97, 121])])) [Mn.S.ret (Mn.E.tup [Mn.E.comp false (Mn.Tg.nm 6) (Mn.Wt.of) [Mn.E.ife (Mn.E.cmp (Mn.CO.eq) (Mn.E.var 2) (Mn.E.lit (Mn.D.str [98, 105, 110, 97, 114, 121]))) (Mn.E.kix [([43], Mn.D.tup false [Mn.D.str [97, 100, 100]]), ([45], Mn.D.tup false [Mn.D.str [115, 117, 98]]), ([42], Mn.D.tup false [Mn.D.str [109, 117, 108]]), ([47], Mn.D.tup false [Mn.D.str [100, 105, 118]]), ([114, 101, 115, 116], Mn.D.tup false [Mn.D.str [114, 101, 115, 116]]), ([60], Mn.D.tup false [Mn.D.str [108, 101, 115, 115]]), ([62], Mn.D.tup false [Mn.D.str [115, 119, 97, 112], Mn.D.str [108, 101, 115, 115]]), ([60, 61], Mn.D.tup false [Mn.D.str [115, 119, 97, 112], Mn.D.str [108, 101, 115, 115], Mn.D.str [110, 111, 116]]), ([62, 61], Mn.D.tup false [Mn.D.str [108, 101, 115, 115], Mn.D.str [110, 111, 116]]), ([61, 61], Mn.D.tup false [Mn.D.str [101, 113, 117, 97, 108]]), ([33, 61], Mn.D.tup false [Mn.D.str [101, 113, 117, 97, 108], Mn.D.str [110, 111, 116]]), ([105, 115], Mn.D.tup false [Mn.D.str [115, 97, 109, 101]]), ([97, 110, 100], Mn.D.tup false [Mn.D.str [97, 110, 100]]), ([111, 114], Mn.D.tup false [Mn.D.str [111, 114]])] (Mn.E.ix (Mn.E.var 0) (Mn.E.lit (Mn.D.int 1)))) (Mn.E.tup [Mn.E.lit (Mn.D.str [115, 119, 97, 112]), Mn.E.lit (Mn.D.str [112, 97, 121])])] none (Mn.E.tup [Mn.E.var 6]) [6], Mn.E.lst false []])] [], Mn.S.ifs (Mn.E.cmp (Mn.CO.inn) (Mn.E.var 2) (Mn.E.tup [Mn.E.lit (Mn.D.str [108, 111, 99, 97, 108]), Mn.E.lit (Mn.D.str [115, 101, 116])])) [Mn.S.ret (Mn.E.tup [Mn.E.lst false [Mn.E.tup [Mn.E.ife (Mn.E.cmp (Mn.CO.eq) (Mn.E.var 2) (Mn.E.lit (Mn.D.str [108, 111, 99, 97, 108]))) (Mn.E.lit (Mn.D.str [108, 111, 97, 100])) (Mn.E.lit (Mn.D.str [115, 116, 111, 114, 101])), Mn.E.ix (Mn.E.var 0) (Mn.E.lit (Mn.D.int 1))]], Mn.E.lst false []])] [], Mn.S.ifs (Mn.E.cmp (Mn.CO.inn) (Mn.E.var 2) (Mn.E.tup [Mn.E.lit (Mn.D.str [108, 111, 111, 107]), Mn.E.lit (Mn.D.str [112, 117, 116]), Mn.E.lit (Mn.D.str [102, 97, 105, 108])])) [Mn.S.ret (Mn.E.tup [Mn.E.lst false [Mn.E.tup [Mn.E.var 2, Mn.E.ix (Mn.E.var 0) (Mn.E.lit (Mn.D.int 1))]], Mn.E.lst false []])] [], Mn.S.ifs (Mn.E.cmp (Mn.CO.eq) (Mn.E.var 2) (Mn.E.lit (Mn.D.str [99, 104, 101, 99, 107]))) [Mn.S.ret (Mn.E.tup [Mn.E.lst false [Mn.E.tup [Mn.E.var 2, Mn.E.ix (Mn.E.var 0) (Mn.E.lit (Mn.D.int 2))]], Mn.E.lst false []])] [], Mn.S.ifs (Mn.E.cmp (Mn.CO.eq) (Mn.E.var 2) (Mn.E.lit (Mn.D.str [99, 97, 108, 108]))) [Mn.S.ret (Mn.E.tup [Mn.E.lst false [Mn.E.tup [Mn.E.var 2, Mn.E.ix (Mn.E.var 0) (Mn.E.lit (Mn.D.int 1)), Mn.E.ix (Mn.E.var 0) (Mn.E.lit (Mn.D.int 3))]], Mn.E.lst false []])] [], Mn.S.ifs (Mn.E.cmp (Mn.CO.eq) (Mn.E.var 2) (Mn.E.lit (Mn.D.str [100, 111]))) [Mn.S.ret (Mn.E.tup [Mn.E.lst false [], Mn.E.ife (Mn.E.cmp (Mn.CO.isn) (Mn.E.ix (Mn.E.ix (Mn.E.var 0) (Mn.E.lit (Mn.D.int 1))) (Mn.E.neg (Mn.E.lit (Mn.D.int 1)))) (Mn.E.lit (Mn.D.non))) (Mn.E.lst false [Mn.E.tup [Mn.E.lit (Mn.D.str [112, 111, 112])]]) (Mn.E.lst false [])])] [], Mn.S.ifs (Mn.E.cmp (Mn.CO.eq) (Mn.E.var 2) (Mn.E.lit (Mn.D.str [105, 102]))) [Mn.S.ret (Mn.E.tup [Mn.E.lst false [Mn.E.tup [Mn.E.var 2, Mn.E.ix (Mn.E.var 1) (Mn.E.lit (Mn.D.int 0)), Mn.E.ix (Mn.E.var 1) (Mn.E.lit (Mn.D.int 1))]], Mn.E.lst false []])] [], Mn.S.ifs (Mn.E.cmp (Mn.CO.eq) (Mn.E.var 2) (Mn.E.lit (Mn.D.str [114, 101, 112, 101, 97, 116]))) [Mn.S.ret (Mn.E.tup [Mn.E.lst false [Mn.E.tup [Mn.E.var 2, Mn.E.ix (Mn.E.var 0) (Mn.E.lit (Mn.D.int 2)), Mn.E.ix (Mn.E.var 1) (Mn.E.lit (Mn.D.int 0))]], Mn.E.lst false []])] [], Mn.S.asg (Mn.Tg.nm 3) (Mn.E.bin (Mn.BO.add) (Mn.E.lst false [Mn.E.tup [Mn.E.lit (Mn.D.str [115, 116, 111, 114, 101]), Mn.E.ix (Mn.E.var 0) (Mn.E.lit (Mn.D.int 2))]]) (Mn.E.ife (Mn.E.cmp (Mn.CO.isn) (Mn.E.ix (Mn.E.var 0) (Mn.E.lit (Mn.D.int 1))) (Mn.E.lit (Mn.D.non))) (Mn.E.lst false [Mn.E.tup [Mn.E.lit (Mn.D.str [115, 116, 111, 114, 101]), Mn.E.ix (Mn.E.var 0) (Mn.E.lit (Mn.D.int 1))]]) (Mn.E.lst false []))), Mn.S.asg (Mn.Tg.nm 4) (Mn.E.bi (Mn.Bi.tuple) false (Mn.E.comp false (Mn.Tg.nm 5) (Mn.Wt.of) [Mn.E.ix (Mn.E.var 0) (Mn.E.lit (Mn.D.int 5))] none (Mn.E.ix (Mn.E.var 5) (Mn.E.neg (Mn.E.lit (Mn.D.int 1)))) [5])), Mn.S.ret (Mn.E.tup [Mn.E.lst false [Mn.E.tup [Mn.E.var 2, Mn.E.ix (Mn.E.var 0) (Mn.E.lit (Mn.D.int 4)), Mn.E.var 4, Mn.E.ix (Mn.E.var 0) (Mn.E.lit (Mn.D.int 8)), Mn.E.ix (Mn.E.var 0) (Mn.E.lit (Mn.D.int 7))]], Mn.E.var 3])], false⟩
/-- expression_orders -/
def f14 : Df := ⟨1, 5, [Mn.S.asg (Mn.Tg.nm 1) (Mn.E.lst true []), Mn.S.forr (Mn.Tg.nm 2) (Mn.Wt.of) [Mn.E.fn 12 [Mn.E.var 0]] [Mn.S.aug 1 (Mn.BO.add) (Mn.E.fn 14 [Mn.E.var 2])], Mn.S.asg (Mn.Tg.tp [Mn.Tg.nm 3, Mn.Tg.nm 4]) (Mn.E.fn 13 [Mn.E.var 0, Mn.E.tup []]), Mn.S.ret (Mn.E.bin (Mn.BO.add) (Mn.E.bin (Mn.BO.add) (Mn.E.var 1) (Mn.E.var 3)) (Mn.E.var 4))], false⟩
/-- statement_orders -/
def f15 : Df := ⟨1, 7, [Mn.S.asg (Mn.Tg.nm 1) (Mn.E.lst true []), Mn.S.forr (Mn.Tg.nm 2) (Mn.Wt.of) [Mn.E.fn 12 [Mn.E.var 0]] [Mn.S.aug 1 (Mn.BO.add) (Mn.E.fn 14 [Mn.E.var 2])], Mn.S.asg (Mn.Tg.nm 3) (Mn.E.bi (Mn.Bi.tuple) false (Mn.E.comp false (Mn.Tg.nm 6) (Mn.Wt.of) [Mn.E.kget [([105, 102], Mn.D.tup false [Mn.D.int 2, Mn.D.int 3]), ([114, 101, 112, 101, 97, 116], Mn.D.tup false [Mn.D.int 3])] (Mn.E.ix (Mn.E.var 0) (Mn.E.lit (Mn.D.int 0))) (Mn.E.tup [])] none (Mn.E.bi (Mn.Bi.tuple) false (Mn.E.fn 16 [Mn.E.ix (Mn.E.var 0) (Mn.E.var 6)])) [6])), Mn.S.asg (Mn.Tg.tp [Mn.Tg.nm 4, Mn.Tg.nm 5]) (Mn.E.fn 13 [Mn.E.var 0, Mn.E.var 3]), Mn.S.ret (Mn.E.bin (Mn.BO.add) (Mn.E.bin (Mn.BO.add) (Mn.E.var 1) (Mn.E.var 4)) (Mn.E.var 5))], true⟩
/-- block_orders -/
def f16 : Df := ⟨1, 3, [Mn.S.asg (Mn.Tg.nm 1) (Mn.E.lst true []), Mn.S.forr (Mn.Tg.nm 2) (Mn.Wt.of) [Mn.E.var 0] [Mn.S.aug 1 (Mn.BO.add) (Mn.E.fn 15 [Mn.E.var 2])], Mn.S.ret (Mn.E.var 1)], true⟩
/-- body_of -/
def f17 : Df := ⟨1, 2, [Mn.S.asg (Mn.Tg.nm 1) (Mn.E.fn 16 [Mn.E.ix (Mn.E.var 0) (Mn.E.lit (Mn.D.int 4))]), Mn.S.ret (Mn.E.bi (Mn.Bi.tuple) false (Mn.E.bin (Mn.BO.add) (Mn.E.var 1) (Mn.E.ife (Mn.E.cmp (Mn.CO.isn) (Mn.E.ix (Mn.E.var 0) (Mn.E.lit (Mn.D.int 5))) (Mn.E.lit (Mn.D.non))) (Mn.E.fn 14 [Mn.E.ix (Mn.E.var 0) (Mn.E.lit (Mn.D.int 5))]) (Mn.E.lst false []))))], true⟩
/-- count_orders -/
def f18 : Df := ⟨1, 6, [Mn.S.asg (Mn.Tg.tp [Mn.Tg.nm 1, Mn.Tg.nm 2]) (Mn.E.tup [Mn.E.lit (Mn.D.int 0), Mn.E.lst true [Mn.E.var 0]]), Mn.S.whl 100000 (Mn.E.cmp (Mn.CO.ne) (Mn.E.var 2) (Mn.E.lst false [])) [Mn.S.asg (Mn.Tg.nm 3) (Mn.E.me (Mn.Me.pop) (Mn.E.var 2) []), Mn.S.asg (Mn.Tg.nm 1) (Mn.E.bin (Mn.BO.add) (Mn.E.var 1) (Mn.E.bi (Mn.Bi.len) false (Mn.E.var 3))), Mn.S.aug 2 (Mn.BO.add) (Mn.E.comp2 false (Mn.Tg.nm 4) (Mn.Wt.of) [Mn.E.var 3] none (Mn.Tg.nm 5) (Mn.Wt.of) [Mn.E.fn 6 [Mn.E.var 4]] none (Mn.E.var 5) [4, 5] [5])], Mn.S.ret (Mn.E.var 1)], true⟩
/-- need_judged -/
def f19 : Df := ⟨1, 1, [Mn.S.ifs (Mn.E.bnot (Mn.E.fn 11 [Mn.E.var 0])) [Mn.S.rais 0] []], false⟩
/-- compiled -/
def f20 : Df := ⟨1, 5, [Mn.S.ex (Mn.E.fn 19 [Mn.E.var 0]), Mn.S.asg (Mn.Tg.nm 1) (Mn.E.lst true []), Mn.S.forr (Mn.Tg.tp [Mn.Tg.nm 2, Mn.Tg.nm 3]) (Mn.Wt.enm) [Mn.E.ix (Mn.E.var 0) (Mn.E.lit (Mn.D.int 0))] [Mn.S.asg (Mn.Tg.nm 4) (Mn.E.fn 17 [Mn.E.var 3]), Mn.S.ifs (Mn.E.cmp (Mn.CO.gt) (Mn.E.fn 18 [Mn.E.var 4]) (Mn.E.lit (Mn.D.int 400))) [Mn.S.bad] [], Mn.S.ex (Mn.E.me (Mn.Me.append) (Mn.E.var 1) [Mn.E.bin (Mn.BO.add) (Mn.E.slc (Mn.E.var 3) none (some (Mn.E.lit (Mn.D.int 4)))) (Mn.E.tup [Mn.E.var 4])])], Mn.S.ret (Mn.E.tup [Mn.E.bi (Mn.Bi.tuple) false (Mn.E.var 1), Mn.E.ix (Mn.E.var 0) (Mn.E.lit (Mn.D.int 1))])], true⟩
/-- _law_cup -/
def f21 : Df := ⟨1, 2, [Mn.S.asg (Mn.Tg.nm 1) (Mn.E.bi (Mn.Bi.abs) false (Mn.E.ix (Mn.E.bin (Mn.BO.add) (Mn.E.bi (Mn.Bi.list) false (Mn.E.var 0)) (Mn.E.lst false [Mn.E.lit (Mn.D.int 0)])) (Mn.E.lit (Mn.D.int 0)))), Mn.S.ret (Mn.E.lst true [Mn.E.ife (Mn.E.cmp (Mn.CO.ge) (Mn.E.var 1) (Mn.E.bin (Mn.BO.pow) (Mn.E.lit (Mn.D.int 10)) (Mn.E.lit (Mn.D.int 18)))) (Mn.E.bin (Mn.BO.fdiv) (Mn.E.var 1) (Mn.E.lit (Mn.D.int 71))) (Mn.E.lit (Mn.D.int 0)), Mn.E.bin (Mn.BO.add) (Mn.E.bin (Mn.BO.mod) (Mn.E.bi (Mn.Bi.int) false (Mn.E.bin (Mn.BO.add) (Mn.E.bin (Mn.BO.mul) (Mn.E.var 1) (Mn.E.lit (Mn.D.int 281))) (Mn.E.lit (Mn.D.int 2707)))) (Mn.E.lit (Mn.D.int 2077503151))) (Mn.E.lit (Mn.D.int 167))])], false⟩
/-- _law_roll -/
def f22 : Df := ⟨2, 4, [Mn.S.ifs (Mn.E.cmp (Mn.CO.gt) (Mn.E.ix (Mn.E.var 0) (Mn.E.lit (Mn.D.int 0))) (Mn.E.lit (Mn.D.int 0))) [Mn.S.asg (Mn.Tg.nm 3) (Mn.E.bin (Mn.BO.mod) (Mn.E.bi (Mn.Bi.int) false (Mn.E.ix (Mn.E.var 0) (Mn.E.lit (Mn.D.int 0)))) (Mn.E.var 1)), Mn.S.six (Mn.E.var 0) (Mn.E.lit (Mn.D.int 0)) (Mn.E.bin (Mn.BO.fdiv) (Mn.E.ix (Mn.E.var 0) (Mn.E.lit (Mn.D.int 0))) (Mn.E.var 1)), Mn.S.ret (Mn.E.var 3)] [], Mn.S.six (Mn.E.var 0) (Mn.E.lit (Mn.D.int 1)) (Mn.E.bin (Mn.BO.mod) (Mn.E.bi (Mn.Bi.int) false (Mn.E.bin (Mn.BO.add) (Mn.E.bin (Mn.BO.mul) (Mn.E.ix (Mn.E.var 0) (Mn.E.lit (Mn.D.int 1))) (Mn.E.lit (Mn.D.int 31051))) (Mn.E.lit (Mn.D.int 8009)))) (Mn.E.lit (Mn.D.int 2147483529))), Mn.S.asg (Mn.Tg.nm 2) (Mn.E.bin (Mn.BO.mod) (Mn.E.bi (Mn.Bi.int) false (Mn.E.bin (Mn.BO.mul) (Mn.E.ix (Mn.E.var 0) (Mn.E.lit (Mn.D.int 1))) (Mn.E.bin (Mn.BO.add) (Mn.E.ix (Mn.E.var 0) (Mn.E.lit (Mn.D.int 1))) (Mn.E.lit (Mn.D.int 233))))) (Mn.E.lit (Mn.D.int 2147483587))), Mn.S.ret (Mn.E.bin (Mn.BO.mod) (Mn.E.bi (Mn.Bi.int) false (Mn.E.bin (Mn.BO.fdiv) (Mn.E.var 2) (Mn.E.lit (Mn.D.int 823)))) (Mn.E.var 1))], false⟩
/-- _law_some -/
def f23 : Df := ⟨2, 2, [Mn.S.ret (Mn.E.ix (Mn.E.var 1) (Mn.E.fn 22 [Mn.E.var 0, Mn.E.bi (Mn.Bi.len) false (Mn.E.var 1)]))], false⟩
/-- _law_n -/
def f24 : Df := ⟨1, 1, [Mn.S.ret (Mn.E.tup [Mn.E.lit (Mn.D.str [110, 117, 109]), Mn.E.var 0, Mn.E.lit (Mn.D.str [110, 117, 109])])], false⟩
/-- _law_two -/
def f25 : Df := ⟨3, 4, [Mn.S.asg (Mn.Tg.nm 3) (Mn.E.ife (Mn.E.cmp (Mn.CO.inn) (Mn.E.var 0) (Mn.E.tup [Mn.E.lit (Mn.D.str [43]), Mn.E.lit (Mn.D.str [45]), Mn.E.lit (Mn.D.str [42]), Mn.E.lit (Mn.D.str [47]), Mn.E.lit (Mn.D.str [114, 101, 115, 116])])) (Mn.E.lit (Mn.D.str [110, 117, 109])) (Mn.E.lit (Mn.D.str [116, 114, 117, 116, 104]))), Mn.S.ret (Mn.E.tup [Mn.E.lit (Mn.D.str [98, 105, 110, 97, 114, 121]), Mn.E.var 0, Mn.E.var 1, Mn.E.var 2, Mn.E.var 3])], false⟩
/-- _law_around -/
def f26 : Df := ⟨1, 3, [Mn.S.asg (Mn.Tg.nm 1) (Mn.E.tup [Mn.E.lit (Mn.D.str [112, 108, 117, 115]), Mn.E.tup [Mn.E.lit (Mn.D.str [110, 117, 109]), Mn.E.lit (Mn.D.str [110, 117, 109])], Mn.E.lit (Mn.D.str [110, 117, 109]), Mn.E.tup [], Mn.E.tup [], Mn.E.fn 25 [Mn.E.lit (Mn.D.str [43]), Mn.E.tup [Mn.E.lit (Mn.D.str [108, 111, 99, 97, 108]), Mn.E.lit (Mn.D.int 0), Mn.E.lit (Mn.D.str [110, 117, 109])], Mn.E.tup [Mn.E.lit (Mn.D.str [108, 111, 99, 97, 108]), Mn.E.lit (Mn.D.int 1), Mn.E.lit (Mn.D.str [110, 117, 109])]]]), Mn.S.asg (Mn.Tg.nm 2) (Mn.E.tup [Mn.E.lit (Mn.D.str [110, 111, 116, 104, 105, 110, 103]), Mn.E.tup [], Mn.E.lit (Mn.D.non), Mn.E.tup [], Mn.E.tup [], Mn.E.lit (Mn.D.non)]), Mn.S.ret (Mn.E.tup [Mn.E.tup [Mn.E.var 1, Mn.E.var 2, Mn.E.tup [Mn.E.lit (Mn.D.str [103, 111]), Mn.E.tup [Mn.E.lit (Mn.D.str [110, 117, 109])], Mn.E.lit (Mn.D.non), Mn.E.tup [Mn.E.lit (Mn.D.str [110, 117, 109]), Mn.E.lit (Mn.D.str [116, 114, 117, 116, 104]), Mn.E.lit (Mn.D.str [110, 97, 109, 101])], Mn.E.var 0, Mn.E.lit (Mn.D.non)]], Mn.E.tup [Mn.E.tup [Mn.E.lit (Mn.D.str [103, 111]), Mn.E.lit (Mn.D.int 2)]]])], false⟩
/-- _law_rows -/
def f27 : Df := ⟨0, 10, [Mn.S.asg (Mn.Tg.tp [Mn.Tg.nm 3, Mn.Tg.nm 4, Mn.Tg.nm 5, Mn.Tg.nm 6]) (Mn.E.tup [Mn.E.fn 24 [Mn.E.lit (Mn.D.int 4)], Mn.E.tup [Mn.E.lit (Mn.D.str [108, 111, 99, 97, 108]), Mn.E.lit (Mn.D.int 0), Mn.E.lit (Mn.D.str [110, 117, 109])], Mn.E.tup [Mn.E.tup [Mn.E.tup [Mn.E.lit (Mn.D.int 1)], Mn.E.lit (Mn.D.int 2)]], Mn.E.tup [Mn.E.lit (Mn.D.str [99, 111, 110, 115, 116]), Mn.E.lit (Mn.D.int 4)]]), Mn.S.asg (Mn.Tg.tp [Mn.Tg.nm 7, Mn.Tg.nm 8, Mn.Tg.nm 9]) (Mn.E.tup [Mn.E.tup [Mn.E.lit (Mn.D.str [116, 114, 117, 116, 104]), Mn.E.lit (Mn.D.bl true), Mn.E.lit (Mn.D.str [116, 114, 117, 116, 104])], Mn.E.tup [Mn.E.lit (Mn.D.str [110, 97, 109, 101, 100]), Mn.E.lit (Mn.D.str [97, 110, 110]), Mn.E.lit (Mn.D.str [110, 97, 109, 101])], Mn.E.tup [Mn.E.lit (Mn.D.str [116, 101, 108, 108]), Mn.E.tup [Mn.E.lit (Mn.D.str [108, 111, 99, 97, 108]), Mn.E.lit (Mn.D.int 0), Mn.E.lit (Mn.D.str [110, 117, 109])]]]), Mn.S.asg (Mn.Tg.nm 0) (Mn.E.tup [Mn.E.tup [Mn.E.lit (Mn.D.str [108, 111, 97, 100]), Mn.E.lit (Mn.D.int 0)], Mn.E.tup [Mn.E.lit (Mn.D.str [116, 101, 108, 108])]]), Mn.S.asg (Mn.Tg.nm 1) (Mn.E.lst false [Mn.E.tup [Mn.E.tup [Mn.E.lit (Mn.D.str [115, 101, 116]), Mn.E.lit (Mn.D.int 1), Mn.E.var 3], Mn.E.lst false [Mn.E.var 6, Mn.E.tup [Mn.E.lit (Mn.D.str [115, 116, 111, 114, 101]), Mn.E.lit (Mn.D.int 1)]]], Mn.E.tup [Mn.E.tup [Mn.E.lit (Mn.D.str [115, 101, 116]), Mn.E.lit (Mn.D.int 3), Mn.E.var 8], Mn.E.lst false [Mn.E.tup [Mn.E.lit (Mn.D.str [99, 111, 110, 115, 116]), Mn.E.lit (Mn.D.str [97, 110, 110])], Mn.E.tup [Mn.E.lit (Mn.D.str [115, 116, 111, 114, 101]), Mn.E.lit (Mn.D.int 3)]]], Mn.E.tup [Mn.E.tup [Mn.E.lit (Mn.D.str [112, 117, 116]), Mn.E.lit (Mn.D.int 2), Mn.E.var 3, Mn.E.var 4], Mn.E.lst false [Mn.E.var 6, Mn.E.tup [Mn.E.lit (Mn.D.str [108, 111, 97, 100]), Mn.E.lit (Mn.D.int 0)], Mn.E.tup [Mn.E.lit (Mn.D.str [112, 117, 116]), Mn.E.lit (Mn.D.int 2)]]], Mn.E.tup [Mn.E.var 9, Mn.E.bi (Mn.Bi.list) false (Mn.E.var 0)]]), Mn.S.asg (Mn.Tg.nm 1) (Mn.E.bin (Mn.BO.add) (Mn.E.var 1) (Mn.E.lst false [Mn.E.tup [Mn.E.tup [Mn.E.lit (Mn.D.str [100, 111]), Mn.E.tup [Mn.E.lit (Mn.D.str [99, 97, 108, 108]), Mn.E.lit (Mn.D.int 0), Mn.E.tup [Mn.E.var 3, Mn.E.var 4], Mn.E.tup [Mn.E.var 5, Mn.E.var 5], Mn.E.lit (Mn.D.str [110, 117, 109])]], Mn.E.lst false [Mn.E.var 6, Mn.E.tup [Mn.E.lit (Mn.D.str [108, 111, 97, 100]), Mn.E.lit (Mn.D.int 0)], Mn.E.tup [Mn.E.lit (Mn.D.str [99, 97, 108, 108]), Mn.E.lit (Mn.D.int 0), Mn.E.tup [Mn.E.var 5, Mn.E.var 5]], Mn.E.tup [Mn.E.lit (Mn.D.str [112, 111, 112])]]], Mn.E.tup [Mn.E.tup [Mn.E.lit (Mn.D.str [100, 111]), Mn.E.tup [Mn.E.lit (Mn.D.str [99, 97, 108, 108]), Mn.E.lit (Mn.D.int 1), Mn.E.tup [], Mn.E.tup [], Mn.E.lit (Mn.D.non)]], Mn.E.lst false [Mn.E.tup [Mn.E.lit (Mn.D.str [99, 97, 108, 108]), Mn.E.lit (Mn.D.int 1), Mn.E.tup []]]]])), Mn.S.asg (Mn.Tg.nm 1) (Mn.E.bin (Mn.BO.add) (Mn.E.var 1) (Mn.E.lst false [Mn.E.tup [Mn.E.tup [Mn.E.lit (Mn.D.str [105, 102]), Mn.E.var 7, Mn.E.tup [Mn.E.var 9], Mn.E.tup []], Mn.E.lst false [Mn.E.tup [Mn.E.lit (Mn.D.str [99, 111, 110, 115, 116]), Mn.E.lit (Mn.D.bl true)], Mn.E.tup [Mn.E.lit (Mn.D.str [105, 102]), Mn.E.var 0, Mn.E.tup []]]], Mn.E.tup [Mn.E.tup [Mn.E.lit (Mn.D.str [105, 102]), Mn.E.var 7, Mn.E.tup [], Mn.E.tup [Mn.E.var 9, Mn.E.var 9]], Mn.E.lst false [Mn.E.tup [Mn.E.lit (Mn.D.str [99, 111, 110, 115, 116]), Mn.E.lit (Mn.D.bl true)], Mn.E.tup [Mn.E.lit (Mn.D.str [105, 102]), Mn.E.tup [], Mn.E.bin (Mn.BO.add) (Mn.E.var 0) (Mn.E.var 0)]]]])), Mn.S.asg (Mn.Tg.nm 1) (Mn.E.bin (Mn.BO.add) (Mn.E.var 1) (Mn.E.lst false [Mn.E.tup [Mn.E.tup [Mn.E.lit (Mn.D.str [114, 101, 112, 101, 97, 116]), Mn.E.var 3, Mn.E.var 5, Mn.E.tup [Mn.E.var 9]], Mn.E.lst false [Mn.E.var 6, Mn.E.tup [Mn.E.lit (Mn.D.str [114, 101, 112, 101, 97, 116]), Mn.E.var 5, Mn.E.var 0]]], Mn.E.tup [Mn.E.tup [Mn.E.lit (Mn.D.str [114, 101, 112, 101, 97, 116]), Mn.E.var 4, Mn.E.tup [], Mn.E.tup []], Mn.E.lst false [Mn.E.tup [Mn.E.lit (Mn.D.str [108, 111, 97, 100]), Mn.E.lit (Mn.D.int 0)], Mn.E.tup [Mn.E.lit (Mn.D.str [114, 101, 112, 101, 97, 116]), Mn.E.tup [], Mn.E.tup []]]], Mn.E.tup [Mn.E.tup [Mn.E.lit (Mn.D.str [102, 97, 105, 108]), Mn.E.lit (Mn.D.str [108, 97, 116, 101])], Mn.E.lst false [Mn.E.tup [Mn.E.lit (Mn.D.str [102, 97, 105, 108]), Mn.E.lit (Mn.D.str [108, 97, 116, 101])]]]])), Mn.S.asg (Mn.Tg.nm 1) (Mn.E.bin (Mn.BO.add) (Mn.E.var 1) (Mn.E.lst false [Mn.E.tup [Mn.E.tup [Mn.E.lit (Mn.D.str [99, 104, 101, 99, 107]), Mn.E.var 7, Mn.E.lit (Mn.D.str [110, 111])], Mn.E.lst false [Mn.E.tup [Mn.E.lit (Mn.D.str [99, 111, 110, 115, 116]), Mn.E.lit (Mn.D.bl true)], Mn.E.tup [Mn.E.lit (Mn.D.str [99, 104, 101, 99, 107]), Mn.E.lit (Mn.D.str [110, 111])]]], Mn.E.tup [Mn.E.tup [Mn.E.lit (Mn.D.str [112, 97, 121]), Mn.E.var 3, Mn.E.var 8], Mn.E.lst false [Mn.E.var 6, Mn.E.tup [Mn.E.lit (Mn.D.str [99, 111, 110, 115, 116]), Mn.E.lit (Mn.D.str [97, 110, 110])], Mn.E.tup [Mn.E.lit (Mn.D.str [115, 119, 97, 112])], Mn.E.tup [Mn.E.lit (Mn.D.str [112, 97, 121])]]]])), Mn.S.asg (Mn.Tg.nm 1) (Mn.E.bin (Mn.BO.add) (Mn.E.var 1) (Mn.E.lst false [Mn.E.tup [Mn.E.tup [Mn.E.lit (Mn.D.str [111, 117, 116]), Mn.E.lit (Mn.D.non), Mn.E.lit (Mn.D.int 2), Mn.E.var 8, Mn.E.lit (Mn.D.str [103, 111]), Mn.E.tup [Mn.E.var 3, Mn.E.var 7], Mn.E.var 4, Mn.E.var 5, Mn.E.lit (Mn.D.non)], Mn.E.lst false [Mn.E.tup [Mn.E.lit (Mn.D.str [99, 111, 110, 115, 116]), Mn.E.lit (Mn.D.str [97, 110, 110])], Mn.E.tup [Mn.E.lit (Mn.D.str [108, 111, 97, 100]), Mn.E.lit (Mn.D.int 0)], Mn.E.var 6, Mn.E.tup [Mn.E.lit (Mn.D.str [99, 111, 110, 115, 116]), Mn.E.lit (Mn.D.bl true)], Mn.E.tup [Mn.E.lit (Mn.D.str [111, 117, 116]), Mn.E.lit (Mn.D.str [103, 111]), Mn.E.tup [Mn.E.lit (Mn.D.str [110, 117, 109]), Mn.E.lit (Mn.D.str [116, 114, 117, 116, 104])], Mn.E.lit (Mn.D.non), Mn.E.var 5], Mn.E.tup [Mn.E.lit (Mn.D.str [115, 116, 111, 114, 101]), Mn.E.lit (Mn.D.int 2)]]]])), Mn.S.asg (Mn.Tg.nm 1) (Mn.E.bin (Mn.BO.add) (Mn.E.var 1) (Mn.E.lst false [Mn.E.tup [Mn.E.tup [Mn.E.lit (Mn.D.str [111, 117, 116]), Mn.E.lit (Mn.D.int 1), Mn.E.lit (Mn.D.int 2), Mn.E.var 8, Mn.E.lit (Mn.D.str [115, 117, 109]), Mn.E.tup [], Mn.E.var 3, Mn.E.tup [], Mn.E.lit (Mn.D.str [110, 117, 109])], Mn.E.lst false [Mn.E.tup [Mn.E.lit (Mn.D.str [99, 111, 110, 115, 116]), Mn.E.lit (Mn.D.str [97, 110, 110])], Mn.E.var 6, Mn.E.tup [Mn.E.lit (Mn.D.str [111, 117, 116]), Mn.E.lit (Mn.D.str [115, 117, 109]), Mn.E.tup [], Mn.E.lit (Mn.D.str [110, 117, 109]), Mn.E.tup []], Mn.E.tup [Mn.E.lit (Mn.D.str [115, 116, 111, 114, 101]), Mn.E.lit (Mn.D.int 2)], Mn.E.tup [Mn.E.lit (Mn.D.str [115, 116, 111, 114, 101]), Mn.E.lit (Mn.D.int 1)]]]])), Mn.S.asg (Mn.Tg.nm 2) (Mn.E.tup [Mn.E.lit (Mn.D.str [105, 102]), Mn.E.var 7, Mn.E.tup [Mn.E.tup [Mn.E.lit (Mn.D.str [114, 101, 112, 101, 97, 116]), Mn.E.var 3, Mn.E.var 5, Mn.E.tup [Mn.E.tup [Mn.E.lit (Mn.D.str [105, 102]), Mn.E.var 7, Mn.E.tup [], Mn.E.tup [Mn.E.var 9]]]], Mn.E.var 9], Mn.E.tup [Mn.E.tup [Mn.E.lit (Mn.D.str [102, 97, 105, 108]), Mn.E.lit (Mn.D.str [110, 111])]]]), Mn.S.ret (Mn.E.bin (Mn.BO.add) (Mn.E.var 1) (Mn.E.lst false [Mn.E.tup [Mn.E.var 2, Mn.E.lst false [Mn.E.tup [Mn.E.lit (Mn.D.str [99, 111, 110, 115, 116]), Mn.E.lit (Mn.D.bl true)], Mn.E.tup [Mn.E.lit (Mn.D.str [105, 102]), Mn.E.bin (Mn.BO.add) (Mn.E.tup [Mn.E.var 6, Mn.E.tup [Mn.E.lit (Mn.D.str [114, 101, 112, 101, 97, 116]), Mn.E.var 5, Mn.E.tup [Mn.E.tup [Mn.E.lit (Mn.D.str [99, 111, 110, 115, 116]), Mn.E.lit (Mn.D.bl true)], Mn.E.tup [Mn.E.lit (Mn.D.str [105, 102]), Mn.E.tup [], Mn.E.var 0]]]]) (Mn.E.var 0), Mn.E.tup [Mn.E.tup [Mn.E.lit (Mn.D.str [102, 97, 105, 108]), Mn.E.lit (Mn.D.str [110, 111])]]]]]]))], false⟩
/-- law -/
def f28 : Df := ⟨1, 10, [Mn.S.asg (Mn.Tg.nm 1) (Mn.E.fn 21 [Mn.E.var 0]), Mn.S.asg (Mn.Tg.nm 2) (Mn.E.fn 27 []), Mn.S.forr (Mn.Tg.nm 3) (Mn.Wt.rng1) [Mn.E.lit (Mn.D.int 8)] [Mn.S.asg (Mn.Tg.nm 4) (Mn.E.comp false (Mn.Tg.nm 9) (Mn.Wt.rng1) [Mn.E.bin (Mn.BO.add) (Mn.E.lit (Mn.D.int 1)) (Mn.E.fn 22 [Mn.E.var 1, Mn.E.lit (Mn.D.int 3)])] none (Mn.E.fn 23 [Mn.E.var 1, Mn.E.var 2]) [9]), Mn.S.asg (Mn.Tg.nm 5) (Mn.E.lst false []), Mn.S.forr (Mn.Tg.tp [Mn.Tg.nm 7, Mn.Tg.nm 8]) (Mn.Wt.of) [Mn.E.var 4] [Mn.S.asg (Mn.Tg.nm 5) (Mn.E.bin (Mn.BO.add) (Mn.E.var 5) (Mn.E.var 8))], Mn.S.asg (Mn.Tg.nm 6) (Mn.E.fn 26 [Mn.E.bi (Mn.Bi.tuple) false (Mn.E.comp false (Mn.Tg.tp [Mn.Tg.nm 7, Mn.Tg.nm 8]) (Mn.Wt.of) [Mn.E.var 4] none (Mn.E.var 7) [7, 8])]), Mn.S.ifs (Mn.E.cmp (Mn.CO.ne) (Mn.E.bi (Mn.Bi.repr) false (Mn.E.ix (Mn.E.ix (Mn.E.fn 20 [Mn.E.var 6]) (Mn.E.lit (Mn.D.int 0))) (Mn.E.lit (Mn.D.int 2)))) (Mn.E.bi (Mn.Bi.repr) false (Mn.E.tup [Mn.E.lit (Mn.D.str [103, 111]), Mn.E.tup [Mn.E.lit (Mn.D.str [110, 117, 109])], Mn.E.lit (Mn.D.non), Mn.E.tup [Mn.E.lit (Mn.D.str [110, 117, 109]), Mn.E.lit (Mn.D.str [116, 114, 117, 116, 104]), Mn.E.lit (Mn.D.str [110, 97, 109, 101])], Mn.E.bi (Mn.Bi.tuple) false (Mn.E.var 5)]))) [Mn.S.ret (Mn.E.lit (Mn.D.bl false))] []], Mn.S.ret (Mn.E.cmp (Mn.CO.eq) (Mn.E.ix (Mn.E.ix (Mn.E.ix (Mn.E.fn 20 [Mn.E.fn 26 [Mn.E.tup []]]) (Mn.E.lit (Mn.D.int 0))) (Mn.E.lit (Mn.D.int 2))) (Mn.E.lit (Mn.D.int 4))) (Mn.E.tup []))], false⟩
/-- Judge.__init__ -/
def f29 : Df := ⟨3, 3, [Mn.S.sfl [[74, 117, 100, 103, 101]] [102, 117, 110, 99, 116, 105, 111, 110, 115] (Mn.E.var 0) (Mn.E.slc (Mn.E.var 1) none (some (Mn.E.var 2))), Mn.S.sfl [[74, 117, 100, 103, 101]] [107, 105, 110, 100, 115] (Mn.E.var 0) (Mn.E.bin (Mn.BO.add) (Mn.E.ix (Mn.E.ix (Mn.E.var 1) (Mn.E.var 2)) (Mn.E.lit (Mn.D.int 1))) (Mn.E.ix (Mn.E.ix (Mn.E.var 1) (Mn.E.var 2)) (Mn.E.lit (Mn.D.int 3)))), Mn.S.sfl [[74, 117, 100, 103, 101]] [109, 97, 110, 121] (Mn.E.var 0) (Mn.E.cnt (Mn.E.ix (Mn.E.ix (Mn.E.var 1) (Mn.E.var 2)) (Mn.E.lit (Mn.D.int 1))) (Mn.E.lit (Mn.D.str [110, 117, 109])))], false⟩
/-- Judge.is_local -/
def f30 : Df := ⟨3, 3, [Mn.S.ret (Mn.E.band (Mn.E.fn 0 [Mn.E.var 1, Mn.E.lit (Mn.D.int 0), Mn.E.bin (Mn.BO.sub) (Mn.E.bi (Mn.Bi.len) false (Mn.E.fld [[74, 117, 100, 103, 101]] [107, 105, 110, 100, 115] (Mn.E.var 0))) (Mn.E.lit (Mn.D.int 1))]) (Mn.E.cmp (Mn.CO.eq) (Mn.E.ix (Mn.E.fld [[74, 117, 100, 103, 101]] [107, 105, 110, 100, 115] (Mn.E.var 0)) (Mn.E.var 1)) (Mn.E.var 2)))], false⟩
/-- Judge.is_part -/
def f31 : Df := ⟨3, 3, [Mn.S.ret (Mn.E.band (Mn.E.fn 1 [Mn.E.var 1, Mn.E.lit (Mn.D.int 3), Mn.E.lit (Mn.D.int 5)]) (Mn.E.band (Mn.E.isi (Mn.E.ix (Mn.E.var 1) (Mn.E.lit (Mn.D.int 0))) (Mn.Ty.str)) (Mn.E.band (Mn.E.mth [([74, 117, 100, 103, 101], 37)] [102, 105, 116, 115] (Mn.E.var 0) [Mn.E.var 1]) (Mn.E.cmp (Mn.CO.eq) (Mn.E.ix (Mn.E.var 1) (Mn.E.neg (Mn.E.lit (Mn.D.int 1)))) (Mn.E.var 2)))))], false⟩
/-- Judge.is_call -/
def f32 : Df := ⟨2, 8, [Mn.S.ifs (Mn.E.bor (Mn.E.bnot (Mn.E.fn 1 [Mn.E.var 1, Mn.E.lit (Mn.D.int 5), Mn.E.lit (Mn.D.int 5)])) (Mn.E.bor (Mn.E.cmp (Mn.CO.ne) (Mn.E.ix (Mn.E.var 1) (Mn.E.lit (Mn.D.int 0))) (Mn.E.lit (Mn.D.str [99, 97, 108, 108]))) (Mn.E.bnot (Mn.E.fn 0 [Mn.E.ix (Mn.E.var 1) (Mn.E.lit (Mn.D.int 1)), Mn.E.lit (Mn.D.int 0), Mn.E.bin (Mn.BO.sub) (Mn.E.bi (Mn.Bi.len) false (Mn.E.fld [[74, 117, 100, 103, 101]] [102, 117, 110, 99, 116, 105, 111, 110, 115] (Mn.E.var 0))) (Mn.E.lit (Mn.D.int 1))])))) [Mn.S.ret (Mn.E.lit (Mn.D.bl false))] [], Mn.S.asg (Mn.Tg.tp [Mn.Tg.nm 3, Mn.Tg.nm 4]) (Mn.E.tup [Mn.E.ix (Mn.E.ix (Mn.E.fld [[74, 117, 100, 103, 101]] [102, 117, 110, 99, 116, 105, 111, 110, 115] (Mn.E.var 0)) (Mn.E.ix (Mn.E.var 1) (Mn.E.lit (Mn.D.int 1)))) (Mn.E.lit (Mn.D.int 1)), Mn.E.ix (Mn.E.ix (Mn.E.fld [[74, 117, 100, 103, 101]] [102, 117, 110, 99, 116, 105, 111, 110, 115] (Mn.E.var 0)) (Mn.E.ix (Mn.E.var 1) (Mn.E.lit (Mn.D.int 1)))) (Mn.E.lit (Mn.D.int 2))]), Mn.S.asg (Mn.Tg.nm 2) (Mn.E.cnt (Mn.E.var 3) (Mn.E.lit (Mn.D.str [110, 117, 109]))), Mn.S.ifs (Mn.E.bor (Mn.E.bnot (Mn.E.fn 1 [Mn.E.ix (Mn.E.var 1) (Mn.E.lit (Mn.D.int 2)), Mn.E.bi (Mn.Bi.len) false (Mn.E.var 3), Mn.E.bi (Mn.Bi.len) false (Mn.E.var 3)])) (Mn.E.bnot (Mn.E.fn 1 [Mn.E.ix (Mn.E.var 1) (Mn.E.lit (Mn.D.int 3)), Mn.E.var 2, Mn.E.var 2]))) [Mn.S.ret (Mn.E.lit (Mn.D.bl false))] [], Mn.S.ifs (Mn.E.bor (Mn.E.bnot (Mn.E.bi (Mn.Bi.all) false (Mn.E.comp false (Mn.Tg.nm 7) (Mn.Wt.of) [Mn.E.ix (Mn.E.var 1) (Mn.E.lit (Mn.D.int 3))] none (Mn.E.fn 33 [Mn.E.var 7, Mn.E.fld [[74, 117, 100, 103, 101]] [109, 97, 110, 121] (Mn.E.var 0)]) [7]))) (Mn.E.cmp (Mn.CO.ne) (Mn.E.ix (Mn.E.var 1) (Mn.E.lit (Mn.D.int 4))) (Mn.E.var 4))) [Mn.S.ret (Mn.E.lit (Mn.D.bl false))] [], Mn.S.ret (Mn.E.bi (Mn.Bi.all) false (Mn.E.comp false (Mn.Tg.tp [Mn.Tg.nm 5, Mn.Tg.nm 6]) (Mn.Wt.zip) [Mn.E.ix (Mn.E.var 1) (Mn.E.lit (Mn.D.int 2)), Mn.E.var 3] none (Mn.E.mth [([74, 117, 100, 103, 101], 31)] [105, 115, 95, 112, 97, 114, 116] (Mn.E.var 0) [Mn.E.var 5, Mn.E.var 6]) [5, 6]))], false⟩
/-- fits_polynomial -/
def f33 : Df := ⟨2, 2, [Mn.S.ret (Mn.E.fn 34 [Mn.E.var 0, Mn.E.var 1, Mn.E.lit (Mn.D.int 20), Mn.E.lit (Mn.D.int 4), Mn.E.lit (Mn.D.int 1000000000)])], false⟩
/-- fits_wide -/
def f34 : Df := ⟨5, 7, [Mn.S.ifs (Mn.E.bor (Mn.E.bnot (Mn.E.fn 1 [Mn.E.var 0, Mn.E.lit (Mn.D.int 0), Mn.E.var 2])) (Mn.E.bnot (Mn.E.bi (Mn.Bi.all) false (Mn.E.comp false (Mn.Tg.nm 6) (Mn.Wt.of) [Mn.E.var 0] none (Mn.E.fn 35 [Mn.E.var 6, Mn.E.var 1, Mn.E.var 3, Mn.E.var 4]) [6])))) [Mn.S.ret (Mn.E.lit (Mn.D.bl false))] [], Mn.S.ret (Mn.E.fn 2 [Mn.E.comp false (Mn.Tg.nm 5) (Mn.Wt.of) [Mn.E.var 0] none (Mn.E.ix (Mn.E.var 5) (Mn.E.lit (Mn.D.int 0))) [5]])], false⟩
/-- fits_term -/
def f35 : Df := ⟨4, 5, [Mn.S.ifs (Mn.E.bor (Mn.E.bnot (Mn.E.fn 1 [Mn.E.var 0, Mn.E.lit (Mn.D.int 2), Mn.E.lit (Mn.D.int 2)])) (Mn.E.bnot (Mn.E.fn 1 [Mn.E.ix (Mn.E.var 0) (Mn.E.lit (Mn.D.int 0)), Mn.E.var 1, Mn.E.var 1]))) [Mn.S.ret (Mn.E.lit (Mn.D.bl false))] [], Mn.S.ret (Mn.E.band (Mn.E.bi (Mn.Bi.all) false (Mn.E.comp false (Mn.Tg.nm 4) (Mn.Wt.of) [Mn.E.ix (Mn.E.var 0) (Mn.E.lit (Mn.D.int 0))] none (Mn.E.fn 0 [Mn.E.var 4, Mn.E.lit (Mn.D.int 0), Mn.E.var 2]) [4])) (Mn.E.fn 0 [Mn.E.ix (Mn.E.var 0) (Mn.E.lit (Mn.D.int 1)), Mn.E.lit (Mn.D.int 1), Mn.E.var 3]))], false⟩
/-- Judge.fits_plain -/
def f36 : Df := ⟨2, 5, [Mn.S.asg (Mn.Tg.tp [Mn.Tg.nm 2, Mn.Tg.nm 3, Mn.Tg.nm 4]) (Mn.E.var 1), Mn.S.ifs (Mn.E.cmp (Mn.CO.eq) (Mn.E.var 2) (Mn.E.lit (Mn.D.str [110, 117, 109]))) [Mn.S.ret (Mn.E.band (Mn.E.fn 0 [Mn.E.var 3, Mn.E.lit (Mn.D.int 0), Mn.E.lit (Mn.D.int 9223372036854775807)]) (Mn.E.cmp (Mn.CO.eq) (Mn.E.var 4) (Mn.E.lit (Mn.D.str [110, 117, 109]))))] [], Mn.S.ifs (Mn.E.cmp (Mn.CO.eq) (Mn.E.var 2) (Mn.E.lit (Mn.D.str [116, 114, 117, 116, 104]))) [Mn.S.ret (Mn.E.band (Mn.E.isi (Mn.E.var 3) (Mn.Ty.bool)) (Mn.E.cmp (Mn.CO.eq) (Mn.E.var 4) (Mn.E.lit (Mn.D.str [116, 114, 117, 116, 104]))))] [], Mn.S.ifs (Mn.E.cmp (Mn.CO.eq) (Mn.E.var 2) (Mn.E.lit (Mn.D.str [110, 97, 109, 101, 100]))) [Mn.S.ret (Mn.E.band (Mn.E.bor (Mn.E.band (Mn.E.isi (Mn.E.var 3) (Mn.Ty.str)) (Mn.E.cmp (Mn.CO.eq) (Mn.E.var 3) (Mn.E.lit (Mn.D.str [])))) (Mn.E.fn 3 [Mn.E.var 3])) (Mn.E.cmp (Mn.CO.eq) (Mn.E.var 4) (Mn.E.lit (Mn.D.str [110, 97, 109, 101]))))] [], Mn.S.ifs (Mn.E.cmp (Mn.CO.eq) (Mn.E.var 2) (Mn.E.lit (Mn.D.str [119, 111, 114, 100]))) [Mn.S.ret (Mn.E.band (Mn.E.isi (Mn.E.var 3) (Mn.Ty.str)) (Mn.E.band (Mn.E.kin false [([111, 119, 110, 101, 100], Mn.D.str [110, 117, 109]), ([99, 97, 109, 101], Mn.D.str [110, 117, 109]), ([109, 101], Mn.D.str [110, 97, 109, 101]), ([99, 97, 108, 108, 101, 114], Mn.D.str [110, 97, 109, 101])] (Mn.E.var 3)) (Mn.E.cmp (Mn.CO.eq) (Mn.E.var 4) (Mn.E.kix [([111, 119, 110, 101, 100], Mn.D.str [110, 117, 109]), ([99, 97, 109, 101], Mn.D.str [110, 117, 109]), ([109, 101], Mn.D.str [110, 97, 109, 101]), ([99, 97, 108, 108, 101, 114], Mn.D.str [110, 97, 109, 101])] (Mn.E.var 3)))))] [], Mn.S.ifs (Mn.E.cmp (Mn.CO.eq) (Mn.E.var 2) (Mn.E.lit (Mn.D.str [108, 111, 99, 97, 108]))) [Mn.S.ret (Mn.E.band (Mn.E.fn 4 [Mn.E.var 4]) (Mn.E.mth [([74, 117, 100, 103, 101], 30)] [105, 115, 95, 108, 111, 99, 97, 108] (Mn.E.var 0) [Mn.E.var 3, Mn.E.var 4]))] [], Mn.S.ret (Mn.E.band (Mn.E.cmp (Mn.CO.eq) (Mn.E.var 2) (Mn.E.lit (Mn.D.str [110, 111, 116]))) (Mn.E.band (Mn.E.cmp (Mn.CO.eq) (Mn.E.var 4) (Mn.E.lit (Mn.D.str [116, 114, 117, 116, 104]))) (Mn.E.mth [([74, 117, 100, 103, 101], 31)] [105, 115, 95, 112, 97, 114, 116] (Mn.E.var 0) [Mn.E.var 3, Mn.E.lit (Mn.D.str [116, 114, 117, 116, 104])])))], false⟩
/-- Judge.fits -/
def f37 : Df := ⟨2, 4, [Mn.S.ifs (Mn.E.cmp (Mn.CO.eq) (Mn.E.bi (Mn.Bi.len) false (Mn.E.var 1)) (Mn.E.lit (Mn.D.int 3))) [Mn.S.ret (Mn.E.mth [([74, 117, 100, 103, 101], 36)] [102, 105, 116, 115, 95, 112, 108, 97, 105, 110] (Mn.E.var 0) [Mn.E.var 1])] [], Mn.S.ifs (Mn.E.cmp (Mn.CO.eq) (Mn.E.ix (Mn.E.var 1) (Mn.E.lit (Mn.D.int 0))) (Mn.E.lit (Mn.D.str [99, 97, 108, 108]))) [Mn.S.ret (Mn.E.band (Mn.E.mth [([74, 117, 100, 103, 101], 32)] [105, 115, 95, 99, 97, 108, 108] (Mn.E.var 0) [Mn.E.var 1]) (Mn.E.cmp (Mn.CO.isn) (Mn.E.ix (Mn.E.var 1) (Mn.E.lit (Mn.D.int 4))) (Mn.E.lit (Mn.D.non))))] [], Mn.S.ifs (Mn.E.cmp (Mn.CO.eq) (Mn.E.ix (Mn.E.var 1) (Mn.E.lit (Mn.D.int 0))) (Mn.E.lit (Mn.D.str [108, 111, 111, 107]))) [Mn.S.asg (Mn.Tg.nm 3) (Mn.E.band (Mn.E.cmp (Mn.CO.eq) (Mn.E.bi (Mn.Bi.len) false (Mn.E.var 1)) (Mn.E.lit (Mn.D.int 4))) (Mn.E.band (Mn.E.fn 0 [Mn.E.ix (Mn.E.var 1) (Mn.E.lit (Mn.D.int 1)), Mn.E.lit (Mn.D.int 0), Mn.E.bin (Mn.BO.sub) (Mn.E.lit (Mn.D.int 20)) (Mn.E.lit (Mn.D.int 1))]) (Mn.E.cmp (Mn.CO.eq) (Mn.E.ix (Mn.E.var 1) (Mn.E.lit (Mn.D.int 3))) (Mn.E.lit (Mn.D.str [110, 117, 109]))))), Mn.S.ret (Mn.E.band (Mn.E.var 3) (Mn.E.mth [([74, 117, 100, 103, 101], 31)] [105, 115, 95, 112, 97, 114, 116] (Mn.E.var 0) [Mn.E.ix (Mn.E.var 1) (Mn.E.lit (Mn.D.int 2)), Mn.E.lit (Mn.D.str [110, 117, 109])]))] [], Mn.S.ifs (Mn.E.bor (Mn.E.cmp (Mn.CO.ne) (Mn.E.ix (Mn.E.var 1) (Mn.E.lit (Mn.D.int 0))) (Mn.E.lit (Mn.D.str [98, 105, 110, 97, 114, 121]))) (Mn.E.bor (Mn.E.cmp (Mn.CO.ne) (Mn.E.bi (Mn.Bi.len) false (Mn.E.var 1)) (Mn.E.lit (Mn.D.int 5))) (Mn.E.bor (Mn.E.bnot (Mn.E.isi (Mn.E.ix (Mn.E.var 1) (Mn.E.lit (Mn.D.int 1))) (Mn.Ty.str))) (Mn.E.kin true [([43], Mn.D.str [110, 117, 109]), ([45], Mn.D.str [110, 117, 109]), ([42], Mn.D.str [110, 117, 109]), ([47], Mn.D.str [110, 117, 109]), ([114, 101, 115, 116], Mn.D.str [110, 117, 109]), ([60], Mn.D.str [116, 114, 117, 116, 104]), ([60, 61], Mn.D.str [116, 114, 117, 116, 104]), ([62], Mn.D.str [116, 114, 117, 116, 104]), ([62, 61], Mn.D.str [116, 114, 117, 116, 104]), ([61, 61], Mn.D.str [116, 114, 117, 116, 104]), ([33, 61], Mn.D.str [116, 114, 117, 116, 104]), ([105, 115], Mn.D.str [116, 114, 117, 116, 104]), ([97, 110, 100], Mn.D.str [116, 114, 117, 116, 104]), ([111, 114], Mn.D.str [116, 114, 117, 116, 104])] (Mn.E.ix (Mn.E.var 1) (Mn.E.lit (Mn.D.int 1))))))) [Mn.S.ret (Mn.E.lit (Mn.D.bl false))] [], Mn.S.asg (Mn.Tg.nm 2) (Mn.E.fn 38 [Mn.E.ix (Mn.E.var 1) (Mn.E.lit (Mn.D.int 1))]), Mn.S.ret (Mn.E.band (Mn.E.mth [([74, 117, 100, 103, 101], 31)] [105, 115, 95, 112, 97, 114, 116] (Mn.E.var 0) [Mn.E.ix (Mn.E.var 1) (Mn.E.lit (Mn.D.int 2)), Mn.E.var 2]) (Mn.E.band (Mn.E.mth [([74, 117, 100, 103, 101], 31)] [105, 115, 95, 112, 97, 114, 116] (Mn.E.var 0) [Mn.E.ix (Mn.E.var 1) (Mn.E.lit (Mn.D.int 3)), Mn.E.var 2]) (Mn.E.cmp (Mn.CO.eq) (Mn.E.ix (Mn.E.var 1) (Mn.E.lit (Mn.D.int 4))) (Mn.E.kix [([43], Mn.D.str [110, 117, 109]), ([45], Mn.D.str [110, 117, 109]), ([42], Mn.D.str [110, 117, 109]), ([47], Mn.D.str [110, 117, 109]), ([114, 101, 115, 116], Mn.D.str [110, 117, 109]), ([60], Mn.D.str [116, 114, 117, 116, 104]), ([60, 61], Mn.D.str [116, 114, 117, 116, 104]), ([62], Mn.D.str [116, 114, 117, 116, 104]), ([62, 61], Mn.D.str [116, 114, 117, 116, 104]), ([61, 61], Mn.D.str [116, 114, 117, 116, 104]), ([33, 61], Mn.D.str [116, 114, 117, 116, 104]), ([105, 115], Mn.D.str [116, 114, 117, 116, 104]), ([97, 110, 100], Mn.D.str [116, 114, 117, 116, 104]), ([111, 114], Mn.D.str [116, 114, 117, 116, 104])] (Mn.E.ix (Mn.E.var 1) (Mn.E.lit (Mn.D.int 1)))))))], false⟩
/-- taken_kind -/
def f38 : Df := ⟨1, 1, [Mn.S.ifs (Mn.E.cmp (Mn.CO.eq) (Mn.E.var 0) (Mn.E.lit (Mn.D.str [105, 115]))) [Mn.S.ret (Mn.E.lit (Mn.D.str [110, 97, 109, 101]))] [], Mn.S.ret (Mn.E.ife (Mn.E.cmp (Mn.CO.inn) (Mn.E.var 0) (Mn.E.tup [Mn.E.lit (Mn.D.str [97, 110, 100]), Mn.E.lit (Mn.D.str [111, 114])])) (Mn.E.lit (Mn.D.str [116, 114, 117, 116, 104])) (Mn.E.lit (Mn.D.str [110, 117, 109])))], false⟩
/-- Judge.fits_some -/
def f39 : Df := ⟨2, 2, [Mn.S.ret (Mn.E.band (Mn.E.fn 1 [Mn.E.var 1, Mn.E.lit (Mn.D.int 3), Mn.E.lit (Mn.D.int 5)]) (Mn.E.band (Mn.E.fn 4 [Mn.E.ix (Mn.E.var 1) (Mn.E.neg (Mn.E.lit (Mn.D.int 1)))]) (Mn.E.mth [([74, 117, 100, 103, 101], 31)] [105, 115, 95, 112, 97, 114, 116] (Mn.E.var 0) [Mn.E.var 1, Mn.E.ix (Mn.E.var 1) (Mn.E.neg (Mn.E.lit (Mn.D.int 1)))])))], false⟩
/-- Judge.fits_out -/
def f40 : Df := ⟨2, 12, [Mn.S.asg (Mn.Tg.tp [Mn.Tg.nm 2, Mn.Tg.nm 3, Mn.Tg.nm 4, Mn.Tg.nm 5, Mn.Tg.nm 6, Mn.Tg.nm 7, Mn.Tg.nm 8, Mn.Tg.nm 9, Mn.Tg.nm 10]) (Mn.E.var 1), Mn.S.ifs (Mn.E.bor (Mn.E.cmp (Mn.CO.ne) (Mn.E.var 2) (Mn.E.lit (Mn.D.str [111, 117, 116]))) (Mn.E.bor (Mn.E.bnot (Mn.E.bor (Mn.E.cmp (Mn.CO.is) (Mn.E.var 10) (Mn.E.lit (Mn.D.non))) (Mn.E.fn 4 [Mn.E.var 10]))) (Mn.E.bnot (Mn.E.mth [([74, 117, 100, 103, 101], 30)] [105, 115, 95, 108, 111, 99, 97, 108] (Mn.E.var 0) [Mn.E.var 4, Mn.E.lit (Mn.D.str [116, 114, 117, 116, 104])])))) [Mn.S.ret (Mn.E.lit (Mn.D.bl false))] [], Mn.S.ifs (Mn.E.bor (Mn.E.bnot (Mn.E.ife (Mn.E.cmp (Mn.CO.is) (Mn.E.var 10) (Mn.E.lit (Mn.D.non))) (Mn.E.cmp (Mn.CO.is) (Mn.E.var 3) (Mn.E.lit (Mn.D.non))) (Mn.E.mth [([74, 117, 100, 103, 101], 30)] [105, 115, 95, 108, 111, 99, 97, 108] (Mn.E.var 0) [Mn.E.var 3, Mn.E.var 10]))) (Mn.E.bor (Mn.E.cmp (Mn.CO.eq) (Mn.E.var 3) (Mn.E.var 4)) (Mn.E.bnot (Mn.E.fn 3 [Mn.E.var 6])))) [Mn.S.ret (Mn.E.lit (Mn.D.bl false))] [], Mn.S.ifs (Mn.E.bor (Mn.E.bnot (Mn.E.mth [([74, 117, 100, 103, 101], 31)] [105, 115, 95, 112, 97, 114, 116] (Mn.E.var 0) [Mn.E.var 5, Mn.E.lit (Mn.D.str [110, 97, 109, 101])])) (Mn.E.bor (Mn.E.bnot (Mn.E.mth [([74, 117, 100, 103, 101], 31)] [105, 115, 95, 112, 97, 114, 116] (Mn.E.var 0) [Mn.E.var 8, Mn.E.lit (Mn.D.str [110, 117, 109])])) (Mn.E.bnot (Mn.E.fn 1 [Mn.E.var 7, Mn.E.lit (Mn.D.int 0), Mn.E.lit (Mn.D.int 12)])))) [Mn.S.ret (Mn.E.lit (Mn.D.bl false))] [], Mn.S.ret (Mn.E.band (Mn.E.bi (Mn.Bi.all) false (Mn.E.comp false (Mn.Tg.nm 11) (Mn.Wt.of) [Mn.E.var 7] none (Mn.E.mth [([74, 117, 100, 103, 101], 39)] [102, 105, 116, 115, 95, 115, 111, 109, 101] (Mn.E.var 0) [Mn.E.var 11]) [11])) (Mn.E.fn 33 [Mn.E.var 9, Mn.E.fld [[74, 117, 100, 103, 101]] [109, 97, 110, 121] (Mn.E.var 0)]))], false⟩
/-- Judge.fits_branch -/
def f41 : Df := ⟨3, 7, [Mn.S.asg (Mn.Tg.tp [Mn.Tg.nm 3, Mn.Tg.nm 4, Mn.Tg.nm 5, Mn.Tg.nm 6]) (Mn.E.var 1), Mn.S.ifs (Mn.E.cmp (Mn.CO.eq) (Mn.E.var 3) (Mn.E.lit (Mn.D.str [112, 117, 116]))) [Mn.S.ret (Mn.E.band (Mn.E.fn 0 [Mn.E.var 4, Mn.E.lit (Mn.D.int 0), Mn.E.bin (Mn.BO.sub) (Mn.E.lit (Mn.D.int 20)) (Mn.E.lit (Mn.D.int 1))]) (Mn.E.band (Mn.E.mth [([74, 117, 100, 103, 101], 31)] [105, 115, 95, 112, 97, 114, 116] (Mn.E.var 0) [Mn.E.var 5, Mn.E.lit (Mn.D.str [110, 117, 109])]) (Mn.E.mth [([74, 117, 100, 103, 101], 31)] [105, 115, 95, 112, 97, 114, 116] (Mn.E.var 0) [Mn.E.var 6, Mn.E.lit (Mn.D.str [110, 117, 109])])))] [], Mn.S.ifs (Mn.E.cmp (Mn.CO.eq) (Mn.E.var 3) (Mn.E.lit (Mn.D.str [105, 102]))) [Mn.S.ret (Mn.E.band (Mn.E.mth [([74, 117, 100, 103, 101], 31)] [105, 115, 95, 112, 97, 114, 116] (Mn.E.var 0) [Mn.E.var 4, Mn.E.lit (Mn.D.str [116, 114, 117, 116, 104])]) (Mn.E.band (Mn.E.mth [([74, 117, 100, 103, 101], 44)] [105, 115, 95, 98, 108, 111, 99, 107] (Mn.E.var 0) [Mn.E.var 5, Mn.E.bin (Mn.BO.add) (Mn.E.var 2) (Mn.E.lit (Mn.D.int 1))]) (Mn.E.mth [([74, 117, 100, 103, 101], 44)] [105, 115, 95, 98, 108, 111, 99, 107] (Mn.E.var 0) [Mn.E.var 6, Mn.E.bin (Mn.BO.add) (Mn.E.var 2) (Mn.E.lit (Mn.D.int 1))])))] [], Mn.S.ifs (Mn.E.bor (Mn.E.cmp (Mn.CO.ne) (Mn.E.var 3) (Mn.E.lit (Mn.D.str [114, 101, 112, 101, 97, 116]))) (Mn.E.bnot (Mn.E.fn 33 [Mn.E.var 5, Mn.E.fld [[74, 117, 100, 103, 101]] [109, 97, 110, 121] (Mn.E.var 0)]))) [Mn.S.ret (Mn.E.lit (Mn.D.bl false))] [], Mn.S.ret (Mn.E.band (Mn.E.mth [([74, 117, 100, 103, 101], 31)] [105, 115, 95, 112, 97, 114, 116] (Mn.E.var 0) [Mn.E.var 4, Mn.E.lit (Mn.D.str [110, 117, 109])]) (Mn.E.mth [([74, 117, 100, 103, 101], 44)] [105, 115, 95, 98, 108, 111, 99, 107] (Mn.E.var 0) [Mn.E.var 6, Mn.E.bin (Mn.BO.add) (Mn.E.var 2) (Mn.E.lit (Mn.D.int 1))]))], false⟩
/-- Judge.fits_short -/
def f42 : Df := ⟨2, 4, [Mn.S.asg (Mn.Tg.tp [Mn.Tg.nm 2, Mn.Tg.nm 3]) (Mn.E.tup [Mn.E.ix (Mn.E.var 1) (Mn.E.lit (Mn.D.int 0)), Mn.E.ix (Mn.E.var 1) (Mn.E.lit (Mn.D.int 1))]), Mn.S.ifs (Mn.E.cmp (Mn.CO.eq) (Mn.E.bi (Mn.Bi.len) false (Mn.E.var 1)) (Mn.E.lit (Mn.D.int 2))) [Mn.S.ifs (Mn.E.cmp (Mn.CO.eq) (Mn.E.var 2) (Mn.E.lit (Mn.D.str [102, 97, 105, 108]))) [Mn.S.ret (Mn.E.band (Mn.E.fn 3 [Mn.E.var 3]) (Mn.E.cmp (Mn.CO.nin) (Mn.E.var 3) (Mn.E.lit (Mn.D.tup false [Mn.D.str [99, 111, 117, 110, 116], Mn.D.str [100, 101, 101, 112], Mn.D.str [100, 105, 118, 105, 100, 101], Mn.D.str [102, 117, 108, 108], Mn.D.str [103, 97, 115], Mn.D.str [110, 111, 98, 111, 100, 121], Mn.D.str [110, 111, 110, 101], Mn.D.str [111, 118, 101, 114], Mn.D.str [112, 111, 111, 114], Mn.D.str [115, 105, 122, 101], Mn.D.str [115, 116, 117, 99, 107], Mn.D.str [117, 110, 100, 101, 114]]))))] [], Mn.S.ret (Mn.E.ife (Mn.E.cmp (Mn.CO.eq) (Mn.E.var 2) (Mn.E.lit (Mn.D.str [116, 101, 108, 108]))) (Mn.E.mth [([74, 117, 100, 103, 101], 31)] [105, 115, 95, 112, 97, 114, 116] (Mn.E.var 0) [Mn.E.var 3, Mn.E.lit (Mn.D.str [110, 117, 109])]) (Mn.E.band (Mn.E.cmp (Mn.CO.eq) (Mn.E.var 2) (Mn.E.lit (Mn.D.str [100, 111]))) (Mn.E.mth [([74, 117, 100, 103, 101], 32)] [105, 115, 95, 99, 97, 108, 108] (Mn.E.var 0) [Mn.E.var 3])))] [], Mn.S.ifs (Mn.E.cmp (Mn.CO.eq) (Mn.E.var 2) (Mn.E.lit (Mn.D.str [115, 101, 116]))) [Mn.S.ret (Mn.E.band (Mn.E.fn 0 [Mn.E.var 3, Mn.E.lit (Mn.D.int 0), Mn.E.bin (Mn.BO.sub) (Mn.E.bi (Mn.Bi.len) false (Mn.E.fld [[74, 117, 100, 103, 101]] [107, 105, 110, 100, 115] (Mn.E.var 0))) (Mn.E.lit (Mn.D.int 1))]) (Mn.E.mth [([74, 117, 100, 103, 101], 31)] [105, 115, 95, 112, 97, 114, 116] (Mn.E.var 0) [Mn.E.ix (Mn.E.var 1) (Mn.E.lit (Mn.D.int 2)), Mn.E.ix (Mn.E.fld [[74, 117, 100, 103, 101]] [107, 105, 110, 100, 115] (Mn.E.var 0)) (Mn.E.var 3)]))] [], Mn.S.ifs (Mn.E.cmp (Mn.CO.eq) (Mn.E.var 2) (Mn.E.lit (Mn.D.str [99, 104, 101, 99, 107]))) [Mn.S.ret (Mn.E.band (Mn.E.mth [([74, 117, 100, 103, 101], 31)] [105, 115, 95, 112, 97, 114, 116] (Mn.E.var 0) [Mn.E.var 3, Mn.E.lit (Mn.D.str [116, 114, 117, 116, 104])]) (Mn.E.band (Mn.E.fn 3 [Mn.E.ix (Mn.E.var 1) (Mn.E.lit (Mn.D.int 2))]) (Mn.E.cmp (Mn.CO.nin) (Mn.E.ix (Mn.E.var 1) (Mn.E.lit (Mn.D.int 2))) (Mn.E.lit (Mn.D.tup false [Mn.D.str [99, 111, 117, 110, 116], Mn.D.str [100, 101, 101, 112], Mn.D.str [100, 105, 118, 105, 100, 101], Mn.D.str [102, 117, 108, 108], Mn.D.str [103, 97, 115], Mn.D.str [110, 111, 98, 111, 100, 121], Mn.D.str [110, 111, 110, 101], Mn.D.str [111, 118, 101, 114], Mn.D.str [112, 111, 111, 114], Mn.D.str [115, 105, 122, 101], Mn.D.str [115, 116, 117, 99, 107], Mn.D.str [117, 110, 100, 101, 114]])))))] [], Mn.S.ret (Mn.E.band (Mn.E.cmp (Mn.CO.eq) (Mn.E.var 2) (Mn.E.lit (Mn.D.str [112, 97, 121]))) (Mn.E.band (Mn.E.mth [([74, 117, 100, 103, 101], 31)] [105, 115, 95, 112, 97, 114, 116] (Mn.E.var 0) [Mn.E.var 3, Mn.E.lit (Mn.D.str [110, 117, 109])]) (Mn.E.mth [([74, 117, 100, 103, 101], 31)] [105, 115, 95, 112, 97, 114, 116] (Mn.E.var 0) [Mn.E.ix (Mn.E.var 1) (Mn.E.lit (Mn.D.int 2)), Mn.E.lit (Mn.D.str [110, 97, 109, 101])])))], false⟩
/-- Judge.is_statement -/
def f43 : Df := ⟨3, 3, [Mn.S.ifs (Mn.E.bor (Mn.E.bnot (Mn.E.fn 1 [Mn.E.var 1, Mn.E.lit (Mn.D.int 2), Mn.E.lit (Mn.D.int 9)])) (Mn.E.bnot (Mn.E.isi (Mn.E.ix (Mn.E.var 1) (Mn.E.lit (Mn.D.int 0))) (Mn.Ty.str)))) [Mn.S.ret (Mn.E.lit (Mn.D.bl false))] [], Mn.S.ifs (Mn.E.cmp (Mn.CO.lt) (Mn.E.bi (Mn.Bi.len) false (Mn.E.var 1)) (Mn.E.lit (Mn.D.int 4))) [Mn.S.ret (Mn.E.mth [([74, 117, 100, 103, 101], 42)] [102, 105, 116, 115, 95, 115, 104, 111, 114, 116] (Mn.E.var 0) [Mn.E.var 1])] [], Mn.S.ifs (Mn.E.cmp (Mn.CO.eq) (Mn.E.bi (Mn.Bi.len) false (Mn.E.var 1)) (Mn.E.lit (Mn.D.int 4))) [Mn.S.ret (Mn.E.mth [([74, 117, 100, 103, 101], 41)] [102, 105, 116, 115, 95, 98, 114, 97, 110, 99, 104] (Mn.E.var 0) [Mn.E.var 1, Mn.E.var 2])] [], Mn.S.ret (Mn.E.band (Mn.E.cmp (Mn.CO.eq) (Mn.E.bi (Mn.Bi.len) false (Mn.E.var 1)) (Mn.E.lit (Mn.D.int 9))) (Mn.E.mth [([74, 117, 100, 103, 101], 40)] [102, 105, 116, 115, 95, 111, 117, 116] (Mn.E.var 0) [Mn.E.var 1]))], false⟩
/-- Judge.is_block -/
def f44 : Df := ⟨3, 4, [Mn.S.ifs (Mn.E.bor (Mn.E.bnot (Mn.E.isi (Mn.E.var 1) (Mn.Ty.tuple))) (Mn.E.cmp (Mn.CO.gt) (Mn.E.var 2) (Mn.E.lit (Mn.D.int 12)))) [Mn.S.ret (Mn.E.lit (Mn.D.bl false))] [], Mn.S.ret (Mn.E.bi (Mn.Bi.all) false (Mn.E.comp false (Mn.Tg.nm 3) (Mn.Wt.of) [Mn.E.var 1] none (Mn.E.mth [([74, 117, 100, 103, 101], 43)] [105, 115, 95, 115, 116, 97, 116, 101, 109, 101, 110, 116] (Mn.E.var 0) [Mn.E.var 3, Mn.E.var 2]) [3]))], false⟩
def ds : List Df := [f0, f1, f2, f3, f4, f5, f6, f7, f8, f9, f10, f11, f12, f13, f14, f15, f16, f17, f18, f19, f20, f21, f22, f23, f24, f25, f26, f27, f28, f29, f30, f31, f32, f33, f34, f35, f36, f37, f38, f39, f40, f41, f42, f43, f44]
theorem hc : compAll gl bl cel fn dn = some ds := by kernel_rfl
end Law

namespace Law
open PySem PySem.Spec PyProof.Rows L2 Mn
def w2 (w : World) (b : Bool) : World := ⟨w.draws, { w.params with followText := fun s => bif s == "special-get-raises" then b else w.params.followText s }⟩
theorem w2_eq (w : World) : w2 w (w.params.followText "special-get-raises") = w := by
  have e : (fun s => bif s == "special-get-raises" then w.params.followText "special-get-raises" else w.params.followText s) = w.params.followText := by
    funext s
    cases q : s == "special-get-raises" with
    | true =>
      rw [eq_of_beq q]
      rfl
    | false => rfl
  unfold w2
  rw [e]
theorem run1 (w : World) : HandSHeadRun.RunEq rowO (PySem.W.view rowO.prog [68]) hk ob 4000 loose (w2 w true) := by
  intro os
  kernel_rfl
theorem run0 (w : World) : HandSHeadRun.RunEq rowO (PySem.W.view rowO.prog [68]) hk ob 4000 loose (w2 w false) := by
  intro os
  kernel_rfl
theorem run (w : World) : HandSHeadRun.RunEq rowO (PySem.W.view rowO.prog [68]) hk ob 4000 loose w := by
  have h : ∀ b, HandSHeadRun.RunEq rowO (PySem.W.view rowO.prog [68]) hk ob 4000 loose (w2 w b) := fun b => by
    cases b
    · exact run0 w
    · exact run1 w
  have h2 := h (w.params.followText "special-get-raises")
  rw [w2_eq] at h2
  exact h2
end Law
namespace Law
open PySem PySem.W PySem.Calls PyProof.Rows Mn
theorem holds (ds : List Df) (hc : compAll gl bl cel fn dn = some ds) (go : ∀ ns : List Int, ns.length ≤ 63 → ∃ S', Mn.run (subT T) ds 60 28 [.scr ns] ⟨0, []⟩ = .ok (.bl true) S') : PySem.Challenge.rw_gasahead_k28_whole_orders_of_statements.Holds := by
  w_on; o_law
  refine HandSHeadRun.head_any (r := OpenLaw.row PySem.Challenge.rw_gasahead_k28_whole_orders_of_statements) (q := view (OpenLaw.row PySem.Challenge.rw_gasahead_k28_whole_orders_of_statements).prog [68]) (H := hk) (ob := ob) (M := 4000) (loose := loose) (d := HandSHeadRun.topDef (OpenLaw.row PySem.Challenge.rw_gasahead_k28_whole_orders_of_statements).prog 68) (kwd := []) ob_eq
    (by kernel_rfl) (fun s => by kernel_rfl) run (by kernel_rfl) (by kernel_rfl) (by kernel_rfl) (by rfl) (by first | assumption | decide +kernel) (by decide +kernel) ⟨rfl, rfl, rfl, rfl, rfl, by decide +kernel⟩ ?hw ?hc
  case hw => w_witness2
  case hc =>
    exact walkL (l := PySem.Challenge.rw_gasahead_k28_whole_orders_of_statements) (n := 63) (k := 60) (j := 28) (fn := fn) (dn := dn) (cel := cel) rfl (by decide) (by kernel_rfl) ⟨rfl, by decide, by decide⟩ (by decide) (by decide) hc rfl (by kernel_rfl) bs go
end Law

/-! The cup of a law. -/
namespace Mn
def dfCup : Df := { np := 1, ns := 2, body := [S.asg (.nm 1) (.bi .abs false (.ix (.bin .add (.bi .list false (.var 0)) (.lst false [.lit (.int 0)])) (.lit (.int 0)))),
  .ret (.lst true [.ife (.cmp .ge (.var 1) (.bin .pow (.lit (.int 10)) (.lit (.int 18)))) (.bin .fdiv (.var 1) (.lit (.int 71))) (.lit (.int 0)),
    .bin .add (.bin .mod (.bi .int false (.bin .add (.bin .mul (.var 1) (.lit (.int 281))) (.lit (.int 2707)))) (.lit (.int 2077503151))) (.lit (.int 167))])], fr := false }
def dfRoll : Df := { np := 2, ns := 4, body := [.ifs (.cmp .gt (.ix (.var 0) (.lit (.int 0))) (.lit (.int 0)))
    [.asg (.nm 3) (.bin .mod (.bi .int false (.ix (.var 0) (.lit (.int 0)))) (.var 1)),
     .six (.var 0) (.lit (.int 0)) (.bin .fdiv (.ix (.var 0) (.lit (.int 0))) (.var 1)),
     .ret (.var 3)] [],
   .six (.var 0) (.lit (.int 1)) (.bin .mod (.bi .int false (.bin .add (.bin .mul (.ix (.var 0) (.lit (.int 1))) (.lit (.int 31051))) (.lit (.int 8009)))) (.lit (.int 2147483529))),
   .asg (.nm 2) (.bin .mod (.bi .int false (.bin .mul (.ix (.var 0) (.lit (.int 1))) (.bin .add (.ix (.var 0) (.lit (.int 1))) (.lit (.int 233))))) (.lit (.int 2147483587))),
   .ret (.bin .mod (.bi .int false (.bin .fdiv (.var 2) (.lit (.int 823)))) (.var 1))], fr := false }
/-- the cup's cell -/
def Cup (n : Nat) (S : Sto) : Prop := ∃ a b : Int, S.get n = some (.lst [.int a, .int b]) ∧ 0 ≤ a ∧ 0 ≤ b ∧ b < 2147483648
/-- nothing but the cell n is another -/
structure Upc (n : Nat) (S S' : Sto) : Prop where
  next : S'.next = S.next
  get : ∀ m, m ≠ n → S'.get m = S.get m
theorem Upc.refl (n : Nat) (S : Sto) : Upc n S S := ⟨rfl, fun _ _ => rfl⟩
theorem Upc.trans {n : Nat} {S S1 S2 : Sto} (a : Upc n S S1) (b : Upc n S1 S2) : Upc n S S2 := ⟨b.next.trans a.next, fun m h => (b.get m h).trans (a.get m h)⟩
theorem look_put {n m : Nat} {c : C} : ∀ cs : List (Nat × C), look m (putC n c cs) = if m = n then (look n cs).map fun _ => c else look m cs
  | [] => by simp [look, putC]
  | (k, d) :: r => by
    unfold putC look
    by_cases h : k = n
    · subst h
      by_cases hm : k = m
      · subst hm
        simp [look]
      · simp [look, hm, Ne.symm hm]
    · by_cases hm : k = m
      · subst hm
        simp [look, h]
      · simp [look, h, hm, look_put r]
theorem get_put {n m : Nat} {c : C} {S : Sto} : (S.put n c).get m = if m = n then (S.get n).map fun _ => c else S.get m := look_put S.cs
theorem upc_put {n : Nat} {c : C} {S : Sto} : Upc n S (S.put n c) := ⟨rfl, fun m h => by rw [get_put, if_neg h]⟩
theorem lz_cell {n : Nat} {S : Sto} {xs : List D} (h : S.get n = some (.lst xs)) : lz S (.ref n) = .lst xs := by
  show (match S.get n with
    | some (.lst xs) => D.lst xs
    | _ => D.ref n) = _
  rw [h]
theorem nth0 {α : Type} {x : α} {xs : List α} : nth (x :: xs) 0 = some x := rfl
theorem nth1 {α : Type} {x y : α} {xs : List α} : nth (x :: y :: xs) 1 = some y := rfl
theorem R.bind_ok {α β : Type} {a : α} {S : Sto} {f : α → Sto → R β} : (R.ok a S).bind f = f a S := rfl
theorem R.to_ok {α : Type} {a : α} {S : Sto} {env : Env} {f : α → Sto → RS} : (R.ok a S).to env f = f a S := rfl
theorem R.of_some {α : Type} {a : α} {S : Sto} : R.of S (some a) = .ok a S := rfl
section
variable {sub : Nat → Nat → Bool} {cl : Calls}
theorem roll_put {n : Nat} {S : Sto} (h : Cup n S) {many : Int} (h1 : 0 < many) (h2 : many < 1073741824) : ∃ r a' b', dfRoll.run sub cl [.ref n, .int many] S = .ok (.int r) (S.put n (.lst [.int a', .int b'])) ∧ 0 ≤ r ∧ r < many ∧ 0 ≤ a' ∧ 0 ≤ b' ∧ b' < 2147483648 := by
  obtain ⟨a, b, hg, ha, hb, hb2⟩ := h
  by_cases hp : 0 < a
  · refine ⟨a % many, a / many, b, ?_, Int.emod_nonneg _ (by omega), Int.emod_lt_of_pos _ h1, Int.ediv_nonneg ha (by omega), hb, hb2⟩
    simp [Df.run, dfRoll, exSs, exS, evE, R.bind, R.to, R.of, RS.bind, ixf, lz_cell hg, lz, nth, cop, biF, bop, frI_eq, frL_eq, frN_eq, hp, h1, h2, bindT, sixf, hg]
  · have ha0 : a = 0 := by omega
    subst ha0
    have hb3 : 0 ≤ (b * 31051 + 8009) % 2147483529 := Int.emod_nonneg _ (by omega)
    have hb4 : (b * 31051 + 8009) % 2147483529 < 2147483529 := Int.emod_lt_of_pos _ (by omega)
    have hs : sml ((b * 31051 + 8009) % 2147483529) = true := by
      unfold sml
      rw [decide_eq_true_eq]
      omega
    have hs2 : sml b = true := by
      unfold sml
      rw [decide_eq_true_eq]
      omega
    have hg2 : (S.put n (.lst [.int 0, .int ((b * 31051 + 8009) % 2147483529)])).get n = some (.lst [.int 0, .int ((b * 31051 + 8009) % 2147483529)]) := by
      rw [get_put, if_pos rfl, hg]
      rfl
    refine ⟨((b * 31051 + 8009) % 2147483529 * ((b * 31051 + 8009) % 2147483529 + 233) % 2147483587 / 823) % many, 0, (b * 31051 + 8009) % 2147483529, ?_, Int.emod_nonneg _ (by omega), Int.emod_lt_of_pos _ h1, by omega, hb3, by omega⟩
    have e1 : (0 : Int) < 2147483529 := by decide
    generalize hc : (b * 31051 + 8009) % 2147483529 = c at hs hg2
    simp [Df.run, dfRoll, exSs, exS, evE, R.bind, R.to, R.of, RS.bind, ixf, lz_cell hg, lz_cell hg2, lz, nth, cop, biF, bop, frI_eq, frL_eq, frN_eq, h1, h2, bindT, sixf, hg, hg2, hs, hs2, hc]

theorem roll_ok {n : Nat} {S : Sto} (h : Cup n S) {many : Int} (h1 : 0 < many) (h2 : many < 1073741824) : ∃ r S', dfRoll.run sub cl [.ref n, .int many] S = .ok (.int r) S' ∧ 0 ≤ r ∧ r < many ∧ Cup n S' ∧ Upc n S S' := by
  obtain ⟨r, a, b, e, r0, r1, a0, b0, b1⟩ := roll_put (sub := sub) (cl := cl) h h1 h2
  obtain ⟨_, _, hg, _⟩ := h
  exact ⟨r, _, e, r0, r1, ⟨a, b, by rw [get_put, if_pos rfl, hg]; rfl, a0, b0, b1⟩, upc_put⟩
/-- a store that holds the cup alone -/
def S0 (a b : Int) : Sto := ⟨1, [(0, .lst [.int a, .int b])]⟩
theorem cup0 {a b : Int} (ha : 0 ≤ a) (hb : 0 ≤ b) (hb2 : b < 2147483648) : Cup 0 (S0 a b) := ⟨a, b, rfl, ha, hb, hb2⟩
theorem roll0 {a b : Int} (ha : 0 ≤ a) (hb : 0 ≤ b) (hb2 : b < 2147483648) {many : Int} (h1 : 0 < many) (h2 : many < 1073741824) : ∃ r a' b', dfRoll.run sub cl [.ref 0, .int many] (S0 a b) = .ok (.int r) (S0 a' b') ∧ 0 ≤ r ∧ r < many ∧ 0 ≤ a' ∧ 0 ≤ b' ∧ b' < 2147483648 :=
  roll_put (cup0 ha hb hb2) h1 h2
theorem get_new {S : Sto} {c : C} {m : Nat} : (S.new c).get m = if S.next = m then some c else S.get m := rfl
theorem cup_new {ns : List Int} (hn : ns.length ≤ 63) (S : Sto) : ∃ a b : Int, dfCup.run sub cl [.scr ns] S = .ok (.ref S.next) (S.new (.lst [.int a, .int b])) ∧ 0 ≤ a ∧ 0 ≤ b ∧ b < 2147483648 := by
  obtain ⟨c, hc, hc0⟩ : ∃ c : Int, (nth (ns.map D.int ++ [D.int 0]) 0 = some (.int c) ∨ nth (ns.map D.int ++ [D.int 0]) 0 = some (.int (-c))) ∧ 0 ≤ c := by
    have : ∀ x : Int, ∃ c : Int, (some (D.int x) = some (D.int c) ∨ some (D.int x) = some (.int (-c))) ∧ 0 ≤ c := fun x => by
      by_cases hx : 0 ≤ x
      · exact ⟨x, .inl rfl, hx⟩
      · exact ⟨-x, .inr (by rw [Int.neg_neg]), by omega⟩
    cases ns with
    | nil => exact this 0
    | cons x xs => exact this x
  have hl : (ns.map D.int ++ [D.int 0]).length ≤ line := by
    rw [List.length_append, List.length_map]
    show ns.length + 1 ≤ 16777216
    omega
  have hl1 : ns.length ≤ line := by
    show ns.length ≤ 16777216
    omega
  have hl2 : ns.length + 1 ≤ line := by
    show ns.length + 1 ≤ 16777216
    omega
  have ha : (if (if (10 : Int) ^ 18 ≤ c then c / 71 else 0) < 0 then false else true) = true := by
    have : ¬ ((if (10 : Int) ^ 18 ≤ c then c / 71 else 0) < 0) := by
      split
      · have := Int.ediv_nonneg hc0 (show (0 : Int) ≤ 71 by decide)
        omega
      · omega
    rw [if_neg this]
  have hs : sml 281 = true := by decide
  have fin : ∀ x : Int, (if x < 0 then -x else x) = c → nth (ns.map D.int ++ [D.int 0]) 0 = some (.int x) →
      dfCup.run sub cl [.scr ns] S = .ok (.ref S.next) (S.new (.lst [.int (if (10 : Int) ^ 18 ≤ c then c / 71 else 0), .int ((c * 281 + 2707) % 2077503151 + 167)])) := fun x hx hn => by
    by_cases h18 : (10 : Int) ^ 18 ≤ c
    · have h18' : (1000000000000000000 : Int) ≤ c := h18
      simp [Df.run, dfCup, exSs, exS, evE, evEs, R.bind, R.to, R.of, RS.bind, ixf, lz, cop, biF, bop, frI_eq, frL_eq, frN_eq, bindT, newL, hl1, hl2, hn, hx, hs, h18', show 1 ≤ line from by decide, show sml 10 = true from by decide, show 2 ≤ line from by decide]
    · have h18' : ¬ (1000000000000000000 : Int) ≤ c := h18
      simp [Df.run, dfCup, exSs, exS, evE, evEs, R.bind, R.to, R.of, RS.bind, ixf, lz, cop, biF, bop, frI_eq, frL_eq, frN_eq, bindT, newL, hl1, hl2, hn, hx, hs, h18', show 1 ≤ line from by decide, show sml 10 = true from by decide, show 2 ≤ line from by decide]
  refine ⟨if (10 : Int) ^ 18 ≤ c then c / 71 else 0, (c * 281 + 2707) % 2077503151 + 167, ?_, ?_, by omega, by omega⟩
  rotate_left
  · split
    · exact Int.ediv_nonneg hc0 (by decide)
    · omega
  rcases hc with hc | hc
  · exact fin c (if_neg (by omega)) hc
  · refine fin (-c) ?_ hc
    by_cases h0 : c = 0
    · subst h0
      rfl
    · rw [if_pos (by omega), Int.neg_neg]
theorem cup_ok {ns : List Int} (hn : ns.length ≤ 63) (S : Sto) : ∃ S', dfCup.run sub cl [.scr ns] S = .ok (.ref S.next) S' ∧ Cup S.next S' ∧ S'.next = S.next + 1 ∧ ∀ m, m ≠ S.next → S'.get m = S.get m := by
  obtain ⟨a, b, e, a0, b0, b1⟩ := cup_new (sub := sub) (cl := cl) hn S
  exact ⟨_, e, ⟨a, b, by rw [get_new, if_pos rfl], a0, b0, b1⟩, rfl, fun m hm => by rw [get_new, if_neg (Ne.symm hm)]⟩
theorem cupS0 {ns : List Int} (hn : ns.length ≤ 63) : ∃ a b : Int, dfCup.run sub cl [.scr ns] ⟨0, []⟩ = .ok (.ref 0) (S0 a b) ∧ 0 ≤ a ∧ 0 ≤ b ∧ b < 2147483648 := cup_new hn ⟨0, []⟩
end
end Mn

/-! Facts of the machine, for laws. -/
namespace Mn
/-- a comprehension that reckons without a change -/
theorem compL_pure {f : D → Sto → R (Option D)} {g : D → D} {S : Sto} : ∀ (xs acc : List D), (∀ x ∈ xs, f x S = .ok (some (g x)) S) → acc.length + xs.length ≤ line → compL f xs acc S = .ok (acc ++ xs.map g) S
  | [], acc, _, _ => by simp [compL]
  | x :: xs, acc, h, hl => by
    have h1 := h x List.mem_cons_self
    have hl' : acc.length < line := by simp at hl; omega
    unfold compL
    rw [h1]
    show (if acc.length < line then compL f xs (acc ++ [g x]) S else .bad) = _
    rw [if_pos hl', compL_pure xs (acc ++ [g x]) (fun y hy => h y (List.mem_cons_of_mem _ hy)) (by simp at hl ⊢; omega)]
    simp
/-- .. that draws -/
theorem compL_draw {f : D → Sto → R (Option D)} {n : Nat} {P : Int → Prop} (h : ∀ x S, Cup n S → ∃ (r : Int) (S' : Sto), f x S = .ok (some (.int r)) S' ∧ P r ∧ Cup n S' ∧ Upc n S S') :
    ∀ (xs acc : List D) (S : Sto), Cup n S → acc.length + xs.length ≤ line → ∃ (rs : List Int) (S' : Sto), compL f xs acc S = .ok (acc ++ rs.map D.int) S' ∧ rs.length = xs.length ∧ (∀ r ∈ rs, P r) ∧ Cup n S' ∧ Upc n S S'
  | [], acc, S, c, _ => ⟨[], S, by simp [compL], rfl, (fun _ h => by cases h), c, Upc.refl n S⟩
  | x :: xs, acc, S, c, hl => by
    obtain ⟨r, S1, h1, hP, c1, u1⟩ := h x S c
    have hl' : acc.length < line := by simp at hl; omega
    obtain ⟨rs, S2, h2, hl2, hP2, c2, u2⟩ := compL_draw h xs (acc ++ [.int r]) S1 c1 (by simp at hl ⊢; omega)
    refine ⟨r :: rs, S2, ?_, by simp [hl2], fun y hy => ?_, c2, u1.trans u2⟩
    · unfold compL
      rw [h1]
      show (if acc.length < line then compL f xs (acc ++ [.int r]) S1 else .bad) = _
      rw [if_pos hl', h2]
      simp
    · rcases List.mem_cons.mp hy with e | e
      · rw [e]
        exact hP
      · exact hP2 y e
theorem upto_length : ∀ (n : Nat) (lo : Int), (upto lo n).length = n
  | 0, _ => rfl
  | n + 1, lo => by
    show (D.int lo :: frI (lo + 1) fun m => upto m n).length = n + 1
    rw [frI_eq, List.length_cons, upto_length n]
theorem ints_map : ∀ zs : List Int, intsO (zs.map D.int) = some zs
  | [] => rfl
  | z :: zs => by
    show (intsO (zs.map D.int)).map (z :: ·) = _
    rw [ints_map zs]
    rfl
theorem bools_map : ∀ bs : List Bool, boolsO (bs.map D.bl) = some bs
  | [] => rfl
  | z :: zs => by
    show (boolsO (zs.map D.bl)).map (z :: ·) = _
    rw [bools_map zs]
    rfl
theorem okDs_int : ∀ zs : List Int, okDs (zs.map D.int) = true
  | [] => rfl
  | z :: zs => by
    show (okD (.int z) && okDs (zs.map D.int)) = true
    rw [okDs_int zs]
    rfl
theorem dpts_int : ∀ zs : List Int, dpts (zs.map D.int) = 0
  | [] => rfl
  | z :: zs => by
    show max (dpt (.int z)) (dpts (zs.map D.int)) = 0
    rw [dpts_int zs]
    rfl
theorem peqs_int : ∀ zs : List Int, peqs (zs.map D.int) (zs.map D.int) = true
  | [] => rfl
  | z :: zs => by
    show (peq (.int z) (.int z) && peqs (zs.map D.int) (zs.map D.int)) = true
    rw [peqs_int zs]
    simp [peq]
theorem log2_lt {i : Int} {n : Nat} (h : 0 ≤ i) (h2 : i < 2 ^ n) : i.natAbs.log2 < n ∨ i = 0 := by
  by_cases h0 : i = 0
  · exact .inr h0
  · left
    have h3 : i.natAbs ≠ 0 := by omega
    have h4 : i.natAbs < 2 ^ n := by
      have : (i.natAbs : Int) < 2 ^ n := by
        rw [Int.natAbs_of_nonneg h]
        exact h2
      exact_mod_cast this
    exact (Nat.log2_lt h3).mpr h4

theorem R.assoc {α β γ : Type} (r : R α) (f : α → Sto → R β) (g : β → Sto → R γ) : (r.bind f).bind g = r.bind fun a S => (f a S).bind g := by cases r <;> rfl
section
variable {cl : Calls} {k : Bool} {t : Tg} {w : Wt} {its : List E} {cond : Option E} {e : E} {own : List Nat} {env : Env} {S : Sto}
theorem ev_comp (xs : List D) (S1 : Sto) (h1 : ((evEs cl its env S).bind fun ws S0 => R.of S0 (walk w ws)) = .ok xs S1) : evE cl (.comp k t w its cond e own) env S = (compL (fun x S2 => match bindT t x (wipeE env own) with
      | some env' => ((evC cl cond env' S2).bind fun b S3 => match b with
        | true => (evE cl e env' S3).bind fun d S4 => .ok (some d) S4
        | false => .ok none S3).nox
      | none => .bad) xs [] S1).bind fun ds S5 => newL k ds S5 := by
  show ((evEs cl its env S).bind fun ws S0 => (R.of S0 (walk w ws)).bind fun xs S1 => _) = _
  rw [← R.assoc, h1]
  rfl
theorem comp_pure {g : D → D} {xs : List D} {S1 : Sto} (h1 : ((evEs cl its env S).bind fun ws S0 => R.of S0 (walk w ws)) = .ok xs S1)
    (h2 : ∀ x ∈ xs, ∃ env', bindT t x (wipeE env own) = some env' ∧ evC cl cond env' S1 = .ok true S1 ∧ evE cl e env' S1 = .ok (g x) S1) (hl : xs.length ≤ line) : evE cl (.comp k t w its cond e own) env S = newL k (xs.map g) S1 := by
  rw [ev_comp xs S1 h1, compL_pure (g := g) xs [] (fun x hx => ?_) (by simpa using hl)]
  · rfl
  · obtain ⟨env', e1, e2, e3⟩ := h2 x hx
    rw [e1]
    dsimp only
    rw [e2]
    show ((evE cl e env' S1).bind fun d S4 => R.ok (some d) S4).nox = _
    rw [e3]
    rfl
theorem comp_draw {n : Nat} {P : Int → Prop} {xs : List D} {S1 : Sto} (h1 : ((evEs cl its env S).bind fun ws S0 => R.of S0 (walk w ws)) = .ok xs S1) (c : Cup n S1)
    (h2 : ∀ x S, Cup n S → ∃ (env' : Env) (r : Int) (S' : Sto), bindT t x (wipeE env own) = some env' ∧ evC cl cond env' S = .ok true S ∧ evE cl e env' S = .ok (.int r) S' ∧ P r ∧ Cup n S' ∧ Upc n S S') (hl : xs.length ≤ line) :
    ∃ (rs : List Int) (S' : Sto), evE cl (.comp false t w its cond e own) env S = .ok (.lst (rs.map D.int)) S' ∧ rs.length = xs.length ∧ (∀ r ∈ rs, P r) ∧ Cup n S' ∧ Upc n S1 S' := by
  obtain ⟨rs, S', e1, e2, e3, e4, e5⟩ := compL_draw (n := n) (P := P) (f := fun x S2 => match bindT t x (wipeE env own) with
      | some env' => ((evC cl cond env' S2).bind fun b S3 => match b with
        | true => (evE cl e env' S3).bind fun d S4 => .ok (some d) S4
        | false => .ok none S3).nox
      | none => .bad) (fun x S2 c2 => by
    obtain ⟨env', r, S', e1, e2, e3, e4, e5, e6⟩ := h2 x S2 c2
    refine ⟨r, S', ?_, e4, e5, e6⟩
    rw [e1]
    dsimp only
    rw [e2]
    show ((evE cl e env' S2).bind fun d S4 => R.ok (some d) S4).nox = _
    rw [e3]
    rfl) xs [] S1 c (by simpa using hl)
  refine ⟨rs, S', ?_, e2, e3, e4, e5⟩
  rw [ev_comp xs S1 h1, e1]
  show newL false ([] ++ rs.map D.int) S' = _
  unfold newL
  rw [if_pos (by simp; omega)]
  rfl
end

section
variable {sub : Nat → Nat → Bool} {cl : Calls} {env env1 : Env} {S S1 : Sto}
theorem sq {s : Mn.S} {ss : List Mn.S} (h : exS sub cl s env S = .nx env1 S1) : exSs sub cl (s :: ss) env S = exSs sub cl ss env1 S1 := by
  show (exS sub cl s env S).bind _ = _
  rw [h]
  rfl
theorem sq_rt {s : Mn.S} {ss : List Mn.S} {d : D} (h : exS sub cl s env S = .rt d S1) : exSs sub cl (s :: ss) env S = .rt d S1 := by
  show (exS sub cl s env S).bind _ = _
  rw [h]
  rfl
theorem sq_exc {s : Mn.S} {ss : List Mn.S} {x : Ex} (h : exS sub cl s env S = .exc x env1 S1) : exSs sub cl (s :: ss) env S = .exc x env1 S1 := by
  show (exS sub cl s env S).bind _ = _
  rw [h]
  rfl
theorem asg_nm {i : Nat} {e : E} {d : D} (h : evE cl e env S = .ok d S1) (hi : i < env.length) : exS sub cl (.asg (.nm i) e) env S = .nx (env.set i (some d)) S1 := by
  show (evE cl e env S).to env _ = _
  rw [h]
  show (match (if i < env.length then frL (env.set i (some d)) some else none : Option Env) with
    | some env' => RS.nx env' S1
    | none => .bad) = _
  rw [if_pos hi, frL_eq]
theorem ret_ok {e : E} {d : D} (h : evE cl e env S = .ok d S1) : exS sub cl (.ret e) env S = .rt d S1 := by
  show (evE cl e env S).to env _ = _
  rw [h]
  rfl
theorem ifs_t {c : E} {a b : List Mn.S} (h : evE cl c env S = .ok (.bl true) S1) : exS sub cl (.ifs c a b) env S = exSs sub cl a env S1 := by
  show (evE cl c env S).to env _ = _
  rw [h]
  rfl
theorem ifs_f {c : E} {a b : List Mn.S} (h : evE cl c env S = .ok (.bl false) S1) : exS sub cl (.ifs c a b) env S = exSs sub cl b env S1 := by
  show (evE cl c env S).to env _ = _
  rw [h]
  rfl
theorem ex_ok {e : E} {d : D} (h : evE cl e env S = .ok d S1) : exS sub cl (.ex e) env S = .nx env S1 := by
  show (evE cl e env S).to env _ = _
  rw [h]
  rfl
theorem ex_exc {e : E} {x : Ex} (h : evE cl e env S = .exc x S1) : exS sub cl (.ex e) env S = .exc x env S1 := by
  show (evE cl e env S).to env _ = _
  rw [h]
  rfl
/-- a def that hands d back -/
theorem df_rt {f : Df} {xs : List D} {d : D} (hx : xs.length = f.np) (hf : f.fr = false) (h : exSs sub cl f.body (xs.map some ++ List.replicate (f.ns - f.np) none) S = .rt d S1) : f.run sub cl xs S = .ok d S1 := by
  unfold Df.run
  rw [if_pos hx, h, hf]
  rfl
theorem df_nx {f : Df} {xs : List D} (hx : xs.length = f.np) (hf : f.fr = false) (h : exSs sub cl f.body (xs.map some ++ List.replicate (f.ns - f.np) none) S = .nx env1 S1) : f.run sub cl xs S = .ok .non S1 := by
  unfold Df.run
  rw [if_pos hx, h, hf]
  rfl
theorem df_exc {f : Df} {xs : List D} {x : Ex} (hx : xs.length = f.np) (hf : f.fr = false) (h : exSs sub cl f.body (xs.map some ++ List.replicate (f.ns - f.np) none) S = .exc x env1 S1) : f.run sub cl xs S = .exc x S1 := by
  unfold Df.run
  rw [if_pos hx, h, hf]
  rfl
end

section
variable {sub : Nat → Nat → Bool} {cl : Calls} {env env1 : Env} {S S1 S2 S3 : Sto} {e e1 e2 e3 : E} {x y z : D} {k : Bool}
theorem ev_bi {b : Bi} {r : R D} (h : evE cl e env S = .ok x S1) (h2 : biF b k x S1 = r) : evE cl (.bi b k e) env S = r := by
  show (evE cl e env S).bind _ = _
  rw [h]
  exact h2
theorem ev_bin {o : BO} {r : R D} (h : evE cl e1 env S = .ok x S1) (h2 : evE cl e2 env S1 = .ok y S2) (h3 : bop o x y S2 = r) : evE cl (.bin o e1 e2) env S = r := by
  show (evE cl e1 env S).bind _ = _
  rw [h]
  show (evE cl e2 env S1).bind _ = _
  rw [h2]
  exact h3
theorem ev_cmp {o : CO} {b : Bool} (h : evE cl e1 env S = .ok x S1) (h2 : evE cl e2 env S1 = .ok y S2) (h3 : cop o x y S2 = some b) : evE cl (.cmp o e1 e2) env S = .ok (.bl b) S2 := by
  show (evE cl e1 env S).bind _ = _
  rw [h]
  show (evE cl e2 env S1).bind _ = _
  rw [h2]
  show (R.of S2 (cop o x y S2)).bind _ = _
  rw [h3]
  rfl
theorem ev_fn1 {i : Nat} {r : R D} (h : evE cl e env S = .ok x S1) (h2 : cl i [x] S1 = r) : evE cl (.fn i [e]) env S = r := by
  show ((evE cl e env S).bind _).bind _ = _
  rw [h]
  exact h2
theorem ev_fn2 {i : Nat} {r : R D} (h : evE cl e1 env S = .ok x S1) (h2 : evE cl e2 env S1 = .ok y S2) (h3 : cl i [x, y] S2 = r) : evE cl (.fn i [e1, e2]) env S = r := by
  show ((evE cl e1 env S).bind _).bind _ = _
  rw [h]
  show (((evE cl e2 env S1).bind _).bind _).bind _ = _
  rw [h2]
  exact h3
theorem ev_tup2 (h : evE cl e1 env S = .ok x S1) (h2 : evE cl e2 env S1 = .ok y S2) : evE cl (.tup [e1, e2]) env S = .ok (.tup true [x, y]) S2 := by
  show ((evE cl e1 env S).bind _).bind _ = _
  rw [h]
  show (((evE cl e2 env S1).bind _).bind _).bind _ = _
  rw [h2]
  rfl
theorem ev_lst1 (h : evE cl e env S = .ok x S1) : evE cl (.lst false [e]) env S = .ok (.lst [x]) S1 := by
  show ((evE cl e env S).bind _).bind _ = _
  rw [h]
  rfl
theorem ev_borF (h : evE cl e1 env S = .ok (.bl false) S1) {r : R D} (h2 : evE cl e2 env S1 = r) : evE cl (.bor e1 e2) env S = r := by
  show (evE cl e1 env S).bind _ = _
  rw [h]
  exact h2
theorem ev_borT (h : evE cl e1 env S = .ok (.bl true) S1) : evE cl (.bor e1 e2) env S = .ok (.bl true) S1 := by
  show (evE cl e1 env S).bind _ = _
  rw [h]
  rfl
theorem ev_bandT (h : evE cl e1 env S = .ok (.bl true) S1) {r : R D} (h2 : evE cl e2 env S1 = r) : evE cl (.band e1 e2) env S = r := by
  show (evE cl e1 env S).bind _ = _
  rw [h]
  exact h2
theorem ev_not {b : Bool} (h : evE cl e env S = .ok (.bl b) S1) : evE cl (.bnot e) env S = .ok (.bl (!b)) S1 := by
  show (evE cl e env S).bind _ = _
  rw [h]
  rfl
theorem ev_slcL {i : Int} (h : evE cl e env S = .ok x S1) (h2 : evE cl e2 env S1 = .ok (.int i) S2) (h3 : cutf x none (some i) S2 = some y) : evE cl (.slc e none (some e2)) env S = .ok y S2 := by
  show (evE cl e env S).bind _ = _
  rw [h]
  show ((evE cl e2 env S1).bind _).bind _ = _
  rw [h2]
  show R.of S2 (cutf x none (some i) S2) = _
  rw [h3]
  rfl
theorem ev_slcH {i : Int} (h : evE cl e env S = .ok x S1) (h2 : evE cl e2 env S1 = .ok (.int i) S2) (h3 : cutf x (some i) none S2 = some y) : evE cl (.slc e (some e2) none) env S = .ok y S2 := by
  show (evE cl e env S).bind _ = _
  rw [h]
  show ((evE cl e2 env S1).bind _).bind _ = _
  rw [h2]
  show R.of S2 (cutf x (some i) none S2) = _
  rw [h3]
  rfl
theorem asg_tp2 {t : Bool} {i j : Nat} (h : evE cl e env S = .ok (.tup t [x, y]) S1) (hi : i < env.length) (hj : j < env.length) : exS sub cl (.asg (.tp [.nm i, .nm j]) e) env S = .nx ((env.set i (some x)).set j (some y)) S1 := by
  show (evE cl e env S).to env _ = _
  rw [h]
  have b1 : bindT (.nm i) x env = some (env.set i (some x)) := by
    show (if i < env.length then frL (env.set i (some x)) some else none) = _
    rw [if_pos hi, frL_eq]
  have b2 : bindT (.nm j) y (env.set i (some x)) = some ((env.set i (some x)).set j (some y)) := by
    show (if j < (env.set i (some x)).length then frL ((env.set i (some x)).set j (some y)) some else none) = _
    rw [if_pos (by simpa using hj), frL_eq]
  have b3 : bindT (.tp [.nm i, .nm j]) (.tup t [x, y]) env = some ((env.set i (some x)).set j (some y)) := by
    show (match bindT (.nm i) x env with
      | some env' => bindT.bindTs [.nm j] [y] env'
      | none => none) = _
    rw [b1]
    show (match bindT (.nm j) y (env.set i (some x)) with
      | some env' => bindT.bindTs [] [] env'
      | none => none) = _
    rw [b2]
    rfl
  show (match bindT (.tp [.nm i, .nm j]) (.tup t [x, y]) env with
    | some env' => RS.nx env' S1
    | none => .bad) = _
  rw [b3]
theorem add_lst {a b : List D} (h : a.length + b.length ≤ line) : bop .add (.lst a) (.lst b) S = .ok (.lst (a ++ b)) S := by
  show (if a.length + b.length ≤ line then frL (a ++ b) fun r => R.ok (D.lst r) S else .bad) = _
  rw [if_pos h, frL_eq]
theorem add_int {a b : Int} : bop .add (.int a) (.int b) S = .ok (.int (a + b)) S := by
  show frI (a + b) (fun r => R.ok (D.int r) S) = _
  rw [frI_eq]
theorem rep_tup {t : Bool} {a : List D} (h : shwD (.tup t a) = true) : biF .repr k (.tup t a) S = .ok (.rep (.tup t a)) S := by
  show (if shwD (.tup t a) = true then R.ok (D.rep (.tup t a)) S else .bad) = _
  rw [if_pos h]
theorem len_lst {a : List D} : biF .len k (.lst a) S = .ok (.int a.length) S := by
  show frN a.length (fun n => R.ok (D.int n) S) = _
  rw [frN_eq]
end
end Mn

/-! k28: the rows. -/
namespace Law
open Mn
def row0 : D := .tup true [.tup true [.str [115, 101, 116], .int 1, .tup true [.str [110, 117, 109], .int 4, .str [110, 117, 109]]], .lst [.tup true [.str [99, 111, 110, 115, 116], .int 4], .tup true [.str [115, 116, 111, 114, 101], .int 1]]]
def row1 : D := .tup true [.tup true [.str [115, 101, 116], .int 3, .tup true [.str [110, 97, 109, 101, 100], .str [97, 110, 110], .str [110, 97, 109, 101]]], .lst [.tup true [.str [99, 111, 110, 115, 116], .str [97, 110, 110]], .tup true [.str [115, 116, 111, 114, 101], .int 3]]]
def row2 : D := .tup true [.tup true [.str [112, 117, 116], .int 2, .tup true [.str [110, 117, 109], .int 4, .str [110, 117, 109]], .tup true [.str [108, 111, 99, 97, 108], .int 0, .str [110, 117, 109]]], .lst [.tup true [.str [99, 111, 110, 115, 116], .int 4], .tup true [.str [108, 111, 97, 100], .int 0], .tup true [.str [112, 117, 116], .int 2]]]
def row3 : D := .tup true [.tup true [.str [116, 101, 108, 108], .tup true [.str [108, 111, 99, 97, 108], .int 0, .str [110, 117, 109]]], .lst [.tup true [.str [108, 111, 97, 100], .int 0], .tup true [.str [116, 101, 108, 108]]]]
def row4 : D := .tup true [.tup true [.str [100, 111], .tup true [.str [99, 97, 108, 108], .int 0, .tup true [.tup true [.str [110, 117, 109], .int 4, .str [110, 117, 109]], .tup true [.str [108, 111, 99, 97, 108], .int 0, .str [110, 117, 109]]], .tup true [.tup true [.tup true [.tup true [.int 1], .int 2]], .tup true [.tup true [.tup true [.int 1], .int 2]]], .str [110, 117, 109]]], .lst [.tup true [.str [99, 111, 110, 115, 116], .int 4], .tup true [.str [108, 111, 97, 100], .int 0], .tup true [.str [99, 97, 108, 108], .int 0, .tup true [.tup true [.tup true [.tup true [.int 1], .int 2]], .tup true [.tup true [.tup true [.int 1], .int 2]]]], .tup true [.str [112, 111, 112]]]]
def row5 : D := .tup true [.tup true [.str [100, 111], .tup true [.str [99, 97, 108, 108], .int 1, .tup true [], .tup true [], .non]], .lst [.tup true [.str [99, 97, 108, 108], .int 1, .tup true []]]]
def row6 : D := .tup true [.tup true [.str [105, 102], .tup true [.str [116, 114, 117, 116, 104], .bl true, .str [116, 114, 117, 116, 104]], .tup true [.tup true [.str [116, 101, 108, 108], .tup true [.str [108, 111, 99, 97, 108], .int 0, .str [110, 117, 109]]]], .tup true []], .lst [.tup true [.str [99, 111, 110, 115, 116], .bl true], .tup true [.str [105, 102], .tup true [.tup true [.str [108, 111, 97, 100], .int 0], .tup true [.str [116, 101, 108, 108]]], .tup true []]]]
def row7 : D := .tup true [.tup true [.str [105, 102], .tup true [.str [116, 114, 117, 116, 104], .bl true, .str [116, 114, 117, 116, 104]], .tup true [], .tup true [.tup true [.str [116, 101, 108, 108], .tup true [.str [108, 111, 99, 97, 108], .int 0, .str [110, 117, 109]]], .tup true [.str [116, 101, 108, 108], .tup true [.str [108, 111, 99, 97, 108], .int 0, .str [110, 117, 109]]]]], .lst [.tup true [.str [99, 111, 110, 115, 116], .bl true], .tup true [.str [105, 102], .tup true [], .tup false [.tup true [.str [108, 111, 97, 100], .int 0], .tup true [.str [116, 101, 108, 108]], .tup true [.str [108, 111, 97, 100], .int 0], .tup true [.str [116, 101, 108, 108]]]]]]
def row8 : D := .tup true [.tup true [.str [114, 101, 112, 101, 97, 116], .tup true [.str [110, 117, 109], .int 4, .str [110, 117, 109]], .tup true [.tup true [.tup true [.int 1], .int 2]], .tup true [.tup true [.str [116, 101, 108, 108], .tup true [.str [108, 111, 99, 97, 108], .int 0, .str [110, 117, 109]]]]], .lst [.tup true [.str [99, 111, 110, 115, 116], .int 4], .tup true [.str [114, 101, 112, 101, 97, 116], .tup true [.tup true [.tup true [.int 1], .int 2]], .tup true [.tup true [.str [108, 111, 97, 100], .int 0], .tup true [.str [116, 101, 108, 108]]]]]]
def row9 : D := .tup true [.tup true [.str [114, 101, 112, 101, 97, 116], .tup true [.str [108, 111, 99, 97, 108], .int 0, .str [110, 117, 109]], .tup true [], .tup true []], .lst [.tup true [.str [108, 111, 97, 100], .int 0], .tup true [.str [114, 101, 112, 101, 97, 116], .tup true [], .tup true []]]]
def row10 : D := .tup true [.tup true [.str [102, 97, 105, 108], .str [108, 97, 116, 101]], .lst [.tup true [.str [102, 97, 105, 108], .str [108, 97, 116, 101]]]]
def row11 : D := .tup true [.tup true [.str [99, 104, 101, 99, 107], .tup true [.str [116, 114, 117, 116, 104], .bl true, .str [116, 114, 117, 116, 104]], .str [110, 111]], .lst [.tup true [.str [99, 111, 110, 115, 116], .bl true], .tup true [.str [99, 104, 101, 99, 107], .str [110, 111]]]]
def row12 : D := .tup true [.tup true [.str [112, 97, 121], .tup true [.str [110, 117, 109], .int 4, .str [110, 117, 109]], .tup true [.str [110, 97, 109, 101, 100], .str [97, 110, 110], .str [110, 97, 109, 101]]], .lst [.tup true [.str [99, 111, 110, 115, 116], .int 4], .tup true [.str [99, 111, 110, 115, 116], .str [97, 110, 110]], .tup true [.str [115, 119, 97, 112]], .tup true [.str [112, 97, 121]]]]
def row13 : D := .tup true [.tup true [.str [111, 117, 116], .non, .int 2, .tup true [.str [110, 97, 109, 101, 100], .str [97, 110, 110], .str [110, 97, 109, 101]], .str [103, 111], .tup true [.tup true [.str [110, 117, 109], .int 4, .str [110, 117, 109]], .tup true [.str [116, 114, 117, 116, 104], .bl true, .str [116, 114, 117, 116, 104]]], .tup true [.str [108, 111, 99, 97, 108], .int 0, .str [110, 117, 109]], .tup true [.tup true [.tup true [.int 1], .int 2]], .non], .lst [.tup true [.str [99, 111, 110, 115, 116], .str [97, 110, 110]], .tup true [.str [108, 111, 97, 100], .int 0], .tup true [.str [99, 111, 110, 115, 116], .int 4], .tup true [.str [99, 111, 110, 115, 116], .bl true], .tup true [.str [111, 117, 116], .str [103, 111], .tup true [.str [110, 117, 109], .str [116, 114, 117, 116, 104]], .non, .tup true [.tup true [.tup true [.int 1], .int 2]]], .tup true [.str [115, 116, 111, 114, 101], .int 2]]]
def row14 : D := .tup true [.tup true [.str [111, 117, 116], .int 1, .int 2, .tup true [.str [110, 97, 109, 101, 100], .str [97, 110, 110], .str [110, 97, 109, 101]], .str [115, 117, 109], .tup true [], .tup true [.str [110, 117, 109], .int 4, .str [110, 117, 109]], .tup true [], .str [110, 117, 109]], .lst [.tup true [.str [99, 111, 110, 115, 116], .str [97, 110, 110]], .tup true [.str [99, 111, 110, 115, 116], .int 4], .tup true [.str [111, 117, 116], .str [115, 117, 109], .tup true [], .str [110, 117, 109], .tup true []], .tup true [.str [115, 116, 111, 114, 101], .int 2], .tup true [.str [115, 116, 111, 114, 101], .int 1]]]
def row15 : D := .tup true [.tup true [.str [105, 102], .tup true [.str [116, 114, 117, 116, 104], .bl true, .str [116, 114, 117, 116, 104]], .tup true [.tup true [.str [114, 101, 112, 101, 97, 116], .tup true [.str [110, 117, 109], .int 4, .str [110, 117, 109]], .tup true [.tup true [.tup true [.int 1], .int 2]], .tup true [.tup true [.str [105, 102], .tup true [.str [116, 114, 117, 116, 104], .bl true, .str [116, 114, 117, 116, 104]], .tup true [], .tup true [.tup true [.str [116, 101, 108, 108], .tup true [.str [108, 111, 99, 97, 108], .int 0, .str [110, 117, 109]]]]]]], .tup true [.str [116, 101, 108, 108], .tup true [.str [108, 111, 99, 97, 108], .int 0, .str [110, 117, 109]]]], .tup true [.tup true [.str [102, 97, 105, 108], .str [110, 111]]]], .lst [.tup true [.str [99, 111, 110, 115, 116], .bl true], .tup true [.str [105, 102], .tup false [.tup true [.str [99, 111, 110, 115, 116], .int 4], .tup true [.str [114, 101, 112, 101, 97, 116], .tup true [.tup true [.tup true [.int 1], .int 2]], .tup true [.tup true [.str [99, 111, 110, 115, 116], .bl true], .tup true [.str [105, 102], .tup true [], .tup true [.tup true [.str [108, 111, 97, 100], .int 0], .tup true [.str [116, 101, 108, 108]]]]]], .tup true [.str [108, 111, 97, 100], .int 0], .tup true [.str [116, 101, 108, 108]]], .tup true [.tup true [.str [102, 97, 105, 108], .str [110, 111]]]]]]
def rowsD : List D := [row0, row1, row2, row3, row4, row5, row6, row7, row8, row9, row10, row11, row12, row13, row14, row15]
def ord0 : List D := [.tup true [.str [99, 111, 110, 115, 116], .int 4], .tup true [.str [115, 116, 111, 114, 101], .int 1]]
def ord1 : List D := [.tup true [.str [99, 111, 110, 115, 116], .str [97, 110, 110]], .tup true [.str [115, 116, 111, 114, 101], .int 3]]
def ord2 : List D := [.tup true [.str [99, 111, 110, 115, 116], .int 4], .tup true [.str [108, 111, 97, 100], .int 0], .tup true [.str [112, 117, 116], .int 2]]
def ord3 : List D := [.tup true [.str [108, 111, 97, 100], .int 0], .tup true [.str [116, 101, 108, 108]]]
def ord4 : List D := [.tup true [.str [99, 111, 110, 115, 116], .int 4], .tup true [.str [108, 111, 97, 100], .int 0], .tup true [.str [99, 97, 108, 108], .int 0, .tup true [.tup true [.tup true [.tup true [.int 1], .int 2]], .tup true [.tup true [.tup true [.int 1], .int 2]]]], .tup true [.str [112, 111, 112]]]
def ord5 : List D := [.tup true [.str [99, 97, 108, 108], .int 1, .tup true []]]
def ord6 : List D := [.tup true [.str [99, 111, 110, 115, 116], .bl true], .tup true [.str [105, 102], .tup false [.tup true [.str [108, 111, 97, 100], .int 0], .tup true [.str [116, 101, 108, 108]]], .tup false []]]
def ord7 : List D := [.tup true [.str [99, 111, 110, 115, 116], .bl true], .tup true [.str [105, 102], .tup false [], .tup false [.tup true [.str [108, 111, 97, 100], .int 0], .tup true [.str [116, 101, 108, 108]], .tup true [.str [108, 111, 97, 100], .int 0], .tup true [.str [116, 101, 108, 108]]]]]
def ord8 : List D := [.tup true [.str [99, 111, 110, 115, 116], .int 4], .tup true [.str [114, 101, 112, 101, 97, 116], .tup true [.tup true [.tup true [.int 1], .int 2]], .tup false [.tup true [.str [108, 111, 97, 100], .int 0], .tup true [.str [116, 101, 108, 108]]]]]
def ord9 : List D := [.tup true [.str [108, 111, 97, 100], .int 0], .tup true [.str [114, 101, 112, 101, 97, 116], .tup true [], .tup false []]]
def ord10 : List D := [.tup true [.str [102, 97, 105, 108], .str [108, 97, 116, 101]]]
def ord11 : List D := [.tup true [.str [99, 111, 110, 115, 116], .bl true], .tup true [.str [99, 104, 101, 99, 107], .str [110, 111]]]
def ord12 : List D := [.tup true [.str [99, 111, 110, 115, 116], .int 4], .tup true [.str [99, 111, 110, 115, 116], .str [97, 110, 110]], .tup true [.str [115, 119, 97, 112]], .tup true [.str [112, 97, 121]]]
def ord13 : List D := [.tup true [.str [99, 111, 110, 115, 116], .str [97, 110, 110]], .tup true [.str [108, 111, 97, 100], .int 0], .tup true [.str [99, 111, 110, 115, 116], .int 4], .tup true [.str [99, 111, 110, 115, 116], .bl true], .tup true [.str [111, 117, 116], .str [103, 111], .tup false [.str [110, 117, 109], .str [116, 114, 117, 116, 104]], .non, .tup true [.tup true [.tup true [.int 1], .int 2]]], .tup true [.str [115, 116, 111, 114, 101], .int 2]]
def ord14 : List D := [.tup true [.str [99, 111, 110, 115, 116], .str [97, 110, 110]], .tup true [.str [99, 111, 110, 115, 116], .int 4], .tup true [.str [111, 117, 116], .str [115, 117, 109], .tup false [], .str [110, 117, 109], .tup true []], .tup true [.str [115, 116, 111, 114, 101], .int 2], .tup true [.str [115, 116, 111, 114, 101], .int 1]]
def ord15 : List D := [.tup true [.str [99, 111, 110, 115, 116], .bl true], .tup true [.str [105, 102], .tup false [.tup true [.str [99, 111, 110, 115, 116], .int 4], .tup true [.str [114, 101, 112, 101, 97, 116], .tup true [.tup true [.tup true [.int 1], .int 2]], .tup false [.tup true [.str [99, 111, 110, 115, 116], .bl true], .tup true [.str [105, 102], .tup false [], .tup false [.tup true [.str [108, 111, 97, 100], .int 0], .tup true [.str [116, 101, 108, 108]]]]]], .tup true [.str [108, 111, 97, 100], .int 0], .tup true [.str [116, 101, 108, 108]]], .tup false [.tup true [.str [102, 97, 105, 108], .str [110, 111]]]]]
def nodeOf : D → D
  | .tup _ [n, .lst _] => n
  | d => d
def told0 : D → List D
  | .tup _ [_, .lst o] => o
  | _ => []
/-- a row: its node, its orders as they are told, as they are made, the bodies in these, whether it has blocks -/
structure Rw where
  n : D
  t : List D
  o : List D
  i : List D
  nest : Bool
def rowOf (q : Rw) : D := .tup true [q.n, .lst q.t]
/-- the bodies in an order -/
def innerD : D → List D
  | .tup _ [.str [105, 102], x, y] => [x, y]
  | .tup _ [.str [114, 101, 112, 101, 97, 116], _, y] => [y]
  | _ => []
def inn0 : List D := []
def inn1 : List D := []
def inn2 : List D := []
def inn3 : List D := []
def inn4 : List D := []
def inn5 : List D := []
def inn6 : List D := [.tup false [.tup true [.str [108, 111, 97, 100], .int 0], .tup true [.str [116, 101, 108, 108]]], .tup false []]
def inn7 : List D := [.tup false [], .tup false [.tup true [.str [108, 111, 97, 100], .int 0], .tup true [.str [116, 101, 108, 108]], .tup true [.str [108, 111, 97, 100], .int 0], .tup true [.str [116, 101, 108, 108]]]]
def inn8 : List D := [.tup false [.tup true [.str [108, 111, 97, 100], .int 0], .tup true [.str [116, 101, 108, 108]]]]
def inn9 : List D := [.tup false []]
def inn10 : List D := []
def inn11 : List D := []
def inn12 : List D := []
def inn13 : List D := []
def inn14 : List D := []
def inn15 : List D := [.tup false [.tup true [.str [99, 111, 110, 115, 116], .int 4], .tup true [.str [114, 101, 112, 101, 97, 116], .tup true [.tup true [.tup true [.int 1], .int 2]], .tup false [.tup true [.str [99, 111, 110, 115, 116], .bl true], .tup true [.str [105, 102], .tup false [], .tup false [.tup true [.str [108, 111, 97, 100], .int 0], .tup true [.str [116, 101, 108, 108]]]]]], .tup true [.str [108, 111, 97, 100], .int 0], .tup true [.str [116, 101, 108, 108]]], .tup false [.tup true [.str [102, 97, 105, 108], .str [110, 111]]]]
def rw0 : Rw := ⟨nodeOf row0, told0 row0, ord0, inn0, false⟩
def rw1 : Rw := ⟨nodeOf row1, told0 row1, ord1, inn1, false⟩
def rw2 : Rw := ⟨nodeOf row2, told0 row2, ord2, inn2, false⟩
def rw3 : Rw := ⟨nodeOf row3, told0 row3, ord3, inn3, false⟩
def rw4 : Rw := ⟨nodeOf row4, told0 row4, ord4, inn4, false⟩
def rw5 : Rw := ⟨nodeOf row5, told0 row5, ord5, inn5, false⟩
def rw6 : Rw := ⟨nodeOf row6, told0 row6, ord6, inn6, true⟩
def rw7 : Rw := ⟨nodeOf row7, told0 row7, ord7, inn7, true⟩
def rw8 : Rw := ⟨nodeOf row8, told0 row8, ord8, inn8, true⟩
def rw9 : Rw := ⟨nodeOf row9, told0 row9, ord9, inn9, true⟩
def rw10 : Rw := ⟨nodeOf row10, told0 row10, ord10, inn10, false⟩
def rw11 : Rw := ⟨nodeOf row11, told0 row11, ord11, inn11, false⟩
def rw12 : Rw := ⟨nodeOf row12, told0 row12, ord12, inn12, false⟩
def rw13 : Rw := ⟨nodeOf row13, told0 row13, ord13, inn13, false⟩
def rw14 : Rw := ⟨nodeOf row14, told0 row14, ord14, inn14, false⟩
def rw15 : Rw := ⟨nodeOf row15, told0 row15, ord15, inn15, true⟩
def rowsP : List Rw := [rw0, rw1, rw2, rw3, rw4, rw5, rw6, rw7, rw8, rw9, rw10, rw11, rw12, rw13, rw14, rw15]
def flatP : List Rw := [rw0, rw1, rw2, rw3, rw4, rw5, rw10, rw11, rw12, rw13, rw14]
def nestP : List Rw := [rw6, rw7, rw8, rw9, rw15]
end Law

/-! What compiled answers for a source around a block. -/
namespace Law
open Mn
abbrev R (k : Nat) : Calls := Mn.run (subT T) ds k
theorem run_at {k i : Nat} {f : Df} {xs : List D} {S : Sto} (hi : i < 1000000) (h : ds[i]? = some f) : R (k + 1) i xs S = f.run (subT T) (R k) xs S := by
  show (if i < 1000000 then (match ds[i]? with
    | some f => f.run (subT T) (R k) xs S
    | none => .bad) else Mn.run (subT T) ds k (i - 1000000) xs S) = _
  rw [if_pos hi, h]
section
variable {sub : Nat → Nat → Bool} {cl : Calls} {env env' : Env} {S S1 S2 : Sto}
theorem for_ok {t : Tg} {w : Wt} {its : List E} {b : List Mn.S} {xs : List D} (h : ((evEs cl its env S).bind fun ws S0 => R.of S0 (walk w ws)) = .ok xs S1) : exS sub cl (.forr t w its b) env S = forL (fun x env1 S2 => match bindT t x env1 with
    | some env2 => exSs sub cl b env2 S2
    | none => .bad) xs env S1 := by
  have e := R.to_bind (evEs cl its env S) env (fun ws S0 => R.of S0 (walk w ws)) (fun xs S1 => forL (fun x env1 S2 => match bindT t x env1 with
    | some env2 => exSs sub cl b env2 S2
    | none => .bad) xs env S1)
  rw [h] at e
  exact e.symm
theorem forL_nx {f : D → Env → Sto → RS} {x : D} {xs : List D} (h : f x env S = .nx env' S1) : forL f (x :: xs) env S = forL f xs env' S1 := by
  show (match f x env S with
    | .nx env' S' => forL f xs env' S'
    | .ct env' S' => forL f xs env' S'
    | .bk env' S' => .nx env' S'
    | r => r) = _
  rw [h]
theorem forL_b {t : Tg} {b : List Mn.S} {x : D} {xs : List D} {env2 : Env} (hb : bindT t x env = some env2) (h : exSs sub cl b env2 S = .nx env' S1) : forL (fun x env1 S2 => match bindT t x env1 with
    | some env2 => exSs sub cl b env2 S2
    | none => .bad) (x :: xs) env S = forL (fun x env1 S2 => match bindT t x env1 with
    | some env2 => exSs sub cl b env2 S2
    | none => .bad) xs env' S1 := forL_nx (by
  show (match bindT t x env with
    | some env2 => exSs sub cl b env2 S
    | none => .bad) = _
  rw [hb]
  exact h)
theorem df_rtF {f : Df} {xs : List D} {d : D} (hx : xs.length = f.np) (hf : f.fr = true) (he : xs.map some ++ List.replicate (f.ns - f.np) none = env) (h : exSs sub cl f.body env S = .rt d S1) : f.run sub cl xs S = .ok (S1.out S.next d) (S1.trim S.next (belD S.next (S1.out S.next d))) := by
  unfold Df.run
  rw [if_pos hx, he, h]
  dsimp only
  rw [if_pos hf]
theorem ev_mth {tab : List (List Nat × Nat)} {m c : List Nat} {o : E} {es : List E} {n i : Nat} {fs : List (List Nat × D)} {xs : List D} {r : Mn.R D} (h1 : evE cl o env S = .ok (.ref n) S1) (h2 : S1.get n = some (.ins c fs)) (h3 : tab.lookup c = some i) (h4 : kfind m fs = none)
    (h5 : evEs cl es env S1 = .ok xs S2) (h6 : cl i (.ref n :: xs) S2 = r) : evE cl (.mth tab m o es) env S = r := by
  show (evE cl o env S).bind (fun x S1 => match x with
    | .ref n => (match S1.get n with
      | some (.ins c fs) => (match tab.lookup c, kfind m fs with
        | some i, none => (evEs cl es env S1).bind fun xs S2 => cl i (.ref n :: xs) S2
        | _, _ => .bad)
      | _ => .bad)
    | _ => .bad) = r
  rw [h1, R.bind_ok]
  dsimp only
  rw [h2]
  dsimp only
  rw [h3, h4]
  dsimp only
  rw [h5, R.bind_ok, h6]
theorem newL_ok {xs : List D} (h : xs.length ≤ line) : newL false xs S = .ok (.lst xs) S := by
  unfold newL
  rw [if_pos h]
  rfl
theorem ev_fnA {i : Nat} {es : List E} {xs : List D} {r : Mn.R D} (h : evEs cl es env S = .ok xs S1) (h2 : cl i xs S1 = r) : evE cl (.fn i es) env S = r := by
  show (evEs cl es env S).bind (fun xs S1 => cl i xs S1) = r
  rw [h, R.bind_ok, h2]
end
def plusD : D := .tup true [.str [112, 108, 117, 115], .tup true [.str [110, 117, 109], .str [110, 117, 109]], .str [110, 117, 109], .tup true [], .tup true [], .tup true [.str [98, 105, 110, 97, 114, 121], .str [43], .tup true [.str [108, 111, 99, 97, 108], .int 0, .str [110, 117, 109]], .tup true [.str [108, 111, 99, 97, 108], .int 1, .str [110, 117, 109]], .str [110, 117, 109]]]
def nothD : D := .tup true [.str [110, 111, 116, 104, 105, 110, 103], .tup true [], .non, .tup true [], .tup true [], .non]
def goD (bs : List D) : D := .tup true [.str [103, 111], .tup true [.str [110, 117, 109]], .non, .tup true [.str [110, 117, 109], .str [116, 114, 117, 116, 104], .str [110, 97, 109, 101]], .tup false bs, .non]
def entsD : D := .tup true [.tup true [.str [103, 111], .int 2]]
def funsD (bs : List D) : D := .tup true [plusD, nothD, goD bs]
def judgedD (bs : List D) : D := .tup true [funsD bs, entsD]
def jcell (fs ks : List D) (n : Int) : C := .ins [74, 117, 100, 103, 101] [([102, 117, 110, 99, 116, 105, 111, 110, 115], .tup false fs), ([107, 105, 110, 100, 115], .tup false ks), ([109, 97, 110, 121], .int n)]
def jc0 : C := jcell [] [.str [110, 117, 109], .str [110, 117, 109]] 2
def jc1 : C := jcell [plusD] [] 0
def jc2 : C := jcell [plusD, nothD] [.str [110, 117, 109], .str [110, 117, 109], .str [116, 114, 117, 116, 104], .str [110, 97, 109, 101]] 1
def SJ (a b : Int) : Sto := ⟨4, [(3, jc2), (2, jc1), (1, jc0), (0, .lst [.int a, .int b])]⟩
end Law

namespace Law
open Mn
theorem isblock_ok {a b : Int} {ns : List D} (h : ∀ n ∈ ns, R 54 43 [.ref 3, n, .int 1] (SJ a b) = .ok (.bl true) (SJ a b)) (hl : ns.length ≤ line) : R 55 44 [.ref 3, .tup false ns, .int 1] (SJ a b) = .ok (.bl true) (SJ a b) := by
  rw [run_at (f := f44) (by decide) rfl]
  refine df_rt rfl rfl ?_
  show exSs (subT T) (R 54) [_, _] [some (.ref 3), some (.tup false ns), some (.int 1), none] (SJ a b) = _
  refine (sq ((ifs_f (S1 := SJ a b) (by kernel_rfl)).trans rfl)).trans ?_
  have e : evE (R 54) (.comp false (Tg.nm 3) (Wt.of) [E.var 1] none (E.mth [([74, 117, 100, 103, 101], 43)] [105, 115, 95, 115, 116, 97, 116, 101, 109, 101, 110, 116] (E.var 0) [E.var 3, E.var 2]) [3]) [some (.ref 3), some (.tup false ns), some (.int 1), none] (SJ a b) = .ok (.lst (ns.map fun _ => D.bl true)) (SJ a b) :=
    (comp_pure (g := fun _ => D.bl true) (xs := ns) (S1 := SJ a b) rfl (fun x hx => ⟨_, rfl, rfl, ev_mth (n := 3) rfl rfl rfl rfl rfl (h x hx)⟩) hl).trans (newL_ok (by rw [List.length_map]; exact hl))
  refine sq_rt (ret_ok (ev_bi e ?_))
  have e2 : (ns.map fun _ => D.bl true) = (ns.map fun _ => true).map D.bl := by rw [List.map_map]; rfl
  show (match boolsO (ns.map fun _ => D.bl true) with
    | some bs => Mn.R.ok (D.bl (bs.all id)) (SJ a b)
    | none => .bad) = _
  rw [e2, bools_map]
  have e3 : ((ns.map fun _ => true).all id) = true := by simp
  dsimp only
  rw [e3]
end Law

namespace Law
open Mn
theorem fits_ok {a b : Int} {bs : List D} (h : R 55 44 [.ref 3, .tup false bs, .int 1] (SJ a b) = .ok (.bl true) (SJ a b)) : R 56 10 [judgedD bs] (S0 a b) = .ok (.bl true) (S0 a b) := by
  rw [run_at (f := f10) (by decide) rfl]
  have e : exSs (subT T) (R 55) f10.body [some (judgedD bs), none, none, none, none, none] (S0 a b) = .rt (.bl true) (SJ a b) := by
    show exSs (subT T) (R 55) [_, _, _, _, _, _] _ _ = _
    refine (sq ((ifs_f (S1 := S0 a b) (by kernel_rfl)).trans rfl)).trans ?_
    refine (sq ((ifs_f (S1 := S0 a b) (by kernel_rfl)).trans rfl)).trans ?_
    refine (sq (asg_nm (i := 1) (d := .lst [.str [112, 108, 117, 115], .str [110, 111, 116, 104, 105, 110, 103], .str [103, 111]]) (S1 := S0 a b) (by kernel_rfl) (by simp))).trans ?_
    refine (sq ((ifs_f (S1 := S0 a b) (by kernel_rfl)).trans rfl)).trans ?_
    refine (sq (S1 := SJ a b) (env1 := [some (judgedD bs), some (.lst [.str [112, 108, 117, 115], .str [110, 111, 116, 104, 105, 110, 103], .str [103, 111]]), some (.int 2), some (goD bs), some (.ref 3), none]) ?_).trans (by kernel_rfl)
    refine (for_ok (xs := [.tup false [.int 0, plusD], .tup false [.int 1, nothD], .tup false [.int 2, goD bs]]) (S1 := S0 a b) (by kernel_rfl)).trans ?_
    refine (forL_b (env2 := [some (judgedD bs), some (.lst [.str [112, 108, 117, 115], .str [110, 111, 116, 104, 105, 110, 103], .str [103, 111]]), some (.int 0), some plusD, none, none]) (env' := [some (judgedD bs), some (.lst [.str [112, 108, 117, 115], .str [110, 111, 116, 104, 105, 110, 103], .str [103, 111]]), some (.int 0), some plusD, some (.ref 1), none]) (S1 := ⟨2, [(1, jc0), (0, .lst [.int a, .int b])]⟩) (by kernel_rfl) (by kernel_rfl)).trans ?_
    refine (forL_b (env2 := [some (judgedD bs), some (.lst [.str [112, 108, 117, 115], .str [110, 111, 116, 104, 105, 110, 103], .str [103, 111]]), some (.int 1), some nothD, some (.ref 1), none]) (env' := [some (judgedD bs), some (.lst [.str [112, 108, 117, 115], .str [110, 111, 116, 104, 105, 110, 103], .str [103, 111]]), some (.int 1), some nothD, some (.ref 2), none]) (S1 := ⟨3, [(2, jc1), (1, jc0), (0, .lst [.int a, .int b])]⟩) (by kernel_rfl) (by kernel_rfl)).trans ?_
    refine (forL_b (env2 := [some (judgedD bs), some (.lst [.str [112, 108, 117, 115], .str [110, 111, 116, 104, 105, 110, 103], .str [103, 111]]), some (.int 2), some (goD bs), some (.ref 2), none]) (env' := [some (judgedD bs), some (.lst [.str [112, 108, 117, 115], .str [110, 111, 116, 104, 105, 110, 103], .str [103, 111]]), some (.int 2), some (goD bs), some (.ref 3), none]) (S1 := SJ a b) (by kernel_rfl) ?_).trans rfl
    refine (sq (asg_nm (i := 4) (d := .ref 3) (S1 := SJ a b) (by kernel_rfl) (by simp))).trans ?_
    refine (sq ((ifs_f (S1 := SJ a b) (ev_borF (ev_not (b := true) (ev_mth (n := 3) (S1 := SJ a b) (S2 := SJ a b) (xs := [.tup false bs, .int 1]) rfl rfl rfl rfl (by kernel_rfl) h)) (by kernel_rfl))).trans rfl)).trans rfl
  exact (df_rtF (f := f10) (xs := [judgedD bs]) rfl rfl rfl e).trans (by kernel_rfl)
end Law

namespace Law
open Mn
theorem need_ok {a b : Int} {bs : List D} (h : R 56 10 [judgedD bs] (S0 a b) = .ok (.bl true) (S0 a b)) : R 58 19 [judgedD bs] (S0 a b) = .ok .non (S0 a b) := by
  have h11 : R 57 11 [judgedD bs] (S0 a b) = .ok (.bl true) (S0 a b) := by
    rw [run_at (f := f11) (by decide) rfl]
    refine df_rt rfl rfl ?_
    show exSs (subT T) (R 56) [_] [some (judgedD bs)] _ = _
    exact sq_rt (ret_ok (ev_fnA (xs := [judgedD bs]) rfl h))
  rw [run_at (f := f19) (by decide) rfl]
  refine df_nx (env1 := [some (judgedD bs)]) rfl rfl ?_
  show exSs (subT T) (R 57) [_] [some (judgedD bs)] _ = _
  exact (sq ((ifs_f (S1 := S0 a b) (ev_not (b := true) (ev_fnA (xs := [judgedD bs]) rfl h11))).trans rfl)).trans rfl
end Law

namespace Law
open Mn
/-- the two functions' contracts -/
def pnD : List D := [.tup false [.str [112, 108, 117, 115], .tup true [.str [110, 117, 109], .str [110, 117, 109]], .str [110, 117, 109], .tup true [], .tup false [.tup true [.str [108, 111, 97, 100], .int 0], .tup true [.str [108, 111, 97, 100], .int 1], .tup true [.str [97, 100, 100]]]], .tup false [.str [110, 111, 116, 104, 105, 110, 103], .tup true [], .non, .tup true [], .tup false []]]
def goC (os : List D) : D := .tup false [.str [103, 111], .tup true [.str [110, 117, 109]], .non, .tup true [.str [110, 117, 109], .str [116, 114, 117, 116, 104], .str [110, 97, 109, 101]], .tup false os]
def toldD (os : List D) : D := .tup true [.tup false (pnD ++ [goC os]), entsD]
def SC (a b : Int) : Sto := ⟨2, [(1, .lst pnD), (0, .lst [.int a, .int b])]⟩
def SB (acc : List D) (a b : Int) : Sto := ⟨3, [(2, .lst acc), (1, .lst pnD), (0, .lst [.int a, .int b])]⟩
theorem belDs_app {n : Nat} : ∀ {xs ys : List D}, belDs n xs = true → belDs n ys = true → belDs n (xs ++ ys) = true
  | [], _, _, h => h
  | x :: xs, ys, h, k => by
    have h' := Bool.and_eq_true_iff.mp (show (belD n x && belDs n xs) = true from h)
    show (belD n x && belDs n (xs ++ ys)) = true
    rw [h'.1, belDs_app h'.2 k]
    rfl
theorem blocks_loop {a b : Int} (bd : D) : ∀ (ps : List (D × List D)) (acc : List D) (x2 : Option D), (∀ q ∈ ps, ∀ acc, belDs 3 acc = true → R 56 15 [q.1] (SB acc a b) = .ok (.lst q.2) (SB acc a b)) → (∀ q ∈ ps, belDs 3 q.2 = true) → belDs 3 acc = true → acc.length + (ps.map (·.2)).flatten.length ≤ line →
    ∃ x2', forL (fun x env1 S2 => match bindT (Tg.nm 2) x env1 with
      | some env2 => exSs (subT T) (R 56) [.aug 1 .add (.fn 15 [.var 2])] env2 S2
      | none => .bad) (ps.map (·.1)) [some bd, some (.ref 2), x2] (SB acc a b) = .nx [some bd, some (.ref 2), x2'] (SB (acc ++ (ps.map (·.2)).flatten) a b)
  | [], acc, x2, _, _, _, _ => ⟨x2, by
    rw [show ((([] : List (D × List D)).map (·.2)).flatten) = [] from rfl, List.append_nil]
    rfl⟩
  | q :: ps, acc, x2, h, hb, ha, hl => by
    rw [List.map_cons, List.flatten_cons, List.length_append] at hl
    have e : exSs (subT T) (R 56) [.aug 1 .add (.fn 15 [.var 2])] [some bd, some (.ref 2), some q.1] (SB acc a b) = .nx [some bd, some (.ref 2), some q.1] (SB (acc ++ q.2) a b) := by
      refine sq ?_
      show (evE (R 56) (.fn 15 [.var 2]) [some bd, some (.ref 2), some q.1] (SB acc a b)).to _ (fun y S1 => (iop .add (.ref 2) y S1).to _ fun z S2 => frL _ fun e2 => RS.nx e2 S2) = _
      rw [ev_fnA (xs := [q.1]) (S1 := SB acc a b) rfl (h q List.mem_cons_self acc ha), R.to_ok]
      have e3 : iop .add (.ref 2) (.lst q.2) (SB acc a b) = .ok (.ref 2) (SB (acc ++ q.2) a b) := by
        show (if acc.length + q.2.length ≤ line then frL (acc ++ q.2) fun r => Mn.R.ok (D.ref 2) ((SB acc a b).put 2 (.lst r)) else .bad) = _
        rw [if_pos (by omega), frL_eq]
        rfl
      rw [e3, R.to_ok, frL_eq]
      rfl
    have hb2 : belDs 3 (acc ++ q.2) = true := belDs_app ha (hb q List.mem_cons_self)
    obtain ⟨x2', e2⟩ := blocks_loop bd ps (acc ++ q.2) (some q.1) (fun r hr => h r (List.mem_cons_of_mem _ hr)) (fun r hr => hb r (List.mem_cons_of_mem _ hr)) hb2 (by rw [List.length_append]; omega)
    refine ⟨x2', ?_⟩
    rw [List.map_cons, List.map_cons, List.flatten_cons, ← List.append_assoc]
    exact (forL_nx (env' := [some bd, some (.ref 2), some q.1]) (S1 := SB (acc ++ q.2) a b) e).trans e2

end Law

namespace Law
open Mn
/-- what is asked of a statement and its orders -/
structure Row (n : D) (o : List D) : Prop where
  st : ∀ a b, R 54 43 [.ref 3, n, .int 1] (SJ a b) = .ok (.bl true) (SJ a b)
  os : ∀ acc a b, belDs 3 acc = true → R 56 15 [n] (SB acc a b) = .ok (.lst o) (SB acc a b)
  b1 : belDs 1 o = true
  b2 : belDs 2 o = true
  b3 : belDs 3 o = true
  inn : ∀ x ∈ o, ∀ S, R 57 6 [x] S = .ok (.lst []) S
  ok : okDs o = true
  dp : dpts o ≤ 20
  sm : smDs o = true
  sh : shLs o ≤ 1000
  ln : o.length ≤ 20
theorem flat_b {n : Nat} : ∀ {ps : List (D × List D)}, (∀ q ∈ ps, belDs n q.2 = true) → belDs n (ps.map (·.2)).flatten = true
  | [], _ => rfl
  | q :: ps, h => by
    rw [List.map_cons, List.flatten_cons]
    exact belDs_app (h q List.mem_cons_self) (flat_b fun r hr => h r (List.mem_cons_of_mem _ hr))
theorem flat_len {m : Nat} : ∀ {ps : List (D × List D)}, (∀ q ∈ ps, q.2.length ≤ m) → (ps.map (·.2)).flatten.length ≤ m * ps.length
  | [], _ => Nat.zero_le _
  | q :: ps, h => by
    rw [List.map_cons, List.flatten_cons, List.length_append, List.length_cons, Nat.mul_succ]
    have h1 := h q List.mem_cons_self
    have h2 := flat_len (ps := ps) fun r hr => h r (List.mem_cons_of_mem _ hr)
    omega
theorem okDs_app : ∀ {xs ys : List D}, okDs xs = true → okDs ys = true → okDs (xs ++ ys) = true
  | [], _, _, h => h
  | x :: xs, ys, h, k => by
    have h' := Bool.and_eq_true_iff.mp (show (okD x && okDs xs) = true from h)
    show (okD x && okDs (xs ++ ys)) = true
    rw [h'.1, okDs_app h'.2 k]
    rfl
theorem dpts_app : ∀ {xs ys : List D} {n : Nat}, dpts xs ≤ n → dpts ys ≤ n → dpts (xs ++ ys) ≤ n
  | [], _, _, _, h => h
  | x :: xs, ys, n, h, k => by
    have h' : max (dpt x) (dpts xs) ≤ n := h
    show max (dpt x) (dpts (xs ++ ys)) ≤ n
    have := dpts_app (xs := xs) (ys := ys) (n := n) (by omega) k
    omega
theorem flat_ok : ∀ {ps : List (D × List D)}, (∀ q ∈ ps, okDs q.2 = true) → okDs (ps.map (·.2)).flatten = true
  | [], _ => rfl
  | q :: ps, h => by
    rw [List.map_cons, List.flatten_cons]
    exact okDs_app (h q List.mem_cons_self) (flat_ok fun r hr => h r (List.mem_cons_of_mem _ hr))
theorem flat_dp {n : Nat} : ∀ {ps : List (D × List D)}, (∀ q ∈ ps, dpts q.2 ≤ n) → dpts (ps.map (·.2)).flatten ≤ n
  | [], _ => Nat.zero_le _
  | q :: ps, h => by
    rw [List.map_cons, List.flatten_cons]
    exact dpts_app (h q List.mem_cons_self) (flat_dp fun r hr => h r (List.mem_cons_of_mem _ hr))
theorem blocks_ok {a b : Int} {ps : List (D × List D)} (h : ∀ q ∈ ps, Row q.1 q.2) (hl : ps.length ≤ 3) : R 57 16 [.tup false (ps.map (·.1))] (SC a b) = .ok (.lst (ps.map (·.2)).flatten) (SC a b) := by
  have hlen := flat_len (m := 20) (ps := ps) fun q hq => (h q hq).ln
  have hline : (ps.map (·.2)).flatten.length ≤ line := by
    show _ ≤ 16777216
    omega
  obtain ⟨x2', e2⟩ := blocks_loop (a := a) (b := b) (.tup false (ps.map (·.1))) ps [] none (fun q hq acc ha => (h q hq).os acc a b ha) (fun q hq => (h q hq).b3) rfl (by rw [List.length_nil]; omega)
  rw [List.nil_append] at e2
  have hb2 : belD 2 (.lst (ps.map (·.2)).flatten) = true := flat_b (ps := ps) fun q hq => (h q hq).b2
  generalize hos : (ps.map (·.2)).flatten = os at e2 hb2 hline
  generalize hns : ps.map (·.1) = ns at e2
  rw [run_at (f := f16) (by decide) rfl]
  have e : exSs (subT T) (R 56) f16.body [some (.tup false ns), none, none] (SC a b) = .rt (.ref 2) (SB os a b) := by
    show exSs (subT T) (R 56) [_, _, _] _ _ = _
    refine (sq (asg_nm (i := 1) (d := .ref 2) (S1 := SB [] a b) (by kernel_rfl) (by simp))).trans ?_
    refine (sq (env1 := [some (.tup false ns), some (.ref 2), x2']) (S1 := SB os a b) ((for_ok (xs := ns) (S1 := SB [] a b) (by kernel_rfl)).trans e2)).trans ?_
    exact sq_rt (ret_ok (by kernel_rfl))
  refine (df_rtF (f := f16) (xs := [.tup false ns]) rfl rfl rfl e).trans ?_
  have o1 : (SB os a b).out (SC a b).next (.ref 2) = .lst os := by kernel_rfl
  have o2 : (SB os a b).trim (SC a b).next true = SC a b := by kernel_rfl
  have o3 : belD (SC a b).next (.lst os) = true := hb2
  rw [o1, o3, o2]
theorem body_ok {a b : Int} {ns os : List D} (h : R 57 16 [.tup false ns] (SC a b) = .ok (.lst os) (SC a b)) (hl : os.length ≤ line) (hb : belDs 2 os = true) : R 58 17 [goD ns] (SC a b) = .ok (.tup false os) (SC a b) := by
  rw [run_at (f := f17) (by decide) rfl]
  have e : exSs (subT T) (R 57) f17.body [some (goD ns), none] (SC a b) = .rt (.tup false os) (SC a b) := by
    show exSs (subT T) (R 57) [_, _] _ _ = _
    refine (sq (asg_nm (i := 1) (d := .lst os) (S1 := SC a b) (ev_fnA (xs := [.tup false ns]) (S1 := SC a b) (by kernel_rfl) h) (by simp))).trans ?_
    refine sq_rt (ret_ok (ev_bi (x := .lst os) (S1 := SC a b) (ev_bin (x := .lst os) (y := .lst []) (S1 := SC a b) (S2 := SC a b) (by kernel_rfl) (by kernel_rfl) ?_) rfl))
    have e := add_lst (S := SC a b) (a := os) (b := []) (by rw [List.length_nil]; omega)
    rw [List.append_nil] at e
    exact e
  refine (df_rtF (f := f17) (xs := [goD ns]) rfl rfl rfl e).trans ?_
  have o1 : (SC a b).out (SC a b).next (.tup false os) = .tup false os := by kernel_rfl
  have o2 : (SC a b).trim (SC a b).next true = SC a b := by kernel_rfl
  have o3 : belD (SC a b).next (.tup false os) = true := hb
  rw [o1, o3, o2]
end Law

namespace Law
open Mn
section
variable {sub : Nat → Nat → Bool} {cl : Calls} {env env1 env' : Env} {S S1 S2 : Sto}
theorem aug_ok {i : Nat} {o : BO} {e : E} {x y z : D} (hx : env[i]? = some (some x)) (he : evE cl e env S = .ok y S1) (hi : iop o x y S1 = .ok z S2) : exS sub cl (.aug i o e) env S = .nx (env.set i (some z)) S2 := by
  show (match env[i]? with
    | some (some x) => (evE cl e env S).to env fun y S1 => (iop o x y S1).to env fun z S2 => frL (env.set i (some z)) fun e2 => RS.nx e2 S2
    | _ => .bad) = _
  rw [hx]
  dsimp only
  rw [he, R.to_ok, hi, R.to_ok, frL_eq]
theorem whl_t {n : Nat} {c : E} {b : List Mn.S} (hc : evE cl c env S = .ok (.bl true) S1) (hb : exSs sub cl b env S1 = .nx env' S2) : exS sub cl (.whl (n + 1) c b) env S = exS sub cl (.whl n c b) env' S2 := by
  show whL (fun env1 S1 => evC cl (some c) env1 S1) (fun env1 S1 => exSs sub cl b env1 S1) (n + 1) env S = whL (fun env1 S1 => evC cl (some c) env1 S1) (fun env1 S1 => exSs sub cl b env1 S1) n env' S2
  have hc2 : evC cl (some c) env S = .ok true S1 := by
    show (evE cl c env S).bind _ = _
    rw [hc]
    rfl
  show (evC cl (some c) env S).to env _ = _
  rw [hc2, R.to_ok]
  dsimp only
  rw [hb]
theorem whl_f {n : Nat} {c : E} {b : List Mn.S} (hc : evE cl c env S = .ok (.bl false) S1) : exS sub cl (.whl (n + 1) c b) env S = .nx env S1 := by
  show whL (fun env1 S1 => evC cl (some c) env1 S1) (fun env1 S1 => exSs sub cl b env1 S1) (n + 1) env S = _
  have hc2 : evC cl (some c) env S = .ok false S1 := by
    show (evE cl c env S).bind _ = _
    rw [hc]
    rfl
  show (evC cl (some c) env S).to env _ = _
  rw [hc2, R.to_ok]
theorem compA_nil {g : D → List D → Sto → Mn.R (List D)} : ∀ {xs acc : List D}, (∀ x ∈ xs, g x acc S = .ok acc S) → compA g xs acc S = .ok acc S
  | [], _, _ => rfl
  | x :: xs, acc, h => by
    show (g x acc S).bind (fun acc1 S1 => compA g xs acc1 S1) = _
    rw [h x List.mem_cons_self, R.bind_ok]
    exact compA_nil fun y hy => h y (List.mem_cons_of_mem _ hy)
theorem comp2_nil {k : Bool} {tg tg1 : Tg} {w w1 : Wt} {it it1 : List E} {elt : E} {own vs1 : List Nat} {xs : List D} (h1 : ((evEs cl it env S).bind fun ws S0 => R.of S0 (walk w ws)) = .ok xs S1)
    (h2 : ∀ x ∈ xs, ∃ env1, bindT tg x (wipeE env own) = some env1 ∧ ((evEs cl it1 env1 S1).bind fun ws S0 => R.of S0 (walk w1 ws)) = .ok [] S1) : evE cl (.comp2 k tg w it none tg1 w1 it1 none elt own vs1) env S = newL k [] S1 := by
  show (evEs cl it env S).bind (fun ws S0 => (R.of S0 (walk w ws)).bind fun xs S1 => (compA (fun x acc S2 => match bindT tg x (wipeE env own) with
      | some env1 => ((Mn.R.ok true S2).bind fun b S3 => match b with
        | true => ((evEs cl it1 env1 S3).bind fun ws1 S4 => R.of S4 (walk w1 ws1)).bind fun ys S5 => compL (fun y S6 => match bindT tg1 y (wipeE env1 vs1) with
          | some env2 => (Mn.R.ok true S6).bind fun b1 S7 => match b1 with
            | true => (evE cl elt env2 S7).bind fun d S8 => .ok (some d) S8
            | false => .ok none S7
          | none => .bad) ys acc S5
        | false => .ok acc S3).nox
      | none => .bad) xs [] S1).bind fun ds S5 => newL k ds S5) = _
  rw [← R.assoc, h1, R.bind_ok, compA_nil, R.bind_ok]
  intro x hx
  obtain ⟨env1, e1, e2⟩ := h2 x hx
  rw [e1]
  dsimp only
  rw [R.bind_ok]
  dsimp only
  rw [e2]
  rfl
end
theorem count_ok {a b : Int} {os : List D} (h : ∀ o ∈ os, ∀ S, R 57 6 [o] S = .ok (.lst []) S) (hok : okDs os = true) (hdp : dpts os ≤ 60) : R 58 18 [.tup false os] (SC a b) = .ok (.int os.length) (SC a b) := by
  rw [run_at (f := f18) (by decide) rfl]
  have e : exSs (subT T) (R 57) f18.body [some (.tup false os), none, none, none, none, none] (SC a b) = .rt (.int os.length) (SB [] a b) := by
    show exSs (subT T) (R 57) [_, _, _] _ _ = _
    refine (sq (env1 := [some (.tup false os), some (.int 0), some (.ref 2), none, none, none]) (S1 := SB [.tup false os] a b) (by kernel_rfl)).trans ?_
    refine (sq (env1 := [some (.tup false os), some (.int (0 + (os.length : Int))), some (.ref 2), some (.tup false os), none, none]) (S1 := SB [] a b) ?_).trans ?_
    · refine (whl_t (n := 99999) (S1 := SB [.tup false os] a b) (env' := [some (.tup false os), some (.int (0 + (os.length : Int))), some (.ref 2), some (.tup false os), none, none]) (S2 := SB [] a b) ?_ ?_).trans (whl_f (n := 99998) (by kernel_rfl))
      · refine ev_cmp (x := .ref 2) (y := .lst []) (S1 := SB [.tup false os] a b) (by kernel_rfl) (by kernel_rfl) ?_
        show (eqOf (.lst [.tup false os]) (.lst [])).map not = some true
        have e1 : (okD (.lst [.tup false os]) && okD (.lst []) && decide (dpt (.lst [.tup false os]) ≤ 64) && decide (dpt (.lst []) ≤ 64)) = true := by
          have q1 : okD (.lst [.tup false os]) = true := by
            show (okDs os && true) = true
            rw [hok]
            rfl
          have q2 : dpt (.lst [.tup false os]) ≤ 64 := by
            show max (dpts os + 1) 0 + 1 ≤ 64
            omega
          rw [q1, decide_eq_true q2]
          rfl
        unfold eqOf
        rw [if_pos e1]
        rfl
      · show exSs (subT T) (R 57) [_, _, _] _ _ = _
        refine (sq (asg_nm (i := 3) (d := .tup false os) (S1 := SB [] a b) (by kernel_rfl) (by simp))).trans ?_
        refine (sq (asg_nm (i := 1) (d := .int (0 + (os.length : Int))) (S1 := SB [] a b) (ev_bin (x := .int 0) (y := .int os.length) (S1 := SB [] a b) (S2 := SB [] a b) (by kernel_rfl) (ev_bi (x := .tup false os) (S1 := SB [] a b) (by kernel_rfl) ?_) add_int) (by simp))).trans ?_
        · show (frN os.length fun n => Mn.R.ok (D.int n) (SB [] a b)) = _
          rw [frN_eq]
        · refine (sq (aug_ok (x := .ref 2) (y := .lst []) (z := .ref 2) (S1 := SB [] a b) (S2 := SB [] a b) rfl ?_ (by kernel_rfl))).trans rfl
          refine (comp2_nil (xs := os) (S1 := SB [] a b) rfl fun x hx => ⟨_, rfl, ?_⟩).trans (by kernel_rfl)
          have e4 := h x hx (SB [] a b)
          have e5 : evEs (R 57) [.fn 6 [.var 4]] ((wipeE ([some (.tup false os), some (.int (0 + (os.length : Int))), some (.ref 2), some (.tup false os), none, none]) [4, 5]).set 4 (some x)) (SB [] a b) = .ok [.lst []] (SB [] a b) := by
            show ((evE (R 57) (.fn 6 [.var 4]) _ (SB [] a b)).bind fun x S1 => (Mn.R.ok [] S1).bind fun xs S2 => .ok (x :: xs) S2) = _
            rw [ev_fnA (xs := [x]) (S1 := SB [] a b) (by kernel_rfl) e4]
            rfl
          exact (congrArg (fun r => Mn.R.bind r fun ws S0 => R.of S0 (walk .of ws)) e5).trans rfl
    · rw [Int.zero_add]
      exact sq_rt (ret_ok (by kernel_rfl))
  exact (df_rtF (f := f18) (xs := [.tup false os]) rfl rfl rfl e).trans (by kernel_rfl)
end Law

namespace Law
open Mn
theorem map_at {α β : Type} {f g : α → β} : ∀ {l : List α}, l.map f = l.map g → ∀ x ∈ l, f x = g x
  | [], _, _, h => by cases h
  | y :: l, e, x, h => by
    rw [List.map_cons, List.map_cons] at e
    injection e with e1 e2
    rcases List.mem_cons.mp h with rfl | h
    · exact e1
    · exact map_at e2 x h
theorem rows_are : rowsD = rowsP.map rowOf := by kernel_rfl
theorem rows_part : ∀ q ∈ rowsP, q ∈ flatP ∨ q ∈ nestP := by
  intro q h
  simp only [rowsP, flatP, nestP, List.mem_cons, List.not_mem_nil, or_false] at h ⊢
  rcases h with h | h | h | h | h | h | h | h | h | h | h | h | h | h | h | h <;> subst h <;> simp
theorem rows_st (a b : Int) : rowsP.map (fun q => R 54 43 [.ref 3, q.n, .int 1] (SJ a b)) = rowsP.map fun _ => .ok (.bl true) (SJ a b) := by kernel_rfl
def chkO (acc : List D) (a b : Int) (n : D) : Option (D × List (Nat × C)) := match exSs (subT T) (R 55) f15.body [some n, none, none, none, none, none, none] (SB acc a b) with
  | .rt d S1 => some (d, trim 3 S1.cs)
  | _ => none
theorem flat_os (acc : List D) (a b : Int) : flatP.map (fun q => chkO acc a b q.n) = flatP.map fun q => some (.lst q.o, (SB acc a b).cs) := by kernel_rfl
theorem nest_os0 (a b : Int) : nestP.map (fun q => chkO [] a b q.n) = nestP.map fun q => some (.lst q.o, (SB [] a b).cs) := by kernel_rfl
theorem nest_os1 (a b : Int) : rowsP.map (fun p => nestP.map fun q => chkO p.o a b q.n) = rowsP.map fun p => nestP.map fun q => some (.lst q.o, (SB p.o a b).cs) := by kernel_rfl
theorem rows_in (S : Sto) : rowsP.map (fun q => q.o.map fun x => R 57 6 [x] S) = rowsP.map fun q => q.o.map fun x => .ok (.lst (innerD x)) S := by kernel_rfl
theorem rows_ii : rowsP.map (fun q => (q.o.map innerD).flatten) = rowsP.map fun q => q.i := by kernel_rfl
theorem rows_b : rowsP.map (fun q => belDs 1 q.o && (belDs 2 q.o && (belDs 3 q.o && (okDs q.o && (decide (dpts q.o ≤ 20) && (smDs q.o && (decide (shLs q.o ≤ 3000) && (decide (q.o.length ≤ 20) && (okDs q.t && (decide (dpts q.t ≤ 20) && (smDs q.t && (decide (shLs q.t ≤ 3000) && (decide (q.t.length ≤ 20) && (D.beqs q.o q.t && decide (q.i.length ≤ 20))))))))))))))) = rowsP.map fun _ => true := by kernel_rfl
/-- the loop of count_orders behind its first turn, to its end -/
def chkW (bd x3 : D) (a b c : Int) (i : List D) : Option Sto := match exSs (subT T) (R 57) (match f18.body with
    | [_, .whl _ e t, r] => [.whl 99999 e t, r]
    | _ => []) [some bd, some (.int c), some (.ref 2), some x3, none, none] (SB i a b) with
  | .rt (.int n) S => if decide (n ≤ 400) then some S else none
  | _ => none
theorem cnt1 (bd x3 : D) (a b : Int) : rowsP.map (fun q => chkW bd x3 a b q.o.length q.i) = rowsP.map fun _ => some (SB [] a b) := by kernel_rfl
theorem cnt2 (bd x3 : D) (a b : Int) : rowsP.map (fun p => rowsP.map fun q => chkW bd x3 a b (p.o.length + q.o.length : Nat) (p.i ++ q.i)) = rowsP.map fun p => rowsP.map fun q => some (SB [] a b) := by kernel_rfl
end Law

namespace Law
open Mn
theorem nest2_0 (a b : Int) : rowsP.map (fun p' => nestP.map fun q => chkO (rw0.o ++ p'.o) a b q.n) = rowsP.map fun p' => nestP.map fun q => some (.lst q.o, (SB (rw0.o ++ p'.o) a b).cs) := by kernel_rfl
theorem cnt3_0 (bd x3 : D) (a b : Int) : rowsP.map (fun p' => rowsP.map fun q => chkW bd x3 a b (rw0.o.length + (p'.o.length + q.o.length) : Nat) (rw0.i ++ (p'.i ++ q.i))) = rowsP.map fun p' => rowsP.map fun q => some (SB [] a b) := by kernel_rfl
end Law

namespace Law
open Mn
theorem nest2_1 (a b : Int) : rowsP.map (fun p' => nestP.map fun q => chkO (rw1.o ++ p'.o) a b q.n) = rowsP.map fun p' => nestP.map fun q => some (.lst q.o, (SB (rw1.o ++ p'.o) a b).cs) := by kernel_rfl
theorem cnt3_1 (bd x3 : D) (a b : Int) : rowsP.map (fun p' => rowsP.map fun q => chkW bd x3 a b (rw1.o.length + (p'.o.length + q.o.length) : Nat) (rw1.i ++ (p'.i ++ q.i))) = rowsP.map fun p' => rowsP.map fun q => some (SB [] a b) := by kernel_rfl
end Law

namespace Law
open Mn
theorem nest2_2 (a b : Int) : rowsP.map (fun p' => nestP.map fun q => chkO (rw2.o ++ p'.o) a b q.n) = rowsP.map fun p' => nestP.map fun q => some (.lst q.o, (SB (rw2.o ++ p'.o) a b).cs) := by kernel_rfl
theorem cnt3_2 (bd x3 : D) (a b : Int) : rowsP.map (fun p' => rowsP.map fun q => chkW bd x3 a b (rw2.o.length + (p'.o.length + q.o.length) : Nat) (rw2.i ++ (p'.i ++ q.i))) = rowsP.map fun p' => rowsP.map fun q => some (SB [] a b) := by kernel_rfl
end Law

namespace Law
open Mn
theorem nest2_3 (a b : Int) : rowsP.map (fun p' => nestP.map fun q => chkO (rw3.o ++ p'.o) a b q.n) = rowsP.map fun p' => nestP.map fun q => some (.lst q.o, (SB (rw3.o ++ p'.o) a b).cs) := by kernel_rfl
theorem cnt3_3 (bd x3 : D) (a b : Int) : rowsP.map (fun p' => rowsP.map fun q => chkW bd x3 a b (rw3.o.length + (p'.o.length + q.o.length) : Nat) (rw3.i ++ (p'.i ++ q.i))) = rowsP.map fun p' => rowsP.map fun q => some (SB [] a b) := by kernel_rfl
end Law

namespace Law
open Mn
theorem nest2_4 (a b : Int) : rowsP.map (fun p' => nestP.map fun q => chkO (rw4.o ++ p'.o) a b q.n) = rowsP.map fun p' => nestP.map fun q => some (.lst q.o, (SB (rw4.o ++ p'.o) a b).cs) := by kernel_rfl
theorem cnt3_4 (bd x3 : D) (a b : Int) : rowsP.map (fun p' => rowsP.map fun q => chkW bd x3 a b (rw4.o.length + (p'.o.length + q.o.length) : Nat) (rw4.i ++ (p'.i ++ q.i))) = rowsP.map fun p' => rowsP.map fun q => some (SB [] a b) := by kernel_rfl
end Law

namespace Law
open Mn
theorem nest2_5 (a b : Int) : rowsP.map (fun p' => nestP.map fun q => chkO (rw5.o ++ p'.o) a b q.n) = rowsP.map fun p' => nestP.map fun q => some (.lst q.o, (SB (rw5.o ++ p'.o) a b).cs) := by kernel_rfl
theorem cnt3_5 (bd x3 : D) (a b : Int) : rowsP.map (fun p' => rowsP.map fun q => chkW bd x3 a b (rw5.o.length + (p'.o.length + q.o.length) : Nat) (rw5.i ++ (p'.i ++ q.i))) = rowsP.map fun p' => rowsP.map fun q => some (SB [] a b) := by kernel_rfl
end Law

namespace Law
open Mn
theorem nest2_6 (a b : Int) : rowsP.map (fun p' => nestP.map fun q => chkO (rw6.o ++ p'.o) a b q.n) = rowsP.map fun p' => nestP.map fun q => some (.lst q.o, (SB (rw6.o ++ p'.o) a b).cs) := by kernel_rfl
theorem cnt3_6 (bd x3 : D) (a b : Int) : rowsP.map (fun p' => rowsP.map fun q => chkW bd x3 a b (rw6.o.length + (p'.o.length + q.o.length) : Nat) (rw6.i ++ (p'.i ++ q.i))) = rowsP.map fun p' => rowsP.map fun q => some (SB [] a b) := by kernel_rfl
end Law

namespace Law
open Mn
theorem nest2_7 (a b : Int) : rowsP.map (fun p' => nestP.map fun q => chkO (rw7.o ++ p'.o) a b q.n) = rowsP.map fun p' => nestP.map fun q => some (.lst q.o, (SB (rw7.o ++ p'.o) a b).cs) := by kernel_rfl
theorem cnt3_7 (bd x3 : D) (a b : Int) : rowsP.map (fun p' => rowsP.map fun q => chkW bd x3 a b (rw7.o.length + (p'.o.length + q.o.length) : Nat) (rw7.i ++ (p'.i ++ q.i))) = rowsP.map fun p' => rowsP.map fun q => some (SB [] a b) := by kernel_rfl
end Law

namespace Law
open Mn
theorem nest2_8 (a b : Int) : rowsP.map (fun p' => nestP.map fun q => chkO (rw8.o ++ p'.o) a b q.n) = rowsP.map fun p' => nestP.map fun q => some (.lst q.o, (SB (rw8.o ++ p'.o) a b).cs) := by kernel_rfl
theorem cnt3_8 (bd x3 : D) (a b : Int) : rowsP.map (fun p' => rowsP.map fun q => chkW bd x3 a b (rw8.o.length + (p'.o.length + q.o.length) : Nat) (rw8.i ++ (p'.i ++ q.i))) = rowsP.map fun p' => rowsP.map fun q => some (SB [] a b) := by kernel_rfl
end Law

namespace Law
open Mn
theorem nest2_9 (a b : Int) : rowsP.map (fun p' => nestP.map fun q => chkO (rw9.o ++ p'.o) a b q.n) = rowsP.map fun p' => nestP.map fun q => some (.lst q.o, (SB (rw9.o ++ p'.o) a b).cs) := by kernel_rfl
theorem cnt3_9 (bd x3 : D) (a b : Int) : rowsP.map (fun p' => rowsP.map fun q => chkW bd x3 a b (rw9.o.length + (p'.o.length + q.o.length) : Nat) (rw9.i ++ (p'.i ++ q.i))) = rowsP.map fun p' => rowsP.map fun q => some (SB [] a b) := by kernel_rfl
end Law

namespace Law
open Mn
theorem nest2_10 (a b : Int) : rowsP.map (fun p' => nestP.map fun q => chkO (rw10.o ++ p'.o) a b q.n) = rowsP.map fun p' => nestP.map fun q => some (.lst q.o, (SB (rw10.o ++ p'.o) a b).cs) := by kernel_rfl
theorem cnt3_10 (bd x3 : D) (a b : Int) : rowsP.map (fun p' => rowsP.map fun q => chkW bd x3 a b (rw10.o.length + (p'.o.length + q.o.length) : Nat) (rw10.i ++ (p'.i ++ q.i))) = rowsP.map fun p' => rowsP.map fun q => some (SB [] a b) := by kernel_rfl
end Law

namespace Law
open Mn
theorem nest2_11 (a b : Int) : rowsP.map (fun p' => nestP.map fun q => chkO (rw11.o ++ p'.o) a b q.n) = rowsP.map fun p' => nestP.map fun q => some (.lst q.o, (SB (rw11.o ++ p'.o) a b).cs) := by kernel_rfl
theorem cnt3_11 (bd x3 : D) (a b : Int) : rowsP.map (fun p' => rowsP.map fun q => chkW bd x3 a b (rw11.o.length + (p'.o.length + q.o.length) : Nat) (rw11.i ++ (p'.i ++ q.i))) = rowsP.map fun p' => rowsP.map fun q => some (SB [] a b) := by kernel_rfl
end Law

namespace Law
open Mn
theorem nest2_12 (a b : Int) : rowsP.map (fun p' => nestP.map fun q => chkO (rw12.o ++ p'.o) a b q.n) = rowsP.map fun p' => nestP.map fun q => some (.lst q.o, (SB (rw12.o ++ p'.o) a b).cs) := by kernel_rfl
theorem cnt3_12 (bd x3 : D) (a b : Int) : rowsP.map (fun p' => rowsP.map fun q => chkW bd x3 a b (rw12.o.length + (p'.o.length + q.o.length) : Nat) (rw12.i ++ (p'.i ++ q.i))) = rowsP.map fun p' => rowsP.map fun q => some (SB [] a b) := by kernel_rfl
end Law

namespace Law
open Mn
theorem nest2_13 (a b : Int) : rowsP.map (fun p' => nestP.map fun q => chkO (rw13.o ++ p'.o) a b q.n) = rowsP.map fun p' => nestP.map fun q => some (.lst q.o, (SB (rw13.o ++ p'.o) a b).cs) := by kernel_rfl
theorem cnt3_13 (bd x3 : D) (a b : Int) : rowsP.map (fun p' => rowsP.map fun q => chkW bd x3 a b (rw13.o.length + (p'.o.length + q.o.length) : Nat) (rw13.i ++ (p'.i ++ q.i))) = rowsP.map fun p' => rowsP.map fun q => some (SB [] a b) := by kernel_rfl
end Law

namespace Law
open Mn
theorem nest2_14 (a b : Int) : rowsP.map (fun p' => nestP.map fun q => chkO (rw14.o ++ p'.o) a b q.n) = rowsP.map fun p' => nestP.map fun q => some (.lst q.o, (SB (rw14.o ++ p'.o) a b).cs) := by kernel_rfl
theorem cnt3_14 (bd x3 : D) (a b : Int) : rowsP.map (fun p' => rowsP.map fun q => chkW bd x3 a b (rw14.o.length + (p'.o.length + q.o.length) : Nat) (rw14.i ++ (p'.i ++ q.i))) = rowsP.map fun p' => rowsP.map fun q => some (SB [] a b) := by kernel_rfl
end Law

namespace Law
open Mn
theorem nest2_15 (a b : Int) : rowsP.map (fun p' => nestP.map fun q => chkO (rw15.o ++ p'.o) a b q.n) = rowsP.map fun p' => nestP.map fun q => some (.lst q.o, (SB (rw15.o ++ p'.o) a b).cs) := by kernel_rfl
theorem cnt3_15 (bd x3 : D) (a b : Int) : rowsP.map (fun p' => rowsP.map fun q => chkW bd x3 a b (rw15.o.length + (p'.o.length + q.o.length) : Nat) (rw15.i ++ (p'.i ++ q.i))) = rowsP.map fun p' => rowsP.map fun q => some (SB [] a b) := by kernel_rfl
end Law

namespace Law
open Mn
theorem nest2 (a b : Int) : ∀ p ∈ rowsP, rowsP.map (fun p' => nestP.map fun q => chkO (p.o ++ p'.o) a b q.n) = rowsP.map fun p' => nestP.map fun q => some (.lst q.o, (SB (p.o ++ p'.o) a b).cs) := by
  intro p h
  simp only [rowsP, List.mem_cons, List.not_mem_nil, or_false] at h
  rcases h with h | h | h | h | h | h | h | h | h | h | h | h | h | h | h | h
  · subst h
    exact nest2_0 a b
  · subst h
    exact nest2_1 a b
  · subst h
    exact nest2_2 a b
  · subst h
    exact nest2_3 a b
  · subst h
    exact nest2_4 a b
  · subst h
    exact nest2_5 a b
  · subst h
    exact nest2_6 a b
  · subst h
    exact nest2_7 a b
  · subst h
    exact nest2_8 a b
  · subst h
    exact nest2_9 a b
  · subst h
    exact nest2_10 a b
  · subst h
    exact nest2_11 a b
  · subst h
    exact nest2_12 a b
  · subst h
    exact nest2_13 a b
  · subst h
    exact nest2_14 a b
  · subst h
    exact nest2_15 a b
theorem cnt3 (bd x3 : D) (a b : Int) : ∀ p ∈ rowsP, rowsP.map (fun p' => rowsP.map fun q => chkW bd x3 a b (p.o.length + (p'.o.length + q.o.length) : Nat) (p.i ++ (p'.i ++ q.i))) = rowsP.map fun p' => rowsP.map fun q => some (SB [] a b) := by
  intro p h
  simp only [rowsP, List.mem_cons, List.not_mem_nil, or_false] at h
  rcases h with h | h | h | h | h | h | h | h | h | h | h | h | h | h | h | h
  · subst h
    exact cnt3_0 bd x3 a b
  · subst h
    exact cnt3_1 bd x3 a b
  · subst h
    exact cnt3_2 bd x3 a b
  · subst h
    exact cnt3_3 bd x3 a b
  · subst h
    exact cnt3_4 bd x3 a b
  · subst h
    exact cnt3_5 bd x3 a b
  · subst h
    exact cnt3_6 bd x3 a b
  · subst h
    exact cnt3_7 bd x3 a b
  · subst h
    exact cnt3_8 bd x3 a b
  · subst h
    exact cnt3_9 bd x3 a b
  · subst h
    exact cnt3_10 bd x3 a b
  · subst h
    exact cnt3_11 bd x3 a b
  · subst h
    exact cnt3_12 bd x3 a b
  · subst h
    exact cnt3_13 bd x3 a b
  · subst h
    exact cnt3_14 bd x3 a b
  · subst h
    exact cnt3_15 bd x3 a b
end Law

namespace Law
open Mn
theorem os_of {acc : List D} {a b : Int} {n : D} {o : List D} (ha : belDs 3 acc = true) (ho : belDs 3 o = true) (h : chkO acc a b n = some (.lst o, (SB acc a b).cs)) : R 56 15 [n] (SB acc a b) = .ok (.lst o) (SB acc a b) := by
  rw [run_at (f := f15) (by decide) rfl]
  unfold chkO at h
  split at h
  · rename_i d S1 e
    injection h with h
    injection h with h1 h2
    subst h1
    refine (df_rtF (f := f15) (xs := [n]) rfl rfl rfl e).trans ?_
    show Mn.R.ok (D.lst o) (S1.trim 3 (belDs 3 o)) = _
    unfold Sto.trim
    rw [ho, h2]
    have e2 : (SB acc a b).cs.all (fun c => belC 3 c.2) = true := by
      show (belDs 3 acc && (belC 3 (.lst pnD) && (belC 3 (.lst [.int a, .int b]) && true))) = true
      rw [ha, show belC 3 (.lst pnD) = true from by kernel_rfl]
      rfl
    rw [e2]
    rfl
  · cases h
/-- what is known of a row -/
structure RwOk (q : Rw) : Prop where
  b1 : belDs 1 q.o = true
  b2 : belDs 2 q.o = true
  b3 : belDs 3 q.o = true
  ok : okDs q.o = true
  dp : dpts q.o ≤ 20
  sm : smDs q.o = true
  sh : shLs q.o ≤ 3000
  ln : q.o.length ≤ 20
  ok' : okDs q.t = true
  dp' : dpts q.t ≤ 20
  sm' : smDs q.t = true
  sh' : shLs q.t ≤ 3000
  ln' : q.t.length ≤ 20
  eq : D.beqs q.o q.t = true
  il : q.i.length ≤ 20
theorem rw_ok {q : Rw} (h : q ∈ rowsP) : RwOk q := by
  have hb := map_at rows_b q h
  simp only [Bool.and_eq_true, decide_eq_true_eq] at hb
  obtain ⟨h1, h2, h3, h4, h5, h6, h7, h8, h9, h10, h11, h12, h13, h14, h15⟩ := hb
  exact ⟨h1, h2, h3, h4, h5, h6, h7, h8, h9, h10, h11, h12, h13, h14, h15⟩
/-- all orders made, told; the bodies -/
abbrev osOf (qs : List Rw) : List D := (qs.map (·.o)).flatten
abbrev tsOf (qs : List Rw) : List D := (qs.map (·.t)).flatten
abbrev isOf (qs : List Rw) : List D := (qs.map (·.i)).flatten
theorem smDs_app : ∀ {xs ys : List D}, smDs xs = true → smDs ys = true → smDs (xs ++ ys) = true
  | [], _, _, h => h
  | x :: xs, ys, h, k => by
    have h' := Bool.and_eq_true_iff.mp (show (smD x && smDs xs) = true from h)
    show (smD x && smDs (xs ++ ys)) = true
    rw [h'.1, smDs_app h'.2 k]
    rfl
theorem shLs_app : ∀ {xs ys : List D}, shLs (xs ++ ys) = shLs xs + shLs ys
  | [], ys => by simp [shLs]
  | x :: xs, ys => by
    show shL x + 2 + shLs (xs ++ ys) = shL x + 2 + shLs xs + shLs ys
    rw [shLs_app]
    omega
theorem beqs_app : ∀ {xs ys zs ws : List D}, D.beqs xs ys = true → D.beqs zs ws = true → D.beqs (xs ++ zs) (ys ++ ws) = true
  | [], [], _, _, _, k => k
  | [], _ :: _, _, _, h, _ => by cases h
  | _ :: _, [], _, _, h, _ => by cases h
  | x :: xs, y :: ys, zs, ws, h, k => by
    have h' := Bool.and_eq_true_iff.mp (show (D.beq x y && D.beqs xs ys) = true from h)
    show (D.beq x y && D.beqs (xs ++ zs) (ys ++ ws)) = true
    rw [h'.1, beqs_app h'.2 k]
    rfl
section
variable {f : Rw → List D}
theorem fl_len {m : Nat} : ∀ {qs : List Rw}, (∀ q ∈ qs, (f q).length ≤ m) → (qs.map f).flatten.length ≤ m * qs.length
  | [], _ => Nat.zero_le _
  | q :: qs, h => by
    rw [List.map_cons, List.flatten_cons, List.length_append, List.length_cons, Nat.mul_succ]
    have h1 := h q List.mem_cons_self
    have h2 := fl_len (qs := qs) fun r hr => h r (List.mem_cons_of_mem _ hr)
    omega
theorem fl_b {n : Nat} : ∀ {qs : List Rw}, (∀ q ∈ qs, belDs n (f q) = true) → belDs n (qs.map f).flatten = true
  | [], _ => rfl
  | q :: qs, h => by
    rw [List.map_cons, List.flatten_cons]
    exact belDs_app (h q List.mem_cons_self) (fl_b fun r hr => h r (List.mem_cons_of_mem _ hr))
theorem fl_ok : ∀ {qs : List Rw}, (∀ q ∈ qs, okDs (f q) = true) → okDs (qs.map f).flatten = true
  | [], _ => rfl
  | q :: qs, h => by
    rw [List.map_cons, List.flatten_cons]
    exact okDs_app (h q List.mem_cons_self) (fl_ok fun r hr => h r (List.mem_cons_of_mem _ hr))
theorem fl_dp {n : Nat} : ∀ {qs : List Rw}, (∀ q ∈ qs, dpts (f q) ≤ n) → dpts (qs.map f).flatten ≤ n
  | [], _ => Nat.zero_le _
  | q :: qs, h => by
    rw [List.map_cons, List.flatten_cons]
    exact dpts_app (h q List.mem_cons_self) (fl_dp fun r hr => h r (List.mem_cons_of_mem _ hr))
theorem fl_sm : ∀ {qs : List Rw}, (∀ q ∈ qs, smDs (f q) = true) → smDs (qs.map f).flatten = true
  | [], _ => rfl
  | q :: qs, h => by
    rw [List.map_cons, List.flatten_cons]
    exact smDs_app (h q List.mem_cons_self) (fl_sm fun r hr => h r (List.mem_cons_of_mem _ hr))
theorem fl_sh {m : Nat} : ∀ {qs : List Rw}, (∀ q ∈ qs, shLs (f q) ≤ m) → shLs (qs.map f).flatten ≤ m * qs.length
  | [], _ => Nat.zero_le _
  | q :: qs, h => by
    rw [List.map_cons, List.flatten_cons, shLs_app, List.length_cons, Nat.mul_succ]
    have h1 := h q List.mem_cons_self
    have h2 := fl_sh (qs := qs) fun r hr => h r (List.mem_cons_of_mem _ hr)
    omega
end
theorem fl_eq : ∀ {qs : List Rw}, (∀ q ∈ qs, D.beqs q.o q.t = true) → D.beqs (osOf qs) (tsOf qs) = true
  | [], _ => rfl
  | q :: qs, h => beqs_app (h q List.mem_cons_self) (fl_eq fun r hr => h r (List.mem_cons_of_mem _ hr))
/-- the orders of a statement behind up to two others -/
theorem os_pre {pre : List Rw} (hp : ∀ p ∈ pre, p ∈ rowsP) (hl : pre.length ≤ 2) {q : Rw} (hq : q ∈ rowsP) (a b : Int) : R 56 15 [q.n] (SB (osOf pre) a b) = .ok (.lst q.o) (SB (osOf pre) a b) := by
  have hb := fl_b (n := 3) (f := fun q => q.o) (qs := pre) fun p h => (rw_ok (hp p h)).b3
  refine os_of hb (rw_ok hq).b3 ?_
  rcases rows_part q hq with h | h
  · exact map_at (flat_os (osOf pre) a b) q h
  · match pre, hp, hl with
    | [], _, _ => exact map_at (nest_os0 a b) q h
    | [p], hp, _ =>
      have e : osOf [p] = p.o := by
        show p.o ++ [] = p.o
        rw [List.append_nil]
      rw [e]
      exact map_at (map_at (nest_os1 a b) p (hp p List.mem_cons_self)) q h
    | [p, p'], hp, _ =>
      have e : osOf [p, p'] = p.o ++ p'.o := by
        show p.o ++ (p'.o ++ []) = _
        rw [List.append_nil]
      rw [e]
      exact map_at (map_at (nest2 a b p (hp p List.mem_cons_self)) p' (hp p' (List.mem_cons_of_mem _ List.mem_cons_self))) q h
    | _ :: _ :: _ :: _, _, hl =>
      exfalso
      simp only [List.length_cons] at hl
      omega
theorem os_snoc (pre : List Rw) (q : Rw) : osOf (pre ++ [q]) = osOf pre ++ q.o := by
  simp [osOf]
theorem blocksR {a b : Int} (bd : D) : ∀ (qs pre : List Rw) (x2 : Option D), (∀ q ∈ qs, q ∈ rowsP) → (∀ p ∈ pre, p ∈ rowsP) → pre.length + qs.length ≤ 3 →
    ∃ x2', forL (fun x env1 S2 => match bindT (Tg.nm 2) x env1 with
      | some env2 => exSs (subT T) (R 56) [.aug 1 .add (.fn 15 [.var 2])] env2 S2
      | none => .bad) (qs.map (·.n)) [some bd, some (.ref 2), x2] (SB (osOf pre) a b) = .nx [some bd, some (.ref 2), x2'] (SB (osOf (pre ++ qs)) a b)
  | [], pre, x2, _, _, _ => ⟨x2, by
    rw [List.append_nil]
    rfl⟩
  | q :: qs, pre, x2, h, hp, hl => by
    rw [List.length_cons] at hl
    have hl1 : (osOf pre).length ≤ 20 * pre.length := fl_len (m := 20) (f := fun q => q.o) (qs := pre) fun p h => (rw_ok (hp p h)).ln
    have hl2 := (rw_ok (h q List.mem_cons_self)).ln
    have e : exSs (subT T) (R 56) [.aug 1 .add (.fn 15 [.var 2])] [some bd, some (.ref 2), some q.n] (SB (osOf pre) a b) = .nx [some bd, some (.ref 2), some q.n] (SB (osOf (pre ++ [q])) a b) := by
      have hsum : (osOf pre).length + q.o.length ≤ line := by
        show _ ≤ 16777216
        have : 20 * pre.length ≤ 60 := by omega
        omega
      have e3 : iop .add (.ref 2) (.lst q.o) (SB (osOf pre) a b) = .ok (.ref 2) (SB (osOf (pre ++ [q])) a b) := by
        rw [os_snoc]
        show (if (osOf pre).length + q.o.length ≤ line then frL (osOf pre ++ q.o) fun r => Mn.R.ok (D.ref 2) ((SB (osOf pre) a b).put 2 (.lst r)) else .bad) = _
        rw [if_pos hsum, frL_eq]
        rfl
      refine (sq (aug_ok (x := .ref 2) (y := .lst q.o) (z := .ref 2) (S1 := SB (osOf pre) a b) (S2 := SB (osOf (pre ++ [q])) a b) rfl (ev_fnA (xs := [q.n]) (S1 := SB (osOf pre) a b) rfl (os_pre hp (by omega) (h q List.mem_cons_self) a b)) e3)).trans rfl
    obtain ⟨x2', e2⟩ := blocksR (a := a) (b := b) bd qs (pre ++ [q]) (some q.n) (fun r hr => h r (List.mem_cons_of_mem _ hr)) (fun r hr => by
      rcases List.mem_append.mp hr with hr | hr
      · exact hp r hr
      · rw [List.mem_singleton.mp hr]
        exact h q List.mem_cons_self) (by rw [List.length_append]; show pre.length + 1 + qs.length ≤ 3; omega)
    rw [List.append_assoc] at e2
    exact ⟨x2', (forL_nx (env' := [some bd, some (.ref 2), some q.n]) (S1 := SB (osOf (pre ++ [q])) a b) e).trans e2⟩
theorem blocks28 {a b : Int} {qs : List Rw} (h : ∀ q ∈ qs, q ∈ rowsP) (hl : qs.length ≤ 3) : R 57 16 [.tup false (qs.map (·.n))] (SC a b) = .ok (.lst (osOf qs)) (SC a b) := by
  obtain ⟨x2', e2⟩ := blocksR (a := a) (b := b) (.tup false (qs.map (·.n))) qs [] none h (fun _ h => by cases h) (by rw [List.length_nil]; omega)
  rw [List.nil_append] at e2
  have e2 : forL _ _ _ (SB [] a b) = _ := e2
  have hb2 : belD 2 (.lst (osOf qs)) = true := fl_b (n := 2) (f := fun q => q.o) (qs := qs) fun q hq => (rw_ok (h q hq)).b2
  generalize hos : osOf qs = os at e2 hb2
  generalize hns : qs.map (·.n) = ns at e2
  rw [run_at (f := f16) (by decide) rfl]
  have e : exSs (subT T) (R 56) f16.body [some (.tup false ns), none, none] (SC a b) = .rt (.ref 2) (SB os a b) := by
    show exSs (subT T) (R 56) [_, _, _] _ _ = _
    refine (sq (asg_nm (i := 1) (d := .ref 2) (S1 := SB [] a b) (by kernel_rfl) (by simp))).trans ?_
    refine (sq (env1 := [some (.tup false ns), some (.ref 2), x2']) (S1 := SB os a b) ((for_ok (xs := ns) (S1 := SB [] a b) (by kernel_rfl)).trans e2)).trans ?_
    exact sq_rt (ret_ok (by kernel_rfl))
  refine (df_rtF (f := f16) (xs := [.tup false ns]) rfl rfl rfl e).trans ?_
  have o1 : (SB os a b).out (SC a b).next (.ref 2) = .lst os := by kernel_rfl
  have o2 : (SB os a b).trim (SC a b).next true = SC a b := by kernel_rfl
  have o3 : belD (SC a b).next (.lst os) = true := hb2
  rw [o1, o3, o2]
section
variable {sub : Nat → Nat → Bool} {cl : Calls} {env env1 env' : Env} {S S1 S2 : Sto}
theorem compA_app {g : D → List D → Sto → Mn.R (List D)} {f : D → List D} : ∀ {xs acc : List D}, (∀ x ∈ xs, ∀ acc : List D, acc.length + (f x).length ≤ 2000 → g x acc S = .ok (acc ++ f x) S) → acc.length + (xs.map f).flatten.length ≤ 2000 → compA g xs acc S = .ok (acc ++ (xs.map f).flatten) S
  | [], acc, _, _ => by
    show Mn.R.ok acc S = Mn.R.ok (acc ++ []) S
    rw [List.append_nil]
  | x :: xs, acc, h, hl => by
    rw [List.map_cons, List.flatten_cons, List.length_append] at hl
    show (g x acc S).bind (fun acc1 S1 => compA g xs acc1 S1) = _
    rw [h x List.mem_cons_self acc (by omega), R.bind_ok, compA_app (fun y hy => h y (List.mem_cons_of_mem _ hy)) (by rw [List.length_append]; omega), List.map_cons, List.flatten_cons, List.append_assoc]
theorem comp2_app {tg tg1 : Tg} {w w1 : Wt} {it it1 : List E} {elt : E} {own vs1 : List Nat} {xs : List D} {f : D → List D} (h1 : ((evEs cl it env S).bind fun ws S0 => R.of S0 (walk w ws)) = .ok xs S1)
    (h2 : ∀ x ∈ xs, ∃ env1, bindT tg x (wipeE env own) = some env1 ∧ ((evEs cl it1 env1 S1).bind fun ws S0 => R.of S0 (walk w1 ws)) = .ok (f x) S1 ∧ ∀ y ∈ f x, ∃ env2, bindT tg1 y (wipeE env1 vs1) = some env2 ∧ evE cl elt env2 S1 = .ok y S1) (hl : (xs.map f).flatten.length ≤ 2000) :
    evE cl (.comp2 false tg w it none tg1 w1 it1 none elt own vs1) env S = .ok (.lst (xs.map f).flatten) S1 := by
  show (evEs cl it env S).bind (fun ws S0 => (R.of S0 (walk w ws)).bind fun xs S1 => (compA (fun x acc S2 => match bindT tg x (wipeE env own) with
      | some env1 => ((Mn.R.ok true S2).bind fun b S3 => match b with
        | true => ((evEs cl it1 env1 S3).bind fun ws1 S4 => R.of S4 (walk w1 ws1)).bind fun ys S5 => compL (fun y S6 => match bindT tg1 y (wipeE env1 vs1) with
          | some env2 => (Mn.R.ok true S6).bind fun b1 S7 => match b1 with
            | true => (evE cl elt env2 S7).bind fun d S8 => .ok (some d) S8
            | false => .ok none S7
          | none => .bad) ys acc S5
        | false => .ok acc S3).nox
      | none => .bad) xs [] S1).bind fun ds S5 => newL false ds S5) = _
  rw [← R.assoc, h1, R.bind_ok, compA_app (f := f) ?_ (by rw [List.length_nil]; omega), R.bind_ok, List.nil_append, newL_ok (by show _ ≤ 16777216; omega)]
  intro x hx acc hlen
  obtain ⟨env1, e1, e2, e3⟩ := h2 x hx
  rw [e1]
  dsimp only
  rw [R.bind_ok]
  dsimp only
  rw [e2, R.bind_ok]
  have e4 := compL_pure (S := S1) (f := fun y S6 => match bindT tg1 y (wipeE env1 vs1) with
      | some env2 => (Mn.R.ok true S6).bind fun b1 S7 => match b1 with
        | true => (evE cl elt env2 S7).bind fun d S8 => .ok (some d) S8
        | false => .ok none S7
      | none => .bad) (g := id) (f x) acc (fun y hy => by
    obtain ⟨env2, k1, k2⟩ := e3 y hy
    rw [k1]
    dsimp only
    rw [R.bind_ok]
    dsimp only
    rw [k2]
    rfl) (by show _ ≤ 16777216; omega)
  rw [List.map_id] at e4
  rw [e4]
  rfl
end
theorem inn_flat : ∀ {qs : List Rw}, (∀ q ∈ qs, q ∈ rowsP) → ((osOf qs).map innerD).flatten = isOf qs
  | [], _ => rfl
  | q :: qs, h => by
    have e := map_at rows_ii q (h q List.mem_cons_self)
    show ((q.o ++ osOf qs).map innerD).flatten = q.i ++ isOf qs
    rw [List.map_append, List.flatten_append, e, inn_flat fun r hr => h r (List.mem_cons_of_mem _ hr)]
theorem chkW_ok {bd x3 : D} {a b c : Int} {i : List D} {S : Sto} (h : chkW bd x3 a b c i = some S) : ∃ n : Int, n ≤ 400 ∧ exSs (subT T) (R 57) (match f18.body with
    | [_, .whl _ e t, r] => [.whl 99999 e t, r]
    | _ => []) [some bd, some (.int c), some (.ref 2), some x3, none, none] (SB i a b) = .rt (.int n) S := by
  unfold chkW at h
  split at h
  · rename_i n S' e
    split at h
    · rename_i hn
      injection h with h
      subst h
      exact ⟨n, of_decide_eq_true hn, e⟩
    · cases h
  · cases h
theorem cnt_all {qs : List Rw} (h : ∀ q ∈ qs, q ∈ rowsP) (h0 : qs ≠ []) (hl : qs.length ≤ 3) (bd x3 : D) (a b : Int) : chkW bd x3 a b ((osOf qs).length : Nat) (isOf qs) = some (SB [] a b) := by
  match qs, h, h0, hl with
  | [], _, h0, _ => exact absurd rfl h0
  | [p], h, _, _ =>
    have e : osOf [p] = p.o := List.append_nil _
    have e2 : isOf [p] = p.i := List.append_nil _
    rw [e, e2]
    exact map_at (cnt1 bd x3 a b) p (h p List.mem_cons_self)
  | [p, q], h, _, _ =>
    have e : osOf [p, q] = p.o ++ q.o := by
      show p.o ++ (q.o ++ []) = _
      rw [List.append_nil]
    have e2 : isOf [p, q] = p.i ++ q.i := by
      show p.i ++ (q.i ++ []) = _
      rw [List.append_nil]
    rw [e, e2, List.length_append]
    exact map_at (map_at (cnt2 bd x3 a b) p (h p List.mem_cons_self)) q (h q (List.mem_cons_of_mem _ List.mem_cons_self))
  | [p, q, r], h, _, _ =>
    have e : osOf [p, q, r] = p.o ++ (q.o ++ r.o) := by
      show p.o ++ (q.o ++ (r.o ++ [])) = _
      rw [List.append_nil]
    have e2 : isOf [p, q, r] = p.i ++ (q.i ++ r.i) := by
      show p.i ++ (q.i ++ (r.i ++ [])) = _
      rw [List.append_nil]
    rw [e, e2, List.length_append, List.length_append]
    exact map_at (map_at (cnt3 bd x3 a b p (h p List.mem_cons_self)) q (h q (List.mem_cons_of_mem _ List.mem_cons_self))) r (h r (List.mem_cons_of_mem _ (List.mem_cons_of_mem _ List.mem_cons_self)))
  | _ :: _ :: _ :: _ :: _, _, _, hl =>
    exfalso
    simp only [List.length_cons] at hl
    omega
theorem inn_of {qs : List Rw} (h : ∀ q ∈ qs, q ∈ rowsP) (S : Sto) : ∀ x ∈ osOf qs, R 57 6 [x] S = .ok (.lst (innerD x)) S := by
  intro x hx
  obtain ⟨l, hl1, hx⟩ := List.mem_flatten.mp hx
  obtain ⟨q, hq, rfl⟩ := List.mem_map.mp hl1
  exact map_at (map_at (rows_in S) q (h q hq)) x hx
theorem count28 {a b : Int} {qs : List Rw} (h : ∀ q ∈ qs, q ∈ rowsP) (h0 : qs ≠ []) (hl : qs.length ≤ 3) : ∃ n : Int, n ≤ 400 ∧ R 58 18 [.tup false (osOf qs)] (SC a b) = .ok (.int n) (SC a b) := by
  have hok : okDs (osOf qs) = true := fl_ok (f := fun q => q.o) (qs := qs) fun q hq => (rw_ok (h q hq)).ok
  have hdp : dpts (osOf qs) ≤ 20 := fl_dp (f := fun q => q.o) (n := 20) (qs := qs) fun q hq => (rw_ok (h q hq)).dp
  have hil := fl_len (f := fun q => q.i) (m := 20) (qs := qs) fun q hq => (rw_ok (h q hq)).il
  obtain ⟨n, hn, ew⟩ := chkW_ok (cnt_all h h0 hl (.tup false (osOf qs)) (.tup false (osOf qs)) a b)
  have inn := inn_of h (SB [] a b)
  have hfl := inn_flat h
  have hil : (isOf qs).length ≤ 60 := by
    have : 20 * qs.length ≤ 60 := by omega
    exact Nat.le_trans hil this
  generalize hos : osOf qs = os at ew inn hfl hok hdp
  generalize his : isOf qs = is at ew hfl hil
  refine ⟨n, hn, ?_⟩
  rw [run_at (f := f18) (by decide) rfl]
  have e : exSs (subT T) (R 57) f18.body [some (.tup false os), none, none, none, none, none] (SC a b) = .rt (.int n) (SB [] a b) := by
    show exSs (subT T) (R 57) [_, .whl 100000 _ _, _] _ _ = _
    refine (sq (env1 := [some (.tup false os), some (.int 0), some (.ref 2), none, none, none]) (S1 := SB [.tup false os] a b) (by kernel_rfl)).trans ?_
    refine Eq.trans ?_ ew
    show (exS (subT T) (R 57) (.whl 100000 _ _) _ _).bind _ = (exS (subT T) (R 57) (.whl 99999 _ _) _ _).bind _
    rw [whl_t (n := 99999) (S1 := SB [.tup false os] a b) (env' := [some (.tup false os), some (.int (os.length : Int)), some (.ref 2), some (.tup false os), none, none]) (S2 := SB is a b) ?_ ?_]
    · refine ev_cmp (x := .ref 2) (y := .lst []) (S1 := SB [.tup false os] a b) (by kernel_rfl) (by kernel_rfl) ?_
      show (eqOf (.lst [.tup false os]) (.lst [])).map not = some true
      have e1 : (okD (.lst [.tup false os]) && okD (.lst []) && decide (dpt (.lst [.tup false os]) ≤ 64) && decide (dpt (.lst []) ≤ 64)) = true := by
        have q1 : okD (.lst [.tup false os]) = true := by
          show (okDs os && true) = true
          rw [hok]
          rfl
        have q2 : dpt (.lst [.tup false os]) ≤ 64 := by
          show max (dpts os + 1) 0 + 1 ≤ 64
          omega
        rw [q1, decide_eq_true q2]
        rfl
      unfold eqOf
      rw [if_pos e1]
      rfl
    · show exSs (subT T) (R 57) [_, _, _] _ _ = _
      refine (sq (asg_nm (i := 3) (d := .tup false os) (S1 := SB [] a b) (by kernel_rfl) (by simp))).trans ?_
      refine (sq (asg_nm (i := 1) (d := .int (os.length : Int)) (S1 := SB [] a b) (ev_bin (x := .int 0) (y := .int os.length) (S1 := SB [] a b) (S2 := SB [] a b) (by kernel_rfl) (ev_bi (x := .tup false os) (S1 := SB [] a b) (by kernel_rfl) ?_) ?_) (by simp))).trans ?_
      · show (frN os.length fun n => Mn.R.ok (D.int n) (SB [] a b)) = _
        rw [frN_eq]
      · have e9 := add_int (S := SB [] a b) (a := 0) (b := (os.length : Int))
        rw [Int.zero_add] at e9
        exact e9
      · refine (sq (aug_ok (x := .ref 2) (y := .lst is) (z := .ref 2) (S1 := SB [] a b) (S2 := SB is a b) rfl ?_ ?_)).trans rfl
        · have c := comp2_app (cl := R 57) (tg := .nm 4) (tg1 := .nm 5) (w := .of) (w1 := .of) (it := [.var 3]) (it1 := [.fn 6 [.var 4]]) (elt := .var 5) (own := [4, 5]) (vs1 := [5]) (env := [some (.tup false os), some (.int (os.length : Int)), some (.ref 2), some (.tup false os), none, none]) (S := SB [] a b) (S1 := SB [] a b) (xs := os) (f := innerD) rfl (fun x hx => by
            refine ⟨[some (.tup false os), some (.int (os.length : Int)), some (.ref 2), some (.tup false os), some x, none], by kernel_rfl, ?_, fun y hy => ⟨[some (.tup false os), some (.int (os.length : Int)), some (.ref 2), some (.tup false os), some x, some y], by kernel_rfl, by kernel_rfl⟩⟩
            have e5 : evEs (R 57) [.fn 6 [.var 4]] [some (.tup false os), some (.int (os.length : Int)), some (.ref 2), some (.tup false os), some x, none] (SB [] a b) = .ok [.lst (innerD x)] (SB [] a b) := by
              show ((evE (R 57) (.fn 6 [.var 4]) _ (SB [] a b)).bind fun x S1 => (Mn.R.ok [] S1).bind fun xs S2 => .ok (x :: xs) S2) = _
              rw [ev_fnA (xs := [x]) (S1 := SB [] a b) (by kernel_rfl) (inn x hx)]
              rfl
            exact (congrArg (fun r => Mn.R.bind r fun ws S0 => R.of S0 (walk .of ws)) e5).trans rfl) (by rw [hfl]; omega)
          rw [hfl] at c
          exact c
        · show (if ([] : List D).length + is.length ≤ line then frL ([] ++ is) fun r => Mn.R.ok (D.ref 2) ((SB [] a b).put 2 (.lst r)) else .bad) = _
          rw [if_pos (by show 0 + is.length ≤ 16777216; omega), frL_eq]
          rfl
  exact (df_rtF (f := f18) (xs := [.tup false os]) rfl rfl rfl e).trans (by kernel_rfl)
end Law

namespace Law
open Mn
theorem compiled28 {a b : Int} {qs : List Rw} (h : ∀ q ∈ qs, q ∈ rowsP) (h0 : qs ≠ []) (hl : qs.length ≤ 3) : R 59 20 [judgedD (qs.map (·.n))] (S0 a b) = .ok (toldD (osOf qs)) (S0 a b) := by
  have hlen : (osOf qs).length ≤ 20 * qs.length := fl_len (m := 20) (f := fun q => q.o) fun q hq => (rw_ok (h q hq)).ln
  have hline : (osOf qs).length ≤ line := by
    show _ ≤ 16777216
    omega
  have hnl : (qs.map (·.n)).length ≤ line := by
    rw [List.length_map]
    show _ ≤ 16777216
    omega
  have need := need_ok (fits_ok (isblock_ok (a := a) (b := b) (ns := qs.map (·.n)) (fun n hn => by
    obtain ⟨q, hq, rfl⟩ := List.mem_map.mp hn
    exact map_at (rows_st a b) q (h q hq)) hnl))
  have body := body_ok (blocks28 (a := a) (b := b) h hl) hline (fl_b (n := 2) (f := fun q => q.o) fun q hq => (rw_ok (h q hq)).b2)
  obtain ⟨n, hn, cnt⟩ := count28 (a := a) (b := b) h h0 hl
  have hb1 : belDs 1 (osOf qs) = true := fl_b (n := 1) (f := fun q => q.o) fun q hq => (rw_ok (h q hq)).b1
  generalize hos : osOf qs = os at body cnt hb1 hline hlen
  generalize hns : qs.map (·.n) = ns at need body
  rw [run_at (f := f20) (by decide) rfl]
  have e : exSs (subT T) (R 58) f20.body [some (judgedD ns), none, none, none, none] (S0 a b) = .rt (toldD os) ⟨2, [(1, .lst (pnD ++ [goC os])), (0, .lst [.int a, .int b])]⟩ := by
    show exSs (subT T) (R 58) [_, _, _, _] _ _ = _
    refine (sq (ex_ok (ev_fnA (xs := [judgedD ns]) (S1 := S0 a b) (by kernel_rfl) need))).trans ?_
    refine (sq (asg_nm (i := 1) (d := .ref 1) (S1 := ⟨2, [(1, .lst []), (0, .lst [.int a, .int b])]⟩) (by kernel_rfl) (by simp))).trans ?_
    refine (sq (env1 := [some (judgedD ns), some (.ref 1), some (.int 2), some (goD ns), some (.tup false os)]) (S1 := ⟨2, [(1, .lst (pnD ++ [goC os])), (0, .lst [.int a, .int b])]⟩) ?_).trans (sq_rt (ret_ok (by kernel_rfl)))
    refine (for_ok (xs := [.tup false [.int 0, plusD], .tup false [.int 1, nothD], .tup false [.int 2, goD ns]]) (S1 := ⟨2, [(1, .lst []), (0, .lst [.int a, .int b])]⟩) (by kernel_rfl)).trans ?_
    refine (forL_b (env2 := [some (judgedD ns), some (.ref 1), some (.int 0), some plusD, none]) (env' := [some (judgedD ns), some (.ref 1), some (.int 0), some plusD, some (.tup false [.tup true [.str [108, 111, 97, 100], .int 0], .tup true [.str [108, 111, 97, 100], .int 1], .tup true [.str [97, 100, 100]]])]) (S1 := ⟨2, [(1, .lst (pnD.take 1)), (0, .lst [.int a, .int b])]⟩) (by kernel_rfl) (by kernel_rfl)).trans ?_
    refine (forL_b (env2 := [some (judgedD ns), some (.ref 1), some (.int 1), some nothD, some (.tup false [.tup true [.str [108, 111, 97, 100], .int 0], .tup true [.str [108, 111, 97, 100], .int 1], .tup true [.str [97, 100, 100]]])]) (env' := [some (judgedD ns), some (.ref 1), some (.int 1), some nothD, some (.tup false [])]) (S1 := SC a b) (by kernel_rfl) (by kernel_rfl)).trans ?_
    refine (forL_b (env2 := [some (judgedD ns), some (.ref 1), some (.int 2), some (goD ns), some (.tup false [])]) (env' := [some (judgedD ns), some (.ref 1), some (.int 2), some (goD ns), some (.tup false os)]) (S1 := ⟨2, [(1, .lst (pnD ++ [goC os])), (0, .lst [.int a, .int b])]⟩) (by kernel_rfl) ?_).trans rfl
    refine (sq (asg_nm (i := 4) (d := .tup false os) (S1 := SC a b) (ev_fnA (xs := [goD ns]) (S1 := SC a b) (by kernel_rfl) body) (by simp))).trans ?_
    refine (sq ((ifs_f (S1 := SC a b) (ev_cmp (x := .int n) (y := .int 400) (S1 := SC a b) (S2 := SC a b) (ev_fnA (xs := [.tup false os]) (S1 := SC a b) (by kernel_rfl) cnt) (by kernel_rfl) ?_)).trans rfl)).trans ?_
    · show some (decide ((400 : Int) < n)) = some false
      rw [decide_eq_false (by omega)]
    · exact (sq (env1 := [some (judgedD ns), some (.ref 1), some (.int 2), some (goD ns), some (.tup false os)]) (S1 := ⟨2, [(1, .lst (pnD ++ [goC os])), (0, .lst [.int a, .int b])]⟩) (by kernel_rfl)).trans rfl
  refine (df_rtF (f := f20) (xs := [judgedD ns]) rfl rfl rfl e).trans ?_
  have o1 : ({ next := 2, cs := [(1, .lst (pnD ++ [goC os])), (0, .lst [.int a, .int b])] } : Sto).out (S0 a b).next (toldD os) = toldD os := by kernel_rfl
  have o2 : ({ next := 2, cs := [(1, .lst (pnD ++ [goC os])), (0, .lst [.int a, .int b])] } : Sto).trim (S0 a b).next true = S0 a b := by kernel_rfl
  have o3 : belD (S0 a b).next (toldD os) = true := by
    show belD 1 (toldD os) = true
    simp [toldD, goC, pnD, entsD, belD, belDs, hb1]
  rw [o1, o3, o2]
/-- what go's contract must be -/
def dueC (os : List D) : D := .tup true [.str [103, 111], .tup true [.str [110, 117, 109]], .non, .tup true [.str [110, 117, 109], .str [116, 114, 117, 116, 104], .str [110, 97, 109, 101]], .tup false os]
theorem same_go {os ts : List D} (h : D.beqs os ts = true) : D.beq (goC os) (dueC ts) = true := by
  simp [goC, dueC, D.beq, D.beqs, h]
theorem due_shw {os : List D} (h1 : okDs os = true) (h2 : dpts os ≤ 20) (h3 : smDs os = true) (h4 : shLs os ≤ 10000) : shwD (dueC os) = true := by
  have a1 : okD (dueC os) = true := by simp [dueC, okD, okDs, h1]
  have a2 : smD (dueC os) = true := by
    show (true && (true && (true && (true && (smDs os && true))))) = true
    rw [h3]
    rfl
  have a3 : dpt (dueC os) ≤ 64 := by
    have e : dpt (dueC os) = (max 0 (max (dpt (.tup true [.str [110, 117, 109]])) (max 0 (max (dpt (.tup true [.str [110, 117, 109], .str [116, 114, 117, 116, 104], .str [110, 97, 109, 101]])) (max (dpts os + 1) 0))))) + 1 := rfl
    have e4 : dpt (.tup true [.str [110, 117, 109]]) ≤ 5 := by decide +kernel
    have e5 : dpt (.tup true [.str [110, 117, 109], .str [116, 114, 117, 116, 104], .str [110, 97, 109, 101]]) ≤ 5 := by decide +kernel
    rw [e]
    omega
  have a4 : shL (dueC os) ≤ 16777216 := by
    have e2 : shL (dueC os) = (shL (.str [103, 111]) + 2 + (shL (.tup true [.str [110, 117, 109]]) + 2 + (shL .non + 2 + (shL (.tup true [.str [110, 117, 109], .str [116, 114, 117, 116, 104], .str [110, 97, 109, 101]]) + 2 + (shLs os + 4 + 2 + 0))))) + 4 := rfl
    have c3 : shL (.str [103, 111]) ≤ 1000 := by decide +kernel
    have c4 : shL (.tup true [.str [110, 117, 109]]) ≤ 1000 := by decide +kernel
    have c5 : shL .non ≤ 1000 := by decide +kernel
    have c6 : shL (.tup true [.str [110, 117, 109], .str [116, 114, 117, 116, 104], .str [110, 97, 109, 101]]) ≤ 1000 := by decide +kernel
    rw [e2]
    omega
  unfold shwD
  rw [a1, a2, decide_eq_true a3, decide_eq_true a4]
  rfl
theorem go_shw {os : List D} (h1 : okDs os = true) (h2 : dpts os ≤ 20) (h3 : smDs os = true) (h4 : shLs os ≤ 10000) : shwD (goC os) = true := by
  have t := due_shw h1 h2 h3 h4
  have e1 : okD (goC os) = okD (dueC os) := rfl
  have e2 : smD (goC os) = smD (dueC os) := rfl
  have e3 : dpt (goC os) = dpt (dueC os) := rfl
  have e4 : shL (goC os) = shL (dueC os) := rfl
  unfold shwD at t ⊢
  rw [e1, e2, e3, e4]
  exact t
section
variable {sub : Nat → Nat → Bool} {cl : Calls} {env env1 env' : Env} {S S1 S2 : Sto}
theorem ev_ix {e1 e2 : E} {x y d : D} (h : evE cl e1 env S = .ok x S1) (h2 : evE cl e2 env S1 = .ok y S2) (h3 : ixf x y S2 = some d) : evE cl (.ix e1 e2) env S = .ok d S2 := by
  show (evE cl e1 env S).bind (fun x S1 => (evE cl e2 env S1).bind fun y S2 => R.of S2 (ixf x y S2)) = _
  rw [h, R.bind_ok, h2, R.bind_ok, h3]
  rfl
end
theorem around_ok {a b : Int} (bs : List D) : R 59 26 [.tup false bs] (S0 a b) = .ok (judgedD bs) (S0 a b) := by kernel_rfl
theorem rows_ok (a b : Int) : R 59 27 [] (S0 a b) = .ok (.lst rowsD) (S0 a b) := by kernel_rfl
/-- the bounds of a cup -/
def Ab (a b : Int) : Prop := 0 ≤ a ∧ 0 ≤ b ∧ b < 2147483648
theorem roll_at {a b : Int} (h : Ab a b) {k : Nat} {many : Int} (h1 : 0 < many) (h2 : many < 1073741824) : ∃ r a' b', R (k + 1) 22 [.ref 0, .int many] (S0 a b) = .ok (.int r) (S0 a' b') ∧ 0 ≤ r ∧ r < many ∧ Ab a' b' := by
  obtain ⟨r, a', b', e, r0, r1, q⟩ := roll0 (sub := subT T) (cl := R k) h.1 h.2.1 h.2.2 h1 h2
  exact ⟨r, a', b', (run_at (f := f22) (by decide) rfl).trans e, r0, r1, q⟩
theorem some_at {a b : Int} (h : Ab a b) : ∃ q a' b', q ∈ rowsP ∧ R 59 23 [.ref 0, .lst rowsD] (S0 a b) = .ok (rowOf q) (S0 a' b') ∧ Ab a' b' := by
  obtain ⟨r, a', b', e, r0, r1, q⟩ := roll_at (k := 57) h (many := 16) (by decide) (by decide)
  have hl : r.toNat < rowsP.length := by
    have : rowsP.length = 16 := by kernel_rfl
    omega
  refine ⟨rowsP[r.toNat], a', b', List.getElem_mem hl, ?_, q⟩
  rw [run_at (f := f23) (by decide) rfl]
  refine df_rt rfl rfl ?_
  show exSs (subT T) (R 58) [_] [some (.ref 0), some (.lst rowsD)] _ = _
  refine sq_rt (ret_ok (ev_ix (x := .lst rowsD) (y := .int r) (S1 := S0 a b) (S2 := S0 a' b') rfl (ev_fnA (xs := [.ref 0, .int 16]) (S1 := S0 a b) (by kernel_rfl) e) ?_))
  show nth rowsD r = some _
  unfold nth
  rw [if_pos r0, rows_are, List.getElem?_map, List.getElem?_eq_getElem hl]
  rfl
section
variable {ns : List Int}
/-- the slots of the law -/
abbrev envL (ns : List Int) (x3 x4 x5 x6 x7 x8 x9 : Option D) : Env := [some (.scr ns), some (.ref 0), some (.lst rowsD), x3, x4, x5, x6, x7, x8, x9]
abbrev drawE : E := .comp false (.nm 9) .rng1 [.bin .add (.lit (.int 1)) (.fn 22 [.var 1, .lit (.int 3)])] none (.fn 23 [.var 1, .var 2]) [9]
/-- one row is drawn -/
abbrev drawF (env : Env) : D → Sto → Mn.R (Option D) := fun x S2 => match bindT (.nm 9) x (wipeE env [9]) with
      | some env' => ((evC (R 59) none env' S2).bind fun b S3 => match b with
        | true => (evE (R 59) (.fn 23 [.var 1, .var 2]) env' S3).bind fun d S4 => .ok (some d) S4
        | false => .ok none S3).nox
      | none => .bad
theorem draw_some {x3 x4 x5 x6 x7 x8 x9 : Option D} : ∀ (xs : List D) (qs : List Rw) {a b : Int}, Ab a b → (∀ q ∈ qs, q ∈ rowsP) → qs.length + xs.length ≤ 1000 → ∃ (rs : List Rw) (a' b' : Int), (∀ q ∈ rs, q ∈ rowsP) ∧ rs.length = qs.length + xs.length ∧ Ab a' b' ∧
    compL (drawF (envL ns x3 x4 x5 x6 x7 x8 x9)) xs (qs.map rowOf) (S0 a b) = .ok (rs.map rowOf) (S0 a' b')
  | [], qs, a, b, h, hq, _ => ⟨qs, a, b, hq, rfl, h, rfl⟩
  | x :: xs, qs, a, b, h, hq, hl => by
    rw [List.length_cons] at hl
    obtain ⟨q, a1, b1, hq1, e, hab⟩ := some_at h
    have t : drawF (envL ns x3 x4 x5 x6 x7 x8 x9) x (S0 a b) = .ok (some (rowOf q)) (S0 a1 b1) := by
      have e1 : bindT (.nm 9) x (wipeE (envL ns x3 x4 x5 x6 x7 x8 x9) [9]) = some (envL ns x3 x4 x5 x6 x7 x8 (some x)) := by kernel_rfl
      show (match bindT (.nm 9) x (wipeE (envL ns x3 x4 x5 x6 x7 x8 x9) [9]) with
        | some env' => ((evC (R 59) none env' (S0 a b)).bind fun b S3 => match b with
          | true => (evE (R 59) (.fn 23 [.var 1, .var 2]) env' S3).bind fun d S4 => .ok (some d) S4
          | false => .ok none S3).nox
        | none => Mn.R.bad) = _
      rw [e1]
      dsimp only
      show ((evE (R 59) (.fn 23 [.var 1, .var 2]) (envL ns x3 x4 x5 x6 x7 x8 (some x)) (S0 a b)).bind fun d S4 => Mn.R.ok (some d) S4).nox = _
      rw [ev_fnA (xs := [.ref 0, .lst rowsD]) (S1 := S0 a b) (by kernel_rfl) e, R.bind_ok]
      rfl
    obtain ⟨rs, a2, b2, h1, h2, h3, h4⟩ := draw_some (x3 := x3) (x4 := x4) (x5 := x5) (x6 := x6) (x7 := x7) (x8 := x8) (x9 := x9) xs (qs ++ [q]) hab (fun p hp => by
      rcases List.mem_append.mp hp with hp | hp
      · exact hq p hp
      · rw [List.mem_singleton.mp hp]
        exact hq1) (by rw [List.length_append]; show qs.length + 1 + xs.length ≤ 1000; omega)
    refine ⟨rs, a2, b2, h1, by (simp only [List.length_append, List.length_cons, List.length_nil] at h2 ⊢; omega), h3, ?_⟩
    show (drawF (envL ns x3 x4 x5 x6 x7 x8 x9) x (S0 a b)).bind (fun o S1 => match o with
      | some d => if (qs.map rowOf).length < line then compL (drawF (envL ns x3 x4 x5 x6 x7 x8 x9)) xs (qs.map rowOf ++ [d]) S1 else .bad
      | none => compL (drawF (envL ns x3 x4 x5 x6 x7 x8 x9)) xs (qs.map rowOf) S1) = _
    rw [t, R.bind_ok]
    dsimp only
    rw [if_pos (by
      rw [List.length_map]
      show qs.length < 16777216
      omega)]
    rw [List.map_append] at h4
    exact h4
theorem draws_ok {a b : Int} (h : Ab a b) (x3 x4 x5 x6 x7 x8 x9 : Option D) : ∃ (qs : List Rw) (a' b' : Int), (∀ q ∈ qs, q ∈ rowsP) ∧ qs ≠ [] ∧ qs.length ≤ 3 ∧ evE (R 59) drawE (envL ns x3 x4 x5 x6 x7 x8 x9) (S0 a b) = .ok (.lst (qs.map rowOf)) (S0 a' b') ∧ Ab a' b' := by
  obtain ⟨r, a1, b1, e, r0, r1, q1⟩ := roll_at (k := 58) h (many := 3) (by decide) (by decide)
  have it : ((evEs (R 59) [.bin .add (.lit (.int 1)) (.fn 22 [.var 1, .lit (.int 3)])] (envL ns x3 x4 x5 x6 x7 x8 x9) (S0 a b)).bind fun ws S0 => R.of S0 (walk .rng1 ws)) = .ok (upto 0 (1 + r).toNat) (S0 a1 b1) := by
    show ((evE (R 59) (.bin .add (.lit (.int 1)) (.fn 22 [.var 1, .lit (.int 3)])) (envL ns x3 x4 x5 x6 x7 x8 x9) (S0 a b)).bind fun x S1 => (Mn.R.ok [] S1).bind fun xs S2 => .ok (x :: xs) S2).bind _ = _
    rw [ev_bin (x := .int 1) (y := .int r) (S1 := S0 a b) (S2 := S0 a1 b1) rfl (ev_fnA (xs := [.ref 0, .int 3]) (S1 := S0 a b) (by kernel_rfl) e) add_int, R.bind_ok, R.bind_ok, R.bind_ok]
    show R.of (S0 a1 b1) (if small62 (1 + r) then some (upto 0 (1 + r).toNat) else none) = _
    have hs : small62 (1 + r) = true := by
      unfold small62
      rw [Bool.and_eq_true, decide_eq_true_eq, decide_eq_true_eq]
      omega
    rw [if_pos hs]
    rfl
  have hu : (upto 0 (1 + r).toNat).length = (1 + r).toNat := upto_length _ _
  obtain ⟨rs, a2, b2, h1, h2, h3, h4⟩ := draw_some (ns := ns) (x3 := x3) (x4 := x4) (x5 := x5) (x6 := x6) (x7 := x7) (x8 := x8) (x9 := x9) (upto 0 (1 + r).toNat) [] q1 (fun _ h => by cases h) (by rw [hu, List.length_nil]; omega)
  rw [hu, List.length_nil] at h2
  refine ⟨rs, a2, b2, h1, fun z => by rw [z, List.length_nil] at h2; omega, by omega, ?_, h3⟩
  refine (ev_comp (upto 0 (1 + r).toNat) (S0 a1 b1) it).trans ((congrArg (fun r => Mn.R.bind r fun ds S5 => newL false ds S5) h4).trans ?_)
  show newL false (rs.map rowOf) (S0 a2 b2) = _
  exact newL_ok (by
    rw [List.length_map]
    show rs.length ≤ 16777216
    omega)
abbrev dueB : List Mn.S := [.asg (.nm 5) (.bin .add (.var 5) (.var 8))]
theorem due_ok {a b : Int} : ∀ (qs : List Rw) (acc : List D) (x3 x4 x6 x7 x8 x9 : Option D), acc.length + (tsOf qs).length ≤ 1000 →
    ∃ x7' x8', forL (fun x env1 S2 => match bindT (.tp [.nm 7, .nm 8]) x env1 with
      | some env2 => exSs (subT T) (R 59) dueB env2 S2
      | none => .bad) (qs.map rowOf) (envL ns x3 x4 (some (.lst acc)) x6 x7 x8 x9) (S0 a b) = .nx (envL ns x3 x4 (some (.lst (acc ++ tsOf qs))) x6 x7' x8' x9) (S0 a b)
  | [], acc, x3, x4, x6, x7, x8, x9, _ => ⟨x7, x8, by
    rw [show tsOf [] = [] from rfl, List.append_nil]
    rfl⟩
  | q :: qs, acc, x3, x4, x6, x7, x8, x9, hl => by
    have ht : tsOf (q :: qs) = q.t ++ tsOf qs := rfl
    rw [ht, List.length_append] at hl
    obtain ⟨y, z, e⟩ := due_ok (a := a) (b := b) qs (acc ++ q.t) x3 x4 x6 (some q.n) (some (.lst q.t)) x9 (by rw [List.length_append]; omega)
    refine ⟨y, z, ?_⟩
    rw [List.map_cons, ht, ← List.append_assoc]
    refine (forL_b (env2 := envL ns x3 x4 (some (.lst acc)) x6 (some q.n) (some (.lst q.t)) x9) (env' := envL ns x3 x4 (some (.lst (acc ++ q.t))) x6 (some q.n) (some (.lst q.t)) x9) (S1 := S0 a b) (by kernel_rfl) ?_).trans e
    have d1 := add_lst (S := S0 a b) (a := acc) (b := q.t) (by show _ ≤ 16777216; omega)
    exact (sq (asg_nm (i := 5) (ev_bin (x := .lst acc) (y := .lst q.t) (S1 := S0 a b) (S2 := S0 a b) (by kernel_rfl) (by kernel_rfl) d1) (by simp))).trans rfl
theorem turn_ok {a b : Int} (h : Ab a b) (x3 x4 x5 x6 x7 x8 x9 : Option D) : ∃ (y4 y5 y6 y7 y8 y9 : Option D) (a' b' : Int), Ab a' b' ∧
    exSs (subT T) (R 59) (match f28.body with
      | [_, _, .forr _ _ _ t, _] => t
      | _ => []) (envL ns x3 x4 x5 x6 x7 x8 x9) (S0 a b) = .nx (envL ns x3 y4 y5 y6 y7 y8 y9) (S0 a' b') := by
  obtain ⟨qs, a', b', hq, h0, hl, e4, hab⟩ := draws_ok (ns := ns) h x3 x4 x5 x6 x7 x8 x9
  have comp := compiled28 (a := a') (b := b') hq h0 hl
  have o1 : okDs (osOf qs) = true := fl_ok (f := fun q => q.o) fun q h => (rw_ok (hq q h)).ok
  have o2 : dpts (osOf qs) ≤ 20 := fl_dp (f := fun q => q.o) fun q h => (rw_ok (hq q h)).dp
  have o3 : smDs (osOf qs) = true := fl_sm (f := fun q => q.o) fun q h => (rw_ok (hq q h)).sm
  have o4 : shLs (osOf qs) ≤ 3000 * qs.length := fl_sh (f := fun q => q.o) fun q h => (rw_ok (hq q h)).sh
  have t1 : okDs (tsOf qs) = true := fl_ok (f := fun q => q.t) fun q h => (rw_ok (hq q h)).ok'
  have t2 : dpts (tsOf qs) ≤ 20 := fl_dp (f := fun q => q.t) fun q h => (rw_ok (hq q h)).dp'
  have t3 : smDs (tsOf qs) = true := fl_sm (f := fun q => q.t) fun q h => (rw_ok (hq q h)).sm'
  have t4 : shLs (tsOf qs) ≤ 3000 * qs.length := fl_sh (f := fun q => q.t) fun q h => (rw_ok (hq q h)).sh'
  have t5 : (tsOf qs).length ≤ 20 * qs.length := fl_len (f := fun q => q.t) fun q h => (rw_ok (hq q h)).ln'
  have same := fl_eq fun q h => (rw_ok (hq q h)).eq
  obtain ⟨y7, y8, e5⟩ := due_ok (ns := ns) (a := a') (b := b') qs [] x3 (some (.lst (qs.map rowOf))) x6 x7 x8 x9 (by rw [List.length_nil]; omega)
  rw [List.nil_append] at e5
  generalize hos : osOf qs = os at comp o1 o2 o3 o4 same
  generalize hts : tsOf qs = ts at t1 t2 t3 t4 t5 same e5
  have e6 : evE (R 59) (.bi .tuple false (.comp false (.tp [.nm 7, .nm 8]) .of [.var 4] none (.var 7) [7, 8])) (envL ns x3 (some (.lst (qs.map rowOf))) (some (.lst ts)) x6 y7 y8 x9) (S0 a' b') = .ok (.tup false (qs.map (·.n))) (S0 a' b') := by
    have c := comp_pure (cl := R 59) (k := false) (t := .tp [.nm 7, .nm 8]) (w := .of) (its := [.var 4]) (cond := none) (e := .var 7) (own := [7, 8]) (env := envL ns x3 (some (.lst (qs.map rowOf))) (some (.lst ts)) x6 y7 y8 x9) (S := S0 a' b') (g := nodeOf) (xs := qs.map rowOf) (S1 := S0 a' b') rfl (fun x hx => by
      obtain ⟨q, hq0, rfl⟩ := List.mem_map.mp hx
      exact ⟨envL ns x3 (some (.lst (qs.map rowOf))) (some (.lst ts)) x6 (some q.n) (some (.lst q.t)) x9, by kernel_rfl, rfl, by kernel_rfl⟩) (by
        rw [List.length_map]
        show qs.length ≤ 16777216
        omega)
    have e : (qs.map rowOf).map nodeOf = qs.map (·.n) := by
      rw [List.map_map]
      rfl
    rw [e, newL_ok (by
      rw [List.length_map]
      show qs.length ≤ 16777216
      omega)] at c
    exact ev_bi c rfl
  refine ⟨some (.lst (qs.map rowOf)), some (.lst ts), some (judgedD (qs.map (·.n))), y7, y8, x9, a', b', hab, ?_⟩
  show exSs (subT T) (R 59) [_, _, _, _, _] _ _ = _
  refine (sq (asg_nm (i := 4) e4 (by simp))).trans ?_
  refine (sq (asg_nm (i := 5) (d := .lst []) (S1 := S0 a' b') (by kernel_rfl) (by simp))).trans ?_
  refine (sq (env1 := envL ns x3 (some (.lst (qs.map rowOf))) (some (.lst ts)) x6 y7 y8 x9) (S1 := S0 a' b') ((for_ok (xs := qs.map rowOf) (S1 := S0 a' b') (by kernel_rfl)).trans e5)).trans ?_
  refine (sq (asg_nm (i := 6) (d := judgedD (qs.map (·.n))) (S1 := S0 a' b') (ev_fnA (xs := [.tup false (qs.map (·.n))]) (S1 := S0 a' b') ?_ (around_ok _)) (by simp))).trans ?_
  · show ((evE (R 59) (.bi .tuple false (.comp false (.tp [.nm 7, .nm 8]) .of [.var 4] none (.var 7) [7, 8])) _ (S0 a' b')).bind fun x S1 => (Mn.R.ok [] S1).bind fun xs S2 => .ok (x :: xs) S2) = _
    rw [e6]
    rfl
  have s1 := go_shw o1 o2 o3 (Nat.le_trans o4 (by omega))
  have s2 := due_shw t1 t2 t3 (Nat.le_trans t4 (by omega))
  have c0 : evEs (R 59) [.var 6] (envL ns x3 (some (.lst (qs.map rowOf))) (some (.lst ts)) (some (judgedD (qs.map (·.n)))) y7 y8 x9) (S0 a' b') = .ok [judgedD (qs.map (·.n))] (S0 a' b') := by kernel_rfl
  have c3 := ev_fnA (i := 20) c0 comp
  have i1 : ixf (toldD os) (.int 0) (S0 a' b') = some (.tup false (pnD ++ [goC os])) := by kernel_rfl
  have i2 : ixf (.tup false (pnD ++ [goC os])) (.int 2) (S0 a' b') = some (goC os) := by kernel_rfl
  have l1 : ∀ (d : D), evE (R 59) (.lit d) (envL ns x3 (some (.lst (qs.map rowOf))) (some (.lst ts)) (some (judgedD (qs.map (·.n)))) y7 y8 x9) (S0 a' b') = .ok d (S0 a' b') := fun _ => by kernel_rfl
  have c2 := ev_ix c3 (l1 (.int 0)) i1
  have c1 := ev_ix c2 (l1 (.int 2)) i2
  have r1 := ev_bi (b := .repr) (k := false) c1 (rep_tup s1)
  have w1 : evE (R 59) (.tup [.lit (.str [103, 111]), .tup [.lit (.str [110, 117, 109])], .lit .non, .tup [.lit (.str [110, 117, 109]), .lit (.str [116, 114, 117, 116, 104]), .lit (.str [110, 97, 109, 101])], .bi .tuple false (.var 5)]) (envL ns x3 (some (.lst (qs.map rowOf))) (some (.lst ts)) (some (judgedD (qs.map (·.n)))) y7 y8 x9) (S0 a' b') = .ok (dueC ts) (S0 a' b') := by kernel_rfl
  have r2 := ev_bi (b := .repr) (k := false) w1 (rep_tup s2)
  have ne : cop .ne (.rep (goC os)) (.rep (dueC ts)) (S0 a' b') = some false := by
    show (if D.beq (goC os) (dueC ts) = true then some true else none).map not = some false
    rw [if_pos (same_go same)]
    rfl
  have cc := ev_cmp (o := .ne) r1 r2 ne
  have ff := ifs_f (sub := subT T) (a := [.ret (.lit (.bl false))]) (b := []) cc
  exact (sq (ff.trans rfl)).trans rfl
theorem turns_ok : ∀ (xs : List D) {a b : Int}, Ab a b → ∀ (x3 x4 x5 x6 x7 x8 x9 : Option D), ∃ (y3 y4 y5 y6 y7 y8 y9 : Option D) (a' b' : Int),
    forL (fun x env1 S2 => match bindT (.nm 3) x env1 with
      | some env2 => exSs (subT T) (R 59) (match f28.body with
        | [_, _, .forr _ _ _ t, _] => t
        | _ => []) env2 S2
      | none => .bad) xs (envL ns x3 x4 x5 x6 x7 x8 x9) (S0 a b) = .nx (envL ns y3 y4 y5 y6 y7 y8 y9) (S0 a' b')
  | [], a, b, _, x3, x4, x5, x6, x7, x8, x9 => ⟨x3, x4, x5, x6, x7, x8, x9, a, b, rfl⟩
  | x :: xs, a, b, h, x3, x4, x5, x6, x7, x8, x9 => by
    obtain ⟨y4, y5, y6, y7, y8, y9, a', b', hab, e⟩ := turn_ok (ns := ns) h (some x) x4 x5 x6 x7 x8 x9
    obtain ⟨z3, z4, z5, z6, z7, z8, z9, a2, b2, e2⟩ := turns_ok xs hab (some x) y4 y5 y6 y7 y8 y9
    exact ⟨z3, z4, z5, z6, z7, z8, z9, a2, b2, (forL_b (env2 := envL ns (some x) x4 x5 x6 x7 x8 x9) (by kernel_rfl) e).trans e2⟩
theorem last_ok (a b : Int) (x3 x4 x5 x6 x7 x8 x9 : Option D) : exSs (subT T) (R 59) (match f28.body with
      | [_, _, _, r] => [r]
      | _ => []) (envL ns x3 x4 x5 x6 x7 x8 x9) (S0 a b) = .rt (.bl true) (S0 a b) := by kernel_rfl
end
theorem go (ns : List Int) (hn : ns.length ≤ 63) : ∃ S', Mn.run (subT T) ds 60 28 [.scr ns] ⟨0, []⟩ = .ok (.bl true) S' := by
  obtain ⟨a, b, ec, a0, b0, b1⟩ := cupS0 (sub := subT T) (cl := R 58) hn
  obtain ⟨y3, y4, y5, y6, y7, y8, y9, a', b', e⟩ := turns_ok (ns := ns) (upto 0 8) ⟨a0, b0, b1⟩ none none none none none none none
  refine ⟨S0 a' b', ?_⟩
  rw [show Mn.run (subT T) ds 60 28 [.scr ns] ⟨0, []⟩ = R (59 + 1) 28 [.scr ns] ⟨0, []⟩ from rfl, run_at (f := f28) (by decide) rfl]
  refine df_rt rfl rfl ?_
  show exSs (subT T) (R 59) [_, _, _, _] [some (.scr ns), none, none, none, none, none, none, none, none, none] _ = _
  have ec2 : R 59 21 [.scr ns] ⟨0, []⟩ = .ok (.ref 0) (S0 a b) := (run_at (f := f21) (by decide) rfl).trans ec
  refine (sq (asg_nm (i := 1) (d := .ref 0) (S1 := S0 a b) (ev_fnA (xs := [.scr ns]) (S1 := ⟨0, []⟩) (by kernel_rfl) ec2) (by simp))).trans ?_
  refine (sq (asg_nm (i := 2) (d := .lst rowsD) (S1 := S0 a b) (ev_fnA (xs := []) (S1 := S0 a b) (by kernel_rfl) (rows_ok a b)) (by simp))).trans ?_
  refine (sq (env1 := envL ns y3 y4 y5 y6 y7 y8 y9) (S1 := S0 a' b') ((for_ok (xs := upto 0 8) (S1 := S0 a b) (by kernel_rfl)).trans e)).trans ?_
  exact last_ok a' b' y3 y4 y5 y6 y7 y8 y9
end Law

theorem PySem.Challenge.cw_gasahead_k28_whole_orders_of_statements_holds : PySem.Challenge.rw_gasahead_k28_whole_orders_of_statements.Holds := by
  exact Law.holds Law.ds Law.hc Law.go

