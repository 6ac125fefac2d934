import PyProof.Rows.All
import Wide.All
import OpenK.AllK
import Wide.FinOn
import HandS.ForMost
import HandS.ForExc
import HandS.Wide
import HandS.TupLe
import HandS.TupAny
import HandS.TryMany
import HandS.HotCalls
import HandS.ExcIs
import HandS.IsInst
import HandS.CallSlots
import HandS.Conv
import HandS.Zip
import HandS.Rev
import HandS.Defaults
import KE.KEqNest
import KE.KDictLaw
import PyProof.NeKinds
import HandS.SortInts
import HandS.Small
import HandS.Style
import HandS.More
import KE.DataMinMax
import HandS.Head2
import HandS.HeadEnd
import HandS.HeadWalk
import HandS.HeadHook2
import HandS.EndBits
import PySem.Challenge.RW_pullwire_k27_contests
section
set_option linter.all false
/-! Pw0: values, store, a small language and its evaluator (no model in sight) -/
namespace Pw
/-- a value: texts are lists of code points, tuples are trees, lists and dicts stand in the store -/
inductive D where
  | non | bl (b : Bool) | int (i : Int) | str (s : List Nat) | tup (xs : List D) | obj (n : Nat) | exc (c : Nat) (fs : List D)
mutual
def D.beq : D → D → Bool
  | .non, .non => true
  | .bl a, .bl b => a == b
  | .int a, .int b => a == b
  | .str a, .str b => a == b
  | .tup a, .tup b => D.beqs a b
  | .obj a, .obj b => a == b
  | .exc a x, .exc b y => a == b && D.beqs x y
  | _, _ => false
def D.beqs : List D → List D → Bool
  | [], [] => true
  | a :: r, b :: t => D.beq a b && D.beqs r t
  | _, _ => false
end
mutual
theorem D.beq_ok : ∀ a b : D, D.beq a b = true ↔ a = b
  | .non, b => by cases b <;> simp [D.beq]
  | .bl a, b => by cases b <;> simp [D.beq]
  | .int a, b => by cases b <;> simp [D.beq]
  | .str a, b => by cases b <;> simp [D.beq]
  | .obj a, b => by cases b <;> simp [D.beq]
  | .tup a, b => by cases b <;> simp [D.beq, D.beqs_ok a]
  | .exc a x, b => by cases b <;> simp [D.beq, D.beqs_ok x]
theorem D.beqs_ok : ∀ a b : List D, D.beqs a b = true ↔ a = b
  | [], b => by cases b <;> simp [D.beqs]
  | a :: r, b => by cases b <;> simp [D.beqs, D.beq_ok a, D.beqs_ok r]
end
instance : DecidableEq D := fun a b => if h : D.beq a b = true then isTrue ((D.beq_ok a b).mp h) else isFalse fun e => h ((D.beq_ok a b).mpr e)
/-- an object of the store -/
inductive SO where
  | lst (xs : List D) | ro (xs : List D) | dct (kvs : List (D × D)) | set (xs : List D) | ins (c : Nat) (fs : List (Nat × D))
  deriving DecidableEq
/-- the newest object stands first -/
abbrev Store := List SO
def get : Store → Nat → Option SO
  | [], _ => none
  | o :: r, n => if n = r.length then some o else get r n
def put : Store → Nat → SO → Store
  | [], _, _ => []
  | o :: r, n, x => if n = r.length then x :: r else o :: put r n x
-- handles below n
mutual
def D.bel (n : Nat) : D → Bool
  | .obj m => Nat.blt m n
  | .tup xs => D.bels n xs
  | .exc _ xs => D.bels n xs
  | _ => true
def D.bels (n : Nat) : List D → Bool
  | [] => true
  | x :: r => D.bel n x && D.bels n r
end
def SO.bel (n : Nat) : SO → Bool
  | .lst xs => D.bels n xs
  | .ro xs => D.bels n xs
  | .dct kvs => D.bels n (kvs.map (·.1)) && D.bels n (kvs.map (·.2))
  | .set xs => D.bels n xs
  | .ins _ fs => D.bels n (fs.map (·.2))
/-- what stood before stands still, or points to what stood before -/
def okOld (n : Nat) : Store → Store → Bool
  | [], [] => true
  | a :: r, b :: t => (decide (a = b) || SO.bel n b) && okOld n r t
  | _, _ => false
inductive Res (α : Type) where
  | ok (a : α) (S : Store) | exc (c : Nat) (fs : List D) (S : Store) | bad
def Res.bind {α β : Type} : Res α → (α → Store → Res β) → Res β
  | .ok a S, f => f a S
  | .exc c fs S, _ => .exc c fs S
  | .bad, _ => .bad
abbrev Env := List (Option D)
abbrev Calls := Nat → List D → Store → Res D
inductive Bop where | add | sub | mul | fdiv | mod | pow | shl | shr | band
inductive Cop where | eq | ne | lt | le | gt | ge | inn | nin | is | isn
inductive Kd where | int | bool | str | tuple | list | dict | set | own (c : Nat)
inductive F1 where | len | int | str | abs
inductive F2 where | min | max
/-- targets -/
inductive Tg where | v (i : Nat) | tup (is : List Nat)
mutual
inductive Exp where
  | c (d : D) | v (i : Nat) | g (i : Nat)
  | bin (o : Bop) (a b : Exp) | neg (a : Exp) | notV (a : Exp) | andV (a b : Exp) | orV (a b : Exp)
  | cmp (o : Cop) (a b : Exp) | chn (o p : Cop) (a b c : Exp) | ife (t : Tst) (a b : Exp)
  | call (f : Nat) (as : List Exp) | hcall (f : Nat) (as : List Exp) | hot (f : Nat) | isX (cs : List Nat) | xf (k : Nat) | anyH (a : Exp) | f1 (f : F1) (a : Exp) | f2 (f : F2) (a b : Exp) | isI (a : Exp) (ks : List Kd)
  | idx (a b : Exp) | sl (a : Exp) (lo hi : Option Exp) | rev (a : Exp)
  | tup (es : List Exp) | ls (l : Src) | dct (es : List Exp) | tupOf (l : Src) | allOf (l : Src) | anyOf (l : Src) | sumOf (l : Src) | minOf (l : Src) | maxOf (l : Src)
  | sorted (l : Src) | join (a : Exp) (l : Src)
  | app (o a : Exp) | pop (o : Exp) | ext (o a : Exp) | sw (o a : Exp)
inductive Src where
  | val (e : Exp) | seq (e : Exp) | lis (e : Exp) | keys (e : Exp) | rng (a : Exp) | rng2 (a b : Exp) | rng3 (a b c : Exp) | disp (es : List Exp) | comp (e : Exp) (t : Tg) (l : Src) (ifs : List Tst)
  | zip (a b : Src) | comp2 (e : Exp) (t : Tg) (l : Src) (ifs : List Tst) (t1 : Tg) (l1 : Src) (ifs1 : List Tst)
inductive Tst where
  | val (e : Exp) | not (t : Tst) | and (a b : Tst) | or (a b : Tst)
end
inductive Stm where
  | pass | ex (e : Exp) | set (t : Tg) (e : Exp) | setIx (o i e : Exp)
  | ite (t : Tst) (a b : List Stm) | forS (t : Tg) (l : Src) (body : List Stm) (ks : List Nat) | whl (t : Tst) (body : List Stm) (ks : List Nat)
  | ret (e : Exp) | brk | cont | rais (c : Nat) (es : List Exp) | tryS (body : List Stm) (hs : List (List Nat × Option Nat × List Stm)) | kill (ks : List Nat)
/-! ### the meaning of the operations -/
def line : Nat := 16777216
def truth (S : Store) : D → Option Bool
  | .non => some false
  | .bl b => some b
  | .int i => some (decide (i ≠ 0))
  | .str s => if s.length ≤ line then some (!s.isEmpty) else none
  | .tup xs => some (!xs.isEmpty)
  | .obj n => (match get S n with
    | some (.lst xs) => some (!xs.isEmpty)
    | some (.ro xs) => some (!xs.isEmpty)
    | some (.dct xs) => some (!xs.isEmpty)
    | _ => none)
  | .exc _ _ => none
def b2i (b : Bool) : Int := if b then 1 else 0
/-- == item by item -/
def alls (f : D → D → Option Bool) : List D → List D → Option Bool
  | [], [] => some true
  | x :: r, y :: t => (f x y).bind fun c => (alls f r t).bind fun k => some (c && k)
  | _, _ => some false
/-- == of two values; lists and dicts by what they hold -/
def deq (S : Store) : Nat → D → D → Option Bool
  | 0, _, _ => none
  | n + 1, a, b => match a, b with
    | .int a, .int b => some (decide (a = b))
    | .str a, .str b => some (decide (a = b))
    | .bl a, .bl b => some (decide (a = b))
    | .bl a, .int b => some (decide (b2i a = b))
    | .int a, .bl b => some (decide (a = b2i b))
    | .non, .non => some true
    | .tup a, .tup b => if a.length = b.length then alls (deq S n) a b else (alls (deq S n) (a.take b.length) (b.take a.length)).bind fun _ => some false
    | .obj a, .obj b => (match get S a, get S b with
      | some (.lst x), some (.lst y) => if x.length = y.length then alls (deq S n) x y else some false
      | some (.dct x), some (.dct y) => if x.map (·.1) = y.map (·.1) then alls (deq S n) (x.map (·.2)) (y.map (·.2)) else none
      | _, _ => none)
    | .exc _ _, _ => none
    | _, .exc _ _ => none
    | .obj a, _ => (match get S a with
      | some (.lst _) => some false
      | _ => none)
    | _, .obj b => (match get S b with
      | some (.lst _) => some false
      | _ => none)
    | _, _ => some false
abbrev fuel : Nat := 40
/-- kinds that are compared by == where it stands -/
def topEq : D → D → Bool
  | .tup _, .tup _ => true
  | .obj _, .obj _ => true
  | .int _, .bl _ => false
  | .bl _, .int _ => false
  | .tup _, _ => false
  | _, .tup _ => false
  | .obj _, _ => false
  | _, .obj _ => false
  | .exc _ _, _ => false
  | _, .exc _ _ => false
  | _, _ => true
def topOk (S : Store) (ne : Bool) (a b : D) : Bool := topEq a b && match a with
  | .tup _ => !ne
  | .obj n => (match get S n with | some (.lst _) => true | _ => false)
  | _ => true
/-- < and <= of tuples, item by item -/
def lexs (f : D → D → Option Bool) (g : D → D → Option Bool) (z : Nat → Nat → Bool) : List D → List D → Option Bool
  | x :: r, y :: t => (f x y).bind fun c => if c then lexs f g z r t else g x y
  | a, b => some (z a.length b.length)
inductive Ord where | lt | le | gt | ge
def Ord.i (o : Ord) (a b : Int) : Bool := match o with
  | .lt => decide (a < b) | .le => decide (a ≤ b) | .gt => decide (b < a) | .ge => decide (b ≤ a)
def Ord.s (o : Ord) (a b : List Nat) : Bool := match o with
  | .lt => decide (a < b) | .le => !decide (b < a) | .gt => decide (b < a) | .ge => !decide (a < b)
def Ord.n (o : Ord) (a b : Nat) : Bool := match o with
  | .lt => decide (a < b) | .le => decide (a ≤ b) | .gt => decide (b < a) | .ge => decide (b ≤ a)
def dord (S : Store) (o : Ord) : Nat → D → D → Option Bool
  | 0, _, _ => none
  | n + 1, a, b => match a, b with
    | .int a, .int b => some (o.i a b)
    | .str a, .str b => some (o.s a b)
    | _, _ => none
def lookD (k : D) : List (D × D) → Option D
  | [] => none
  | (a, v) :: r => if a = k then some v else lookD k r
def isKey : D → Bool
  | .int _ => true
  | .str _ => true
  | _ => false
def flatD : D → Bool
  | .non => true
  | .bl _ => true
  | .int _ => true
  | .str _ => true
  | _ => false
/-- == of flat values -/
def feq : D → D → Bool
  | .non, .non => true
  | .bl a, .bl b => a == b
  | .bl a, .int b => b2i a == b
  | .int a, .bl b => a == b2i b
  | .int a, .int b => a == b
  | .str a, .str b => a == b
  | _, _ => false
def inD (x : D) (xs : List D) : Option Bool := if flatD x && xs.all flatD then some (xs.any fun y => feq y x) else none
def din (S : Store) (x y : D) : Option Bool := match y with
  | .str t => (match x with
    | .str [c] => some (decide (c ∈ t))
    | _ => none)
  | .tup xs => inD x xs
  | .obj n => (match get S n with
    | some (.lst xs) => inD x xs
    | some (.ro xs) => inD x xs
    | _ => none)
  | _ => none
def dis (x y : D) : Option Bool := match y with
  | .non => some (decide (x = .non))
  | .bl b => (match x with
    | .bl a => some (decide (a = b))
    | _ => none)
  | _ => none
def cmpD (S : Store) (o : Cop) (a b : D) : Option Bool := match o with
  | .eq => if topOk S false a b then deq S fuel a b else none
  | .ne => if topOk S true a b then (deq S fuel a b).map (!·) else none
  | .lt => dord S .lt fuel a b
  | .le => dord S .le fuel a b
  | .gt => dord S .gt fuel a b
  | .ge => dord S .ge fuel a b
  | .inn => din S a b
  | .nin => (din S a b).map (!·)
  | .is => dis a b
  | .isn => (dis a b).map (!·)
def Res.of {α : Type} (o : Option α) (S : Store) : Res α := match o with
  | some a => .ok a S
  | none => .bad
/-- two factors of at most that many bits in all -/
def mulOk (i j : Int) : Bool := decide (i.natAbs.log2 + j.natAbs.log2 < 1000000)
def binD (o : Bop) (a b : D) (S : Store) : Res D := match o, a, b with
  | .add, .int i, .int j => .ok (.int (i + j)) S
  | .add, .str i, .str j => if i.length + j.length ≤ line then .ok (.str (i ++ j)) S else .bad
  | .add, .tup i, .tup j => if i.length + j.length ≤ line then .ok (.tup (i ++ j)) S else .bad
  | .add, .obj i, .obj j => (match get S i, get S j with
    | some (.lst x), some (.lst y) => if x.length + y.length ≤ line then .ok (.obj S.length) (.lst (x ++ y) :: S) else .bad
    | _, _ => .bad)
  | .sub, .int i, .int j => .ok (.int (i - j)) S
  | .mul, .int i, .int j => if mulOk i j then .ok (.int (i * j)) S else .bad
  | .mul, .str [c], .int j => if j ≤ line ∧ -(2 ^ 62) ≤ j then .ok (.str (List.replicate j.toNat c)) S else .bad
  | .fdiv, .int i, .int j => if 0 < j ∧ j.natAbs.log2 < 9000 then .ok (.int (i / j)) S else .bad
  | .mod, .int i, .int j => if 0 < j then .ok (.int (i % j)) S else .bad
  | .pow, .int i, .int j => if 0 ≤ j ∧ j ≤ 1000000 ∧ i.natAbs < 2 ^ 64 then .ok (.int (i ^ j.toNat)) S else .bad
  | .shl, .int i, .int j => if 0 ≤ j ∧ j ≤ 1000000 ∧ i.natAbs < 2 ^ 64 then .ok (.int (i * 2 ^ j.toNat)) S else .bad
  | .shr, .int i, .int j => if 0 ≤ j then .ok (.int (i / 2 ^ j.toNat)) S else .bad
  | .band, .int i, .int j => if j = 1 then .ok (.int (i % 2)) S else .bad
  | _, _, _ => .bad
/-- decimal digits -/
def digits? : List Nat → Option Int
  | [] => none
  | s => if s.all (fun c => decide (48 ≤ c) && decide (c ≤ 57)) && decide (s.length ≤ 640) then some (s.foldl (fun n c => n * 10 + (c - 48 : Nat)) (0 : Int)) else none
def lenD (S : Store) : D → Option Int
  | .str s => if s.length ≤ line then some s.length else none
  | .tup xs => some xs.length
  | .obj n => (match get S n with
    | some (.lst xs) => some xs.length
    | some (.ro xs) => some xs.length
    | some (.dct xs) => some xs.length
    | _ => none)
  | _ => none
def codes (s : String) : List Nat := s.toList.map Char.toNat
def f1D (f : F1) (a : D) (S : Store) : Res D := match f, a with
  | .len, a => (Res.of (lenD S a) S).bind fun n S => .ok (.int n) S
  | .int, .int i => .ok (.int i) S
  | .int, .bl b => .ok (.int (b2i b)) S
  | .str, .int i => if i.natAbs.log2 < 1920 then .ok (.str (codes (toString i))) S else .bad
  | .abs, .int i => .ok (.int (if i < 0 then -i else i)) S
  | _, _ => .bad
def f2D (f : F2) (a b : D) (S : Store) : Res D := match f, a, b with
  | .min, .int i, .int j => .ok (.int (if j < i then j else i)) S
  | .max, .int i, .int j => .ok (.int (if j > i then j else i)) S
  | _, _, _ => .bad
/-- the classes of the package: each class's bases, itself among them -/
abbrev Classes := List (List Nat)
def isKd (Cl : Classes) (S : Store) (d : D) : Kd → Option Bool
  | .int => (match d with
    | .int _ => some true | .bl _ => some true | .exc _ _ => none | _ => some false)
  | .bool => (match d with
    | .bl _ => some true | .exc _ _ => none | _ => some false)
  | .str => (match d with
    | .str _ => some true | .exc _ _ => none | _ => some false)
  | .tuple => (match d with
    | .tup _ => some true | .exc _ _ => none | _ => some false)
  | .list => (match d with
    | .obj n => (match get S n with
      | some (.lst _) => some true | some (.ro _) => some true | some (.dct _) => some false | _ => none)
    | .exc _ _ => none | _ => some false)
  | .dict => (match d with
    | .obj n => (match get S n with
      | some (.lst _) => some false | some (.ro _) => some false | some (.dct _) => some true | _ => none)
    | .exc _ _ => none | _ => some false)
  | .set => none
  | .own c => (match d with
    | .exc k _ => (Cl[k]?).map fun bs => bs.contains c
    | _ => none)
def isKds (Cl : Classes) (S : Store) (d : D) : List Kd → Option Bool
  | [] => some false
  | k :: r => (isKd Cl S d k).bind fun b => if b then some true else isKds Cl S d r
/-- a place from the front or from behind -/
def place (n : Nat) (i : Int) : Option Nat := if 0 ≤ i then (if i < n then some i.toNat else none) else if -(n : Int) ≤ i then some (i + n).toNat else none
def idxD (a i : D) (S : Store) : Res D := match a, i with
  | .str s, .int i => if s.length ≤ line then Res.of (((place s.length i).bind fun j => s[j]?).map fun c => .str [c]) S else .bad
  | .tup xs, .int i => Res.of ((place xs.length i).bind fun j => xs[j]?) S
  | .obj n, i => (match get S n with
    | some (.lst xs) => (match i with
      | .int i => Res.of ((place xs.length i).bind fun j => xs[j]?) S
      | _ => .bad)
    | some (.ro xs) => (match i with
      | .int i => Res.of ((place xs.length i).bind fun j => xs[j]?) S
      | _ => .bad)
    | _ => .bad)
  | _, _ => .bad
def clip (n d : Nat) : Option Int → Nat
  | none => d
  | some i => if i < 0 then (i + n).toNat else min i.toNat n
def cut {α : Type} (xs : List α) (lo hi : Option Int) : List α := (xs.drop (clip xs.length 0 lo)).take (clip xs.length xs.length hi - clip xs.length 0 lo)
def intO : Option D → Option (Option Int)
  | none => some none
  | some (.int i) => some (some i)
  | _ => none
def slD (a : D) (lo hi : Option D) (S : Store) : Res D := match intO lo, intO hi with
  | some l, some h => (match a with
    | .str s => if s.length ≤ line then .ok (.str (cut s l h)) S else .bad
    | .tup xs => .ok (.tup (cut xs l h)) S
    | .obj n => (match get S n with
      | some (.lst xs) => .ok (.obj S.length) (.lst (cut xs l h) :: S)
      | _ => .bad)
    | _ => .bad)
  | _, _ => .bad
def revD (a : D) (S : Store) : Res D := match a with
  | .tup xs => .ok (.tup xs.reverse) S
  | .obj n => (match get S n with
    | some (.lst xs) => .ok (.obj S.length) (.lst xs.reverse :: S)
    | _ => .bad)
  | _ => .bad
/-- what a walk goes over; the second: the object that has to stand meanwhile -/
def items (d : D) (S : Store) : Option (List D × Option Nat) := match d with
  | .str s => some (s.map fun c => .str [c], none)
  | .tup xs => some (xs, none)
  | .obj n => (match get S n with
    | some (.lst xs) => some (xs, some n)
    | some (.ro xs) => some (xs, some n)
    | _ => none)
  | _ => none
/-- as an argument: a tuple, a list -/
def seqD (d : D) (S : Store) : Option (List D) := match d with
  | .tup xs => some xs
  | .obj n => (match get S n with
    | some (.lst xs) => some xs
    | some (.ro xs) => some xs
    | _ => none)
  | _ => none
def isLs (d : D) (S : Store) : Bool := match d with
  | .obj _ => true
  | _ => false
def keysD (d : D) (S : Store) : Option (List D) := match d with
  | .obj n => (match get S n with
    | some (.dct kvs) => if kvs.length < 64 then some (kvs.map (·.1)) else none
    | _ => none)
  | _ => none
def small (i : Int) : Bool := decide (-(2 ^ 62) ≤ i) && decide (i < 2 ^ 62)
def rngL (a b : Int) : List D := (List.range (b - a).toNat).map fun i => .int (a + (i : Nat))
def rngL3 (a b c : Int) : List D := (List.range (if a < b then ((b - a - 1) / c + 1).toNat else 0)).map fun i => .int (a + (i : Nat) * c)
def stands (g : Option Nat) (o : Option SO) (S : Store) : Bool := match g with
  | none => true
  | some n => decide (get S n = o)
def obAt (g : Option Nat) (S : Store) : Option SO := g.bind fun n => get S n
def bind1 (t : Tg) (d : D) (env : Env) : Option Env := match t, d with
  | .v i, d => some (env.set i (some d))
  | .tup is, .tup xs => if is.length = xs.length then some ((is.zip xs).foldl (fun e p => e.set p.1 (some p.2)) env) else none
  | _, _ => none
def Tg.ix : Tg → List Nat
  | .v i => [i]
  | .tup is => is
def kill (ks : List Nat) (env : Env) : Env := ks.foldl (fun e k => e.set k none) env
def intsD : List D → Option (List Int)
  | [] => some []
  | .int i :: r => (intsD r).map (i :: ·)
  | _ => none
def bls : List D → Option (List Bool)
  | [] => some []
  | .bl b :: r => (bls r).map (b :: ·)
  | _ => none
def lbls (d : D) (S : Store) : Option (List Bool) := match d with
  | .obj n => (match get S n with
    | some (.lst xs) => bls xs
    | _ => none)
  | _ => none
def leL (a b : List Nat) : Bool := !decide (b < a)
def strsD : List D → Option (List (List Nat))
  | [] => some []
  | .str s :: r => (strsD r).map (s :: ·)
  | _ => none
/-- in ascending order: intsD, fewer than 64 texts -/
def sortD (xs : List D) : Option (List D) := match intsD xs with
  | some ns => some ((ns.mergeSort fun a b => decide (a ≤ b)).map .int)
  | none => (match strsD xs with
    | some ts => if ts.length < 64 then some ((ts.mergeSort leL).map .str) else none
    | none => none)
def joinS (sep : List Nat) : List (List Nat) → List Nat
  | [] => []
  | [s] => s
  | s :: r => s ++ sep ++ joinS sep r
def putD (k v : D) : List (D × D) → List (D × D)
  | [] => [(k, v)]
  | (a, u) :: r => if a = k then (a, v) :: r else (a, u) :: putD k v r
def pairsD : List D → Option (List (D × D))
  | [] => some []
  | k :: v :: r => if isKey k then (pairsD r).map ((k, v) :: ·) else none
  | _ => none
def setIxD (o i v : D) (S : Store) : Option Store := match o with
  | .obj n => (match get S n with
    | some (.lst xs) => (match i with
      | .int i => (place xs.length i).map fun j => put S n (.lst (xs.set j v))
      | _ => none)
    | some (.dct kvs) => if isKey i && decide (kvs.length < 100000) then some (put S n (.dct (putD i v kvs))) else none
    | _ => none)
  | _ => none
def appD (o v : D) (S : Store) : Res D := match o with
  | .obj n => (match get S n with
    | some (.lst xs) => if xs.length < line then .ok .non (put S n (.lst (xs ++ [v]))) else .bad
    | _ => .bad)
  | _ => .bad
def popD (o : D) (S : Store) : Res D := match o with
  | .obj n => (match get S n with
    | some (.lst xs) => (match xs.getLast? with
      | some v => .ok v (put S n (.lst xs.dropLast))
      | none => .bad)
    | _ => .bad)
  | _ => .bad
def extD (o v : D) (S : Store) : Res D := match o, v with
  | .obj n, .obj m => (match get S n, get S m with
    | some (.lst xs), some (.lst ys) => if xs.length + ys.length ≤ line then .ok .non (put S n (.lst (xs ++ ys))) else .bad
    | _, _ => .bad)
  | _, _ => .bad
def isL (d : D) (S : Store) : Bool := match d with
  | .obj n => (match get S n with
    | some (.lst _) => true
    | _ => false)
  | _ => false
def isS (d : D) : Bool := match d with
  | .str _ => true
  | _ => false
def swD (o v : D) : Option Bool := match o, v with
  | .str a, .str b => some (b.isPrefixOf a)
  | _, _ => none
/-- forget what was laid since S, where nothing points there -/
def envBel (n : Nat) (env : Env) : Bool := env.all fun o => match o with
  | some d => D.bel n d
  | none => true
def trim (S S' : Store) (env : Env) : Store := if S'.length = S.length then S' else
  if envBel S.length env && okOld S.length S (S'.drop (S'.length - S.length)) then S'.drop (S'.length - S.length) else S'
def fin (S S' : Store) (d : D) : Res D := if S'.length = S.length then .ok d S' else
  if okOld S.length S (S'.drop (S'.length - S.length)) then
    (if D.bel S.length d then .ok d (S'.drop (S'.length - S.length)) else match d with
      | .obj m => (match get S' m with
        | some o => if SO.bel S.length o then .ok (.obj S.length) (o :: S'.drop (S'.length - S.length)) else .ok d S'
        | none => .bad)
      | d => .ok d S')
  else .ok d S'
def finX (S S' : Store) (fs : List D) : Store := if S'.length = S.length then S' else
  if D.bels S.length fs && okOld S.length S (S'.drop (S'.length - S.length)) then S'.drop (S'.length - S.length) else S'
/-! ### the order of like values -/
mutual
def toksD : D → List (Int ⊕ List Nat)
  | .bl b => [.inl (if b = true then 1 else 0)]
  | .int n => [.inl n]
  | .str s => [.inr s]
  | .tup xs => toksDs xs
  | _ => []
def toksDs : List D → List (Int ⊕ List Nat)
  | [] => [.inl 0]
  | x :: r => .inl 1 :: (toksD x ++ toksDs r)
end
mutual
def likeD : D → D → Bool
  | .bl _, .bl _ => true
  | .int _, .int _ => true
  | .str _, .str _ => true
  | .tup a, .tup b => likeDs a b
  | _, _ => false
def likeDs : List D → List D → Bool
  | x :: r, y :: t => likeD x y && likeDs r t
  | [], _ => true
  | _ :: _, [] => false
end
def itLt : Int ⊕ List Nat → Int ⊕ List Nat → Bool
  | .inl a, .inl b => decide (a < b)
  | .inl _, .inr _ => true
  | .inr _, .inl _ => false
  | .inr a, .inr b => decide (a < b)
def lexT : List (Int ⊕ List Nat) → List (Int ⊕ List Nat) → Bool
  | [], [] => false
  | [], _ :: _ => true
  | _ :: _, [] => false
  | x :: r, y :: t => itLt x y || (!itLt y x && lexT r t)
def ltT (a b : D) : Bool := lexT (toksD a) (toksD b)
/-- texts, numbers, tuples of them, not deep -/
def flatQ : Nat → D → Bool
  | _, .bl _ => true
  | _, .int _ => true
  | _, .str _ => true
  | n + 1, .tup xs => xs.all (flatQ n)
  | _, _ => false
def minT (x : D) (xs : List D) : D := xs.foldl (fun a y => if ltT y a = true then y else a) x
def minLk (xs : List D) : Bool := xs.all fun a => flatQ 8 a && xs.all fun b => likeD a b
/-! ### the evaluator -/
/-- a comprehension's walk -/
def compL (f : D → Store → Res (Option D)) (g : Store → Bool) : List D → Store → Res (List D)
  | [], S => if g S then .ok [] S else .bad
  | x :: r, S => if g S then (match f x S with
    | .ok o S => (compL f g r S).bind fun ys S => .ok (match o with | some y => y :: ys | none => ys) S
    | _ => .bad) else .bad
/-- rows behind one another -/
def compL2 (f : D → Store → Res (List D)) (g : Store → Bool) : List D → Store → Res (List D)
  | [], S => if g S then .ok [] S else .bad
  | x :: r, S => if g S then (match f x S with
    | .ok zs S => (compL2 f g r S).bind fun ys S => .ok (zs ++ ys) S
    | _ => .bad) else .bad
/-- the exception at hand: its class, its fields -/
abbrev Exn := Option (Nat × List D)
structure Ctx where
  Φ : Exn → Calls
  G : List D
  Cl : Classes
  exn : Exn
mutual
def evE (C : Ctx) : Exp → Env → Store → Res D
  | .c d, _, S => .ok d S
  | .v i, env, S => (match env[i]? with
    | some (some d) => .ok d S
    | _ => .bad)
  | .g i, _, S => Res.of (C.G[i]?) S
  | .bin o a b, env, S => (evE C a env S).bind fun x S => (evE C b env S).bind fun y S => binD o x y S
  | .neg a, env, S => (evE C a env S).bind fun x S => (match x with
    | .int i => .ok (.int (-i)) S
    | _ => .bad)
  | .notV a, env, S => (evE C a env S).bind fun x S => (match x with
    | .bl b => .ok (.bl (!b)) S
    | _ => .bad)
  | .andV a b, env, S => (evE C a env S).bind fun x S => (match x with
    | .bl b' => if b' then evE C b env S else .ok (.bl false) S
    | _ => .bad)
  | .orV a b, env, S => (evE C a env S).bind fun x S => (match x with
    | .bl b' => if b' then .ok (.bl true) S else evE C b env S
    | _ => .bad)
  | .cmp o a b, env, S => (evE C a env S).bind fun x S => (evE C b env S).bind fun y S => (Res.of (cmpD S o x y) S).bind fun c S => .ok (.bl c) S
  | .chn o p a b c, env, S => (evE C a env S).bind fun x S => (evE C b env S).bind fun y S => (Res.of (cmpD S o x y) S).bind fun k S =>
      if k then (evE C c env S).bind fun z S => (Res.of (cmpD S p y z) S).bind fun k S => .ok (.bl k) S else .ok (.bl false) S
  | .ife t a b, env, S => (evT C t env S).bind fun k S => if k then evE C a env S else evE C b env S
  | .call f as, env, S => (evEs C as env S).bind fun ds S => C.Φ none f ds S
  | .hcall f as, env, S => (evEs C as env S).bind fun ds S => C.Φ none f ds S
  | .hot f, _, S => if C.exn.isSome then (match C.Φ C.exn f [] S with
    | .ok d S => .ok d S
    | _ => .bad) else .bad
  | .isX cs, _, S => (match C.exn with
    | some (c, _) => (match C.Cl[c]? with
      | some bs => .ok (.bl (cs.any fun k => bs.contains k)) S
      | none => .bad)
    | none => .bad)
  | .xf k, _, S => (match C.exn with
    | some (_, fs) => Res.of fs[k]? S
    | none => .bad)
  | .anyH a, env, S => (evE C a env S).bind fun x S => (Res.of (lbls x S) S).bind fun k S => .ok (.bl (k.any id)) S
  | .f1 f a, env, S => (evE C a env S).bind fun x S => f1D f x S
  | .f2 f a b, env, S => (evE C a env S).bind fun x S => (evE C b env S).bind fun y S => f2D f x y S
  | .isI a ks, env, S => (evE C a env S).bind fun x S => (Res.of (isKds C.Cl S x ks) S).bind fun k S => .ok (.bl k) S
  | .idx a b, env, S => (evE C a env S).bind fun x S => (evE C b env S).bind fun y S => idxD x y S
  | .sl a lo hi, env, S => (evE C a env S).bind fun x S => (evO C lo env S).bind fun l S => (evO C hi env S).bind fun h S => slD x l h S
  | .rev a, env, S => (evE C a env S).bind fun x S => revD x S
  | .tup es, env, S => (evEs C es env S).bind fun ds S => .ok (.tup ds) S
  | .ls l, env, S => (evL C l env S).bind fun p S => .ok (.obj S.length) (.lst p.1 :: S)
  | .dct es, env, S => (evEs C es env S).bind fun ds S => (match pairsD ds with
    | some m => if ds.length ≤ 30 then .ok (.obj S.length) (.dct (m.foldl (fun m p => putD p.1 p.2 m) []) :: S) else .bad
    | none => .bad)
  | .tupOf l, env, S => (evL C l env S).bind fun p S => .ok (.tup p.1) S
  | .allOf l, env, S => (evL C l env S).bind fun p S => (Res.of (bls p.1) S).bind fun k S => .ok (.bl (k.all id)) S
  | .anyOf l, env, S => (evL C l env S).bind fun p S => (Res.of (bls p.1) S).bind fun k S => .ok (.bl (k.any id)) S
  | .sumOf l, env, S => (evL C l env S).bind fun p S => (Res.of (intsD p.1) S).bind fun k S => .ok (.int k.sum) S
  | .minOf l, env, S => (evL C l env S).bind fun p S => (match intsD p.1 with
    | some (x :: r) => .ok (.int (r.foldl min x)) S
    | _ => (match p.1 with
      | x :: r => if minLk (x :: r) = true then .ok (minT x r) S else .bad
      | [] => .bad))
  | .maxOf l, env, S => (evL C l env S).bind fun p S => (match intsD p.1 with
    | some (x :: r) => .ok (.int (r.foldl max x)) S
    | _ => .bad)
  | .sorted l, env, S => (evL C l env S).bind fun p S => (match sortD p.1 with
    | some ys => .ok (.obj S.length) (.lst ys :: S)
    | none => .bad)
  | .join a l, env, S => (evE C a env S).bind fun x S => if isS x then (evL C l env S).bind fun p S => (match x, strsD p.1 with
    | .str s, some ts => if (ts.map (·.length)).sum + ts.length * s.length ≤ line then .ok (.str (joinS s ts)) S else .bad
    | _, _ => .bad) else .bad
  | .app o a, env, S => (evE C o env S).bind fun x S => if isL x S then (evE C a env S).bind fun y S => appD x y S else .bad
  | .pop o, env, S => (evE C o env S).bind fun x S => if isL x S then popD x S else .bad
  | .ext o a, env, S => (evE C o env S).bind fun x S => if isL x S then (evE C a env S).bind fun y S => extD x y S else .bad
  | .sw o a, env, S => (evE C o env S).bind fun x S => if isS x then (evE C a env S).bind fun y S => (Res.of (swD x y) S).bind fun k S => .ok (.bl k) S else .bad
def evEs (C : Ctx) : List Exp → Env → Store → Res (List D)
  | [], _, S => .ok [] S
  | e :: r, env, S => (evE C e env S).bind fun x S => (evEs C r env S).bind fun xs S => .ok (x :: xs) S
def evO (C : Ctx) : Option Exp → Env → Store → Res (Option D)
  | none, _, S => .ok none S
  | some e, env, S => (evE C e env S).bind fun x S => (match x with
    | .int i => .ok (some (.int i)) S
    | _ => .bad)
def evL (C : Ctx) : Src → Env → Store → Res (List D × Option Nat)
  | .val e, env, S => (evE C e env S).bind fun x S => Res.of (items x S) S
  | .seq e, env, S => (evE C e env S).bind fun x S => Res.of ((seqD x S).map fun xs => (xs, none)) S
  | .lis e, env, S => (evE C e env S).bind fun x S => if isLs x S then Res.of ((seqD x S).map fun xs => (xs, none)) S else .bad
  | .keys e, env, S => (evE C e env S).bind fun x S => Res.of ((keysD x S).map fun xs => (xs, none)) S
  | .rng a, env, S => (evE C a env S).bind fun x S => (match x with
    | .int i => if small i then .ok (rngL 0 i, none) S else .bad
    | _ => .bad)
  | .rng2 a b, env, S => (evE C a env S).bind fun x S => (evE C b env S).bind fun y S => (match x, y with
    | .int i, .int j => if small i && small j then .ok (rngL i j, none) S else .bad
    | _, _ => .bad)
  | .rng3 a b c, env, S => (evE C a env S).bind fun x S => (evE C b env S).bind fun y S => (evE C c env S).bind fun z S => (match x, y, z with
    | .int i, .int j, .int k => if small i && small j && decide (0 < k) && decide (k < 1073741824) then .ok (rngL3 i j k, none) S else .bad
    | _, _, _ => .bad)
  | .disp es, env, S => (evEs C es env S).bind fun xs S => .ok (xs, none) S
  | .comp e t l ifs, env, S => (evL C l env S).bind fun p S => if p.1.length ≤ line then
      (compL (fun x S => match bind1 t x (kill t.ix env) with
        | some env => (match evTs C ifs env S with
          | .ok true S => (match evE C e env S with
            | .ok y S => .ok (some y) S
            | _ => .bad)
          | .ok false S => .ok none S
          | _ => .bad)
        | none => .bad) (stands p.2 (obAt p.2 S)) p.1 S).bind fun ys S => .ok (ys, none) S else .bad
  | .zip a b, env, S => (evL C a env S).bind fun p S => (evL C b env S).bind fun q S => if p.2.isNone && q.2.isNone then .ok ((p.1.zip q.1).map fun z => .tup [z.1, z.2], none) S else .bad
  | .comp2 e t l ifs t1 l1 ifs1, env, S => (evL C l env S).bind fun p S => if p.1.length ≤ line then
      (compL2 (fun x S => match bind1 t x (kill (t.ix ++ t1.ix) env) with
        | some env => (match evTs C ifs env S with
          | .ok true S => (match evL C l1 env S with
            | .ok p1 S => if p1.1.length ≤ line then compL (fun x S => match bind1 t1 x (kill t1.ix env) with
                | some env => (match evTs C ifs1 env S with
                  | .ok true S => (match evE C e env S with
                    | .ok y S => .ok (some y) S
                    | _ => .bad)
                  | .ok false S => .ok none S
                  | _ => .bad)
                | none => .bad) (stands p1.2 (obAt p1.2 S)) p1.1 S else .bad
            | _ => .bad)
          | .ok false S => .ok [] S
          | _ => .bad)
        | none => .bad) (stands p.2 (obAt p.2 S)) p.1 S).bind fun ys S => if ys.length ≤ line then .ok (ys, none) S else .bad else .bad
def evT (C : Ctx) : Tst → Env → Store → Res Bool
  | .val e, env, S => (evE C e env S).bind fun x S => Res.of (truth S x) S
  | .not t, env, S => (evT C t env S).bind fun k S => .ok (!k) S
  | .and a b, env, S => (evT C a env S).bind fun k S => if k then evT C b env S else .ok false S
  | .or a b, env, S => (evT C a env S).bind fun k S => if k then .ok true S else evT C b env S
def evTs (C : Ctx) : List Tst → Env → Store → Res Bool
  | [], _, S => .ok true S
  | t :: r, env, S => (evT C t env S).bind fun k S => if k then evTs C r env S else .ok false S
end
inductive Flow where | nx (env : Env) | rt (d : D) | bk (env : Env) | ct (env : Env) | ex (c : Nat) (fs : List D) (env : Env)
/-- an expression within a statement: what it raises leaves the statement -/
def Res.st {α : Type} (r : Res α) (env : Env) (k : α → Store → Res Flow) : Res Flow := match r with
  | .ok a S => k a S
  | .exc c fs S => .ok (.ex c fs env) S
  | .bad => .bad
def loopL (f : D → Env → Store → Res Flow) (ks : List Nat) (g : Store → Bool) : List D → Env → Store → Res Flow
  | [], env, S => if g S then .ok (.nx env) S else .bad
  | x :: r, env, S => if g S then (f x env S).bind fun fl S' => (match fl with
    | .nx env => loopL f ks g r (kill ks env) (trim S S' (kill ks env))
    | .ct env => loopL f ks g r (kill ks env) (trim S S' (kill ks env))
    | .bk env => .ok (.nx (kill ks env)) S'
    | .rt d => .ok (.rt d) S'
    | .ex c fs env => .ok (.ex c fs env) S') else .bad
def whlL (t : Env → Store → Res Bool) (f : Env → Store → Res Flow) (ks : List Nat) : Nat → Env → Store → Res Flow
  | 0, _, _ => .bad
  | n + 1, env, S => (t env S).st env fun k S1 => if k then (f env S1).bind fun fl S' => (match fl with
    | .nx env => whlL t f ks n (kill ks env) (trim S S' (kill ks env))
    | .ct env => whlL t f ks n (kill ks env) (trim S S' (kill ks env))
    | .bk env => .ok (.nx (kill ks env)) S'
    | .rt d => .ok (.rt d) S'
    | .ex c fs env => .ok (.ex c fs env) S') else .ok (.nx env) S1
abbrev turns : Nat := 1000000000
def catches (Cl : Classes) (c : Nat) (cs : List Nat) : Bool := ((Cl[c]?).getD []).any fun b => cs.contains b
mutual
def evS (C : Ctx) : Stm → Env → Store → Res Flow
  | .pass, env, S => .ok (.nx env) S
  | .ex e, env, S => (evE C e env S).st env fun _ S => .ok (.nx env) S
  | .set t e, env, S => (evE C e env S).st env fun x S => (match bind1 t x env with
    | some env => .ok (.nx env) S
    | none => .bad)
  | .setIx o i e, env, S => (evE C e env S).st env fun x S => (evE C o env S).st env fun y S => (evE C i env S).st env fun z S => (match setIxD y z x S with
    | some S => .ok (.nx env) S
    | none => .bad)
  | .ite t a b, env, S => (evT C t env S).st env fun k S => if k then evSs C a env S else evSs C b env S
  | .forS t l body ks, env, S => (evL C l env S).st env fun p S => loopL (fun x env S => match bind1 t x env with
    | some env => evSs C body env S
    | none => .bad) ks (stands p.2 (obAt p.2 S)) p.1 env S
  | .whl t body ks, env, S => whlL (evT C t) (evSs C body) ks turns env S
  | .ret e, env, S => (evE C e env S).st env fun x S => .ok (.rt x) S
  | .brk, env, S => .ok (.bk env) S
  | .cont, env, S => .ok (.ct env) S
  | .rais c es, env, S => (evEs C es env S).st env fun ds S => .ok (.ex c ds env) S
  | .tryS body hs, env, S => (evSs C body env S).bind fun fl S => (match fl with
    | .ex c fs env => evH C hs c fs env S
    | fl => .ok fl S)
  | .kill ks, env, S => .ok (.nx (kill ks env)) S
def evH (C : Ctx) : List (List Nat × Option Nat × List Stm) → Nat → List D → Env → Store → Res Flow
  | [], c, fs, env, S => .ok (.ex c fs env) S
  | (cs, sl, suite) :: r, c, fs, env, S => if catches C.Cl c cs then
      (match sl with
      | some i => if i < env.length then (evSs { C with exn := some (c, fs) } suite (env.set i none) S).bind fun fl S => (match fl with
        | .nx env => .ok (.nx (env.set i none)) S
        | .rt d => .ok (.rt d) S
        | _ => .bad) else .bad
      | none => (evSs { C with exn := some (c, fs) } suite env S).bind fun fl S => (match fl with
        | .nx env => .ok (.nx env) S
        | .rt d => .ok (.rt d) S
        | _ => .bad)) else evH C r c fs env S
def evSs (C : Ctx) : List Stm → Env → Store → Res Flow
  | [], env, S => .ok (.nx env) S
  | s :: r, env, S => (evS C s env S).bind fun fl S => (match fl with
    | .nx env => evSs C r env S
    | fl => .ok fl S)
end
structure Fn where
  np : Nat
  nl : Nat
  body : List Stm
def evFn (C : Ctx) (f : Fn) (ds : List D) (S : Store) : Res D :=
  if C.exn.isSome ∨ ds.length = f.np then match evSs C f.body (if C.exn.isSome then List.replicate f.nl none else ds.map some ++ List.replicate (f.nl - f.np) none) S with
    | .ok (.rt d) S' => fin S S' d
    | .ok (.nx _) S' => fin S S' .non
    | .ok (.ex c fs _) S' => .exc c fs (finX S S' fs)
    | _ => .bad
  else .bad
structure Prg where
  fns : List Fn
  G : List D
  Cl : Classes
def den (p : Prg) : Nat → Exn → Calls
  | 0, _, _, _, _ => .bad
  | n + 1, x, i, ds, S => (match p.fns[i]? with
    | some f => evFn ⟨den p n, p.G, p.Cl, x⟩ f ds S
    | none => .bad)
end Pw
end
section
set_option Elab.async false
set_option linter.all false
set_option maxRecDepth 100000
set_option maxHeartbeats 1000000
set_option autoImplicit false
/-! Pw1: how values, stores and rows of slots of Pw0 lie over the hand layer's abstract heap -/
namespace Pw
open PySem PySem.Spec PyProof.Rows L2
/-- the exception at hand: its address, its class, its fields -/
abbrev Ex1 := Option (Addr × Nat × List D)
mutual
inductive Rp (K : PySem.W.Frag) (φ : Nat → Addr) (ex : Ex1) (H : Hp) : V → D → Prop
  | non : Rp K φ ex H .non .non
  | bl (b : Bool) : Rp K φ ex H (.bl b) (.bl b)
  | int (i : Int) : Rp K φ ex H (.int i) (.int i)
  | str (x : Str) : Rp K φ ex H (.str x) (.str x.cps.toList)
  | tup {a : Addr} {vs : List V} {ds : List D} : SqT K H a vs → RpA K φ ex H vs ds → Rp K φ ex H (.ref a) (.tup ds)
  | obj (n : Nat) : Rp K φ ex H (.ref (φ n)) (.obj n)
  | exc {a : Addr} {c : Nat} {fs : List D} : False → Rp K φ ex H (.ref a) (.exc c fs)
inductive RpA (K : PySem.W.Frag) (φ : Nat → Addr) (ex : Ex1) (H : Hp) : List V → List D → Prop
  | nil : RpA K φ ex H [] []
  | cons {v : V} {d : D} {vs : List V} {ds : List D} : Rp K φ ex H v d → RpA K φ ex H vs ds → RpA K φ ex H (v :: vs) (d :: ds)
end
/-- tuples and known things stay -/
structure Kp (H H' : Hp) : Prop where
  tup : ∀ a vs, H a = some (.tup vs) → H' a = some (.tup vs)
  frz : ∀ a o u, H a = some (.frz o u) → H' a = some (.frz o u)
theorem Kp.refl {H : Hp} : Kp H H := ⟨fun _ _ h => h, fun _ _ _ h => h⟩
theorem Kp.trans {H H1 H2 : Hp} (a : Kp H H1) (b : Kp H1 H2) : Kp H H2 := ⟨fun x v h => b.tup x v (a.tup x v h), fun x o u h => b.frz x o u (a.frz x o u h)⟩
theorem Kp.new {H : Hp} {p : Addr} {o : HO} (h : H p = none) : Kp H (upd H p o) :=
  ⟨fun a vs e => by rw [upd_ne (ne_of_none e h)]; exact e, fun a x u e => by rw [upd_ne (ne_of_none e h)]; exact e⟩
theorem Kp.set {H : Hp} {p : Addr} {o o' : HO} (h : H p = some o) (hm : Mut (some o)) : Kp H (upd H p o') :=
  ⟨fun a vs e => by
    have ne : a ≠ p := fun z => by subst z; rw [e] at h; cases h; exact hm
    rw [upd_ne ne]; exact e, fun a x u e => by
    have ne : a ≠ p := fun z => by subst z; rw [e] at h; cases h; exact hm
    rw [upd_ne ne]; exact e⟩
section
variable {K : PySem.W.Frag} {φ φ' : Nat → Addr} {ex : Ex1} {H H' : Hp}
theorem sqT_kp {a : Addr} {vs : List V} (h : SqT K H a vs) (k : Kp H H') : SqT K H' a vs := by
  rcases h with (h | ⟨o, h⟩) | h
  · exact .inl (.inl (k.tup _ _ h))
  · exact .inl (.inr ⟨o, k.frz _ _ _ h⟩)
  · exact .inr h
theorem bels_all {n : Nat} : ∀ {ds : List D}, D.bels n ds = true ↔ ∀ d ∈ ds, D.bel n d = true
  | [] => by simp [D.bels]
  | d :: r => by simp [D.bels, bels_all (ds := r)]
mutual
theorem Rp.mono {n : Nat} : ∀ {v : V} {d : D}, Rp K φ ex H v d → D.bel n d = true → (∀ m, m < n → φ' m = φ m) → Kp H H' → Rp K φ' ex H' v d
  | _, _, .non, _, _, _ => .non
  | _, _, .bl b, _, _, _ => .bl b
  | _, _, .int i, _, _, _ => .int i
  | _, _, .str x, _, _, _ => .str x
  | _, _, .tup h r, b, e, k => .tup (sqT_kp h k) (RpA.mono r (by simpa [D.bel] using b) e k)
  | _, _, .obj m, b, e, _ => by
    have hm : m < n := by simpa [D.bel] using b
    rw [← e m hm]
    exact .obj m
  | _, _, .exc h, _, _, _ => .exc h
theorem RpA.mono {n : Nat} : ∀ {vs : List V} {ds : List D}, RpA K φ ex H vs ds → D.bels n ds = true → (∀ m, m < n → φ' m = φ m) → Kp H H' → RpA K φ' ex H' vs ds
  | _, _, .nil, _, _, _ => .nil
  | _, _, .cons r t, b, e, k => by
    simp only [D.bels, Bool.and_eq_true] at b
    exact .cons (Rp.mono r b.1 e k) (RpA.mono t b.2 e k)
end
mutual
theorem D.bel_mono {m n : Nat} (h : m ≤ n) : ∀ d : D, D.bel m d = true → D.bel n d = true
  | .non, _ => rfl
  | .bl _, _ => rfl
  | .int _, _ => rfl
  | .str _, _ => rfl
  | .obj k, b => by
    have : k < m := by simpa [D.bel] using b
    show Nat.blt k n = true
    exact Nat.ble_eq_true_of_le (by omega)
  | .tup xs, b => by simp only [D.bel] at b ⊢; exact D.bels_mono h xs b
  | .exc _ xs, b => by simp only [D.bel] at b ⊢; exact D.bels_mono h xs b
theorem D.bels_mono {m n : Nat} (h : m ≤ n) : ∀ ds : List D, D.bels m ds = true → D.bels n ds = true
  | [], _ => rfl
  | d :: r, b => by
    simp only [D.bels, Bool.and_eq_true] at b ⊢
    exact ⟨D.bel_mono h d b.1, D.bels_mono h r b.2⟩
end
theorem SO.bel_mono {m n : Nat} (h : m ≤ n) (o : SO) (b : o.bel m = true) : o.bel n = true := by
  cases o with
  | lst xs => exact D.bels_mono h _ b
  | ro xs => exact D.bels_mono h _ b
  | set xs => exact D.bels_mono h _ b
  | ins c fs => exact D.bels_mono h _ b
  | dct kvs =>
    simp only [SO.bel, Bool.and_eq_true] at b ⊢
    exact ⟨D.bels_mono h _ b.1, D.bels_mono h _ b.2⟩
theorem RpA.length {vs : List V} {ds : List D} (r : RpA K φ ex H vs ds) : vs.length = ds.length := by
  induction ds generalizing vs with
  | nil => cases r; rfl
  | cons d t ih => cases r with | cons _ r => simp [ih r]
theorem RpA.get {vs : List V} {ds : List D} (r : RpA K φ ex H vs ds) {i : Nat} : (∀ d, ds[i]? = some d → ∃ v, vs[i]? = some v ∧ Rp K φ ex H v d) := by
  induction ds generalizing vs i with
  | nil => intro d e; simp at e
  | cons d t ih => cases r with
    | cons q r => cases i with
      | zero => intro e h; simp at h; subst h; exact ⟨_, rfl, q⟩
      | succ i => intro e h; simpa using ih r e (by simpa using h)
theorem RpA.getv {vs : List V} {ds : List D} (r : RpA K φ ex H vs ds) {i : Nat} {v : V} (h : vs[i]? = some v) : ∃ d, ds[i]? = some d ∧ Rp K φ ex H v d := by
  induction ds generalizing vs i with
  | nil => cases r; simp at h
  | cons d t ih => cases r with
    | cons q r => cases i with
      | zero => simp at h; subst h; exact ⟨_, rfl, q⟩
      | succ i => simpa using ih r (by simpa using h)
theorem RpA.append {vs ws : List V} {ds es : List D} (r : RpA K φ ex H vs ds) (s : RpA K φ ex H ws es) : RpA K φ ex H (vs ++ ws) (ds ++ es) := by
  induction ds generalizing vs with
  | nil => cases r; exact s
  | cons d t ih => cases r with | cons q r => exact .cons q (ih r)
theorem RpA.take {vs : List V} {ds : List D} (r : RpA K φ ex H vs ds) (n : Nat) : RpA K φ ex H (vs.take n) (ds.take n) := by
  induction ds generalizing vs n with
  | nil => cases r; simp; exact .nil
  | cons d t ih => cases r with
    | cons q r => cases n with
      | zero => exact .nil
      | succ n => exact .cons q (ih r n)
theorem RpA.drop {vs : List V} {ds : List D} (r : RpA K φ ex H vs ds) (n : Nat) : RpA K φ ex H (vs.drop n) (ds.drop n) := by
  induction ds generalizing vs n with
  | nil => cases r; simp; exact .nil
  | cons d t ih => cases r with
    | cons q r => cases n with
      | zero => exact .cons q r
      | succ n => exact ih r n
theorem RpA.set {vs : List V} {ds : List D} {v : V} {d : D} (r : RpA K φ ex H vs ds) (q : Rp K φ ex H v d) (i : Nat) : RpA K φ ex H (vs.set i v) (ds.set i d) := by
  induction ds generalizing vs i with
  | nil => cases r; exact .nil
  | cons e t ih => cases r with
    | cons p r => cases i with
      | zero => exact .cons q r
      | succ i => exact .cons p (ih r i)
theorem RpA.reverse {vs : List V} {ds : List D} (r : RpA K φ ex H vs ds) : RpA K φ ex H vs.reverse ds.reverse := by
  induction ds generalizing vs with
  | nil => cases r; exact .nil
  | cons e t ih => cases r with
    | cons p r =>
      rw [List.reverse_cons, List.reverse_cons]
      exact (ih r).append (.cons p .nil)
end
/-- a list that nobody writes: locked -/
def RoL (H : Hp) (a : Addr) (vs : List V) : Prop := ∃ o, H a = some (.frz o (.lst vs))
theorem RoL.sq {K : PySem.W.Frag} {H : Hp} {a : Addr} {vs : List V} (h : RoL H a vs) : SqL K H a vs := by
  obtain ⟨o, h⟩ := h
  exact .inl (.inr ⟨o, h⟩)
theorem RoL.kp {H H' : Hp} {a : Addr} {vs : List V} (h : RoL H a vs) (k : Kp H H') : RoL H' a vs := by
  obtain ⟨o, h⟩ := h
  exact ⟨o, k.frz _ _ _ h⟩
/-- what an object of the store is at its address -/
def ObR (K : PySem.W.Frag) (φ : Nat → Addr) (ex : Ex1) (H : Hp) (a : Addr) : SO → Prop
  | .lst ds => ∃ vs, H a = some (.lst vs) ∧ RpA K φ ex H vs ds
  | .ro ds => ∃ vs, RoL H a vs ∧ RpA K φ ex H vs ds
  | .dct kvs => ∃ ws : List (Key × V), H a = some (.dK ws) ∧ RpA K φ ex H (ws.map fun p => kV p.1) (kvs.map (·.1)) ∧ RpA K φ ex H (ws.map (·.2)) (kvs.map (·.2)) ∧ (ws.map (·.1)).Nodup
  | .set _ => False
  | .ins _ _ => False
/-- it may be written -/
def SO.mu : SO → Bool
  | .ro _ => false
  | _ => true
theorem get_lt {S : Store} {n : Nat} {o : SO} (h : get S n = some o) : n < S.length := by
  induction S with
  | nil => cases h
  | cons x r ih =>
    simp only [get] at h
    split at h
    · subst n; simp
    · have := ih h
      simp only [List.length_cons]
      omega
theorem get_some {S : Store} {n : Nat} (h : n < S.length) : ∃ o, get S n = some o := by
  induction S with
  | nil => simp at h
  | cons x r ih =>
    simp only [get]
    split
    · exact ⟨_, rfl⟩
    · exact ih (by simp only [List.length_cons] at h; omega)
theorem get_new {S : Store} {o : SO} : get (o :: S) S.length = some o := by simp [get]
theorem get_old {S : Store} {o : SO} {n : Nat} (h : n < S.length) : get (o :: S) n = get S n := by simp only [get]; rw [if_neg (by omega)]
theorem get_drop {S : Store} {k n : Nat} (h : n < (S.drop k).length) : get (S.drop k) n = get S n := by
  induction k generalizing S with
  | zero => rfl
  | succ k ih => cases S with
    | nil => rfl
    | cons x r =>
      rw [List.drop_succ_cons] at h ⊢
      rw [ih h, get_old]
      rw [List.length_drop] at h
      omega
@[simp] theorem put_length {S : Store} {n : Nat} {o : SO} : (put S n o).length = S.length := by
  induction S with
  | nil => rfl
  | cons x r ih =>
    simp only [put]
    split <;> simp [ih]
theorem get_put {S : Store} {n m : Nat} {o : SO} (h : n < S.length) : get (put S n o) m = if m = n then some o else get S m := by
  induction S with
  | nil => simp at h
  | cons x r ih =>
    simp only [put]
    by_cases e : n = r.length
    · subst e
      simp only [if_pos, get]
      all_goals (split <;> rfl)
    · rw [if_neg e]
      have hn : n < r.length := by simp only [List.length_cons] at h; omega
      simp only [get, put_length]
      by_cases e2 : m = r.length
      · subst e2; rw [if_pos rfl, if_pos rfl, if_neg (Ne.symm e)]
      · rw [if_neg e2, if_neg e2]; exact ih hn
/-- the store over the heap -/
structure SimO (K : PySem.W.Frag) (φ : Nat → Addr) (ex : Ex1) (H : Hp) (S : Store) : Prop where
  ob : ∀ n o, get S n = some o → ObR K φ ex H (φ n) o
  wf : ∀ n o, get S n = some o → o.bel S.length = true
  inj : ∀ m n om on, get S m = some om → get S n = some on → om.mu = true → on.mu = true → φ m = φ n → m = n
/-- the slots -/
structure SimE (K : PySem.W.Frag) (φ : Nat → Addr) (ex : Ex1) (H : Hp) (n : Nat) (σ : List (Option V)) (env : Env) : Prop where
  len : σ.length = env.length
  at_ : ∀ (i : Nat) (d : D), env[i]? = some (some d) → ∃ v, σ[i]? = some (some v) ∧ Rp K φ ex H v d ∧ D.bel n d = true
  xs : ∀ a i fs, ex = some (a, i, fs) → σ[i]? = some (some (.ref a))
structure Sim (K : PySem.W.Frag) (φ : Nat → Addr) (ex : Ex1) (H : Hp) (S : Store) (σ : List (Option V)) (env : Env) : Prop where
  o : SimO K φ ex H S
  e : SimE K φ ex H S.length σ env
/-- later: the store has grown (or not), the addresses are as before -/
structure Lat (φ φ' : Nat → Addr) (S S' : Store) (H H' : Hp) : Prop where
  le : S.length ≤ S'.length
  same : ∀ m, m < S.length → φ' m = φ m
  kp : Kp H H'
  fr : ∀ a o, H a = some o → (∀ n, n < S.length → φ n ≠ a) → H' a = some o
  nw : ∀ n, S.length ≤ n → n < S'.length → H (φ' n) = none
  no : ∀ a, H' a = none → H a = none
/-- what a walk's state asks of what lies between: old objects where they stood, known things as they were -/
structure LatW (φ φ' : Nat → Addr) (S S' : Store) (H H' : Hp) : Prop where
  le : S.length ≤ S'.length
  same : ∀ m, m < S.length → φ' m = φ m
  kp : Kp H H'
theorem Lat.w {φ φ' : Nat → Addr} {S S' : Store} {H H' : Hp} (l : Lat φ φ' S S' H H') : LatW φ φ' S S' H H' := ⟨l.le, l.same, l.kp⟩
section
variable {K : PySem.W.Frag} {φ φ' φ1 : Nat → Addr} {ex : Ex1} {H H' H1 : Hp} {S S' S1 : Store} {σ : List (Option V)} {env : Env} {v : V} {d : D}
theorem Lat.refl : Lat φ φ S S H H := ⟨Nat.le_refl _, fun _ _ => rfl, Kp.refl, fun _ _ h _ => h, fun n h1 h2 => absurd h2 (by omega), fun _ h => h⟩
theorem Lat.trans (a : Lat φ φ1 S S1 H H1) (b : Lat φ1 φ' S1 S' H1 H') : Lat φ φ' S S' H H' := by
  refine ⟨Nat.le_trans a.le b.le, fun m h => (b.same m (Nat.lt_of_lt_of_le h a.le)).trans (a.same m h), a.kp.trans b.kp, ?_, ?_, fun x h => a.no x (b.no x h)⟩
  · intro x o h hn
    refine b.fr x o (a.fr x o h hn) fun n hl z => ?_
    by_cases hs : n < S.length
    · rw [a.same n hs] at z; exact hn n hs z
    · have := a.nw n (by omega) hl
      rw [z, h] at this
      cases this
  · intro n h1 h2
    by_cases hs : n < S1.length
    · rw [b.same n hs]; exact a.nw n h1 hs
    · exact a.no _ (b.nw n (by omega) h2)
/-- the heap alone, a new thing -/
theorem Lat.newT {p : Addr} {o : HO} (hp : H p = none) : Lat φ φ S S H (upd H p o) :=
  ⟨Nat.le_refl _, fun _ _ => rfl, Kp.new hp, fun a u h _ => by rw [upd_ne (ne_of_none h hp)]; exact h, fun n h1 h2 => absurd h2 (by omega), fun a h => by
    by_cases z : a = p
    · rw [z]; exact hp
    · rw [upd_ne z] at h; exact h⟩
theorem Rp.lat (r : Rp K φ ex H v d) (b : D.bel S.length d = true) (l : Lat φ φ' S S' H H') : Rp K φ' ex H' v d := r.mono b l.same l.kp
theorem RpA.lat {vs : List V} {ds : List D} (r : RpA K φ ex H vs ds) (b : D.bels S.length ds = true) (l : Lat φ φ' S S' H H') : RpA K φ' ex H' vs ds := r.mono b l.same l.kp
theorem SimE.lat (e : SimE K φ ex H S.length σ env) (l : Lat φ φ' S S' H H') : SimE K φ' ex H' S'.length σ env :=
  ⟨e.len, fun i d h => let ⟨v, h1, h2, h3⟩ := e.at_ i d h; ⟨v, h1, h2.lat h3 l, D.bel_mono l.le d h3⟩, e.xs⟩
/-- an object not touched -/
theorem ObR.lat {a : Addr} {o : SO} (x : ObR K φ ex H a o) (b : o.bel S.length = true) (ls : ∀ m, m < S.length → φ' m = φ m) (lk : Kp H H') (h : o.mu = true → ∀ u, H a = some u → H' a = some u) : ObR K φ' ex H' a o := by
  cases o with
  | lst ds => obtain ⟨vs, e, r⟩ := x; exact ⟨vs, h rfl _ e, r.mono b ls lk⟩
  | ro ds => obtain ⟨vs, e, r⟩ := x; exact ⟨vs, e.kp lk, r.mono b ls lk⟩
  | dct kvs =>
    obtain ⟨ws, e, r1, r2, nd⟩ := x
    simp only [SO.bel, Bool.and_eq_true] at b
    exact ⟨ws, h rfl _ e, r1.mono b.1 ls lk, r2.mono b.2 ls lk, nd⟩
  | set _ => exact x.elim
  | ins _ _ => exact x.elim
theorem ObR.there {a : Addr} {o : SO} (x : ObR K φ ex H a o) (m : o.mu = true) : ∃ u, H a = some u ∧ Mut (some u) := by
  cases o with
  | lst ds => obtain ⟨vs, e, _⟩ := x; exact ⟨_, e, trivial⟩
  | ro ds => cases m
  | dct kvs => obtain ⟨vs, e, _⟩ := x; exact ⟨_, e, trivial⟩
  | set _ => exact x.elim
  | ins _ _ => exact x.elim
/-- the heap alone has changed, and not where the store stands -/
theorem SimO.heap (x : SimO K φ ex H S) (k : Kp H H') (h : ∀ n o, get S n = some o → o.mu = true → ∀ u, H (φ n) = some u → H' (φ n) = some u) : SimO K φ ex H' S :=
  ⟨fun n o e => (x.ob n o e).lat (x.wf n o e) (fun _ _ => rfl) k (h n o e), x.wf, x.inj⟩
/-- a new thing beside the store -/
theorem SimO.new (x : SimO K φ ex H S) {p : Addr} {o : HO} (hp : H p = none) : SimO K φ ex (upd H p o) S :=
  x.heap (Kp.new hp) fun n _ _ _ u e => by rw [upd_ne (ne_of_none e hp)]; exact e
/-- a new object of the store -/
theorem SimO.push (x : SimO K φ ex H S) {p : Addr} {u : HO} {o : SO} (hp : H p = none) (hb : o.bel S.length = true)
    (ho : ∀ φ', (∀ m, m < S.length → φ' m = φ m) → ObR K φ' ex (upd H p u) p o) :
    ∃ φ', Lat φ φ' S (o :: S) H (upd H p u) ∧ φ' S.length = p ∧ SimO K φ' ex (upd H p u) (o :: S) := by
  refine ⟨fun n => if n = S.length then p else φ n, ⟨by simp, fun m h => if_neg (by omega), Kp.new hp, (Lat.newT (φ := φ) (S := S) hp).fr, fun n h1 h2 => ?_, (Lat.newT (φ := φ) (S := S) hp).no⟩, if_pos rfl, fun n q e => ?_, fun n q e => ?_, fun m n om on em en mm mn e => ?_⟩
  · have : n = S.length := by simp only [List.length_cons] at h2; omega
    show H (if n = S.length then p else φ n) = none
    rw [if_pos this]; exact hp
  · have hn := get_lt e
    simp only [List.length_cons] at hn
    by_cases z : n = S.length
    · subst z
      rw [get_new] at e
      cases e
      show ObR K _ ex _ (if S.length = S.length then p else φ S.length) o
      rw [if_pos rfl]
      exact ho _ fun m h => if_neg (by omega)
    · have hl : n < S.length := by omega
      rw [get_old hl] at e
      show ObR K _ ex _ (if n = S.length then p else φ n) q
      rw [if_neg z]
      refine (x.ob n q e).lat (x.wf n q e) (fun m h => if_neg (by omega)) (Kp.new hp) fun _ w ew => ?_
      rw [upd_ne (ne_of_none ew hp)]
      exact ew
  · have hn := get_lt e
    simp only [List.length_cons] at hn ⊢
    by_cases z : n = S.length
    · subst z
      rw [get_new] at e
      cases e
      exact SO.bel_mono (by omega) _ hb
    · rw [get_old (by omega)] at e
      exact SO.bel_mono (by omega) _ (x.wf n q e)
  · have hm := get_lt em
    have hn := get_lt en
    simp only [List.length_cons] at hm hn
    have old : ∀ {n q}, get (o :: S) n = some q → n ≠ S.length → q.mu = true → φ n ≠ p := fun {n q} e z mu hz => by
      have h1 := get_lt e
      simp only [List.length_cons] at h1
      rw [get_old (by omega)] at e
      obtain ⟨w, hw, _⟩ := (x.ob n q e).there mu
      rw [hz, hp] at hw
      cases hw
    have e' : (if m = S.length then p else φ m) = (if n = S.length then p else φ n) := e
    by_cases z1 : m = S.length <;> by_cases z2 : n = S.length
    · rw [z1, z2]
    · rw [if_pos z1, if_neg z2] at e'
      exact absurd e'.symm (old en z2 mn)
    · rw [if_neg z1, if_pos z2] at e'
      exact absurd e' (old em z1 mm)
    · rw [if_neg z1, if_neg z2] at e'
      rw [get_old (by omega)] at em en
      exact x.inj m n om on em en mm mn e'
/-- an object of the store is written -/
theorem SimO.write (x : SimO K φ ex H S) {n : Nat} {o o' : SO} {u : HO} (hn : get S n = some o) (mu : o.mu = true) (hb : o'.bel S.length = true)
    (ho : ∀ w, H (φ n) = some w → ObR K φ ex (upd H (φ n) u) (φ n) o') :
    Lat φ φ S (put S n o') H (upd H (φ n) u) ∧ SimO K φ ex (upd H (φ n) u) (put S n o') := by
  have hl := get_lt hn
  obtain ⟨w, hw, hm⟩ := (x.ob n o hn).there mu
  have k : Kp H (upd H (φ n) u) := Kp.set hw hm
  refine ⟨⟨by simp, fun _ _ => rfl, k, fun a o h hn => by rw [upd_ne (fun z => hn n hl z.symm)]; exact h, fun m h1 h2 => absurd h2 (by simp; omega), fun a h => ?_⟩, fun m q e => ?_, fun m q e => ?_, fun m m' om on em en mm mn e => ?_⟩
  · by_cases z : a = φ n
    · rw [z, upd_same] at h; cases h
    · rw [upd_ne z] at h; exact h
  · rw [get_put hl] at e
    by_cases z : m = n
    · rw [if_pos z] at e; cases e; subst z; exact ho w hw
    · rw [if_neg z] at e
      refine (x.ob m q e).lat (x.wf m q e) (fun _ _ => rfl) k fun mq v ev => ?_
      rw [upd_ne fun z2 => z (x.inj m n q o e hn mq mu z2)]
      exact ev
  · rw [put_length]
    rw [get_put hl] at e
    by_cases z : m = n
    · rw [if_pos z] at e; cases e; exact hb
    · rw [if_neg z] at e; exact x.wf m q e
  · have back : ∀ {m q}, get (put S n o') m = some q → q.mu = true → ∃ q', get S m = some q' ∧ q'.mu = true := fun {m q} e mq => by
      rw [get_put hl] at e
      by_cases z : m = n
      · subst z; exact ⟨o, hn, mu⟩
      · rw [if_neg z] at e; exact ⟨q, e, mq⟩
    obtain ⟨q1, a1, b1⟩ := back em mm
    obtain ⟨q2, a2, b2⟩ := back en mn
    exact x.inj m m' q1 q2 a1 a2 b1 b2 e
/-- the older part of the store -/
theorem SimO.old (x : SimO K φ ex H S) {k : Nat} (h : ∀ n o, get (S.drop k) n = some o → o.bel (S.drop k).length = true) : SimO K φ ex H (S.drop k) :=
  ⟨fun n o e => x.ob n o (by rw [← get_drop (get_lt e)]; exact e), h, fun m n om on em en => x.inj m n om on (by rw [← get_drop (get_lt em)]; exact em) (by rw [← get_drop (get_lt en)]; exact en)⟩
end
end Pw
end
section
set_option Elab.async false
set_option linter.all false
set_option maxRecDepth 100000
set_option maxHeartbeats 1000000
set_option autoImplicit false
/-! Pw2: the operations of Pw0 against the hand layer's rules -/
namespace Pw
open PySem PySem.Spec PyProof.Rows L2
/-- what stands beside: the written part, the classes' addresses, the exception at hand -/
structure Wo where
  K : PySem.W.Frag
  ex : Ex1
variable (w : Wo)
/-- a value at its place -/
def RE (φ : Nat → Addr) (H : Hp) (S : Store) (v : V) (d : D) : Prop := Rp w.K φ w.ex H v d ∧ D.bel S.length d = true
def REs (φ : Nat → Addr) (H : Hp) (S : Store) (v : List V) (d : List D) : Prop := RpA w.K φ w.ex H v d ∧ D.bels S.length d = true
def RB (_ : Nat → Addr) (_ : Hp) (_ : Store) (v : Bool) (d : Bool) : Prop := v = d
/-- objects alone -/
def Rg0 {α β : Type} (R : (Nat → Addr) → Hp → Store → β → α → Prop) (φ : Nat → Addr) (S : Store) (H : Hp) (r : Res α) (Q : β → Hp → Prop) : Prop := match r with
  | .ok a S' => ∀ b φ' H', Lat φ φ' S S' H H' → SimO w.K φ' w.ex H' S' → R φ' H' S' b a → Q b H'
  | .exc _ _ _ => True
  | .bad => False
variable {w}
section
variable {φ : Nat → Addr} {S : Store} {H : Hp} {d : D} {v : V} {Q : VK}
theorem Rg0.same (h : Rg0 w (RE w) φ S H (.ok d S) Q) (o : SimO w.K φ w.ex H S) (r : Rp w.K φ w.ex H v d) (b : D.bel S.length d = true) : Q v H := h v φ H Lat.refl o ⟨r, b⟩
/-- a new tuple -/
theorem Rg0.tup {ds : List D} {vs : List V} {p : Addr} (h : Rg0 w (RE w) φ S H (.ok (.tup ds) S) Q) (o : SimO w.K φ w.ex H S) (r : RpA w.K φ w.ex H vs ds) (b : D.bels S.length ds = true) (hp : H p = none) :
    Q (.ref p) (upd H p (.tup vs)) :=
  h _ φ _ (Lat.newT hp) (o.new hp) ⟨.tup (SqT.of upd_same) (r.mono b (fun _ _ => rfl) (Kp.new hp)), b⟩
/-- a new list -/
theorem Rg0.lst {ds : List D} {vs : List V} {p : Addr} (h : Rg0 w (RE w) φ S H (.ok (.obj S.length) (.lst ds :: S)) Q) (o : SimO w.K φ w.ex H S) (r : RpA w.K φ w.ex H vs ds) (b : D.bels S.length ds = true) (hp : H p = none) :
    Q (.ref p) (upd H p (.lst vs)) := by
  obtain ⟨φ', l, e, o'⟩ := o.push (u := .lst vs) (o := .lst ds) hp b fun φ' e => ⟨vs, upd_same, r.mono b e (Kp.new hp)⟩
  refine h _ φ' _ l o' ⟨?_, ?_⟩
  · have := Rp.obj (K := w.K) (φ := φ') (ex := w.ex) (H := upd H p (.lst vs)) S.length
    rw [e] at this
    exact this
  · show Nat.blt S.length (S.length + 1) = true
    exact Nat.ble_eq_true_of_le (Nat.le_refl _)
theorem rp_str {K : PySem.W.Frag} {ex : Ex1} {x : Str} {s : List Nat} (h : x.cps.toList = s) : Rp K φ ex H (.str x) (.str s) := h ▸ .str x
theorem line_eq : sizeLine = line := by rw [sizeLine_eq]; rfl
theorem toList_app (x y : Str) : (x ++ y).cps.toList = x.cps.toList ++ y.cps.toList := by
  show (x.cps ++ y.cps).toList = _
  simp
theorem str_len (x : Str) : x.length = x.cps.toList.length := by
  show x.cps.size = _
  simp
end
section
variable {X : Cx} (w)
/-- an operator by what it does to values -/
def rB (o : Bop) : R2 := fun x y H Q => ∃ φ S dx dy, SimO w.K φ w.ex H S ∧ RE w φ H S x dx ∧ RE w φ H S y dy ∧ Rg0 w (RE w) φ S H (binD o dx dy S) Q
variable {w}
theorem Rg0.ite {α β : Type} {R : (Nat → Addr) → Hp → Store → β → α → Prop} {φ : Nat → Addr} {S : Store} {H : Hp} {Q : β → Hp → Prop} {c : Prop} [Decidable c] {r : Res α} (h : Rg0 w R φ S H (if c then r else .bad) Q) : c ∧ Rg0 w R φ S H r Q := by
  by_cases hc : c
  · rw [if_pos hc] at h; exact ⟨hc, h⟩
  · rw [if_neg hc] at h; exact h.elim
theorem opR_add (hK : w.K = X.K) : OpR X (binaryOp .Add) (rB w .add) := by
  intro pins s σ H x y v u Q I rx ry h
  obtain ⟨φ, S, dx, dy, so, ⟨px, bx⟩, ⟨py, by_⟩, h⟩ := h
  cases px <;> cases py <;> first | exact h.elim | skip
  · exact op_add pins s σ H _ _ v u Q I rx ry ⟨_, _, rfl, rfl, h.same so (.int _) rfl⟩
  · rename_i i j
    have h : Rg0 w (RE w) φ S H (if i.cps.toList.length + j.cps.toList.length ≤ line then .ok (.str (i.cps.toList ++ j.cps.toList)) S else .bad) Q := h
    obtain ⟨hl, h⟩ := h.ite
    refine op_add_str pins s σ H _ _ v u Q I rx ry ⟨i, j, rfl, rfl, ?_, ?_⟩
    · rw [str_len, str_len, line_eq]; exact hl
    · exact h.same so (rp_str (toList_app _ _)) rfl
  · rename_i a vs ds h1 r1 b vs' ds' h2 r2
    have h : Rg0 w (RE w) φ S H (if ds.length + ds'.length ≤ line then .ok (.tup (ds ++ ds')) S else .bad) Q := h
    obtain ⟨hl, h⟩ := h.ite
    rw [hK] at h1 h2
    have b1 : D.bels S.length ds = true := by simpa [D.bel] using bx
    have b2 : D.bels S.length ds' = true := by simpa [D.bel] using by_
    refine op_catA pins s σ H _ _ v u Q I rx ry ⟨a, b, vs, vs', rfl, rfl, h1, h2, ?_, fun e => ?_, fun _ e => ?_, fun _ _ p hp => ?_⟩
    · rw [r1.length, r2.length, line_eq]; exact hl
    · subst e
      cases r1
      exact h.same so (.tup (hK ▸ h2) r2) by_
    · subst e
      cases r2
      rw [List.append_nil] at h
      exact h.same so (.tup (hK ▸ h1) r1) bx
    · exact h.tup so (r1.append r2) (bels_all.mpr fun d hd => (List.mem_append.mp hd).elim (bels_all.mp b1 d) (bels_all.mp b2 d)) hp
  · rename_i m n
    have h : Rg0 w (RE w) φ S H (match get S m, get S n with
      | some (.lst x), some (.lst y) => if x.length + y.length ≤ line then .ok (.obj S.length) (.lst (x ++ y) :: S) else .bad
      | _, _ => .bad) Q := h
    cases e1 : get S m with
    | none => rw [e1] at h; exact h.elim
    | some o1 => cases e2 : get S n with
      | none => rw [e1, e2] at h; cases o1 <;> exact h.elim
      | some o2 =>
        rw [e1, e2] at h
        cases o1 <;> cases o2 <;> first | exact h.elim | skip
        rename_i ds ds'
        obtain ⟨hl, h⟩ := h.ite
        obtain ⟨vs, k1, r1⟩ := so.ob m _ e1
        obtain ⟨vs', k2, r2⟩ := so.ob n _ e2
        have b1 : D.bels S.length ds = true := so.wf m _ e1
        have b2 : D.bels S.length ds' = true := so.wf n _ e2
        refine op_cat pins s σ H _ _ v u Q I rx ry ⟨_, _, vs, vs', rfl, rfl, k1, k2, ?_, fun p hp => ?_⟩
        · rw [r1.length, r2.length, line_eq]; exact hl
        · exact h.lst so (r1.append r2) (bels_all.mpr fun d hd => (List.mem_append.mp hd).elim (bels_all.mp b1 d) (bels_all.mp b2 d)) hp
theorem opR_sub : OpR X (binaryOp .Sub) (rB w .sub) := by
  intro pins s σ H x y v u Q I rx ry h
  obtain ⟨φ, S, dx, dy, so, ⟨px, bx⟩, ⟨py, by_⟩, h⟩ := h
  cases px <;> cases py <;> first | exact h.elim | skip
  exact op_sub pins s σ H _ _ v u Q I rx ry ⟨_, _, rfl, rfl, h.same so (.int _) rfl⟩
theorem opR_fdiv : OpR X (binaryOp .FloorDiv) (rB w .fdiv) := by
  intro pins s σ H x y v u Q I rx ry h
  obtain ⟨φ, S, dx, dy, so, ⟨px, bx⟩, ⟨py, by_⟩, h⟩ := h
  cases px <;> cases py <;> first | exact h.elim | skip
  rename_i i j
  have h : Rg0 w (RE w) φ S H (if 0 < j ∧ j.natAbs.log2 < 9000 then .ok (.int (i / j)) S else .bad) Q := h
  obtain ⟨hc, h⟩ := h.ite
  exact op_fdivW pins s σ H _ _ v u Q I rx ry ⟨_, _, rfl, rfl, hc, h.same so (.int _) rfl⟩
theorem opR_mod : OpR X (binaryOp .Mod) (rB w .mod) := by
  intro pins s σ H x y v u Q I rx ry h
  obtain ⟨φ, S, dx, dy, so, ⟨px, bx⟩, ⟨py, by_⟩, h⟩ := h
  cases px <;> cases py <;> first | exact h.elim | skip
  rename_i i j
  have h : Rg0 w (RE w) φ S H (if 0 < j then .ok (.int (i % j)) S else .bad) Q := h
  obtain ⟨hc, h⟩ := h.ite
  exact op_mod pins s σ H _ _ v u Q I rx ry ⟨_, _, rfl, rfl, hc, h.same so (.int _) rfl⟩
theorem opR_pow : OpR X (binaryOp .Pow) (rB w .pow) := by
  intro pins s σ H x y v u Q I rx ry h
  obtain ⟨φ, S, dx, dy, so, ⟨px, bx⟩, ⟨py, by_⟩, h⟩ := h
  cases px <;> cases py <;> first | exact h.elim | skip
  rename_i i j
  have h : Rg0 w (RE w) φ S H (if 0 ≤ j ∧ j ≤ 1000000 ∧ i.natAbs < 2 ^ 64 then .ok (.int (i ^ j.toNat)) S else .bad) Q := h
  obtain ⟨hc, h⟩ := h.ite
  exact op_pow pins s σ H _ _ v u Q I rx ry ⟨_, _, rfl, rfl, hc, h.same so (.int _) rfl⟩
theorem opR_shl : OpR X (binaryOp .LShift) (rB w .shl) := by
  intro pins s σ H x y v u Q I rx ry h
  obtain ⟨φ, S, dx, dy, so, ⟨px, bx⟩, ⟨py, by_⟩, h⟩ := h
  cases px <;> cases py <;> first | exact h.elim | skip
  rename_i i j
  have h : Rg0 w (RE w) φ S H (if 0 ≤ j ∧ j ≤ 1000000 ∧ i.natAbs < 2 ^ 64 then .ok (.int (i * 2 ^ j.toNat)) S else .bad) Q := h
  obtain ⟨hc, h⟩ := h.ite
  exact op_shl pins s σ H _ _ v u Q I rx ry ⟨_, _, rfl, rfl, hc, h.same so (.int _) rfl⟩
theorem opR_shr : OpR X (binaryOp .RShift) (rB w .shr) := by
  intro pins s σ H x y v u Q I rx ry h
  obtain ⟨φ, S, dx, dy, so, ⟨px, bx⟩, ⟨py, by_⟩, h⟩ := h
  cases px <;> cases py <;> first | exact h.elim | skip
  rename_i i j
  have h : Rg0 w (RE w) φ S H (if 0 ≤ j then .ok (.int (i / 2 ^ j.toNat)) S else .bad) Q := h
  obtain ⟨hc, h⟩ := h.ite
  exact op_shr pins s σ H _ _ v u Q I rx ry ⟨_, _, rfl, rfl, hc, h.same so (.int _) rfl⟩
theorem opR_band : OpR X (binaryOp .BitAnd) (rB w .band) := by
  intro pins s σ H x y v u Q I rx ry h
  obtain ⟨φ, S, dx, dy, so, ⟨px, bx⟩, ⟨py, by_⟩, h⟩ := h
  cases px <;> cases py <;> first | exact h.elim | skip
  rename_i i j
  have h : Rg0 w (RE w) φ S H (if j = 1 then .ok (.int (i % 2)) S else .bad) Q := h
  obtain ⟨hc, h⟩ := h.ite
  subst hc
  refine op_and pins s σ H _ _ v u Q I rx ry ⟨_, _, rfl, rfl, ?_⟩
  show Q (.int (Builtin.bitAnd i 1)) H
  rw [bitAnd_m1]
  exact h.same so (.int _) rfl
theorem mul_bad {l : List Nat} {d : D} {S : Store} (h : ∀ j, d ≠ .int j) : binD .mul (.str l) d S = .bad := by
  rcases l with _ | ⟨c, _ | ⟨c2, l⟩⟩ <;> cases d <;> first | rfl | exact absurd rfl (h _)
theorem mul_one {l : List Nat} {j : Int} {S : Store} : (∃ c, l = [c] ∧ binD .mul (.str l) (.int j) S = if j ≤ line ∧ -(2 ^ 62) ≤ j then .ok (.str (List.replicate j.toNat c)) S else .bad) ∨ binD .mul (.str l) (.int j) S = .bad := by
  rcases l with _ | ⟨c, _ | ⟨c2, l⟩⟩
  · exact .inr rfl
  · exact .inl ⟨c, rfl, rfl⟩
  · exact .inr rfl
theorem opR_mul : OpR X (binaryOp .Mult) (rB w .mul) := by
  intro pins s σ H x y v u Q I rx ry h
  obtain ⟨φ, S, dx, dy, so, ⟨px, bx⟩, ⟨py, by_⟩, h⟩ := h
  cases px with
  | str x =>
    have bad : ∀ d, (∀ j, d ≠ .int j) → Rg0 w (RE w) φ S H (binD .mul (.str x.cps.toList) d S) Q → False := fun d hd hh => by rw [mul_bad hd] at hh; exact hh
    cases py with
    | int j =>
      rcases mul_one (l := x.cps.toList) (j := j) (S := S) with ⟨c, ec, e⟩ | e
      · rw [e] at h
        obtain ⟨⟨hc1, hc2⟩, h⟩ := h.ite
        obtain ⟨t, rfl⟩ := rx
        obtain ⟨t', rfl⟩ := ry
        obtain ⟨⟨l⟩⟩ := x
        have ec : l = [c] := ec
        subst ec
        refine SB.mul ⟨?_, fun h1 _ => ?_, fun h1 _ => ?_⟩ fun tk k => ⟨.str _, H, I.tok _, ⟨_, rfl⟩, h.same so (rp_str (mul_one_list c j)) rfl⟩
        · simp only [line] at hc1
          simp only [Bool.or_eq_false_iff, decide_eq_false_iff_not]
          omega
        · simp only [line] at hc1
          have e1 : ((⟨⟨[c]⟩⟩ : Str).length : Int) = 1 := rfl
          rw [e1]
          have : (1 : Int) ≤ (2 ^ 63 - 1) / j := by
            rw [Int.le_ediv_iff_mul_le (by omega)]
            omega
          omega
        · show decide _ = false
          simp only [line] at hc1
          have e1 : (⟨⟨[c]⟩⟩ : Str).length = 1 := rfl
          rw [e1, Nat.one_mul, decide_eq_false_iff_not, line_eq]
          simp only [line]
          omega
      · rw [e] at h; exact h.elim
    | _ => exact (bad _ (by intro j q; cases q) h).elim
  | int i =>
    cases py <;> first | exact h.elim | skip
    rename_i j
    have h : Rg0 w (RE w) φ S H (if mulOk i j = true then .ok (.int (i * j)) S else .bad) Q := h
    obtain ⟨hc, h⟩ := h.ite
    have hc : i.natAbs.log2 + j.natAbs.log2 < 1000000 := of_decide_eq_true hc
    exact op_mulW pins s σ H _ _ v u Q I rx ry ⟨_, _, rfl, rfl, hc, h.same so (.int _) rfl⟩
  | _ => cases py <;> exact h.elim
end
end Pw
end
section
set_option Elab.async false
set_option linter.all false
set_option maxRecDepth 100000
set_option maxHeartbeats 1000000
set_option autoImplicit false
/-! Pw3: comparisons -/
namespace Pw
open PySem PySem.Spec PyProof.Rows L2
theorem alls_true {f : D → D → Option Bool} : ∀ {xs ys : List D}, (∀ (i : Nat) (x y : D), xs[i]? = some x → ys[i]? = some y → ∀ c, f x y = some c → c = true) → xs.length = ys.length → ∀ c, alls f xs ys = some c → c = true
  | [], [], _, _, c, h => by cases h; rfl
  | x :: r, y :: t, h, hl, c, e => by
    simp only [alls] at e
    cases q : f x y with
    | none => rw [q] at e; cases e
    | some k =>
      rw [q] at e
      have hk := h 0 x y rfl rfl k q
      subst hk
      cases z : alls f r t with
      | none => rw [z] at e; cases e
      | some k2 =>
        rw [z] at e
        cases e
        exact alls_true (fun i a b ha hb => h (i + 1) a b (by simpa using ha) (by simpa using hb)) (by simpa using hl) k2 z
  | [], _ :: _, _, hl, _, _ => by simp at hl
  | _ :: _, [], _, hl, _, _ => by simp at hl
section
variable {X : Cx} {w : Wo} {pins : List (Addr × Obj)} {σ : L2.St} {H : Hp} {s : Shared} {φ : Nat → Addr} {S : Store}
theorem deq_bad {n : Nat} {a : D} {c : Nat} {fs : List D} : deq S n (.exc c fs) a = none ∧ deq S n a (.exc c fs) = none := by
  cases n with
  | zero => exact ⟨rfl, rfl⟩
  | succ n => cases a <;> exact ⟨rfl, rfl⟩
theorem tup_not_lst (I : Inv X pins σ H s) {a : Addr} {vs ws : List V} (h1 : SqT X.K H a vs) (e1 : SqL X.K H a ws) : False := by
  obtain ⟨_, _, ht, _⟩ := I.tuple h1
  obtain ⟨_, _, ⟨o, k, e2, c2, _⟩, _⟩ := I.list e1
  obtain ⟨o', e3, c3, _⟩ := ht
  rw [e2] at e3; cases e3
  rw [c2] at c3
  injection c3 with c3
  exact absurd c3 (by decide)
theorem deq_lst {n m m' : Nat} {c : Bool} (h : deq S (n + 1) (.obj m) (.obj m') = some c) :
    (∃ xs ys, get S m = some (.lst xs) ∧ get S m' = some (.lst ys) ∧ (if xs.length = ys.length then alls (deq S n) xs ys else some false) = some c) ∨
    (∃ xs ys, get S m = some (.dct xs) ∧ get S m' = some (.dct ys) ∧ xs.map (·.1) = ys.map (·.1) ∧ alls (deq S n) (xs.map (·.2)) (ys.map (·.2)) = some c) := by
  have h : (match get S m, get S m' with
      | some (.lst x), some (.lst y) => if x.length = y.length then alls (deq S n) x y else some false
      | some (.dct x), some (.dct y) => if x.map (·.1) = y.map (·.1) then alls (deq S n) (x.map (·.2)) (y.map (·.2)) else none
      | _, _ => none) = some c := h
  split at h
  · rename_i x y h1 h2
    exact .inl ⟨x, y, h1, h2, h⟩
  · rename_i x y h1 h2
    split at h
    · rename_i e
      exact .inr ⟨x, y, h1, h2, e, h⟩
    · cases h
  · cases h
theorem deq_objL {n m : Nat} {c : Bool} {d : D} (hd : ∀ k, d ≠ .obj k) (hx : ∀ a b, d ≠ .exc a b) (h : deq S (n + 1) (.obj m) d = some c) : (∃ xs, get S m = some (.lst xs)) ∧ c = false := by
  have h : (match get S m with
      | some (.lst _) => some false
      | _ => none) = some c := by
    cases d <;> first | exact h | exact absurd rfl (hd _) | exact absurd rfl (hx _ _)
  split at h
  · rename_i xs e
    cases h
    exact ⟨⟨xs, e⟩, rfl⟩
  · cases h
theorem deq_objR {n m : Nat} {c : Bool} {d : D} (hd : ∀ k, d ≠ .obj k) (hx : ∀ a b, d ≠ .exc a b) (h : deq S (n + 1) d (.obj m) = some c) : (∃ xs, get S m = some (.lst xs)) ∧ c = false := by
  have h : (match get S m with
      | some (.lst _) => some false
      | _ => none) = some c := by
    cases d <;> first | exact h | exact absurd rfl (hd _) | exact absurd rfl (hx _ _)
  split at h
  · rename_i xs e
    cases h
    exact ⟨⟨xs, e⟩, rfl⟩
  · cases h
/-- one value against itself -/
theorem deq_same (hK : w.K = X.K) (I : Inv X pins σ H s) (so : SimO w.K φ w.ex H S) : ∀ (n : Nat) (x y : V) (d e : D), x = y → Rp w.K φ w.ex H x d → Rp w.K φ w.ex H y e → ∀ c, deq S n d e = some c → c = true
  | 0, _, _, _, _, _, _, _, _, h => by cases h
  | n + 1, x, y, d, e, exy, r, q, c, h => by
    have ih := deq_same hK I so n
    have row : ∀ (vs : List V) (ds es : List D), RpA w.K φ w.ex H vs ds → RpA w.K φ w.ex H vs es → ∀ c, alls (deq S n) ds es = some c → c = true := fun vs ds es r1 r2 c hc =>
      alls_true (fun i a b ha hb k hk => by
        obtain ⟨v1, e1, p1⟩ := r1.get a ha
        obtain ⟨v2, e2, p2⟩ := r2.get b hb
        rw [e1] at e2; cases e2
        exact ih v1 v1 a b rfl p1 p2 k hk) (by rw [← r1.length, ← r2.length]) c hc
    cases r with
    | non =>
      cases q <;> cases exy
      cases h; rfl
    | bl b =>
      cases q <;> cases exy
      simp [deq] at h; exact h
    | int b =>
      cases q <;> cases exy
      simp [deq] at h; exact h
    | str b =>
      cases q <;> cases exy
      simp [deq] at h; exact h
    | exc _ => rw [deq_bad.1] at h; cases h
    | tup h1 r1 => cases q with
      | tup h2 r2 =>
        cases exy
        rw [hK] at h1 h2
        have ev := I.tuple_inj h1 h2
        subst ev
        have h : (if _ then alls (deq S n) _ _ else _) = some c := h
        rw [if_pos (by rw [← r1.length, ← r2.length])] at h
        exact row _ _ _ r1 r2 c h
      | obj m =>
        exfalso
        injection exy with exy
        subst exy
        obtain ⟨⟨xs, g⟩, _⟩ := deq_objR (by simp) (by simp) h
        obtain ⟨vs, e1, _⟩ := so.ob m _ g
        rw [hK] at h1
        exact tup_not_lst I h1 (SqL.of e1)
      | exc _ => rw [deq_bad.2] at h; cases h
      | _ => cases exy
    | obj m => cases q with
      | obj m2 =>
        injection exy with exy
        rcases deq_lst h with ⟨xs, ys, g1, g2, h⟩ | ⟨xs, ys, g1, g2, _, h⟩
        · have em := so.inj m m2 _ _ g1 g2 rfl rfl exy
          subst em
          rw [g1] at g2; cases g2
          rw [if_pos rfl] at h
          obtain ⟨vs, _, r1⟩ := so.ob m _ g1
          exact row _ _ _ r1 r1 c h
        · have em := so.inj m m2 _ _ g1 g2 rfl rfl exy
          subst em
          rw [g1] at g2; cases g2
          obtain ⟨vs, _, _, r1, _⟩ := so.ob m _ g1
          exact row _ _ _ r1 r1 c h
      | tup h2 r2 =>
        exfalso
        injection exy with exy
        subst exy
        obtain ⟨⟨xs, g⟩, _⟩ := deq_objL (by simp) (by simp) h
        obtain ⟨vs, e1, _⟩ := so.ob m _ g
        rw [hK] at h2
        exact tup_not_lst I h2 (SqL.of e1)
      | exc _ => rw [deq_bad.2] at h; cases h
      | _ => cases exy
theorem allR_of {f : D → D → Option Bool} : ∀ {xs ys : List D} {c : Bool}, xs.length = ys.length → alls f xs ys = some c → ∃ e : Nat → Bool, (List.range xs.length).all e = c ∧ ∀ (i : Nat) (x y : D), xs[i]? = some x → ys[i]? = some y → f x y = some (e i)
  | [], [], c, _, h => by cases h; exact ⟨fun _ => true, rfl, fun i x y h => by simp at h⟩
  | x :: r, y :: t, c, hl, h => by
    simp only [alls] at h
    cases q : f x y with
    | none => rw [q] at h; cases h
    | some k =>
      rw [q] at h
      cases z : alls f r t with
      | none => rw [z] at h; cases h
      | some k2 =>
        rw [z] at h
        cases h
        obtain ⟨e, he, hi⟩ := allR_of (by simpa using hl) z
        refine ⟨fun i => match i with | 0 => k | i + 1 => e i, ?_, fun i a b ha hb => ?_⟩
        · rw [List.length_cons, List.range_succ_eq_map, List.all_cons, List.all_map, ← he]
          simp [Function.comp_def]
        · cases i with
          | zero => simp at ha hb; subst ha hb; exact q
          | succ i => exact hi i a b (by simpa using ha) (by simpa using hb)
  | [], _ :: _, _, hl, _ => by simp at hl
  | _ :: _, [], _, hl, _ => by simp at hl
theorem kV_inj {a b : Key} (h : kV a = kV b) : a = b := by
  cases a <;> cases b <;> cases h <;> rfl
theorem str_ext {x y : Str} (h : x.cps.toList = y.cps.toList) : x = y := by
  obtain ⟨⟨a⟩⟩ := x
  obtain ⟨⟨b⟩⟩ := y
  simp at h
  subst h
  rfl
theorem rp_inv {K : PySem.W.Frag} {ex : Ex1} {x : V} {d : D} (r : Rp K φ ex H x d) : match d with
    | .non => x = .non
    | .bl b => x = .bl b
    | .int i => x = .int i
    | .str l => ∃ z : Str, x = .str z ∧ z.cps.toList = l
    | .tup ds => ∃ a vs, x = .ref a ∧ SqT K H a vs ∧ RpA K φ ex H vs ds
    | .obj n => x = .ref (φ n)
    | .exc c fs => False := by
  cases r with
  | non => rfl
  | bl b => rfl
  | int i => rfl
  | str z => exact ⟨z, rfl, rfl⟩
  | tup h r => exact ⟨_, _, rfl, h, r⟩
  | obj n => rfl
  | exc h => exact h
theorem rp_flat_inj {K : PySem.W.Frag} {ex : Ex1} {x y : V} {d : D} (fx : flatV x = true) (fy : flatV y = true) (r : Rp K φ ex H x d) (q : Rp K φ ex H y d) : x = y := by
  have r := rp_inv r
  have q := rp_inv q
  cases d with
  | non => rw [r, q]
  | bl b => rw [r, q]
  | int b => rw [r, q]
  | str b =>
    obtain ⟨z1, e1, h1⟩ := r
    obtain ⟨z2, e2, h2⟩ := q
    rw [e1, e2, str_ext (h1.trans h2.symm)]
  | tup b => obtain ⟨a, vs, e, _⟩ := r; rw [e] at fx; cases fx
  | obj b => rw [r] at fx; cases fx
  | exc c b => exact r.elim
/-- keys over the same row of values are the same -/
theorem keys_same {K : PySem.W.Frag} {ex : Ex1} : ∀ {ks ks' : List Key} {ds : List D}, RpA K φ ex H (ks.map kV) ds → RpA K φ ex H (ks'.map kV) ds → ks = ks'
  | [], [], _, _, _ => rfl
  | [], _ :: _, _, h1, h2 => by have a := h1.length; have b := h2.length; simp only [List.length_map, List.length_nil, List.length_cons] at a b; omega
  | _ :: _, [], _, h1, h2 => by have a := h1.length; have b := h2.length; simp only [List.length_map, List.length_nil, List.length_cons] at a b; omega
  | a :: r, b :: t, d :: ds, .cons q1 r1, .cons q2 r2 => by
    rw [kV_inj (rp_flat_inj (by cases a <;> rfl) (by cases b <;> rfl) q1 q2), keys_same r1 r2]
def ixOf {α : Type} [DecidableEq α] (a : α) : List α → Nat
  | [] => 0
  | x :: r => if x = a then 0 else ixOf a r + 1
theorem ixOf_nodup {α : Type} [DecidableEq α] : ∀ {l : List α}, l.Nodup → ∀ (i : Nat) (h : i < l.length), ixOf l[i] l = i
  | a :: r, nd, 0, h => by simp [ixOf]
  | a :: r, nd, i + 1, h => by
    have nd' := List.nodup_cons.mp nd
    have hi : i < r.length := by simpa using h
    have hm : r[i] ∈ r := List.getElem_mem hi
    have ne : ¬ a = r[i] := fun z => nd'.1 (z ▸ hm)
    rw [List.getElem_cons_succ, ixOf, if_neg ne, ixOf_nodup nd'.2 i hi]
theorem kv_keys : ∀ {ws : List (Key × V)} {vs : List (Key × Value)}, KV ws vs → ws.map (·.1) = vs.map (·.1)
  | _, _, .nil => rfl
  | _, _, .cons h t => by rw [List.map_cons, List.map_cons, h.1, kv_keys t]
theorem kv_vals : ∀ {ws : List (Key × V)} {vs : List (Key × Value)}, KV ws vs → Vals (ws.map (·.2)) (vs.map (·.2))
  | _, _, .nil => .nil
  | _, _, .cons h t => .cons h.2 (kv_vals t)
theorem str_beq {x y : Str} : (x == y) = decide (x.cps.toList = y.cps.toList) := by
  by_cases h : x = y
  · subst h; simp
  · have h2 : ¬ x.cps.toList = y.cps.toList := fun z => h (str_ext z)
    rw [decide_eq_false h2]
    simpa using h
open PySem.W in
/-- == of two values as the library's tree -/
theorem deq_tree (hK : w.K = X.K) (I : Inv X pins σ H s) (so : SimO w.K φ w.ex H S) : ∀ (n : Nat) (x y : V) (u v : Value) (d e : D), RelV x u → RelV y v → Rp w.K φ w.ex H x d → Rp w.K φ w.ex H y e → ∀ c, deq S n d e = some c → EqTree X.prog X.w s n u v c
  | 0, _, _, _, _, _, _, _, _, _, _, _, h => by cases h
  | n + 1, x, y, u, v, d, e, ru, rv, r, q, c, h => by
    have ih := deq_tree hK I so n
    have flat : ∀ (P : flatV x = true ∧ flatV y = true), eqV x y = c → EqTree X.prog X.w s (n + 1) u v c := fun P e => e ▸ EqTree.leaf fun A hu => eqAt_V ru rv P.1 P.2
    have row : ∀ (vs ws : List V) (ds es : List D) (as bs : List Value), RpA w.K φ w.ex H vs ds → RpA w.K φ w.ex H ws es → Vals vs as → Vals ws bs → ds.length = es.length → ∀ c, alls (deq S n) ds es = some c →
        ∃ k : Nat → Bool, (List.range as.toArray.size).all k = c ∧ ∀ j (h1 : j < as.toArray.size) (h2 : j < bs.toArray.size), EqTree X.prog X.w s n as.toArray[j] bs.toArray[j] (k j) := fun vs ws ds es as bs r1 r2 v1 v2 hl c hc => by
      obtain ⟨k, hk, hi⟩ := allR_of hl hc
      refine ⟨k, ?_, fun j h1 h2 => ?_⟩
      · rw [← hk, List.size_toArray, ← v1.length, r1.length]
      · have g1 : j < as.length := by simpa using h1
        have g2 : j < bs.length := by simpa using h2
        have l1 : j < vs.length := by rw [v1.length]; exact g1
        have l2 : j < ws.length := by rw [v2.length]; exact g2
        obtain ⟨d1, e1, p1⟩ := r1.getv (List.getElem?_eq_getElem l1)
        obtain ⟨d2, e2, p2⟩ := r2.getv (List.getElem?_eq_getElem l2)
        obtain ⟨u1, f1, q1⟩ := v1.get (List.getElem?_eq_getElem l1)
        obtain ⟨u2, f2, q2⟩ := v2.get (List.getElem?_eq_getElem l2)
        rw [List.getElem?_eq_getElem g1] at f1
        rw [List.getElem?_eq_getElem g2] at f2
        cases f1; cases f2
        exact ih _ _ _ _ _ _ q1 q2 p1 p2 _ (hi j _ _ e1 e2)
    have sames : u = v → EqTree X.prog X.w s (n + 1) u v c := fun z => by
      subst z
      have := deq_same hK I so (n + 1) x y d e (ru.inj rv) r q c h
      subst this
      exact .same
    have lists : ∀ {m m' : Nat} {xs ys : List D}, d = .obj m → e = .obj m' → get S m = some (.lst xs) → get S m' = some (.lst ys) → (if xs.length = ys.length then alls (deq S n) xs ys else some false) = some c → EqTree X.prog X.w s (n + 1) u v c := fun {m m' xs ys} ed ee g1 g2 hc => by
      subst ed ee
      have ex_ := rp_inv r
      have ey := rp_inv q
      dsimp only at ex_ ey
      subst ex_ ey
      have ru' := ru
      have rv' := rv
      cases ru'; cases rv'
      by_cases hne : (Value.ref (φ m)) = Value.ref (φ m')
      · exact sames hne
      · obtain ⟨vs, h1, r1⟩ := so.ob m _ g1
        obtain ⟨ws, h2, r2⟩ := so.ob m' _ g2
        obtain ⟨as, v1, p1, _⟩ := I.list (SqL.of h1)
        obtain ⟨bs, v2, p2, _⟩ := I.list (SqL.of h2)
        by_cases hl : xs.length = ys.length
        · rw [if_pos hl] at hc
          obtain ⟨k, hk, hi⟩ := row vs ws xs ys as bs r1 r2 v1 v2 hl c hc
          rw [← hk]
          exact .lists (fun z => hne (by rw [z])) p1.isList p2.isList (by simp only [List.size_toArray]; rw [← v1.length, ← v2.length, r1.length, r2.length, hl]) hi
        · rw [if_neg hl] at hc
          cases hc
          refine .listsLen (fun z => hne (by rw [z])) p1.isList p2.isList ?_
          have : as.length ≠ bs.length := by rw [← v1.length, ← v2.length, r1.length, r2.length]; exact hl
          simpa using this
    have dicts : ∀ {m m' : Nat} {xs ys : List (D × D)}, d = .obj m → e = .obj m' → get S m = some (.dct xs) → get S m' = some (.dct ys) → xs.map (·.1) = ys.map (·.1) → alls (deq S n) (xs.map (·.2)) (ys.map (·.2)) = some c → EqTree X.prog X.w s (n + 1) u v c := fun {m m' xs ys} ed ee g1 g2 hk hc => by
      subst ed ee
      have ex_ := rp_inv r
      have ey := rp_inv q
      dsimp only at ex_ ey
      subst ex_ ey
      have ru' := ru
      have rv' := rv
      cases ru'; cases rv'
      by_cases hne : (Value.ref (φ m)) = Value.ref (φ m')
      · exact sames hne
      · obtain ⟨ws, h1, k1, r1, nd1⟩ := so.ob m _ g1
        obtain ⟨ws', h2, k2, r2, nd2⟩ := so.ob m' _ g2
        obtain ⟨_, sy1, va, kv1, da⟩ := I.hok _ _ h1
        obtain ⟨_, sy2, vb, kv2, db⟩ := I.hok _ _ h2
        have hkk : ws.map (·.1) = ws'.map (·.1) := by
          rw [← hk] at k2
          refine keys_same (K := w.K) (φ := φ) (H := H) (ex := w.ex) (ds := xs.map (·.1)) ?_ ?_
          · rw [List.map_map]; exact k1
          · rw [List.map_map]; exact k2
        have ka1 : va.map (·.1) = ws.map (·.1) := (kv_keys kv1).symm
        have kb1 : vb.map (·.1) = ws.map (·.1) := by rw [hkk]; exact (kv_keys kv2).symm
        have ndb : (vb.map (·.1)).Nodup := by rw [kb1]; exact nd1
        have nda : (va.map (·.1)).Nodup := by rw [ka1]; exact nd1
        have hl : (xs.map (·.2)).length = (ys.map (·.2)).length := by have := congrArg List.length hk; simpa using this
        obtain ⟨k, hkc, hi⟩ := row _ _ _ _ (va.map (·.2)) (vb.map (·.2)) r1 r2 (kv_vals kv1) (kv_vals kv2) hl c hc
        have hlen : va.length = vb.length := by have := congrArg List.length (ka1.trans kb1.symm); simpa using this
        have ix : ∀ (i : Nat) (p : Key × Value), va[i]? = some p → ixOf p.1 (va.map (·.1)) = i := fun i p hp => by
          have hi' : i < (va.map (·.1)).length := by rw [List.length_map]; exact (List.getElem?_eq_some_iff.mp hp).1
          have e1 : (va.map (·.1))[i] = p.1 := by
            obtain ⟨h1, h2⟩ := List.getElem?_eq_some_iff.mp hp
            rw [List.getElem_map, h2]
          rw [← e1]
          exact ixOf_nodup nda i hi'
        have hall : (va.length == vb.length && va.all fun p => (valueAt vb p.1).isSome && k (ixOf p.1 (va.map (·.1)))) = c := by
          rw [← hkc, hlen, beq_self_eq_true, Bool.true_and]
          have hs : ∀ p ∈ va, (valueAt vb p.1).isSome = true := fun p hp => valueAt_isSome.mpr (by rw [kb1, ← ka1]; exact List.mem_map_of_mem hp)
          rw [List.size_toArray, List.length_map]
          rw [Bool.eq_iff_iff, List.all_eq_true, List.all_eq_true]
          constructor
          · intro h j hj
            have hj' : j < va.length := by simpa using hj
            have := h va[j] (List.getElem_mem hj')
            rw [ix j _ (List.getElem?_eq_getElem hj')] at this
            simp only [Bool.and_eq_true] at this
            exact this.2
          · intro h p hp
            rw [hs p hp, Bool.true_and]
            obtain ⟨j, hj, ej⟩ := List.getElem_of_mem hp
            rw [ix j p (by rw [← ej]; exact List.getElem?_eq_getElem hj)]
            exact h j (by simpa using hj)
        rw [← hall]
        refine .dicts (knd := mixKind X.prog X.w) (e := fun key => k (ixOf key (va.map (·.1)))) (fun z => hne (by rw [z])) sy1 sy2 da db fun key x y hx hy => ?_
        obtain ⟨j, hj, ej⟩ := List.getElem_of_mem hx
        have e1 := ix j (key, x) (by rw [← ej]; exact List.getElem?_eq_getElem hj)
        have e1 : ixOf key (va.map (·.1)) = j := e1
        rw [e1]
        have hjb : j < vb.length := by omega
        have kj : (vb[j]).1 = key := by
          have z1 : (vb.map (·.1))[j]? = (va.map (·.1))[j]? := by rw [kb1, ka1]
          rw [List.getElem?_map, List.getElem?_map, List.getElem?_eq_getElem hjb, List.getElem?_eq_getElem hj, ej] at z1
          exact Option.some.inj z1
        have yj : (vb[j]).2 = y := by
          have z := valueAt_of_mem ndb (k := key) (v := (vb[j]).2) (by rw [← kj]; exact List.getElem_mem hjb)
          rw [hy] at z
          exact (Option.some.inj z).symm
        have := hi j (by simpa using hj) (by simpa using hjb)
        simp only [List.getElem_toArray, List.getElem_map] at this
        rw [ej, yj] at this
        exact this
    have lst1 : ∀ {m : Nat} {xs : List D}, d = .obj m → get S m = some (.lst xs) → ∃ as, u = .ref (φ m) ∧ s.heap.IsList (φ m) as := fun {m xs} ed g => by
      subst ed
      have ex_ := rp_inv r
      dsimp only at ex_
      subst ex_
      cases ru
      obtain ⟨vs, h1, r1⟩ := so.ob m _ g
      obtain ⟨as, v1, p1, _⟩ := I.list (SqL.of h1)
      exact ⟨_, rfl, p1.isList⟩
    have lst2 : ∀ {m : Nat} {xs : List D}, e = .obj m → get S m = some (.lst xs) → ∃ as, v = .ref (φ m) ∧ s.heap.IsList (φ m) as := fun {m xs} ed g => by
      subst ed
      have ex_ := rp_inv q
      dsimp only at ex_
      subst ex_
      cases rv
      obtain ⟨vs, h1, r1⟩ := so.ob m _ g
      obtain ⟨as, v1, p1, _⟩ := I.list (SqL.of h1)
      exact ⟨_, rfl, p1.isList⟩
    have tup1 : ∀ {ds : List D}, d = .tup ds → ∃ a as, u = .ref a ∧ s.heap.IsTuple a as := fun {ds} ed => by
      subst ed
      obtain ⟨a, vs, ex_, h1, r1⟩ := rp_inv r
      subst ex_
      cases ru
      rw [hK] at h1
      obtain ⟨as, v1, p1, _⟩ := I.tuple h1
      exact ⟨_, _, rfl, p1⟩
    have tup2 : ∀ {ds : List D}, e = .tup ds → ∃ a as, v = .ref a ∧ s.heap.IsTuple a as := fun {ds} ed => by
      subst ed
      obtain ⟨a, vs, ex_, h1, r1⟩ := rp_inv q
      subst ex_
      cases rv
      rw [hK] at h1
      obtain ⟨as, v1, p1, _⟩ := I.tuple h1
      exact ⟨_, _, rfl, p1⟩
    have un : ∀ {A : Around}, A.units + (n + 1) < cLine → A.units < cLine := fun h => by omega
    cases d with
    | exc _ _ => rw [deq_bad.1] at h; cases h
    | obj m => cases e with
      | exc _ _ => rw [deq_bad.2] at h; cases h
      | obj m' =>
        rcases deq_lst h with ⟨xs, ys, g1, g2, hc⟩ | ⟨xs, ys, g1, g2, hk, hc⟩
        · exact lists rfl rfl g1 g2 hc
        · exact dicts rfl rfl g1 g2 hk hc
      | non =>
        obtain ⟨⟨xs, g⟩, rfl⟩ := deq_objL (by simp) (by simp) h
        obtain ⟨as, rfl, il⟩ := lst1 rfl g
        cases rp_inv q; cases rv
        exact .leaf fun A hu => SeqAt.EqAt.list_none il (un hu)
      | bl b =>
        obtain ⟨⟨xs, g⟩, rfl⟩ := deq_objL (by simp) (by simp) h
        obtain ⟨as, rfl, il⟩ := lst1 rfl g
        cases rp_inv q; cases rv
        exact .leaf fun A hu => SeqAt.EqAt.list_bool _ il (un hu)
      | int b =>
        obtain ⟨⟨xs, g⟩, rfl⟩ := deq_objL (by simp) (by simp) h
        obtain ⟨as, rfl, il⟩ := lst1 rfl g
        cases rp_inv q; obtain ⟨t, rfl⟩ := rv
        exact .leaf fun A hu => SeqAt.EqAt.list_int _ _ il (un hu)
      | str b =>
        obtain ⟨⟨xs, g⟩, rfl⟩ := deq_objL (by simp) (by simp) h
        obtain ⟨as, rfl, il⟩ := lst1 rfl g
        obtain ⟨z, rfl, _⟩ := rp_inv q
        obtain ⟨t, rfl⟩ := rv
        exact .leaf fun A hu => SeqAt.EqAt.list_str _ _ il (un hu)
      | tup b =>
        obtain ⟨⟨xs, g⟩, rfl⟩ := deq_objL (by simp) (by simp) h
        obtain ⟨as, rfl, il⟩ := lst1 rfl g
        obtain ⟨a, bs, rfl, it⟩ := tup2 rfl
        exact .leaf fun A hu => SeqAt.EqAt.list_tuple il it (un hu)
    | non => cases e with
      | exc _ _ => rw [deq_bad.2] at h; cases h
      | non => have z1 := rp_inv r; dsimp only at z1; subst z1; have z2 := rp_inv q; dsimp only at z2; subst z2; cases h; exact flat ⟨rfl, rfl⟩ rfl
      | bl k => have z1 := rp_inv r; dsimp only at z1; subst z1; have z2 := rp_inv q; dsimp only at z2; subst z2; cases h; exact flat ⟨rfl, rfl⟩ rfl
      | int k => have z1 := rp_inv r; dsimp only at z1; subst z1; have z2 := rp_inv q; dsimp only at z2; subst z2; cases h; exact flat ⟨rfl, rfl⟩ rfl
      | str k => have z1 := rp_inv r; dsimp only at z1; subst z1; obtain ⟨z', rfl, rfl⟩ := rp_inv q; cases h; exact flat ⟨rfl, rfl⟩ rfl
      | obj m =>
        obtain ⟨⟨xs, g⟩, rfl⟩ := deq_objR (by simp) (by simp) h
        obtain ⟨as, rfl, il⟩ := lst2 rfl g
        have z1 := rp_inv r; dsimp only at z1; subst z1
        cases ru
        exact .leaf fun A hu => SeqAt.EqAt.none_list il (un hu)
      | tup k =>
        cases h
        obtain ⟨a, bs, rfl, it⟩ := tup2 rfl
        have z1 := rp_inv r; dsimp only at z1; subst z1
        cases ru
        exact .leaf fun A hu => SeqAt.EqAt.none_tuple it (un hu)
    | bl b => cases e with
      | exc _ _ => rw [deq_bad.2] at h; cases h
      | non => have z1 := rp_inv r; dsimp only at z1; subst z1; have z2 := rp_inv q; dsimp only at z2; subst z2; cases h; exact flat ⟨rfl, rfl⟩ rfl
      | bl k => have z1 := rp_inv r; dsimp only at z1; subst z1; have z2 := rp_inv q; dsimp only at z2; subst z2; cases h; exact flat ⟨rfl, rfl⟩ (by show (b == k) = decide (b = k); cases b <;> cases k <;> rfl)
      | int k => have z1 := rp_inv r; dsimp only at z1; subst z1; have z2 := rp_inv q; dsimp only at z2; subst z2; cases h; exact flat ⟨rfl, rfl⟩ (Bool.beq_eq_decide_eq _ _)
      | str k => have z1 := rp_inv r; dsimp only at z1; subst z1; obtain ⟨z', rfl, rfl⟩ := rp_inv q; cases h; exact flat ⟨rfl, rfl⟩ rfl
      | obj m =>
        obtain ⟨⟨xs, g⟩, rfl⟩ := deq_objR (by simp) (by simp) h
        obtain ⟨as, rfl, il⟩ := lst2 rfl g
        have z1 := rp_inv r; dsimp only at z1; subst z1
        cases ru
        exact .leaf fun A hu => SeqAt.EqAt.bool_list _ il (un hu)
      | tup k =>
        cases h
        obtain ⟨a, bs, rfl, it⟩ := tup2 rfl
        have z1 := rp_inv r; dsimp only at z1; subst z1
        cases ru
        exact .leaf fun A hu => SeqAt.EqAt.bool_tuple _ it (un hu)
    | int b => cases e with
      | exc _ _ => rw [deq_bad.2] at h; cases h
      | non => have z1 := rp_inv r; dsimp only at z1; subst z1; have z2 := rp_inv q; dsimp only at z2; subst z2; cases h; exact flat ⟨rfl, rfl⟩ rfl
      | bl k => have z1 := rp_inv r; dsimp only at z1; subst z1; have z2 := rp_inv q; dsimp only at z2; subst z2; cases h; exact flat ⟨rfl, rfl⟩ (Bool.beq_eq_decide_eq _ _)
      | int k => have z1 := rp_inv r; dsimp only at z1; subst z1; have z2 := rp_inv q; dsimp only at z2; subst z2; cases h; exact flat ⟨rfl, rfl⟩ (by show (b == k) = decide (b = k); exact Bool.beq_eq_decide_eq b k)
      | str k => have z1 := rp_inv r; dsimp only at z1; subst z1; obtain ⟨z', rfl, rfl⟩ := rp_inv q; cases h; exact flat ⟨rfl, rfl⟩ rfl
      | obj m =>
        obtain ⟨⟨xs, g⟩, rfl⟩ := deq_objR (by simp) (by simp) h
        obtain ⟨as, rfl, il⟩ := lst2 rfl g
        have z1 := rp_inv r; dsimp only at z1; subst z1
        obtain ⟨t, rfl⟩ := ru
        exact .leaf fun A hu => SeqAt.EqAt.int_list _ _ il (un hu)
      | tup k =>
        cases h
        obtain ⟨a, bs, rfl, it⟩ := tup2 rfl
        have z1 := rp_inv r; dsimp only at z1; subst z1
        obtain ⟨t, rfl⟩ := ru
        exact .leaf fun A hu => SeqAt.EqAt.int_tuple _ _ it (un hu)
    | str b => cases e with
      | exc _ _ => rw [deq_bad.2] at h; cases h
      | non => obtain ⟨z, rfl, rfl⟩ := rp_inv r; have z2 := rp_inv q; dsimp only at z2; subst z2; cases h; exact flat ⟨rfl, rfl⟩ rfl
      | bl k => obtain ⟨z, rfl, rfl⟩ := rp_inv r; have z2 := rp_inv q; dsimp only at z2; subst z2; cases h; exact flat ⟨rfl, rfl⟩ rfl
      | int k => obtain ⟨z, rfl, rfl⟩ := rp_inv r; have z2 := rp_inv q; dsimp only at z2; subst z2; cases h; exact flat ⟨rfl, rfl⟩ rfl
      | str k => obtain ⟨z, rfl, rfl⟩ := rp_inv r; obtain ⟨z', rfl, rfl⟩ := rp_inv q; cases h; exact flat ⟨rfl, rfl⟩ str_beq
      | obj m =>
        obtain ⟨⟨xs, g⟩, rfl⟩ := deq_objR (by simp) (by simp) h
        obtain ⟨as, rfl, il⟩ := lst2 rfl g
        obtain ⟨z, rfl, rfl⟩ := rp_inv r
        obtain ⟨t, rfl⟩ := ru
        exact .leaf fun A hu => SeqAt.EqAt.str_list _ _ il (un hu)
      | tup k =>
        cases h
        obtain ⟨a, bs, rfl, it⟩ := tup2 rfl
        obtain ⟨z, rfl, rfl⟩ := rp_inv r
        obtain ⟨t, rfl⟩ := ru
        exact .leaf fun A hu => SeqAt.EqAt.str_tuple _ _ it (un hu)
    | tup ds => cases e with
      | exc _ _ => rw [deq_bad.2] at h; cases h
      | obj m =>
        obtain ⟨⟨xs, g⟩, rfl⟩ := deq_objR (by simp) (by simp) h
        obtain ⟨as, rfl, il⟩ := lst2 rfl g
        obtain ⟨a, bs, rfl, it⟩ := tup1 rfl
        exact .leaf fun A hu => SeqAt.EqAt.tuple_list it il (un hu)
      | tup es =>
        have hc : (if ds.length = es.length then alls (deq S n) ds es else (alls (deq S n) (ds.take es.length) (es.take ds.length)).bind fun _ => some false) = some c := h
        obtain ⟨a, vs, rfl, h1, r1⟩ := rp_inv r
        obtain ⟨b, ws, rfl, h2, r2⟩ := rp_inv q
        have ru' := ru
        have rv' := rv
        cases ru'; cases rv'
        by_cases hne : (Value.ref a) = Value.ref b
        · exact sames hne
        · rw [hK] at h1 h2
          obtain ⟨as, v1, p1, _⟩ := I.tuple h1
          obtain ⟨bs, v2, p2, _⟩ := I.tuple h2
          by_cases hl : ds.length = es.length
          · rw [if_pos hl] at hc
            obtain ⟨k, hk, hi⟩ := row vs ws ds es as bs r1 r2 v1 v2 hl c hc
            have e1 : as.length = bs.length := by rw [← v1.length, ← v2.length, r1.length, r2.length, hl]
            have := EqTree.tuples (prog := X.prog) (w := X.w) (n := n) (e := k) (fun z => hne (by rw [z])) p1 p2 hi
            have z : ((List.range (min as.toArray.size bs.toArray.size)).all k && as.toArray.size == bs.toArray.size) = c := by
              rw [← hk, List.size_toArray, List.size_toArray, ← e1, Nat.min_self, beq_self_eq_true, Bool.and_true]
            rw [z] at this
            exact this
          · rw [if_neg hl] at hc
            cases hz : alls (deq S n) (ds.take es.length) (es.take ds.length) with
            | none => rw [hz] at hc; cases hc
            | some k0 =>
              rw [hz] at hc
              cases hc
              obtain ⟨k, hk, hi⟩ := row _ _ _ _ (as.take es.length) (bs.take ds.length) (r1.take es.length) (r2.take ds.length) (v1.take es.length) (v2.take ds.length) (by simp only [List.length_take]; omega) k0 hz
              have la : as.length = ds.length := by rw [← v1.length, r1.length]
              have lb : bs.length = es.length := by rw [← v2.length, r2.length]
              have := EqTree.tuples (prog := X.prog) (w := X.w) (n := n) (e := k) (fun z => hne (by rw [z])) p1 p2 (fun j h1 h2 => by
                have j1 : j < as.length := by simpa using h1
                have j2 : j < bs.length := by simpa using h2
                have := hi j (by simp only [List.size_toArray, List.length_take]; omega) (by simp only [List.size_toArray, List.length_take]; omega)
                simpa using this)
              have z : ((List.range (min as.toArray.size bs.toArray.size)).all k && as.toArray.size == bs.toArray.size) = false := by
                have : (as.toArray.size == bs.toArray.size) = false := by
                  simp only [List.size_toArray, la, lb]
                  simpa using hl
                rw [this, Bool.and_false]
              rw [z] at this
              exact this
      | non =>
        cases h
        obtain ⟨a, bs, rfl, it⟩ := tup1 rfl
        have z2 := rp_inv q; dsimp only at z2; subst z2
        cases rv
        exact .leaf fun A hu => SeqAt.EqAt.tuple_none it (un hu)
      | bl k =>
        cases h
        obtain ⟨a, bs, rfl, it⟩ := tup1 rfl
        have z2 := rp_inv q; dsimp only at z2; subst z2
        cases rv
        exact .leaf fun A hu => SeqAt.EqAt.tuple_bool _ it (un hu)
      | int k =>
        cases h
        obtain ⟨a, bs, rfl, it⟩ := tup1 rfl
        have z2 := rp_inv q; dsimp only at z2; subst z2
        obtain ⟨t, rfl⟩ := rv
        exact .leaf fun A hu => SeqAt.EqAt.tuple_int _ _ it (un hu)
      | str k =>
        cases h
        obtain ⟨a, bs, rfl, it⟩ := tup1 rfl
        obtain ⟨z', rfl, rfl⟩ := rp_inv q
        obtain ⟨t, rfl⟩ := rv
        exact .leaf fun A hu => SeqAt.EqAt.tuple_str _ _ it (un hu)
end
end Pw
end
section
set_option Elab.async false
set_option linter.all false
set_option maxRecDepth 100000
set_option maxHeartbeats 1000000
set_option autoImplicit false
/-! Pw4: != of lists whose items are compared within one model; the comparison operators -/
namespace PwNe
open PySem PySem.SeqAt
open AutoSeq1 (wpAny_loadPart')
open MeetsSeq MeetsSeq2 MeetsSeq3
section
variable {P : Program} {W : World}
abbrev LObj (d : Option Addr) (a : Array Value) (m : Nat) (z : Array (Option Value)) : Obj := { cls := .type "list", dict := d, data := .seq a m, slots := z }
theorem turnNe (p q : Addr) (va vb : Array Value) (m m2 : Nat) (d d2 : Option Addr) (z z2 : Array (Option Value)) (eqs : va.size = vb.size) (f : Nat → Bool) (left : Nat) :
    ∀ i : Nat, va.size - i = left → MeetsIn P W (Builtin.«list.__eq__.loop» ⟨[.ref p, .ref q, rawInt i, rawInt 3], []⟩)
      (fun A R s => s.heap.get? p = some (LObj d va m z) ∧ s.heap.get? q = some (LObj d2 vb m2 z2) ∧
        (∀ j (g1 : j < va.size) (g2 : j < vb.size), EqIn P W A.in1 s va[j] vb[j] (f j)) ∧ R (.ok (.ret (.bool (!((List.range va.size).drop i).all f)))) s) := by
  induction left with
  | zero =>
    intro i hi A R s hyp
    obtain ⟨hp, g, dr, tk, os⟩ := s
    obtain ⟨x1, x2, cmp, fin⟩ := hyp
    wp_walk using wpAny_loadPart' x1, wpAny_loadPart' x2
    have n1 : va[((i : Nat) : Int).toNat]? = none := by simp; omega
    have n2 : vb[((i : Nat) : Int).toNat]? = none := by simp; omega
    have nothing : (List.range va.size).drop i = [] := by simp; omega
    rw [nothing] at fin
    rw [n1, n2]
    wp_walk using wpAny_loadPart' x1, wpAny_loadPart' x2
    show R (.ok (.ret (.bool (va.size != vb.size)))) _
    rw [eqs]
    simpa using fin
  | succ left ih =>
    intro i hi A R s hyp
    obtain ⟨hp, g, dr, tk, os⟩ := s
    obtain ⟨x1, x2, cmp, fin⟩ := hyp
    wp_walk using wpAny_loadPart' x1, wpAny_loadPart' x2
    have l1 : i < va.size := by omega
    have l2 : i < vb.size := by omega
    have n1 : va[((i : Nat) : Int).toNat]? = some va[i] := by simp [l1]
    have n2 : vb[((i : Nat) : Int).toNat]? = some vb[i] := by simp [l2]
    have here : (List.range va.size).drop i = i :: (List.range va.size).drop (i + 1) := by simp [List.drop_eq_getElem_cons, l1]
    have up : ((i : Int) + 1) = ((i + 1 : Nat) : Int) := by push_cast; rfl
    rw [here, List.all_cons] at fin
    rw [n1, n2]
    refine wpAny_bind (cmp i l1 l2 _ _ ?_)
    cases way : f i with
    | false =>
      rw [way] at fin
      wp_walk using wpAny_loadPart' x1, wpAny_loadPart' x2
      rw [n1, n2]
      wp_walk
      simpa using fin
    | true =>
      rw [way] at fin
      wp_walk
      rw [up]
      refine ⟨plainId_quiet plain_eq_loop _, codeAny_builtin entry_eq_loop ?_⟩
      rw [Around.under_plainId plain_eq_loop _]
      exact ih (i + 1) (by omega) A R _ ⟨x1, x2, cmp, by simpa using fin⟩
theorem wholeNe (p q : Addr) (va vb : Array Value) (m m2 : Nat) (d d2 : Option Addr) (z z2 : Array (Option Value)) (eqs : va.size = vb.size) (f : Nat → Bool) :
    MeetsIn P W (Builtin.«list.__ne__» ⟨[.ref p, .ref q], []⟩)
      (fun A R s => s.heap.get? p = some (LObj d va m z) ∧ s.heap.get? q = some (LObj d2 vb m2 z2) ∧
        (∀ j (g1 : j < va.size) (g2 : j < vb.size), EqIn P W A.in1 s va[j] vb[j] (f j)) ∧ R (.ok (.ret (.bool (!(List.range va.size).all f)))) s) := by
  intro A R s hyp
  obtain ⟨hp, g, dr, tk, os⟩ := s
  obtain ⟨x1, x2, cmp, fin⟩ := hyp
  have _sub := AutoSeq1.sub_list_list
  have same : ¬ (va.size != vb.size) = true := by simp [eqs]
  wp_walk using wpAny_loadPart' x1, wpAny_loadPart' x2
  refine ⟨plainId_quiet plain_eq_loop _, codeAny_builtin entry_eq_loop ?_⟩
  rw [Around.under_plainId plain_eq_loop _]
  exact turnNe p q va vb m m2 d d2 z z2 eqs f _ 0 rfl A R _ ⟨x1, x2, cmp, by simpa using fin⟩
end
end PwNe

namespace Pw
open PySem PySem.Spec PyProof.Rows L2
section
variable {X : Cx} {w : Wo}
theorem rcNe {A : Around} {s : Shared} {p q : Addr} {va vb : Array Value} {f : Nat → Bool} {E : Value → Shared → Prop} {Q : Value → Shared → Prop} {P : Program} {W : World}
    (i1 : s.heap.IsList p va) (i2 : s.heap.IsList q vb) (eqs : va.size = vb.size) (room : A.units < cLine) (cmp : ∀ j (g1 : j < va.size) (g2 : j < vb.size), SeqAt.EqIn P W A.in1 s va[j] vb[j] (f j))
    (fin : Q (.bool (!(List.range va.size).all f)) s) : wpAny (model P W) A (compareOp .NotEq (.ref p) (.ref q)) Q E s := by
  obtain ⟨⟨c1, d1, dt1, s1⟩, o1, k1, n1, x1⟩ := id i1
  obtain ⟨⟨c2, d2, dt2, s2⟩, o2, k2, n2, x2⟩ := id i2
  simp only at k1 x1 k2 x2
  subst k1 x1 k2 x2
  have fin2 : Value.bool (!(List.range va.size).all f) ≠ Value.notImplemented ∧ Q (.bool (!(List.range va.size).all f)) s := ⟨(fun z => nomatch z), fin⟩
  exact wpAny_richCompare_same_room (T := "list") (op := .NotEq) ⟨_, o1, rfl⟩ ⟨_, o2, rfl⟩ F.slot_list_ne
    (call_meetsIn F.slot_list_ne ⟨_, o1, rfl⟩ F.entry_list_ne (F.args_list_ne_2 _ _) (PwNe.wholeNe p q va vb n1 n2 d1 d2 s1 s2 eqs f) ⟨o1, o2, cmp, fin2⟩) room
/-- a comparison by what it does to values -/
def rC (w : Wo) (o : Cop) : R2 := fun x y H Q => ∃ φ S dx dy, SimO w.K φ w.ex H S ∧ RE w φ H S x dx ∧ RE w φ H S y dy ∧ ∃ c, cmpD S o dx dy = some c ∧ Q (.bl c) H
theorem deq_flat {S : Store} {n : Nat} {a b : D} {x y : V} {c : Bool} {φ : Nat → Addr} {H : Hp} (rx : Rp w.K φ w.ex H x a) (ry : Rp w.K φ w.ex H y b) (t : topEq a b = true) (h : deq S (n + 1) a b = some c) (nt : ∀ ds, a ≠ .tup ds) (no : ∀ k, a ≠ .obj k) :
    scal x y = true ∧ decide (x = y) = c := by
  cases a with
  | tup ds => exact absurd rfl (nt ds)
  | obj k => exact absurd rfl (no k)
  | exc k fs => cases b <;> cases t
  | non =>
    cases rx
    cases b <;> first | (cases t; done) | (cases ry; cases h; exact ⟨rfl, rfl⟩)
  | bl i =>
    cases rx
    cases b <;> first | (cases t; done) | (cases ry; cases h; exact ⟨rfl, rfl⟩) | skip
    rename_i j
    cases ry; cases h; refine ⟨rfl, ?_⟩; cases i <;> cases j <;> rfl
  | int i =>
    cases rx
    cases b <;> first | (cases t; done) | (cases ry; cases h; exact ⟨rfl, rfl⟩) | skip
    rename_i j
    cases ry; cases h; refine ⟨rfl, ?_⟩
    rw [decide_eq_decide]
    exact ⟨fun z => V.int.inj z, fun z => by rw [z]⟩
  | str i =>
    cases rx
    cases b <;> first | (cases t; done) | (cases ry; cases h; exact ⟨rfl, rfl⟩) | skip
    rename_i j
    cases ry; cases h; refine ⟨rfl, ?_⟩
    rw [decide_eq_decide]
    exact ⟨fun z => by rw [V.str.inj z], fun z => by rw [str_ext z]⟩
theorem un_of (hu : X.A.units + 64 < cLine) {n : Nat} (h : n ≤ 60) : X.A.units + (n + 1) < cLine := by omega
open PySem.W in
/-- == and != of two lists, two tuples: the rows of items -/
theorem rows_eq {pins : List (Addr × Obj)} {σ : L2.St} {H : Hp} {s : Shared} {φ : Nat → Addr} {S : Store} (hK : w.K = X.K) (I : Inv X pins σ H s) (so : SimO w.K φ w.ex H S) {n : Nat} {vs ws : List V} {ds es : List D} {as bs : List Value}
    (r1 : RpA w.K φ w.ex H vs ds) (r2 : RpA w.K φ w.ex H ws es) (v1 : Vals vs as) (v2 : Vals ws bs) (hl : ds.length = es.length) {c : Bool} (hc : alls (deq S n) ds es = some c) :
    ∃ k : Nat → Bool, (List.range as.toArray.size).all k = c ∧ ∀ j (h1 : j < as.toArray.size) (h2 : j < bs.toArray.size), EqTree X.prog X.w s n as.toArray[j] bs.toArray[j] (k j) := by
  obtain ⟨k, hk, hi⟩ := allR_of hl hc
  refine ⟨k, ?_, fun j h1 h2 => ?_⟩
  · rw [← hk, List.size_toArray, ← v1.length, r1.length]
  · have g1 : j < as.length := by simpa using h1
    have g2 : j < bs.length := by simpa using h2
    have l1 : j < vs.length := by rw [v1.length]; exact g1
    have l2 : j < ws.length := by rw [v2.length]; exact g2
    obtain ⟨d1, e1, p1⟩ := r1.getv (List.getElem?_eq_getElem l1)
    obtain ⟨d2, e2, p2⟩ := r2.getv (List.getElem?_eq_getElem l2)
    obtain ⟨u1, f1, q1⟩ := v1.get (List.getElem?_eq_getElem l1)
    obtain ⟨u2, f2, q2⟩ := v2.get (List.getElem?_eq_getElem l2)
    rw [List.getElem?_eq_getElem g1] at f1
    rw [List.getElem?_eq_getElem g2] at f2
    cases f1; cases f2
    exact deq_tree hK I so n _ _ _ _ _ _ q1 q2 p1 p2 _ (hi j _ _ e1 e2)
theorem opR_eq (hK : w.K = X.K) (hu : X.A.units + 64 < cLine) : OpR X (compareOp .Eq) (rC w .eq) := by
  intro pins s σ H x y v u Q I rx ry h
  obtain ⟨φ, S, dx, dy, so, ⟨px, bx⟩, ⟨py, by_⟩, c, hc, h⟩ := h
  have hc : (if topOk S false dx dy = true then deq S fuel dx dy else none) = some c := hc
  by_cases hto : topOk S false dx dy = true
  · rw [if_pos hto] at hc
    have ht : topEq dx dy = true := by
      unfold topOk at hto
      simp only [Bool.and_eq_true] at hto
      exact hto.1
    have uu : X.A.in1.units + 39 < cLine := by show X.A.units + 1 + 39 < cLine; omega
    cases dx with
    | tup ds => cases dy with
      | tup es =>
        have hc' : (if ds.length = es.length then alls (deq S 39) ds es else (alls (deq S 39) (ds.take es.length) (es.take ds.length)).bind fun _ => some false) = some c := hc
        obtain ⟨a, vs, rfl, h1, r1⟩ := rp_inv px
        obtain ⟨b, ws, rfl, h2, r2⟩ := rp_inv py
        cases rx; cases ry
        rw [hK] at h1 h2
        obtain ⟨as, v1, p1, _⟩ := I.tuple h1
        obtain ⟨bs, v2, p2, _⟩ := I.tuple h2
        have la : as.length = ds.length := by rw [← v1.length, r1.length]
        have lb : bs.length = es.length := by rw [← v2.length, r2.length]
        by_cases hl : ds.length = es.length
        · rw [if_pos hl] at hc'
          obtain ⟨k, hk, hi⟩ := rows_eq hK I so r1 r2 v1 v2 hl hc'
          refine PySem.W.eq_tuplesT (n := 39) p1 p2 hi (un_of hu (by omega)) ⟨.bl c, H, I, ?_, h⟩
          show Value.bool _ = Value.bool c
          have e1 : as.length = bs.length := by omega
          rw [← hk, List.size_toArray, List.size_toArray, ← e1, Nat.min_self, beq_self_eq_true, Bool.and_true]
        · rw [if_neg hl] at hc'
          cases hz : alls (deq S 39) (ds.take es.length) (es.take ds.length) with
          | none => rw [hz] at hc'; cases hc'
          | some k0 =>
            rw [hz] at hc'
            cases hc'
            obtain ⟨k, hk, hi⟩ := rows_eq hK I so (r1.take es.length) (r2.take ds.length) (v1.take es.length) (v2.take ds.length) (by simp only [List.length_take]; omega) hz
            refine PySem.W.eq_tuplesT (n := 39) (e := k) p1 p2 (fun j h1 h2 => ?_) (un_of hu (by omega)) ⟨.bl false, H, I, ?_, h⟩
            · have j1 : j < as.length := by simpa using h1
              have j2 : j < bs.length := by simpa using h2
              have := hi j (by simp only [List.size_toArray, List.length_take]; omega) (by simp only [List.size_toArray, List.length_take]; omega)
              simpa using this
            · have : (as.toArray.size == bs.toArray.size) = false := by
                simp only [List.size_toArray, la, lb]
                simpa using hl
              show Value.bool _ = Value.bool false
              rw [this, Bool.and_false]
      | _ => cases ht
    | obj m => cases dy with
      | obj m' =>
        have ex := rp_inv px
        have ey := rp_inv py
        dsimp only at ex ey
        subst ex ey
        cases rx; cases ry
        rcases deq_lst (n := 39) hc with ⟨xs, ys, g1, g2, hc'⟩ | ⟨xs, ys, g1, g2, hk, hc'⟩
        · obtain ⟨vs, h1, r1⟩ := so.ob m _ g1
          obtain ⟨ws, h2, r2⟩ := so.ob m' _ g2
          obtain ⟨as, v1, p1, _⟩ := I.list (SqL.of h1)
          obtain ⟨bs, v2, p2, _⟩ := I.list (SqL.of h2)
          by_cases hl : xs.length = ys.length
          · rw [if_pos hl] at hc'
            obtain ⟨k, hk, hi⟩ := rows_eq hK I so r1 r2 v1 v2 hl hc'
            refine PySem.W.eq_listsT (n := 39) p1.isList p2.isList ?_ hi (un_of hu (by omega)) ⟨.bl c, H, I, by rw [hk]; rfl, h⟩
            simp only [List.size_toArray]; rw [← v1.length, ← v2.length, r1.length, r2.length, hl]
          · rw [if_neg hl] at hc'
            cases hc'
            refine SeqAt.eq_list_lengthsAt p1.isList p2.isList ?_ (by omega) ⟨.bl false, H, I, rfl, h⟩
            have : as.length ≠ bs.length := by rw [← v1.length, ← v2.length, r1.length, r2.length]; exact hl
            simpa using this
        · have hto : (topEq (.obj m) (.obj m') && (match get S m with | some (.lst _) => true | _ => false)) = true := hto
          rw [g1] at hto
          simp at hto
      | _ => cases ht
    | _ =>
      obtain ⟨h1, h2⟩ := deq_flat px py ht hc (by intro ds z; cases z) (by intro k z; cases z)
      exact op_eq pins s σ H _ _ v u Q I rx ry ⟨h1, by rw [h2]; exact h⟩
  · rw [if_neg hto] at hc; cases hc
theorem opR_ne (hK : w.K = X.K) (hu : X.A.units + 64 < cLine) : OpR X (compareOp .NotEq) (rC w .ne) := by
  intro pins s σ H x y v u Q I rx ry h
  obtain ⟨φ, S, dx, dy, so, ⟨px, bx⟩, ⟨py, by_⟩, c', hc, h⟩ := h
  have hc : (if topOk S true dx dy = true then (deq S fuel dx dy).map (!·) else none) = some c' := hc
  by_cases ht : topOk S true dx dy = true
  · rw [if_pos ht] at hc
    obtain ⟨c, hd, e⟩ := Option.map_eq_some_iff.mp hc
    subst e
    clear hc
    have hc : deq S (39 + 1) dx dy = some c := hd
    have te : topEq dx dy = true := by
      unfold topOk at ht
      simp only [Bool.and_eq_true] at ht
      exact ht.1
    cases dx with
    | tup ds => unfold topOk at ht; simp at ht
    | obj m => cases dy with
      | obj m' =>
        have ex := rp_inv px
        have ey := rp_inv py
        dsimp only at ex ey
        subst ex ey
        cases rx; cases ry
        rcases deq_lst (n := 39) hc with ⟨xs, ys, g1, g2, hc'⟩ | ⟨xs, ys, g1, g2, hk, hc'⟩
        · obtain ⟨vs, h1, r1⟩ := so.ob m _ g1
          obtain ⟨ws, h2, r2⟩ := so.ob m' _ g2
          obtain ⟨as, v1, p1, _⟩ := I.list (SqL.of h1)
          obtain ⟨bs, v2, p2, _⟩ := I.list (SqL.of h2)
          by_cases hl : xs.length = ys.length
          · rw [if_pos hl] at hc'
            obtain ⟨k, hk, hi⟩ := rows_eq hK I so r1 r2 v1 v2 hl hc'
            refine rcNe p1.isList p2.isList ?_ (by omega) (fun j g1 g2 => (hi j g1 g2).at X.A.in1 (by show X.A.units + 1 + 39 < cLine; omega)) ⟨.bl (!c), H, I, by rw [hk]; rfl, h⟩
            simp only [List.size_toArray]; rw [← v1.length, ← v2.length, r1.length, r2.length, hl]
          · rw [if_neg hl] at hc'
            cases hc'
            refine SeqAt.RcNeAt.lists_lengths p1.isList p2.isList ?_ (by omega) _ _ _ _ ⟨.bl true, H, I, rfl, h⟩
            have : as.length ≠ bs.length := by rw [← v1.length, ← v2.length, r1.length, r2.length]; exact hl
            simpa using this
        · have ht : (topEq (.obj m) (.obj m') && (match get S m with | some (.lst _) => true | _ => false)) = true := ht
          rw [g1] at ht
          simp at ht
      | _ => cases te
    | _ =>
      obtain ⟨h1, h2⟩ := deq_flat px py te hc (by intro ds z; cases z) (by intro k z; cases z)
      exact op_ne pins s σ H _ _ v u Q I rx ry ⟨h1, by rw [h2]; exact h⟩
  · rw [if_neg ht] at hc; cases hc
end
end Pw
end
section
set_option Elab.async false
set_option linter.all false
set_option maxRecDepth 100000
set_option maxHeartbeats 1000000
set_option autoImplicit false
/-! Pw5: order, membership, identity -/
namespace Pw
open PySem PySem.Spec PyProof.Rows L2
section
variable {X : Cx} {w : Wo}
theorem dord_cases {S : Store} {o : Pw.Ord} {a b : D} {c : Bool} (h : dord S o 1 a b = some c) : (∃ i j, a = .int i ∧ b = .int j ∧ o.i i j = c) ∨ (∃ i j, a = .str i ∧ b = .str j ∧ o.s i j = c) ∨ ∃ x y, a = .tup x ∧ b = .tup y := by
  cases a <;> cases b <;> first | (cases h; done) | skip
  · cases h; exact .inl ⟨_, _, rfl, rfl, rfl⟩
  · cases h; exact .inr (.inl ⟨_, _, rfl, rfl, rfl⟩)

def ordOp : Pw.Ord → CmpOp
  | .lt => .Lt
  | .le => .LtE
  | .gt => .Gt
  | .ge => .GtE
def ordCop : Pw.Ord → Cop
  | .lt => .lt
  | .le => .le
  | .gt => .gt
  | .ge => .ge
theorem dord_flat {S : Store} {o : Pw.Ord} {n : Nat} {a b : D} {c : Bool} (h : dord S o (n + 1) a b = some c) : (∃ i j, a = .int i ∧ b = .int j ∧ o.i i j = c) ∨ (∃ i j, a = .str i ∧ b = .str j ∧ o.s i j = c) ∨ ∃ x y, a = .tup x ∧ b = .tup y := by
  cases a <;> cases b <;> first | (cases h; done) | skip
  · cases h; exact .inl ⟨_, _, rfl, rfl, rfl⟩
  · cases h; exact .inr (.inl ⟨_, _, rfl, rfl, rfl⟩)

theorem opR_ord (o : Pw.Ord) (nt : ∀ S x y, cmpD S (ordCop o) (.tup x) (.tup y) = none) : OpR X (compareOp (ordOp o)) (rC w (ordCop o)) := by
  intro pins s σ H x y v u Q I rx ry h
  obtain ⟨φ, S, dx, dy, so, ⟨px, bx⟩, ⟨py, by_⟩, c, hc, h⟩ := h
  have hd : dord S o fuel dx dy = some c := by cases o <;> exact hc
  rcases dord_flat hd with ⟨i, j, rfl, rfl, e⟩ | ⟨i, j, rfl, rfl, e⟩ | ⟨a, b, rfl, rfl⟩
  · cases px; cases py
    subst e
    cases o
    · exact op_lt pins s σ H _ _ v u Q I rx ry ⟨_, _, rfl, rfl, h⟩
    · exact op_le pins s σ H _ _ v u Q I rx ry ⟨_, _, rfl, rfl, h⟩
    · exact op_gt pins s σ H _ _ v u Q I rx ry ⟨_, _, rfl, rfl, h⟩
    · exact op_ge pins s σ H _ _ v u Q I rx ry ⟨_, _, rfl, rfl, h⟩
  · cases px; cases py
    subst e
    cases o
    · exact op_lt_str pins s σ H _ _ v u Q I rx ry ⟨_, _, rfl, rfl, h⟩
    · exact op_le_str pins s σ H _ _ v u Q I rx ry ⟨_, _, rfl, rfl, h⟩
    · exact op_gt_str pins s σ H _ _ v u Q I rx ry ⟨_, _, rfl, rfl, h⟩
    · exact op_ge_str pins s σ H _ _ v u Q I rx ry ⟨_, _, rfl, rfl, h⟩
  · rw [nt] at hc; cases hc
theorem feq_eqV {K : PySem.W.Frag} {φ : Nat → Addr} {ex : Ex1} {H : Hp} {x y : V} {a b : D} (rx : Rp K φ ex H x a) (ry : Rp K φ ex H y b) : eqV x y = feq a b := by
  cases rx <;> cases ry <;> first | rfl | exact str_beq.trans (Bool.beq_eq_decide_eq _ _).symm
theorem flat_of {K : PySem.W.Frag} {φ : Nat → Addr} {ex : Ex1} {H : Hp} {x : V} {a : D} (rx : Rp K φ ex H x a) (f : flatD a = true) : flatV x = true := by
  cases rx <;> first | rfl | cases f
theorem flats_of {K : PySem.W.Frag} {φ : Nat → Addr} {ex : Ex1} {H : Hp} : ∀ {vs : List V} {ds : List D}, RpA K φ ex H vs ds → ds.all flatD = true → vs.all flatV = true
  | _, _, .nil, _ => rfl
  | _, _, .cons r t, f => by
    simp only [List.all_cons, Bool.and_eq_true] at f ⊢
    exact ⟨flat_of r f.1, flats_of t f.2⟩
theorem any_feq {K : PySem.W.Frag} {φ : Nat → Addr} {ex : Ex1} {H : Hp} {x : V} {a : D} (rx : Rp K φ ex H x a) : ∀ {vs : List V} {ds : List D}, RpA K φ ex H vs ds → inV x vs = ds.any fun y => feq y a
  | _, _, .nil => rfl
  | _, _, .cons r t => by
    show (eqV _ x || inV x _) = _
    rw [feq_eqV r rx, any_feq rx t]
    rfl
theorem din_row {S : Store} {φ : Nat → Addr} {H : Hp} (so : SimO w.K φ w.ex H S) {y : V} {d e : D} {c : Bool} (ry : Rp w.K φ w.ex H y e) (h : din S d e = some c) :
    (∃ k s, d = .str [k] ∧ e = .str s ∧ decide (k ∈ s) = c) ∨ ∃ p vs ds, y = .ref p ∧ (SqL w.K H p vs ∨ SqT w.K H p vs) ∧ RpA w.K φ w.ex H vs ds ∧ inD d ds = some c := by
  cases e with
  | str t =>
    simp only [din] at h
    split at h
    · cases h; exact .inl ⟨_, _, rfl, rfl, rfl⟩
    · cases h
  | tup ds =>
    cases ry with
    | tup h1 r1 => exact .inr ⟨_, _, _, rfl, .inr h1, r1, h⟩
  | obj n =>
    cases ry
    have h : (match get S n with
      | some (.lst xs) => inD d xs
      | some (.ro xs) => inD d xs
      | _ => none) = some c := h
    split at h
    · rename_i xs g
      obtain ⟨vs, h1, r1⟩ := so.ob n _ g
      exact .inr ⟨_, _, _, rfl, .inl (SqL.of h1), r1, h⟩
    · rename_i xs g
      obtain ⟨vs, h1, r1⟩ := so.ob n _ g
      exact .inr ⟨_, _, _, rfl, .inl h1.sq, r1, h⟩
    · cases h
  | _ => cases h
theorem one_sign {x : Str} {k : Nat} (h : x.cps.toList = [k]) : x = ⟨#[k]⟩ := str_ext h
theorem inD_some {d : D} {ds : List D} {c : Bool} (h : inD d ds = some c) : flatD d = true ∧ ds.all flatD = true ∧ (ds.any fun y => feq y d) = c := by
  unfold inD at h
  split at h
  · rename_i hf
    simp only [Bool.and_eq_true] at hf
    cases h
    exact ⟨hf.1, hf.2, rfl⟩
  · cases h
theorem opR_in (hK : w.K = X.K) : OpR X (compareOp .In) (rC w .inn) := by
  intro pins s σ H x y v u Q I rx ry h
  obtain ⟨φ, S, dx, dy, so, ⟨px, bx⟩, ⟨py, by_⟩, c, hc, h⟩ := h
  rcases din_row so py hc with ⟨k, t, rfl, rfl, e⟩ | ⟨p, vs, ds, rfl, hp, r1, hi⟩
  · obtain ⟨z, rfl, ez⟩ := rp_inv px
    obtain ⟨z2, rfl, rfl⟩ := rp_inv py
    rw [one_sign ez] at rx
    exact op_in_sign pins s σ H _ _ v u Q I rx ry ⟨k, z2, rfl, rfl, by rw [e]; exact h⟩
  · obtain ⟨f1, f2, e⟩ := inD_some hi
    rw [hK] at hp
    refine op_in_seq pins s σ H _ _ v u Q I rx ry ⟨p, vs, rfl, hp, flat_of px f1, flats_of r1 f2, ?_⟩
    show Q (.bl (inV x vs)) H
    rw [any_feq px r1, e]
    exact h
theorem opR_nin (hK : w.K = X.K) : OpR X (compareOp .NotIn) (rC w .nin) := by
  intro pins s σ H x y v u Q I rx ry h
  obtain ⟨φ, S, dx, dy, so, ⟨px, bx⟩, ⟨py, by_⟩, c', hc, h⟩ := h
  obtain ⟨c, hd, e'⟩ := Option.map_eq_some_iff.mp (show (din S dx dy).map (!·) = some c' from hc)
  subst e'
  rcases din_row so py hd with ⟨k, t, rfl, rfl, e⟩ | ⟨p, vs, ds, rfl, hp, r1, hi⟩
  · obtain ⟨z, rfl, ez⟩ := rp_inv px
    obtain ⟨z2, rfl, rfl⟩ := rp_inv py
    rw [one_sign ez] at rx
    exact op_notIn_sign pins s σ H _ _ v u Q I rx ry ⟨k, z2, rfl, rfl, by rw [e]; exact h⟩
  · obtain ⟨f1, f2, e⟩ := inD_some hi
    rw [hK] at hp
    refine op_notIn_seq pins s σ H _ _ v u Q I rx ry ⟨p, vs, rfl, hp, flat_of px f1, flats_of r1 f2, ?_⟩
    show Q (.bl (!inV x vs)) H
    rw [any_feq px r1, e]
    exact h
theorem non_iff {K : PySem.W.Frag} {φ : Nat → Addr} {ex : Ex1} {H : Hp} {x : V} {d : D} (r : Rp K φ ex H x d) : decide (x = .non) = decide (d = .non) := by
  cases r <;> simp
theorem dis_cases {x y : D} {c : Bool} (h : dis x y = some c) : (y = .non ∧ decide (x = .non) = c) ∨ ∃ a b, x = .bl a ∧ y = .bl b ∧ decide (a = b) = c := by
  unfold dis at h
  split at h
  · cases h; exact .inl ⟨rfl, rfl⟩
  · split at h
    · cases h; exact .inr ⟨_, _, rfl, rfl, rfl⟩
    · cases h
  · cases h
theorem opR_is : OpR X (compareOp .Is) (rC w .is) := by
  intro pins s σ H x y v u Q I rx ry h
  obtain ⟨φ, S, dx, dy, so, ⟨px, bx⟩, ⟨py, by_⟩, c, hc, h⟩ := h
  rcases dis_cases (show dis dx dy = some c from hc) with ⟨rfl, e⟩ | ⟨a, b, rfl, rfl, e⟩
  · cases py
    exact op_isN pins s σ H _ _ v u Q I rx ry ⟨rfl, by rw [non_iff px, e]; exact h⟩
  · cases px; cases py
    exact op_is_bl pins s σ H _ _ v u Q I rx ry ⟨a, b, rfl, rfl, by rw [e]; exact h⟩
theorem opR_isn : OpR X (compareOp .IsNot) (rC w .isn) := by
  intro pins s σ H x y v u Q I rx ry h
  obtain ⟨φ, S, dx, dy, so, ⟨px, bx⟩, ⟨py, by_⟩, c', hc, h⟩ := h
  obtain ⟨c, hd, e'⟩ := Option.map_eq_some_iff.mp (show (dis dx dy).map (!·) = some c' from hc)
  subst e'
  rcases dis_cases hd with ⟨rfl, e⟩ | ⟨a, b, rfl, rfl, e⟩
  · cases py
    exact op_notN pins s σ H _ _ v u Q I rx ry ⟨rfl, by rw [non_iff px, e]; exact h⟩
  · cases px; cases py
    exact op_isnot_bl pins s σ H _ _ v u Q I rx ry ⟨a, b, rfl, rfl, by rw [e]; exact h⟩
end
end Pw
end
section
set_option Elab.async false
set_option linter.all false
set_option maxRecDepth 100000
set_option maxHeartbeats 1000000
set_option autoImplicit false
/-! Pw6: subscripts, slices, calls of built-ins by values -/
namespace Pw
open PySem PySem.Spec PyProof.Rows L2
section
variable {X : Cx} {w : Wo}
theorem Rg0.of {α β : Type} {R : (Nat → Addr) → Hp → Store → β → α → Prop} {φ : Nat → Addr} {S S' : Store} {H : Hp} {Q : β → Hp → Prop} {o : Option α} (h : Rg0 w R φ S H (Res.of o S') Q) : ∃ a, o = some a ∧ Rg0 w R φ S H (.ok a S') Q := by
  cases o with
  | none => exact h.elim
  | some a => exact ⟨a, rfl, h⟩
theorem place_ix {n : Nat} {i : Int} : place n i = ixN n i := rfl
theorem at_row {φ : Nat → Addr} {H : Hp} {vs : List V} {ds : List D} (r : RpA w.K φ w.ex H vs ds) {i : Int} {d : D} (h : ((place ds.length i).bind fun j => ds[j]?) = some d) : ∃ v, atI vs i = some v ∧ Rp w.K φ w.ex H v d ∧ ∃ j : Nat, ds[j]? = some d := by
  cases e : place ds.length i with
  | none => rw [e] at h; cases h
  | some j =>
    rw [e] at h
    obtain ⟨v, h1, h2⟩ := r.get d h
    refine ⟨v, ?_, h2, j, h⟩
    unfold atI
    rw [r.length, ← place_ix, e]
    exact h1
theorem bel_at {n : Nat} {ds : List D} (b : D.bels n ds = true) {j : Nat} {d : D} (h : ds[j]? = some d) : D.bel n d = true := bels_all.mp b d (List.mem_of_getElem? h)
/-- o[i] by what it does to values -/
def rX (w : Wo) : R2 := fun x y H Q => ∃ φ S dx dy, SimO w.K φ w.ex H S ∧ RE w φ H S x dx ∧ RE w φ H S y dy ∧ Rg0 w (RE w) φ S H (idxD dx dy S) Q
theorem ixR (hK : w.K = X.K) : IxR X (rX w) := by
  intro value slice pins s σ H x y v u Q I rx ry h hs
  obtain ⟨φ, S, dx, dy, so, ⟨px, bx⟩, ⟨py, by_⟩, h⟩ := h
  cases dx with
  | str t => cases dy with
    | int i =>
      obtain ⟨z, rfl, rfl⟩ := rp_inv px
      generalize ht : z.cps.toList = t at h
      have h : Rg0 w (RE w) φ S H (if t.length ≤ line then Res.of (((place t.length i).bind fun j => t[j]?).map fun c => .str [c]) S else .bad) Q := h
      obtain ⟨hl, h⟩ := h.ite
      obtain ⟨a, ea, h⟩ := h.of
      obtain ⟨c, ec, e2⟩ := Option.map_eq_some_iff.mp ea
      subst e2
      cases py
      have hq := h.same so (rp_str (x := ⟨#[c]⟩) rfl) rfl
      subst ht
      refine ix_str value slice pins s σ H _ _ v u Q I rx ry ⟨z, i, c, rfl, rfl, ?_, ec, hq⟩ hs
      rw [str_len, line_eq]; exact hl
    | _ => exact h.elim
  | tup ds => cases dy with
    | int i =>
      obtain ⟨d, ed, h⟩ := Rg0.of (show Rg0 w (RE w) φ S H (Res.of ((place ds.length i).bind fun j => ds[j]?) S) Q from h)
      cases py
      cases px with
      | tup h1 r1 =>
        obtain ⟨v', h2, h3, j, h4⟩ := at_row r1 ed
        rw [hK] at h1
        exact ix_tup value slice pins s σ H _ _ v u Q I rx ry ⟨_, _, i, v', rfl, rfl, h1, h2, h.same so h3 (bel_at (by simpa [D.bel] using bx) h4)⟩ hs
    | _ => exact h.elim
  | obj n =>
    cases px
    simp only [idxD] at h
    split at h
    · rename_i xs g
      split at h
      · rename_i i
        obtain ⟨d, ed, h⟩ := h.of
        cases py
        obtain ⟨vs, h1, r1⟩ := so.ob n _ g
        obtain ⟨v', h2, h3, j, h4⟩ := at_row r1 ed
        exact ix_list value slice pins s σ H _ _ v u Q I rx ry ⟨_, _, i, v', rfl, rfl, SqL.of h1, h2, h.same so h3 (bel_at (so.wf n _ g) h4)⟩ hs
      · exact h.elim
    · rename_i xs g
      split at h
      · rename_i i
        obtain ⟨d, ed, h⟩ := h.of
        cases py
        obtain ⟨vs, h1, r1⟩ := so.ob n _ g
        obtain ⟨v', h2, h3, j, h4⟩ := at_row r1 ed
        exact ix_list value slice pins s σ H _ _ v u Q I rx ry ⟨_, _, i, v', rfl, rfl, h1.sq, h2, h.same so h3 (bel_at (so.wf n _ g) h4)⟩ hs
      · exact h.elim
    · exact h.elim
  | _ => exact h.elim
/-! ### slices -/
theorem clip_ix (n d : Nat) (o : Option Int) : clip n d o = HT.sIx n d o := by
  cases o <;> rfl
/-- o[a:b] by what it does to values -/
def rSl (w : Wo) : V → Option Int → Option Int → Hp → VK → Prop := fun x lo hi H Q => ∃ φ S dx, SimO w.K φ w.ex H S ∧ RE w φ H S x dx ∧ Rg0 w (RE w) φ S H (slD dx (lo.map .int) (hi.map .int) S) Q
theorem intO_map (o : Option Int) : intO (o.map .int) = some o := by cases o <;> rfl
theorem bels_cut {n : Nat} {ds : List D} (b : D.bels n ds = true) (lo hi : Option Int) : D.bels n (cut ds lo hi) = true :=
  bels_all.mpr fun d hd => bels_all.mp b d (List.mem_of_mem_drop (List.mem_of_mem_take hd))
theorem cut_rp {φ : Nat → Addr} {H : Hp} {vs : List V} {ds : List D} (r : RpA w.K φ w.ex H vs ds) (lo hi : Option Int) : RpA w.K φ w.ex H (cutV vs lo hi) (cut ds lo hi) := by
  unfold cutV cut
  rw [clip_ix, clip_ix, r.length]
  exact (r.drop _).take _
theorem slR (hK : w.K = X.K) : SlR X (rSl w) := by
  intro pins s σ H x v vl vu lo hi sl Q I rx hs pl pu h
  obtain ⟨φ, S, dx, so, ⟨px, bx⟩, h⟩ := h
  unfold slD at h
  rw [intO_map, intO_map] at h
  dsimp only at h
  cases dx with
  | str t =>
    have h : Rg0 w (RE w) φ S H (if t.length ≤ line then .ok (.str (cut t lo hi)) S else .bad) Q := h
    obtain ⟨hl, h⟩ := h.ite
    obtain ⟨z, rfl, rfl⟩ := rp_inv px
    refine sl_str pins s σ H _ v vl vu lo hi sl Q I rx hs pl pu ⟨z, rfl, ?_, h.same so (rp_str ?_) rfl⟩
    · rw [str_len, line_eq]; exact hl
    · unfold cutS cut
      rw [clip_ix, clip_ix, str_len]
  | tup ds =>
    have b : D.bels S.length ds = true := by simpa [D.bel] using bx
    cases px with
    | tup h1 r1 =>
      rw [hK] at h1
      refine sl_tupA pins s σ H _ v vl vu lo hi sl Q I rx hs pl pu ⟨_, _, rfl, h1, fun e => ?_, fun _ p hp => ?_⟩
      · have ec : cut ds lo hi = ds := by
          unfold cut
          rw [clip_ix, clip_ix, ← r1.length, e.1, e.2, List.drop_zero, Nat.sub_zero, r1.length, List.take_length]
        have h : Rg0 w (RE w) φ S H (.ok (.tup (cut ds lo hi)) S) Q := h
        rw [ec] at h
        exact h.same so (.tup (hK ▸ h1) r1) bx
      · exact Rg0.tup h so (cut_rp r1 lo hi) (bels_cut b lo hi) hp
  | obj n =>
    cases px
    have h : Rg0 w (RE w) φ S H (match get S n with
      | some (.lst xs) => .ok (.obj S.length) (.lst (cut xs lo hi) :: S)
      | _ => .bad) Q := h
    split at h
    · rename_i xs g
      obtain ⟨vs, h1, r1⟩ := so.ob n _ g
      exact sl_list pins s σ H _ v vl vu lo hi sl Q I rx hs pl pu ⟨_, _, rfl, SqL.of h1, fun p hp => h.lst so (cut_rp r1 lo hi) (bels_cut (so.wf n _ g) lo hi) hp⟩
    · exact h.elim
  | _ => exact h.elim
/-! ### built-ins of one or two values -/
theorem one_arg {φ : Nat → Addr} {H : Hp} {S : Store} {xs : List V} {d : D} (r : REs w φ H S xs [d]) : ∃ x, xs = [x] ∧ Rp w.K φ w.ex H x d ∧ D.bel S.length d = true := by
  obtain ⟨r, b⟩ := r
  cases r with
  | cons q r =>
    cases r
    simp only [D.bels, Bool.and_eq_true] at b
    exact ⟨_, rfl, q, b.1⟩
theorem two_arg {φ : Nat → Addr} {H : Hp} {S : Store} {xs : List V} {d e : D} (r : REs w φ H S xs [d, e]) : ∃ x y, xs = [x, y] ∧ Rp w.K φ w.ex H x d ∧ Rp w.K φ w.ex H y e ∧ D.bel S.length d = true ∧ D.bel S.length e = true := by
  obtain ⟨r, b⟩ := r
  cases r with
  | cons q r =>
    cases r with
    | cons q2 r =>
      cases r
      simp only [D.bels, Bool.and_eq_true] at b
      exact ⟨_, _, rfl, q, q2, b.1, b.2.1⟩
/-- a call of a built-in with the arguments ds, by what it does to values -/
def rF (w : Wo) (ds : List D) (f : Store → Res D) : List V → Hp → VK → Prop := fun xs H Q => ∃ φ S, SimO w.K φ w.ex H S ∧ REs w φ H S xs ds ∧ Rg0 w (RE w) φ S H (f S) Q
theorem callR_len (hK : w.K = X.K) (d : D) : CallR X (.builtin "len") (rF w [d] fun S => f1D .len d S) := by
  intro pins s σ H xs us Q I r h
  obtain ⟨φ, S, so, ra, h⟩ := h
  obtain ⟨x, rfl, px, bx⟩ := one_arg ra
  have h : Rg0 w (RE w) φ S H ((Res.of (lenD S d) S).bind fun n S => .ok (.int n) S) Q := by cases d <;> exact h
  cases e : lenD S d with
  | none => rw [e] at h; exact h.elim
  | some n =>
    rw [e] at h
    have h : Rg0 w (RE w) φ S H (.ok (.int n) S) Q := h
    cases d with
    | str t =>
      have e : (if t.length ≤ line then some (t.length : Int) else none) = some n := e
      split at e
      · rename_i hl
        cases e
        obtain ⟨z, rfl, rfl⟩ := rp_inv px
        refine call_len_str pins s σ H _ us Q I r ⟨z, rfl, ?_, ?_⟩
        · rw [str_len, line_eq]; exact hl
        · rw [str_len]; exact h.same so (.int _) rfl
      · cases e
    | tup ds =>
      cases e
      cases px with
      | tup h1 r1 =>
        rw [hK] at h1
        refine call_len_seq pins s σ H _ us Q I r ⟨_, _, rfl, .inr h1, ?_⟩
        rw [r1.length]; exact h.same so (.int _) rfl
    | obj m =>
      cases px
      simp only [lenD] at e
      split at e
      · rename_i xs g
        cases e
        obtain ⟨vs, h1, r1⟩ := so.ob m _ g
        refine call_len_seq pins s σ H _ us Q I r ⟨_, _, rfl, .inl (SqL.of h1), ?_⟩
        rw [r1.length]; exact h.same so (.int _) rfl
      · rename_i xs g
        cases e
        obtain ⟨vs, h1, r1⟩ := so.ob m _ g
        refine call_len_seq pins s σ H _ us Q I r ⟨_, _, rfl, .inl (h1.sq), ?_⟩
        rw [r1.length]; exact h.same so (.int _) rfl
      · rename_i xs g
        cases e
        obtain ⟨ws, h1, r1, _⟩ := so.ob m _ g
        have el : ws.length = xs.length := by have := r1.length; simpa using this
        refine call_lenD pins s σ H _ us Q I r ⟨_, ws, rfl, h1, ?_⟩
        rw [el]; exact h.same so (.int _) rfl
      · cases e
    | _ => cases e
theorem callR_int (d : D) : CallR X (.type "int") (rF w [d] fun S => f1D .int d S) := by
  intro pins s σ H xs us Q I r h
  obtain ⟨φ, S, so, ra, h⟩ := h
  obtain ⟨x, rfl, px, bx⟩ := one_arg ra
  cases d with
  | int i => cases px; exact call_int1 pins s σ H _ us Q I r (.inl ⟨_, rfl, h.same so (.int _) rfl⟩)
  | bl i => cases px; exact call_int1 pins s σ H _ us Q I r (.inr ⟨_, rfl, h.same so (.int _) rfl⟩)
  | _ => exact h.elim
theorem callR_min (hc : X.calm = true) (a b : D) : CallR X (.builtin "min") (rF w [a, b] fun S => f2D .min a b S) := by
  intro pins s σ H xs us Q I r h
  obtain ⟨φ, S, so, ra, h⟩ := h
  obtain ⟨x, y, rfl, px, py, bx, by_⟩ := two_arg ra
  cases a <;> cases b <;> first | exact h.elim | skip
  cases px; cases py
  exact call_min2 hc pins s σ H _ us Q I r ⟨_, _, rfl, h.same so (.int _) rfl⟩
theorem callR_max (hc : X.calm = true) (a b : D) : CallR X (.builtin "max") (rF w [a, b] fun S => f2D .max a b S) := by
  intro pins s σ H xs us Q I r h
  obtain ⟨φ, S, so, ra, h⟩ := h
  obtain ⟨x, y, rfl, px, py, bx, by_⟩ := two_arg ra
  cases a <;> cases b <;> first | exact h.elim | skip
  cases px; cases py
  exact call_max2 hc pins s σ H _ us Q I r ⟨_, _, rfl, h.same so (.int _) rfl⟩
theorem callR_abs (d : D) : CallR X (.builtin "abs") (rF w [d] fun S => f1D .abs d S) := by
  intro pins s σ H xs us Q I r h
  obtain ⟨φ, S, so, ra, h⟩ := h
  obtain ⟨x, rfl, px, bx⟩ := one_arg ra
  cases d <;> first | exact h.elim | skip
  cases px
  exact call_abs pins s σ H _ us Q I r ⟨_, rfl, h.same so (.int _) rfl⟩
end
end Pw
end
section
set_option Elab.async false
set_option linter.all false
set_option maxRecDepth 100000
set_option maxHeartbeats 1000000
set_option autoImplicit false
/-! Pw7: the look at the written text; what an expression's reading is -/
namespace Pw
open PySem PySem.Spec PyProof.Rows L2
/-- the names of the text: defs, constants, classes -/
structure Nm where
  fns : List Str
  gs : List Str
  cls : List Str
  hots : List (Nat × Str)
  tst : List Str
def eqS (a b : Str) : Bool := decide (a.cps.toList = b.cps.toList)
theorem eqS_ok {a b : Str} (h : eqS a b = true) : a = b := str_ext (of_decide_eq_true h)
def isAt (l : List Str) (i : Nat) (x : Str) : Bool := match l[i]? with
  | some y => eqS x y
  | none => false
theorem isAt_ok {l : List Str} {i : Nat} {x : Str} (h : isAt l i x = true) : l[i]? = some x := by
  unfold isAt at h
  split at h
  · rename_i y e
    rw [e, eqS_ok h]
  · cases h
/-- the kind of a name in a scope -/
def kindAt : List (Str × NameKind) → Str → Option NameKind
  | [], _ => none
  | (y, k) :: r, x => if eqS x y then some k else kindAt r x
theorem kindAt_ok : ∀ (l : List (Str × NameKind)) (x : Str), kindAt l x = l.lookup x
  | [], _ => rfl
  | (y, k) :: r, x => by
    unfold kindAt
    rw [List.lookup_cons]
    by_cases h : x = y
    · subst h
      have e : eqS x x = true := decide_eq_true rfl
      rw [if_pos e, beq_self_eq_true]
    · have e : ¬ eqS x y = true := fun z => h (eqS_ok z)
      have e2 : (x == y) = false := by simpa using h
      rw [if_neg e, e2]
      exact kindAt_ok r x
def visB (sc : Scope) (x : Str) : Bool := match kindAt sc.names x with
  | some .local => true
  | some .cell => true
  | some .free => true
  | _ => false
def locB (sc : Scope) (x : Str) : Bool := match kindAt sc.names x with
  | some .local => true
  | _ => false
def gloB (sc : Scope) (x : Str) : Bool := match kindAt sc.names x with
  | some .globalImplicit => true
  | _ => false
theorem visB_ok {sc : Scope} {x : Str} (h : visB sc x = true) : Vis sc x := by
  unfold visB at h
  rw [kindAt_ok] at h
  unfold Vis
  split at h <;> first | (cases h; done) | simp_all
theorem locB_ok {sc : Scope} {x : Str} (h : locB sc x = true) : sc.names.lookup x = some .local := by
  unfold locB at h
  rw [kindAt_ok] at h
  split at h <;> first | (cases h; done) | assumption
theorem gloB_ok {sc : Scope} {x : Str} (h : gloB sc x = true) : sc.names.lookup x = some .globalImplicit := by
  unfold gloB at h
  rw [kindAt_ok] at h
  split at h <;> first | (cases h; done) | assumption
/-- no name of the machine's own -/
def okName (x : Str) : Bool := !(x == ("__debug__" : Str)) && !(x == ("__classdict__" : Str)) && !(x == ("__name__" : Str))
theorem okName_ok {x : Str} (h : okName x = true) : (x == ("__debug__" : Str)) = false ∧ (x == ("__classdict__" : Str)) = false ∧ x ≠ "__name__" := by
  unfold okName at h
  simp only [Bool.and_eq_true, Bool.not_eq_true'] at h
  refine ⟨h.1.1, h.1.2, fun z => ?_⟩
  rw [z] at h
  simp at h
/-- expressions that stand alone -/
def okX : Expr → Bool
  | .BoolOp .. | .BinOp .. | .UnaryOp .. | .IfExp .. | .Dict .. | .ListComp .. | .Compare .. | .Call .. | .Constant .. | .Attribute .. | .Subscript .. | .Name .. | .List .. | .Tuple .. => true
  | _ => false
theorem star_ok {e : Expr} {es : List Expr} {env : PySem.Env} (h : okX e = true) : starEach (e :: es) env = (false, eval e env) :: starEach es env := by
  cases e <;> first | (cases h; done) | rfl
theorem plainIx_ok {e : Expr} (h : okX e = true) : PlainIx e := by
  intro o i
  cases e <;> first | (cases h; done) | rfl
theorem mark_ok {e : Expr} (h : okX e = true) {op : CmpOp} : behindInMarks op e = false := by
  cases e <;> first | (cases h; done) | rfl
theorem fold_ok {e : Expr} {env : PySem.Env} (h : okX e = true) : ∀ x, foldedSetIterable e env x = pure x := by
  intro x
  cases e <;> first | (cases h; done) | rfl
theorem plainArgs_ok : ∀ {es : List Expr} {pos : Pos} {env : PySem.Env}, es.all okX = true → (backTo pos (starEach es env)).any (·.1) = false
  | [], _, _, _ => rfl
  | e :: es, pos, env, h => by
    simp only [List.all_cons, Bool.and_eq_true] at h
    rw [star_ok h.1]
    show (false || (backTo pos (starEach es env)).any (·.1)) = false
    rw [plainArgs_ok h.2]; rfl
/-! ### readings -/
variable (w : Wo)
/-- what a made exception is: its class, its fields in its own dict -/
structure Xw where
  n : Nat
  cA : Nat → Value
  fl : Nat → List Str
variable (xw : Xw)
def XR (φ : Nat → Addr) (H : Hp) (S : Store) (c : Nat) (fs : List D) (cls : Value) (dd : Option Addr) : Prop :=
  c < xw.n ∧ cls = xw.cA c ∧ D.bels S.length fs = true ∧ ((xw.fl c = [] ∧ fs = [] ∧ dd = none) ∨ xw.fl c ≠ [] ∧ ∃ d vs, dd = some d ∧ H d = some (.xd ((xw.fl c).zip vs)) ∧ RpA w.K φ w.ex H vs fs ∧ vs.length = (xw.fl c).length)
def Rg {α β : Type} (W : WX) (σ : List (Option V)) (R : (Nat → Addr) → Hp → Store → β → α → Prop) (φ : Nat → Addr) (S : Store) (H : Hp) (r : Res α) (Q : β → Hp → Prop) : Prop := match r with
  | .ok a S' => ∀ b φ' H', Lat φ φ' S S' H H' → SimO w.K φ' w.ex H' S' → R φ' H' S' b a → Q b H'
  | .exc c fs S' => ∀ φ' H' cls dd, Lat φ φ' S S' H H' → SimO w.K φ' w.ex H' S' → XR w xw φ' H' S' c fs cls dd → W cls dd σ H'
  | .bad => False
variable {w xw}
section
variable {α β γ δ : Type} {W : WX} {σ : List (Option V)} {R : (Nat → Addr) → Hp → Store → β → α → Prop} {R2 : (Nat → Addr) → Hp → Store → δ → γ → Prop} {φ φ1 : Nat → Addr} {S S1 : Store} {H H1 : Hp}
theorem Rg.g0 {r : Res α} {Q : β → Hp → Prop} (h : Rg w xw W σ R φ S H r Q) : Rg0 w R φ S H r Q := by
  cases r with
  | ok a S' => exact h
  | exc c fs S' => trivial
  | bad => exact h
theorem Rg.later {r : Res α} {Q : β → Hp → Prop} (h : Rg w xw W σ R φ S H r Q) (l : Lat φ φ1 S S1 H H1) : Rg w xw W σ R φ1 S1 H1 r Q := by
  cases r with
  | ok a S' => exact fun b φ' H' l2 => h b φ' H' (l.trans l2)
  | exc c fs S' => exact fun φ' H' cls dd l2 => h φ' H' cls dd (l.trans l2)
  | bad => exact h
/-- first r, then k -/
theorem Rg.bind {r : Res α} {k : α → Store → Res γ} {Q : δ → Hp → Prop} {Q' : β → Hp → Prop} (h : Rg w xw W σ R2 φ S H (r.bind k) Q)
    (f : ∀ b a S1 φ1 H1, Lat φ φ1 S S1 H H1 → SimO w.K φ1 w.ex H1 S1 → R φ1 H1 S1 b a → Rg w xw W σ R2 φ1 S1 H1 (k a S1) Q → Q' b H1) : Rg w xw W σ R φ S H r Q' := by
  cases r with
  | ok a S' => exact fun b φ' H' l so ra => f b a S' φ' H' l so ra (Rg.later (r := k a S') h l)
  | exc c fs S' => exact h
  | bad => exact h
theorem Rg.fin {a : α} {b : β} {Q : β → Hp → Prop} (h : Rg w xw W σ R φ S H (.ok a S) Q) (so : SimO w.K φ w.ex H S) (r : R φ H S b a) : Q b H := h b φ H Lat.refl so r
theorem Rg.of {o : Option α} {Q : β → Hp → Prop} (h : Rg w xw W σ R φ S H (Res.of o S1) Q) : ∃ a, o = some a ∧ Rg w xw W σ R φ S H (.ok a S1) Q := by
  cases o with
  | none => exact h.elim
  | some a => exact ⟨a, rfl, h⟩
theorem Rg.ofb {o : Option γ} {k : γ → Store → Res α} {Q : β → Hp → Prop} (h : Rg w xw W σ R φ S H ((Res.of o S1).bind k) Q) : ∃ a, o = some a ∧ Rg w xw W σ R φ S H (k a S1) Q := by
  cases o with
  | none => exact h.elim
  | some a => exact ⟨a, rfl, h⟩
theorem Rg.ite {c : Prop} [Decidable c] {r : Res α} {Q : β → Hp → Prop} (h : Rg w xw W σ R φ S H (if c then r else .bad) Q) : c ∧ Rg w xw W σ R φ S H r Q := by
  by_cases hc : c
  · rw [if_pos hc] at h; exact ⟨hc, h⟩
  · rw [if_neg hc] at h; exact h.elim
end
variable (w xw)
/-- an expression as the evaluator has it -/
def tE (C : Ctx) (W : WX) (x : Exp) : TE := fun σ H Q => ∃ φ env S, Sim w.K φ w.ex H S σ env ∧ Rg w xw W σ (RE w) φ S H (evE C x env S) Q
def tEs (C : Ctx) (W : WX) (x : List Exp) : TA := fun σ H Q => ∃ φ env S, Sim w.K φ w.ex H S σ env ∧ Rg w xw W σ (REs w) φ S H (evEs C x env S) Q
def tT (C : Ctx) (W : WX) (x : Tst) : TT := fun σ H Q => ∃ φ env S, Sim w.K φ w.ex H S σ env ∧ Rg w xw W σ RB φ S H (evT C x env S) Q
/-- the built-in names that the text may use -/
def freeNames : List Str := ["len", "int", "str", "abs", "min", "max", "range", "tuple", "list", "all", "any", "sum", "sorted", "isinstance", "bool", "dict", "set", "zip", "ValueError"]
/-- the builtin exception class below all own ones -/
def veB : List Value := [.type "ValueError", .type "Exception", .type "BaseException", .type "object"]
/-- what a call is to do -/
def spD (p : Prg) (n : Nat) (i : Nat) : Sp := fun vs H Q E => ∃ φ S ds, SimO w.K φ w.ex H S ∧ REs w φ H S vs ds ∧ Rg w xw (fun c d _ H => E c d H) ([] : L2.St) (RE w) φ S H (den p n none i ds S) Q
/-- nothing may leave -/
def W00 : WX := fun _ _ _ _ => False
/-- what a call of a def with the exception at hand is to do: the exception's address, its class -/
def spX (p : Prg) (n : Nat) (i : Nat) (a : Addr) (cls : Value) : Sp := fun vs H Q _ => vs = [.ref a] ∧ ∃ c φ S, cls = xw.cA c ∧ c < xw.n ∧ SimO w.K φ w.ex H S ∧ Rg w xw W00 ([] : L2.St) (RE w) φ S H (den p n (some (c, [])) i [] S) Q
/-- a def called with the exception that is handled -/
structure FnHp (P : Program) (wd : World) (K : PySem.W.Frag) (mg : Str → Option Value) (base : Heap) (CX : CXT) (k : Nat) (f : Addr) (fd : FuncData) (ps : List Str) (sp : Addr → Value → Sp) : Prop where
  run : ∀ (A : Around) (outer : List PySem.Env) (s : Shared) (H : Hp) (args : Args) (us : List Value) (vs : List V) (Q : VK) (E : XK) (pr : Addr × Obj) (cls : Value), L2H.RoomH k A → L2H.Hot1 A pr → L2H.PinOk outer H s pr → L2N.Zn cls none pr.2 → Env0 P wd K mg base A outer s H →
    BindsTo s fd args (ps.zip us) → Vals vs us → sp pr.1 cls vs H Q E → codeAny (model P wd) A (.call (.ref f) args) (CR CX outer P wd H s Q E) s
/-- a class that isinstance is asked of: its value, what the tables say -/
structure TstOk (K : PySem.W.Frag) (mg : Str → Option Value) (p : Prg) (k : Nat) (x : Str) (cv : Value) : Prop where
  nm : (∃ a : Addr, cv = .ref a ∧ mg x = some cv) ∨ (∃ T : String, cv = .type T ∧ mg x = none ∧ bootBuiltins x = some cv)
  kit : ∀ c, c < xw.n → ∃ bs, p.Cl[c]? = some bs ∧ PySem.W.kitOne K (xw.cA c) cv = some (bs.contains k) ∧ PySem.W.exmOne K (xw.cA c) cv = some (bs.contains k)
/-- the ground of a run: what is the same in every context -/
structure Gd (P : Program) (wd : World) (mg : Str → Option Value) (base : Heap) (p : Prg) (nm : Nm) (n : Nat) : Prop where
  fn : ∀ (i : Nat) (x : Str), nm.fns[i]? = some x → ∃ (f : Addr) (fd : FuncData) (ps : List Str), mg x = some (.ref f) ∧ PySem.W.keepIn w.K (.ref f) = true ∧ FnOk P wd w.K mg base (L2N.CX P wd) n f fd ps (spD w xw p n i) ∧ Binds w.K fd ps []
  gl : ∀ (i : Nat) (x : Str), nm.gs[i]? = some x → ∃ (d : D) (u : Value) (v : V), p.G[i]? = some d ∧ mg x = some u ∧ RelV v u ∧ (∀ φ ex H, Rp w.K φ ex H v d) ∧ D.bel 0 d = true
  free : ∀ x ∈ freeNames, mg x = none
  cls : ∀ (k : Nat) (x : Str), nm.cls[k]? = some x → k < xw.n ∧ ∃ a : Addr, mg x = some (.ref a) ∧ xw.cA k = .ref a ∧ PySem.W.keepIn w.K (.ref a) = true ∧ (xw.fl k = [] → PySem.W.excIn w.K a veB "ValueError.__new__" = true) ∧
    PySem.W.subIn w.K (.ref a) (.type "BaseException") = some true ∧ PySem.W.typeIn w.K (.ref a) = some (.type "type")
  hot : ∀ (i : Nat) (x : Str), (i, x) ∈ nm.hots → ∃ (f : Addr) (fd : FuncData) (y : Str), mg x = some (.ref f) ∧ PySem.W.keepIn w.K (.ref f) = true ∧ FnHp P wd w.K mg base (L2N.CX P wd) n f fd [y] (spX w xw p n i) ∧ Binds w.K fd [y] []
  tst : ∀ (k : Nat) (x : Str), nm.tst[k]? = some x → ∃ cv, TstOk xw w.K mg p k x cv
  exc : ∀ c, c < xw.n → ∃ a : Addr, xw.cA c = .ref a ∧ ExcC w.K a
structure Fx (p : Prg) (nm : Nm) (n : Nat) (X : Cx) : Prop where
  hK : w.K = X.K
  gd : Gd w xw X.prog X.w X.mg X.base p nm n
  nd : X.N.Nodup
  ex : w.ex = none
  calm : X.calm = true
  room : Room n X.A
end Pw
end
section
set_option Elab.async false
set_option linter.all false
set_option maxRecDepth 100000
set_option maxHeartbeats 1000000
set_option autoImplicit false
/-! Pw8: expressions of the written text against the evaluator, form by form -/
namespace Pw
open PySem PySem.Spec PyProof.Rows L2
section
variable {X : Cx} {e : Expr}
theorem peI {t t' : TE} (h : PE X e t) (f : ∀ σ H Q, t' σ H Q → t σ H Q) : PE X e t' := ⟨fun pins s σ H Q I q => h.run pins s σ H Q I (f _ _ _ q)⟩
theorem ptI {t t' : TT} (h : PT X e t) (f : ∀ σ H Q, t' σ H Q → t σ H Q) : PT X e t' := ⟨fun pins s σ H Q I q => h.run pins s σ H Q I (f _ _ _ q)⟩
theorem paI {es : List Expr} {t t' : TA} (h : PA X es t) (f : ∀ σ H Q, t' σ H Q → t σ H Q) : PA X es t' := ⟨fun pos pins s σ H Q I q => h.run pos pins s σ H Q I (f _ _ _ q)⟩
end
variable {w : Wo} {xw : Xw} {C : Ctx} {W : WX} {X : Cx}
section
variable {φ φ1 : Nat → Addr} {S S1 : Store} {H H1 : Hp} {v : V} {d : D} {σ : L2.St} {env : Env}
theorem RE.lat (r : RE w φ H S v d) (l : Lat φ φ1 S S1 H H1) : RE w φ1 H1 S1 v d := ⟨r.1.lat r.2 l, D.bel_mono l.le _ r.2⟩
theorem REs.lat {vs : List V} {ds : List D} (r : REs w φ H S vs ds) (l : Lat φ φ1 S S1 H H1) : REs w φ1 H1 S1 vs ds := ⟨r.1.lat r.2 l, D.bels_mono l.le _ r.2⟩
theorem Sim.lat (m : Sim w.K φ w.ex H S σ env) (l : Lat φ φ1 S S1 H H1) (so : SimO w.K φ1 w.ex H1 S1) : Sim w.K φ1 w.ex H1 S1 σ env := ⟨so, m.e.lat l⟩
end
section
variable {α β γ δ : Type} {R2 : (Nat → Addr) → Hp → Store → δ → γ → Prop} {φ : Nat → Addr} {S : Store} {H : Hp} {σ : L2.St} {env : Env}
theorem fE {d : D} {v : V} {Q : VK} (g : Rg w xw W σ (RE w) φ S H (.ok d S) Q) (so : SimO w.K φ w.ex H S) (r : Rp w.K φ w.ex H v d) (b : D.bel S.length d = true) : Q v H := Rg.fin g so ⟨r, b⟩
theorem fB {k : Bool} {Q : Bool → Hp → Prop} (g : Rg w xw W σ RB φ S H (.ok k S) Q) (so : SimO w.K φ w.ex H S) : Q k H := Rg.fin g so rfl
theorem fInt {i : Int} {Q : VK} (g : Rg w xw W σ (RE w) φ S H (.ok (.int i) S) Q) (so : SimO w.K φ w.ex H S) : Q (.int i) H := fE g so (.int _) rfl
theorem fBl {i : Bool} {Q : VK} (g : Rg w xw W σ (RE w) φ S H (.ok (.bl i) S) Q) (so : SimO w.K φ w.ex H S) : Q (.bl i) H := fE g so (.bl _) rfl
/-- first an expression, then k -/
theorem tE.then {x : Exp} {k : D → Store → Res γ} {Q : δ → Hp → Prop} {Q' : VK} (m : Sim w.K φ w.ex H S σ env) (h : Rg w xw W σ R2 φ S H ((evE C x env S).bind k) Q)
    (f : ∀ v d S1 φ1 H1, Lat φ φ1 S S1 H H1 → Sim w.K φ1 w.ex H1 S1 σ env → RE w φ1 H1 S1 v d → Rg w xw W σ R2 φ1 S1 H1 (k d S1) Q → Q' v H1) : tE w xw C W x σ H Q' :=
  ⟨φ, env, S, m, h.bind fun v d S1 φ1 H1 l so r g => f v d S1 φ1 H1 l (m.lat l so) r g⟩
theorem tEs.then {x : List Exp} {k : List D → Store → Res γ} {Q : δ → Hp → Prop} {Q' : List V → Hp → Prop} (m : Sim w.K φ w.ex H S σ env) (h : Rg w xw W σ R2 φ S H ((evEs C x env S).bind k) Q)
    (f : ∀ v d S1 φ1 H1, Lat φ φ1 S S1 H H1 → Sim w.K φ1 w.ex H1 S1 σ env → REs w φ1 H1 S1 v d → Rg w xw W σ R2 φ1 S1 H1 (k d S1) Q → Q' v H1) : tEs w xw C W x σ H Q' :=
  ⟨φ, env, S, m, h.bind fun v d S1 φ1 H1 l so r g => f v d S1 φ1 H1 l (m.lat l so) r g⟩
theorem tT.then {x : Tst} {k : Bool → Store → Res γ} {Q : δ → Hp → Prop} {Q' : Bool → Hp → Prop} (m : Sim w.K φ w.ex H S σ env) (h : Rg w xw W σ R2 φ S H ((evT C x env S).bind k) Q)
    (f : ∀ b S1 φ1 H1, Lat φ φ1 S S1 H H1 → Sim w.K φ1 w.ex H1 S1 σ env → Rg w xw W σ R2 φ1 S1 H1 (k b S1) Q → Q' b H1) : tT w xw C W x σ H Q' :=
  ⟨φ, env, S, m, h.bind fun v d S1 φ1 H1 l so r g => by cases r; exact f _ S1 φ1 H1 l (m.lat l so) g⟩
end
section
variable {e a b c : Expr} {x y z : Exp} {pos : Pos}
theorem se_c {v : V} {d : D} (h : PE X e (tC v)) (r : ∀ φ ex H, Rp w.K φ ex H v d) (b : D.bel 0 d = true) : PE X e (tE w xw C W (.c d)) :=
  peI h fun σ H Q ⟨φ, env, S, m, g⟩ => Rg.fin (a := d) g m.o ⟨r _ _ _, D.bel_mono (Nat.zero_le _) _ b⟩
theorem se_v {i : Nat} {n : Str} (hN : X.N[i]? = some n) (hv : Vis X.env.scope n) (h : okName n = true) : PE X (.Name n pos) (tE w xw C W (.v i)) :=
  peI (pe_var hN hv (okName_ok h).1 (okName_ok h).2.1) fun σ H Q ⟨φ, env, S, m, g⟩ => by
    have g : Rg w xw W σ (RE w) φ S H (match env[i]? with | some (some d) => .ok d S | _ => .bad) Q := g
    split at g
    · rename_i d hd
      obtain ⟨v, h1, h2, h3⟩ := m.e.at_ i d hd
      exact ⟨v, h1, Rg.fin g m.o ⟨h2, h3⟩⟩
    · exact g.elim
theorem se_g {i : Nat} {v : V} {d : D} (hC : C.G[i]? = some d) (h : PE X e (tC v)) (r : ∀ φ ex H, Rp w.K φ ex H v d) (b : D.bel 0 d = true) : PE X e (tE w xw C W (.g i)) :=
  peI h fun σ H Q ⟨φ, env, S, m, g⟩ => by
    have g : Rg w xw W σ (RE w) φ S H (Res.of (C.G[i]?) S) Q := g
    rw [hC] at g
    exact Rg.fin (a := d) g m.o ⟨r _ _ _, D.bel_mono (Nat.zero_le _) _ b⟩
theorem se_bin {op : Operator} {o : Bop} (ho : OpR X (binaryOp op) (rB w o)) (ha : PE X a (tE w xw C W x)) (hb : PE X b (tE w xw C W y)) : PE X (.BinOp a op b pos) (tE w xw C W (.bin o x y)) :=
  peI (pe_op ho ha hb) fun σ H Q ⟨φ, env, S, m, g⟩ => tE.then m g fun v d S1 φ1 H1 l1 m1 r1 g => tE.then m1 g fun u d2 S2 φ2 H2 l2 m2 r2 g => ⟨φ2, S2, d, d2, m2.o, r1.lat l2, r2, g.g0⟩
theorem se_neg (ha : PE X a (tE w xw C W x)) : PE X (.UnaryOp .USub a pos) (tE w xw C W (.neg x)) :=
  peI (pe_un un_neg ha) fun σ H Q ⟨φ, env, S, m, g⟩ => tE.then m g fun v d S1 φ1 H1 l1 m1 r1 g => by
    cases d <;> first | exact g.elim | skip
    cases r1.1
    exact ⟨_, rfl, fInt g m1.o⟩
theorem se_notV (ha : PE X a (tE w xw C W x)) : PE X (.UnaryOp .Not a pos) (tE w xw C W (.notV x)) :=
  peI (pe_not ha) fun σ H Q ⟨φ, env, S, m, g⟩ => tE.then m g fun v d S1 φ1 H1 l1 m1 r1 g => by
    cases d <;> first | exact g.elim | skip
    cases r1.1
    exact ⟨_, rfl, fBl g m1.o⟩
theorem se_and {rest : List Expr} (ha : PE X a (tE w xw C W x)) (hb : PE X (.BoolOp .And (b :: rest) pos) (tE w xw C W y)) : PE X (.BoolOp .And (a :: b :: rest) pos) (tE w xw C W (.andV x y)) :=
  peI (pe_and ha hb) fun σ H Q ⟨φ, env, S, m, g⟩ => tE.then m g fun v d S1 φ1 H1 l1 m1 r1 g => by
    cases d <;> first | exact g.elim | skip
    cases r1.1
    rename_i k
    refine ⟨k, rfl, ?_⟩
    cases k with
    | true => exact ⟨φ1, env, S1, m1, g⟩
    | false => exact fBl g m1.o
theorem se_or {rest : List Expr} (ha : PE X a (tE w xw C W x)) (hb : PE X (.BoolOp .Or (b :: rest) pos) (tE w xw C W y)) : PE X (.BoolOp .Or (a :: b :: rest) pos) (tE w xw C W (.orV x y)) :=
  peI (pe_or ha hb) fun σ H Q ⟨φ, env, S, m, g⟩ => tE.then m g fun v d S1 φ1 H1 l1 m1 r1 g => by
    cases d <;> first | exact g.elim | skip
    cases r1.1
    rename_i k
    refine ⟨k, rfl, ?_⟩
    cases k with
    | false => exact ⟨φ1, env, S1, m1, g⟩
    | true => exact fBl g m1.o
theorem se_cmp {op : CmpOp} {o : Cop} (ho : OpR X (compareOp op) (rC w o)) (ha : PE X a (tE w xw C W x)) (hb : PE X b (tE w xw C W y)) (hm : behindInMarks op b = false) : PE X (.Compare a [op] [b] pos) (tE w xw C W (.cmp o x y)) :=
  peI (pe_cmpR ho ha hb hm) fun σ H Q ⟨φ, env, S, m, g⟩ => tE.then m g fun v d S1 φ1 H1 l1 m1 r1 g => tE.then m1 g fun u d2 S2 φ2 H2 l2 m2 r2 g => by
    obtain ⟨k, hk, g⟩ := g.ofb
    exact ⟨φ2, S2, d, d2, m2.o, r1.lat l2, r2, k, hk, fBl g m2.o⟩
theorem st_cmp {op : CmpOp} {o : Cop} (ho : OpR X (compareOp op) (rC w o)) (ha : PE X a (tE w xw C W x)) (hb : PE X b (tE w xw C W y)) (hm : behindInMarks op b = false) : PT X (.Compare a [op] [b] pos) (tT w xw C W (.val (.cmp o x y))) :=
  ptI (pt_cmpR ho ha hb hm) fun σ H Q ⟨φ, env, S, m, g⟩ => by
    have g : Rg w xw W σ RB φ S H ((evE C (.cmp o x y) env S).bind fun x S => Res.of (truth S x) S) Q := g
    show tE w xw C W x σ H _
    have e : ((evE C (.cmp o x y) env S).bind fun x S => Res.of (truth S x) S) = (evE C x env S).bind fun x S => (evE C y env S).bind fun y S => (Res.of (cmpD S o x y) S).bind fun c S => .ok c S := by
      show (((evE C x env S).bind fun x S => (evE C y env S).bind fun y S => (Res.of (cmpD S o x y) S).bind fun c S => Res.ok (.bl c) S).bind fun x S => Res.of (truth S x) S) = _
      cases evE C x env S with
      | ok d S => 
        show ((evE C y env S).bind _).bind _ = (evE C y env S).bind _
        cases evE C y env S with
        | ok d2 S =>
          show ((Res.of (cmpD S o d d2) S).bind _).bind _ = (Res.of (cmpD S o d d2) S).bind _
          cases cmpD S o d d2 <;> rfl
        | _ => rfl
      | _ => rfl
    rw [e] at g
    exact tE.then m g fun v d S1 φ1 H1 l1 m1 r1 g => tE.then m1 g fun u d2 S2 φ2 H2 l2 m2 r2 g => by
      obtain ⟨k, hk, g⟩ := g.ofb
      exact ⟨φ2, S2, d, d2, m2.o, r1.lat l2, r2, k, hk, k, rfl, fB g m2.o⟩
theorem se_chn {op op' : CmpOp} {o o' : Cop} (ho : OpR X (compareOp op) (rC w o)) (ho' : OpR X (compareOp op') (rC w o')) (ha : PE X a (tE w xw C W x)) (hb : PE X b (tE w xw C W y)) (hc : PE X c (tE w xw C W z))
    (hm : lastMarks [op, op'] [b, c] = false) : PE X (.Compare a [op, op'] [b, c] pos) (tE w xw C W (.chn o o' x y z)) :=
  peI (pe_chain ho ho' ha hb hc hm) fun σ H Q ⟨φ, env, S, m, g⟩ => by
    refine tE.then m g fun v d S1 φ1 H1 l1 m1 r1 g => ?_
    refine tE.then m1 g fun u d2 S2 φ2 H2 l2 m2 r2 g => ?_
    obtain ⟨k, hk, g⟩ := g.ofb
    refine ⟨φ2, S2, d, d2, m2.o, r1.lat l2, r2, k, hk, k, rfl, ?_⟩
    cases k with
    | false => exact fBl g m2.o
    | true =>
      refine tE.then m2 g fun u' d3 S3 φ3 H3 l3 m3 r3 g => ?_
      obtain ⟨k, hk, g⟩ := g.ofb
      exact ⟨φ3, S3, d2, d3, m3.o, r2.lat l3, r3, k, hk, fBl g m3.o⟩
theorem st_chn {op op' : CmpOp} {o o' : Cop} (ho : OpR X (compareOp op) (rC w o)) (ho' : OpR X (compareOp op') (rC w o')) (ha : PE X a (tE w xw C W x)) (hb : PE X b (tE w xw C W y)) (hc : PE X c (tE w xw C W z))
    (hm : lastMarks [op, op'] [b, c] = false) : PT X (.Compare a [op, op'] [b, c] pos) (tT w xw C W (.val (.chn o o' x y z))) :=
  ptI (pt_chain ho ho' ha hb hc hm) fun σ H Q ⟨φ, env, S, m, g⟩ => by
    have g : Rg w xw W σ RB φ S H ((evE C (.chn o o' x y z) env S).bind fun x S => Res.of (truth S x) S) Q := g
    have e : ((evE C (.chn o o' x y z) env S).bind fun x S => Res.of (truth S x) S) = (evE C x env S).bind fun x S => (evE C y env S).bind fun y S => (Res.of (cmpD S o x y) S).bind fun k S =>
        if k then (evE C z env S).bind fun z S => (Res.of (cmpD S o' y z) S).bind fun k S => .ok k S else .ok false S := by
      show (((evE C x env S).bind fun x S => (evE C y env S).bind fun y S => (Res.of (cmpD S o x y) S).bind fun k S => if k then (evE C z env S).bind fun z S => (Res.of (cmpD S o' y z) S).bind fun k S => Res.ok (.bl k) S else .ok (.bl false) S).bind fun x S => Res.of (truth S x) S) = _
      cases evE C x env S with
      | ok d S =>
        show ((evE C y env S).bind _).bind _ = (evE C y env S).bind _
        cases evE C y env S with
        | ok d2 S =>
          show ((Res.of (cmpD S o d d2) S).bind _).bind _ = (Res.of (cmpD S o d d2) S).bind _
          cases cmpD S o d d2 with
          | none => rfl
          | some k => cases k with
            | false => rfl
            | true =>
              show ((evE C z env S).bind _).bind _ = (evE C z env S).bind _
              cases evE C z env S with
              | ok d3 S =>
                show ((Res.of (cmpD S o' d2 d3) S).bind _).bind _ = (Res.of (cmpD S o' d2 d3) S).bind _
                cases cmpD S o' d2 d3 <;> rfl
              | _ => rfl
        | _ => rfl
      | _ => rfl
    rw [e] at g
    refine tE.then m g fun v d S1 φ1 H1 l1 m1 r1 g => ?_
    refine tE.then m1 g fun u d2 S2 φ2 H2 l2 m2 r2 g => ?_
    obtain ⟨k, hk, g⟩ := g.ofb
    refine ⟨φ2, S2, d, d2, m2.o, r1.lat l2, r2, k, hk, k, rfl, ?_⟩
    cases k with
    | false => exact ⟨false, rfl, fB g m2.o⟩
    | true =>
      refine tE.then m2 g fun u' d3 S3 φ3 H3 l3 m3 r3 g => ?_
      obtain ⟨k, hk, g⟩ := g.ofb
      exact ⟨φ3, S3, d2, d3, m3.o, r2.lat l3, r3, k, hk, k, rfl, fB g m3.o⟩
theorem se_ife {t : Tst} (ht : PT X c (tT w xw C W t)) (ha : PE X a (tE w xw C W x)) (hb : PE X b (tE w xw C W y)) : PE X (.IfExp c a b pos) (tE w xw C W (.ife t x y)) :=
  peI (pe_ifExp ht ha hb) fun σ H Q ⟨φ, env, S, m, g⟩ => tT.then m g fun k S1 φ1 H1 l1 m1 g => by
    cases k with
    | true => exact ⟨φ1, env, S1, m1, g⟩
    | false => exact ⟨φ1, env, S1, m1, g⟩
theorem se_idx (hK : w.K = X.K) (ha : PE X a (tE w xw C W x)) (hb : PE X b (tE w xw C W y)) (hs : PlainIx b) : PE X (.Subscript a b pos) (tE w xw C W (.idx x y)) :=
  peI (pe_ix (ixR hK) ha hb hs) fun σ H Q ⟨φ, env, S, m, g⟩ => tE.then m g fun v d S1 φ1 H1 l1 m1 r1 g => tE.then m1 g fun u d2 S2 φ2 H2 l2 m2 r2 g => ⟨φ2, S2, d, d2, m2.o, r1.lat l2, r2, g.g0⟩
/-! ### tests -/
theorem st_not {t : Tst} (h : PT X a (tT w xw C W t)) : PT X (.UnaryOp .Not a pos) (tT w xw C W (.not t)) :=
  ptI (pt_not h) fun σ H Q ⟨φ, env, S, m, g⟩ => tT.then m g fun k S1 φ1 H1 l1 m1 g => fB g m1.o
theorem st_and {t u : Tst} {rest : List Expr} (ha : PT X a (tT w xw C W t)) (hb : PW X (.BoolOp .And (b :: rest) pos) (tT w xw C W u)) : PW X (.BoolOp .And (a :: b :: rest) pos) (tT w xw C W (.and t u)) :=
  ⟨fun whole pins s σ H Q I q => (pw_and ha hb).run whole pins s σ H Q I (by
    obtain ⟨φ, env, S, m, g⟩ := q
    exact tT.then m g fun k S1 φ1 H1 l1 m1 g => by
      cases k with
      | true => exact ⟨φ1, env, S1, m1, g⟩
      | false => exact fB g m1.o)⟩
theorem st_or {t u : Tst} {rest : List Expr} (ha : PT X a (tT w xw C W t)) (hb : PW X (.BoolOp .Or (b :: rest) pos) (tT w xw C W u)) : PW X (.BoolOp .Or (a :: b :: rest) pos) (tT w xw C W (.or t u)) :=
  ⟨fun whole pins s σ H Q I q => (pw_or ha hb).run whole pins s σ H Q I (by
    obtain ⟨φ, env, S, m, g⟩ := q
    exact tT.then m g fun k S1 φ1 H1 l1 m1 g => by
      cases k with
      | false => exact ⟨φ1, env, S1, m1, g⟩
      | true => exact fB g m1.o)⟩
theorem truV_of {φ : Nat → Addr} {H : Hp} {S : Store} {v : V} {d : D} {k : Bool} (hK : w.K = X.K) (so : SimO w.K φ w.ex H S) (r : Rp w.K φ w.ex H v d) (h : truth S d = some k) : TruV X.K v H k := by
  cases d with
  | non => cases r; cases h; rfl
  | bl b => cases r; cases h; rfl
  | int i => cases r; cases h; show decide (i ≠ 0) = (i != 0); rw [bne, Bool.beq_eq_decide_eq]; simp
  | str s =>
    obtain ⟨z, rfl, rfl⟩ := rp_inv r
    have h : (if z.cps.toList.length ≤ line then some (!z.cps.toList.isEmpty) else none) = some k := h
    split at h
    · rename_i hl
      cases h
      refine ⟨?_, ?_⟩
      · rw [str_len, line_eq]; exact hl
      · rw [str_len]
        cases z.cps.toList with
        | nil => rfl
        | cons c t =>
          have : ((c :: t).length : Int) ≠ 0 := by simp only [List.length_cons]; omega
          simp [this]
          omega
    · cases h
  | tup ds =>
    cases r with
    | tup h1 r1 =>
      cases h
      rw [hK] at h1
      refine .inr (.inl ⟨_, h1, ?_⟩)
      cases r1 <;> rfl
  | obj n =>
    cases r
    simp only [truth] at h
    split at h
    · rename_i xs e
      cases h
      obtain ⟨vs, h1, r1⟩ := so.ob n _ e
      refine .inl ⟨vs, SqL.of h1, ?_⟩
      cases r1 <;> rfl
    · rename_i xs e
      cases h
      obtain ⟨vs, h1, r1⟩ := so.ob n _ e
      refine .inl ⟨vs, h1.sq, ?_⟩
      cases r1 <;> rfl
    · rename_i xs e
      cases h
      obtain ⟨ws, h1, r1, _⟩ := so.ob n _ e
      refine .inr (.inr ⟨ws, h1, ?_⟩)
      have := r1.length
      cases ws <;> cases xs <;> first | rfl | (simp at this)
    · cases h
  | exc c fs => cases h
theorem st_val (hK : w.K = X.K) (ha : PE X a (tE w xw C W x)) (he : ∀ whole, isTrue a X.env whole = (do let v ← whole; standAt a.pos; holding [v] (truthy v))) : PT X a (tT w xw C W (.val x)) :=
  ptI (pt_truth ha he) fun σ H Q ⟨φ, env, S, m, g⟩ => tE.then m g fun v d S1 φ1 H1 l1 m1 r1 g => by
    obtain ⟨k, hk, g⟩ := g.of
    exact ⟨k, truV_of hK m1.o r1.1 hk, fB g m1.o⟩
end
end Pw
end
section
set_option Elab.async false
set_option linter.all false
set_option maxRecDepth 100000
set_option maxHeartbeats 1000000
set_option autoImplicit false
/-! Pw9: rows: arguments, displays, comprehensions, sources -/
namespace Pw
open PySem PySem.Spec PyProof.Rows L2
theorem bels_lat {φ φ1 : Nat → Addr} {S S1 : Store} {H H1 : Hp} {ds : List D} (b : D.bels S.length ds = true) (l : Lat φ φ1 S S1 H H1) : D.bels S1.length ds = true := D.bels_mono l.le _ b
section
variable {K : PySem.W.Frag} {φ φ0 : Nat → Addr} {ex : Ex1} {H H0 : Hp} {S S0 : Store}
theorem ObR.some {a : Addr} {o : SO} (x : ObR K φ ex H a o) : ∃ u, H a = some u := by
  cases o with
  | lst ds => obtain ⟨vs, e, _⟩ := x; exact ⟨_, e⟩
  | ro ds => obtain ⟨vs, ⟨o, e⟩, _⟩ := x; exact ⟨_, e⟩
  | dct kvs => obtain ⟨vs, e, _⟩ := x; exact ⟨_, e⟩
  | set _ => exact x.elim
  | ins _ _ => exact x.elim
theorem SimO.ne (x : SimO K φ ex H S) {p : Addr} (hp : H p = none) (n : Nat) (hn : n < S.length) : φ n ≠ p := fun z => by
  obtain ⟨o, e⟩ := get_some hn
  obtain ⟨u, h⟩ := (x.ob n o e).some
  rw [z, hp] at h
  cases h
/-- a thing that stands beside the store is taken into it -/
theorem SimO.adoptO (x : SimO K φ ex H S) {p : Addr} {q0 : SO} (l : Lat φ0 φ S0 S H0 H) (hp : H0 p = none) (hH : ObR K φ ex H p q0) (hn : ∀ n, n < S.length → φ n ≠ p) (b : q0.bel S.length = true) :
    ∃ φ', Lat φ0 φ' S0 (q0 :: S) H0 H ∧ φ' S.length = p ∧ SimO K φ' ex H (q0 :: S) := by
  have sm : ∀ m, m < S.length → (if m = S.length then p else φ m) = φ m := fun m h => if_neg (by omega)
  refine ⟨fun n => if n = S.length then p else φ n, ⟨by have := l.le; simp only [List.length_cons]; omega, fun m h => ?_, l.kp, l.fr, fun n h1 h2 => ?_, l.no⟩, if_pos rfl, fun n q e => ?_, fun n q e => ?_, fun m n om on em en mm mn e => ?_⟩
  · have := l.le
    rw [sm m (by omega)]; exact l.same m h
  · show H0 (if n = S.length then p else φ n) = none
    by_cases z : n = S.length
    · rw [if_pos z]; exact hp
    · rw [if_neg z]
      simp only [List.length_cons] at h2
      exact l.nw n h1 (by omega)
  · show ObR K _ ex H (if n = S.length then p else φ n) q
    by_cases z : n = S.length
    · subst z
      rw [get_new] at e
      cases e
      rw [if_pos rfl]
      exact hH.lat b sm Kp.refl fun _ u eu => eu
    · have hn := get_lt e
      simp only [List.length_cons] at hn
      rw [get_old (by omega)] at e
      rw [if_neg z]
      exact (x.ob n q e).lat (x.wf n q e) sm Kp.refl fun _ u eu => eu
  · have hn := get_lt e
    simp only [List.length_cons] at hn ⊢
    by_cases z : n = S.length
    · subst z
      rw [get_new] at e
      cases e
      exact SO.bel_mono (Nat.le_succ _) _ b
    · rw [get_old (by omega)] at e
      exact SO.bel_mono (Nat.le_succ _) _ (x.wf n q e)
  · have h1 := get_lt em
    have h2 := get_lt en
    simp only [List.length_cons] at h1 h2
    have e : (if m = S.length then p else φ m) = (if n = S.length then p else φ n) := e
    by_cases zm : m = S.length
    · by_cases zn : n = S.length
      · rw [zm, zn]
      · rw [if_pos zm, if_neg zn] at e
        exact absurd e.symm (hn n (by omega))
    · by_cases zn : n = S.length
      · rw [if_neg zm, if_pos zn] at e
        exact absurd e (hn m (by omega))
      · rw [if_neg zm, if_neg zn] at e
        rw [get_old (by omega)] at em en
        exact x.inj m n om on em en mm mn e
theorem SimO.adopt (x : SimO K φ ex H S) {p : Addr} {vs : List V} {ds : List D} (l : Lat φ0 φ S0 S H0 H) (hp : H0 p = none) (hH : H p = some (.lst vs)) (hn : ∀ n, n < S.length → φ n ≠ p) (r : RpA K φ ex H vs ds) (b : D.bels S.length ds = true) :
    ∃ φ', Lat φ0 φ' S0 (.lst ds :: S) H0 H ∧ φ' S.length = p ∧ SimO K φ' ex H (.lst ds :: S) := x.adoptO l hp ⟨vs, hH, r⟩ hn b
end
variable {w : Wo} {xw : Xw} {C : Ctx} {W : WX} {X : Cx}
section
variable {e a b c : Expr} {es : List Expr} {x y z : Exp} {xs : List Exp} {pos p : Pos}
/-! ### arguments -/
theorem sa_nil : PA X [] (tEs w xw C W []) := paI pa_nil fun σ H Q ⟨φ, env, S, m, g⟩ => Rg.fin (a := ([] : List D)) (b := ([] : List V)) g m.o ⟨.nil, rfl⟩
theorem sa_cons (ha : PE X a (tE w xw C W x)) (hr : PA X es (tEs w xw C W xs)) (h : okX a = true) : PA X (a :: es) (tEs w xw C W (x :: xs)) :=
  paI (pa_cons ha hr (star_ok h)) fun σ H Q ⟨φ, env, S, m, g⟩ => by
    refine tE.then m g fun v d S1 φ1 H1 l1 m1 r1 g => ?_
    refine tEs.then m1 g fun vs ds S2 φ2 H2 l2 m2 r2 g => ?_
    exact Rg.fin (a := d :: ds) (b := v :: vs) g m2.o ⟨.cons (r1.lat l2).1 r2.1, by
      show (D.bel S2.length d && D.bels S2.length ds) = true
      rw [(r1.lat l2).2, r2.2]; rfl⟩
theorem evEs_len : ∀ (xs : List Exp) (env : Env) (S : Store) (ds : List D) (S' : Store), evEs C xs env S = .ok ds S' → ds.length = xs.length
  | [], env, S, ds, S', h => by cases h; rfl
  | x :: xs, env, S, ds, S', h => by
    have h : ((evE C x env S).bind fun d S => (evEs C xs env S).bind fun ds S => .ok (d :: ds) S) = .ok ds S' := h
    cases e1 : evE C x env S with
    | ok d S1 =>
      rw [e1] at h
      have h : ((evEs C xs env S1).bind fun ds S => .ok (d :: ds) S) = .ok ds S' := h
      cases e2 : evEs C xs env S1 with
      | ok ds2 S2 =>
        rw [e2] at h
        cases h
        simp [evEs_len xs env S1 ds2 _ e2]
      | exc _ _ _ => rw [e2] at h; cases h
      | bad => rw [e2] at h; cases h
    | exc _ _ _ => rw [e1] at h; cases h
    | bad => rw [e1] at h; cases h
/-- as tEs.then, with the number of arguments -/
theorem tEs.thenL {γ δ : Type} {R2 : (Nat → Addr) → Hp → Store → δ → γ → Prop} {φ : Nat → Addr} {S : Store} {H : Hp} {σ : L2.St} {env : Env} {x : List Exp} {k : List D → Store → Res γ} {Q : δ → Hp → Prop} {Q' : List V → Hp → Prop} (m : Sim w.K φ w.ex H S σ env) (h : Rg w xw W σ R2 φ S H ((evEs C x env S).bind k) Q)
    (f : ∀ v d S1 φ1 H1, d.length = x.length → Lat φ φ1 S S1 H H1 → Sim w.K φ1 w.ex H1 S1 σ env → REs w φ1 H1 S1 v d → Rg w xw W σ R2 φ1 S1 H1 (k d S1) Q → Q' v H1) : tEs w xw C W x σ H Q' := by
  refine ⟨φ, env, S, m, ?_⟩
  cases e : evEs C x env S with
  | ok d S' => rw [e] at h; exact fun b φ' H' l so ra => f b d S' φ' H' (evEs_len _ _ _ _ _ e) l (m.lat l so) ra (Rg.later (r := k d S') h l)
  | exc c fs S' => rw [e] at h; exact h
  | bad => rw [e] at h; exact h
/-! ### a tuple, a list of written items -/
theorem se_tup {x1 : Nat} (h : PA X es (tEs w xw C W xs)) (hl : xs.length ≤ sizeLine) : PE X (.Tuple es x1 pos) (tE w xw C W (.tup xs)) :=
  peI (pe_tup h) fun σ H Q ⟨φ, env, S, m, g⟩ => by
    refine tEs.thenL m g fun vs ds S1 φ1 H1 hd l1 m1 r1 g => ⟨by rw [r1.1.length, hd]; exact hl, fun p hp => ?_⟩
    exact g.g0.tup m1.o r1.1 r1.2 hp
/-- a new list that stands beside the store -/
def RN (w : Wo) (H0 : Hp) (φ : Nat → Addr) (H : Hp) (S : Store) (v : V) (p : List D × Option Nat) : Prop :=
  D.bels S.length p.1 = true ∧ ∃ a vs, v = .ref a ∧ H0 a = none ∧ H a = some (.lst vs) ∧ RpA w.K φ w.ex H vs p.1 ∧ ∀ n, n < S.length → φ n ≠ a
def tN (w : Wo) (xw : Xw) (C : Ctx) (W : WX) (l : Src) : TE := fun σ H Q => ∃ φ env S, Sim w.K φ w.ex H S σ env ∧ Rg w xw W σ (RN w H) φ S H (evL C l env S) Q
theorem sn_disp (h : PA X es (tEs w xw C W xs)) (hl : xs.length ≤ sizeLine) : PE X (.List es pos) (tN w xw C W (.disp xs)) :=
  peI (pe_lst h) fun σ H Q ⟨φ, env, S, m, g⟩ => by
    refine tEs.thenL m g fun vs ds S1 φ1 H1 hd l1 m1 r1 g => ⟨by rw [r1.1.length, hd]; exact hl, fun p hp => ?_⟩
    refine g _ φ1 _ (Lat.newT hp) (m1.o.new hp) ⟨r1.2, p, vs, rfl, l1.no p hp, upd_same, r1.1.mono r1.2 (fun _ _ => rfl) (Kp.new hp), fun n hn z => ?_⟩
    exact m1.o.ne hp n hn z
/-- the new list as a value -/
theorem se_ls {l : Src} (h : PE X e (tN w xw C W l)) : PE X e (tE w xw C W (.ls l)) :=
  peI h fun σ H Q ⟨φ, env, S, m, g⟩ => by
    refine ⟨φ, env, S, m, ?_⟩
    have g : Rg w xw W σ (RE w) φ S H ((evL C l env S).bind fun p S => .ok (.obj S.length) (.lst p.1 :: S)) Q := g
    cases e : evL C l env S with
    | ok p S' =>
      rw [e] at g
      intro v φ' H' l1 so r
      obtain ⟨b, a, vs, rfl, h0, h1, rv, hn⟩ := r
      obtain ⟨φ2, l2, e2, so2⟩ := so.adopt l1 h0 h1 hn rv b
      refine g _ φ2 H' l2 so2 ⟨?_, ?_⟩
      · have := Rp.obj (K := w.K) (φ := φ2) (ex := w.ex) (H := H') S'.length
        rw [e2] at this
        exact this
      · show Nat.blt S'.length (S'.length + 1) = true
        exact Nat.ble_eq_true_of_le (Nat.le_refl _)
    | exc c fs S' => rw [e] at g; exact g
    | bad => rw [e] at g; exact g
/-! ### sources that are walked -/
/-- an iterator that hands out ds while gd stands -/
def ItR (w : Wo) (J : It) (ds : List D) (gd : Store → Bool) (φ0 : Nat → Addr) (S0 : Store) (H0 : Hp) : Prop := ∀ i φ S H, LatW φ0 φ S0 S H0 H → SimO w.K φ w.ex H S → gd S = true →
  (ds.length ≤ i → J.stop i H) ∧ ∀ d, ds[i]? = some d → J.go i H ∧ ∀ x H', J.yld i H x H' → Lat φ φ S S H H' ∧ SimO w.K φ w.ex H' S ∧ Rp w.K φ w.ex H' x d
def RI (w : Wo) (φ : Nat → Addr) (H : Hp) (S : Store) (J : It) (p : List D × Option Nat) : Prop := D.bels S.length p.1 = true ∧ ItR w J p.1 (stands p.2 (obAt p.2 S)) φ S H
def tI (w : Wo) (xw : Xw) (C : Ctx) (W : WX) (l : Src) : TI := fun σ H R => ∃ φ env S, Sim w.K φ w.ex H S σ env ∧ Rg w xw W σ (RI w) φ S H (evL C l env S) R
theorem piI {tg : Expr} {t t' : TI} (h : PI X tg e t) (f : ∀ σ H Q, t' σ H Q → t σ H Q) : PI X tg e t' := ⟨fun pins s σ H R I q => h.run pins s σ H R I (f _ _ _ q)⟩
theorem piOr {tg : Expr} {t u : TI} (h : PI X tg e t) (k : PI X tg e u) : PI X tg e (fun σ H R => t σ H R ∨ u σ H R) := ⟨fun pins s σ H R I q => q.elim (h.run pins s σ H R I) (k.run pins s σ H R I)⟩
section
variable {φ φ1 : Nat → Addr} {S S1 : Store} {H H1 : Hp}
theorem rng_at {n i k : Nat} (h : (List.range n)[i]? = some k) : i < n ∧ k = i := by
  by_cases hi : i < n
  · rw [List.getElem?_range hi] at h
    cases h; exact ⟨hi, rfl⟩
  · rw [List.getElem?_eq_none (by simp; omega)] at h; cases h
theorem itr_rng {lo : Int} {n : Nat} {gd : Store → Bool} : ItR w (Itr lo n) ((List.range n).map fun i => .int (lo + (i : Nat))) gd φ S H := fun i φ' S' H' l so _ =>
  ⟨fun h => by have : n ≤ i := by simpa using h
               exact this, fun d hd => by
    simp only [List.getElem?_map, Option.map_eq_some_iff] at hd
    obtain ⟨k, hk, rfl⟩ := hd
    obtain ⟨hi, rfl⟩ := rng_at hk
    exact ⟨hi, fun x H2 ⟨e1, e2⟩ => by subst e1 e2; exact ⟨Lat.refl, so, .int _⟩⟩⟩
theorem itr_rngC {lo c : Int} {n : Nat} {gd : Store → Bool} : ItR w (Itc lo c n) ((List.range n).map fun i => .int (lo + (i : Nat) * c)) gd φ S H := fun i φ' S' H' l so _ =>
  ⟨fun h => by have : n ≤ i := by simpa using h
               exact this, fun d hd => by
    simp only [List.getElem?_map, Option.map_eq_some_iff] at hd
    obtain ⟨k, hk, rfl⟩ := hd
    obtain ⟨hi, rfl⟩ := rng_at hk
    exact ⟨hi, fun x H2 ⟨e1, e2⟩ => by subst e1 e2; exact ⟨Lat.refl, so, .int _⟩⟩⟩
theorem itr_sql {a : Addr} {ds : List D} {gd : Store → Bool} (h : ∀ φ' S' H', LatW φ φ' S S' H H' → SimO w.K φ' w.ex H' S' → gd S' = true → ∃ vs, SqL w.K H' a vs ∧ RpA w.K φ' w.ex H' vs ds) : ItR w (Itl w.K a) ds gd φ S H := fun i φ' S' H' l so g => by
  obtain ⟨vs, h1, r1⟩ := h φ' S' H' l so g
  refine ⟨fun hi => ⟨vs, h1, by rw [r1.length]; exact hi⟩, fun d hd => ?_⟩
  obtain ⟨v, hv, rv⟩ := r1.get d hd
  refine ⟨⟨vs, v, h1, hv⟩, fun x H2 ⟨e1, e2⟩ => ?_⟩
  subst e1
  have := (e2 vs h1).symm.trans hv
  cases this
  exact ⟨Lat.refl, so, rv⟩
theorem itr_sqt {a : Addr} {vs : List V} {ds : List D} {gd : Store → Bool} (h : SqT w.K H a vs) (r : RpA w.K φ w.ex H vs ds) (b : D.bels S.length ds = true) : ItR w (Itt w.K a) ds gd φ S H := fun i φ' S' H' l so g => by
  have h1 := sqT_kp h l.kp
  have r1 := r.mono b l.same l.kp
  refine ⟨fun hi => ⟨vs, h1, by rw [r1.length]; exact hi⟩, fun d hd => ?_⟩
  obtain ⟨v, hv, rv⟩ := r1.get d hd
  refine ⟨⟨vs, v, h1, hv⟩, fun x H2 ⟨e1, e2⟩ => ?_⟩
  subst e1
  have := (e2 vs h1).symm.trans hv
  cases this
  exact ⟨Lat.refl, so, rv⟩
theorem itr_str {x : Str} {gd : Store → Bool} : ItR w (Its x) (x.cps.toList.map fun c => .str [c]) gd φ S H := fun i φ' S' H' l so _ =>
  ⟨fun h => by have : x.cps.size ≤ i := by simpa using h
               exact this, fun d hd => by
    simp only [List.getElem?_map, Option.map_eq_some_iff] at hd
    obtain ⟨k, hk, rfl⟩ := hd
    have hk' : x.cps[i]? = some k := by rw [← Array.getElem?_toList]; exact hk
    refine ⟨?_, fun y H2 ⟨e1, c, e2, e3⟩ => ?_⟩
    · by_cases z : i < x.cps.size
      · exact z
      · rw [Array.getElem?_eq_none (by omega)] at hk'; cases hk'
    · subst e1 e3
      rw [hk'] at e2
      cases e2
      exact ⟨Lat.refl, so, rp_str rfl⟩⟩
end
/-- for .. in e, by what e is -/
theorem si_val {tg : Expr} (hK : w.K = X.K) (h : PE X e (tE w xw C W x)) : PI X tg e (tI w xw C W (.val x)) := by
  refine piI (piOr (piOr (pi_list h) (pi_tup h)) (pi_str h)) fun σ H R ⟨φ, env, S, m, g⟩ => ?_
  have g : Rg w xw W σ (RI w) φ S H ((evE C x env S).bind fun x S => Res.of (items x S) S) R := g
  cases e1 : evE C x env S with
  | bad => rw [e1] at g; exact g.elim
  | exc c fs S' =>
    rw [e1] at g
    refine .inr ⟨φ, env, S, m, ?_⟩
    rw [e1]
    exact g
  | ok d S' =>
    rw [e1] at g
    have g : Rg w xw W σ (RI w) φ S H (Res.of (items d S') S') R := g
    obtain ⟨p, hp, g⟩ := g.of
    cases d with
    | str s =>
      cases hp
      refine .inr ⟨φ, env, S, m, ?_⟩
      rw [e1]
      intro v φ' H' l so r
      obtain ⟨z, rfl, rfl⟩ := rp_inv r.1
      exact ⟨z, rfl, g _ φ' H' l so ⟨bels_all.mpr fun d hd => by
        obtain ⟨c, _, rfl⟩ := List.mem_map.mp hd
        rfl, itr_str⟩⟩
    | tup ds =>
      cases hp
      refine .inl (.inr ⟨φ, env, S, m, ?_⟩)
      rw [e1]
      intro v φ' H' l so r
      have hb : D.bels S'.length ds = true := by have := r.2; simpa [D.bel] using this
      cases r.1 with
      | tup h1 r1 => exact ⟨_, rfl, ⟨_, hK ▸ h1⟩, hK ▸ g _ φ' H' l so ⟨hb, itr_sqt h1 r1 hb⟩⟩
    | obj n =>
      refine .inl (.inl ⟨φ, env, S, m, ?_⟩)
      rw [e1]
      intro v φ' H' l so r
      cases r.1
      simp only [items] at hp
      split at hp
      · rename_i xs en
        cases hp
        obtain ⟨vs, h1, r1⟩ := so.ob n _ en
        refine ⟨_, rfl, ⟨vs, SqL.of h1⟩, hK ▸ g _ φ' H' l so ⟨so.wf n _ en, itr_sql fun φ2 S2 H2 l2 so2 g2 => ?_⟩⟩
        have hn : n < S'.length := get_lt en
        have eg : get S2 n = some (.lst xs) := by
          have : get S2 n = obAt (some n) S' := of_decide_eq_true g2
          rw [this]; exact en
        obtain ⟨vs2, h2, r2⟩ := so2.ob n _ eg
        rw [← l2.same n hn]
        exact ⟨vs2, SqL.of h2, r2⟩
      · rename_i xs en
        cases hp
        obtain ⟨vs, h1, r1⟩ := so.ob n _ en
        refine ⟨_, rfl, ⟨vs, h1.sq⟩, hK ▸ g _ φ' H' l so ⟨so.wf n _ en, itr_sql fun φ2 S2 H2 l2 so2 g2 => ?_⟩⟩
        have hn : n < S'.length := get_lt en
        have eg : get S2 n = some (.ro xs) := by
          have : get S2 n = obAt (some n) S' := of_decide_eq_true g2
          rw [this]; exact en
        obtain ⟨vs2, h2, r2⟩ := so2.ob n _ eg
        rw [← l2.same n hn]
        exact ⟨vs2, h2.sq, r2⟩
      · cases hp
    | _ => cases hp
end
end Pw
end
section
set_option Elab.async false
set_option linter.all false
set_option maxRecDepth 100000
set_option maxHeartbeats 1000000
set_option autoImplicit false
/-! Pw10: ranges, targets, comprehensions -/
namespace Pw
open PySem PySem.Spec PyProof.Rows L2
variable {w : Wo} {xw : Xw} {C : Ctx} {W : WX} {X : Cx}
section
variable {e a b c tg : Expr} {es : List Expr} {x y z : Exp} {xs : List Exp} {pos p : Pos}
theorem small_ok {i : Int} (h : small i = true) : -(2 ^ 62) ≤ i ∧ i < 2 ^ 62 := by
  unfold small at h
  simp only [Bool.and_eq_true, decide_eq_true_eq] at h
  exact h
theorem bels_map {n : Nat} {α : Type} {l : List α} {f : α → D} (h : ∀ a, D.bel n (f a) = true) : D.bels n (l.map f) = true := bels_all.mpr fun d hd => by
  obtain ⟨c, _, rfl⟩ := List.mem_map.mp hd
  exact h c
theorem si_rng (hg : Gl X "range") (hm : X.mg "range" = none) (ha : PE X a (tE w xw C W x)) (h : okX a = true) : PI X tg (.Call (.Name "range" p) [a] [] pos) (tI w xw C W (.rng x)) :=
  piI (pi_range1 hg hm (pa_cons ha pa_nil (star_ok h)) (star_ok h)) fun σ H R ⟨φ, env, S, m, g⟩ => by
    refine tE.then m g fun v d S1 φ1 H1 l1 m1 r1 g => ?_
    cases d <;> first | exact g.elim | skip
    rename_i i
    cases r1.1
    obtain ⟨h1, g⟩ := Rg.ite (c := small i = true) g
    obtain ⟨h1, h2⟩ := small_ok h1
    refine ⟨i, rfl, h1, h2, g _ φ1 H1 Lat.refl m1.o ⟨bels_map fun _ => rfl, ?_⟩⟩
    have e : rngL 0 i = (List.range i.toNat).map fun k => .int ((0 : Int) + (k : Nat)) := by unfold rngL; rw [Int.sub_zero]
    show ItR w (Itr 0 i.toNat) (rngL 0 i) _ _ _ _
    rw [e]
    exact itr_rng
theorem si_rng2 (hg : Gl X "range") (hm : X.mg "range" = none) (ha : PE X a (tE w xw C W x)) (hb : PE X b (tE w xw C W y)) (h : okX a = true) (h2 : okX b = true) : PI X tg (.Call (.Name "range" p) [a, b] [] pos) (tI w xw C W (.rng2 x y)) :=
  piI (pi_range2 hg hm (pa_cons ha (pa_cons hb pa_nil (star_ok h2)) (star_ok h)) ((star_ok h).trans (by rw [star_ok h2]; rfl)) (star_ok h2)) fun σ H R ⟨φ, env, S, m, g⟩ => by
    refine tE.then m g fun v d S1 φ1 H1 l1 m1 r1 g => ?_
    refine tE.then m1 g fun u d2 S2 φ2 H2 l2 m2 r2 g => ?_
    cases d with
    | int i => cases d2 with
      | int j =>
        cases r1.1
        cases r2.1
        obtain ⟨h1, g⟩ := Rg.ite (c := (small i && small j) = true) g
        simp only [Bool.and_eq_true] at h1
        have k1 := small_ok h1.1
        have k2 := small_ok h1.2
        exact ⟨i, j, rfl, ⟨k1.1, k1.2, k2.1, k2.2⟩, g _ φ2 H2 Lat.refl m2.o ⟨bels_map fun _ => rfl, itr_rng⟩⟩
      | _ => exact g.elim
    | _ => exact g.elim

theorem rgC_up {i j c : Int} (h1 : small i = true) (h2 : small j = true) (h3 : 0 < c) (h4 : c < 1073741824) : RgC i j c (if i < j then ((j - i - 1) / c + 1).toNat else 0) := by
  have k1 := small_ok h1
  have k2 := small_ok h2
  have e : Builtin.Range.rangeSize i j c = if i < j then (j - i - 1) / c + 1 else 0 := by
    unfold Builtin.Range.rangeSize
    rw [if_pos h3]
  have d0 : i < j → 0 ≤ (j - i - 1) / c := fun h => Int.ediv_nonneg (by omega) (by omega)
  have d1 : i < j → (j - i - 1) / c ≤ j - i - 1 := fun h => Int.ediv_le_self _ (by omega)
  refine ⟨by omega, by omega, ?_, ?_⟩
  · unfold Builtin.Range.small
    rw [e]
    simp only [Builtin.Range.rangeFitsLong, Bool.and_eq_true, Bool.or_eq_true, decide_eq_true_eq, beq_iff_eq, if_pos h3]
    split
    · have := d0 (by assumption)
      have := d1 (by assumption)
      omega
    · omega
  · rw [e]
    split
    · have := d0 (by assumption)
      omega
    · rfl
theorem si_rng3 (hg : Gl X "range") (hm : X.mg "range" = none) (ha : PE X a (tE w xw C W x)) (hb : PE X b (tE w xw C W y)) (hc : PE X c (tE w xw C W z)) (h : okX a = true) (h2 : okX b = true) (h3 : okX c = true) : PI X tg (.Call (.Name "range" p) [a, b, c] [] pos) (tI w xw C W (.rng3 x y z)) :=
  piI (pi_range3 hg hm (pa_cons ha (pa_cons hb (pa_cons hc pa_nil (star_ok h3)) (star_ok h2)) (star_ok h)) (star_ok h) (plainArgs_ok (by simp [h2, h3]))) fun σ H R ⟨φ, env, S, m, g⟩ => by
    refine tE.then m g fun v d S1 φ1 H1 l1 m1 r1 g => ?_
    refine tE.then m1 g fun u d2 S2 φ2 H2 l2 m2 r2 g => ?_
    refine tE.then m2 g fun u d3 S3 φ3 H3 l3 m3 r3 g => ?_
    cases d with
    | int i => cases d2 with
      | int j => cases d3 with
        | int k =>
          cases r1.1
          cases r2.1
          cases r3.1
          obtain ⟨h1, g⟩ := Rg.ite (c := (small i && small j && decide (0 < k) && decide (k < 1073741824)) = true) g
          simp only [Bool.and_eq_true, decide_eq_true_eq] at h1
          exact ⟨i, j, k, _, rfl, rgC_up h1.1.1.1 h1.1.1.2 h1.1.2 h1.2, g _ φ3 H3 Lat.refl m3.o ⟨bels_map fun _ => rfl, itr_rngC⟩⟩
        | _ => exact g.elim
      | _ => exact g.elim
    | _ => exact g.elim
/-! ### targets -/
/-- slots outside is as before -/
def Same (is : List Nat) (σ σ' : L2.St) : Prop := σ'.length = σ.length ∧ ∀ i, i ∉ is → σ'[i]? = σ[i]?
theorem wipe_at {σ : L2.St} {i : Nat} : ∀ {vs : List Nat}, i ∈ vs → i < σ.length → (wipe σ vs)[i]? = some none
  | v :: vs, h, hl => by
    unfold wipe
    by_cases z : v = i
    · subst z
      rw [List.getElem?_set_self (by rw [wipe_length]; exact hl)]
    · rw [List.getElem?_set_ne z]
      have : i ∈ vs := by
        rcases List.mem_cons.mp h with e | e
        · exact absurd e.symm z
        · exact e
      exact wipe_at this hl
theorem wipe_same {vs : List Nat} {σ σ' : L2.St} (h : Same vs σ σ') : wipe σ' vs = wipe σ vs := by
  apply List.ext_getElem?
  intro i
  by_cases hi : i ∈ vs
  · by_cases hl : i < σ.length
    · rw [wipe_at hi hl, wipe_at hi (by rw [h.1]; exact hl)]
    · rw [List.getElem?_eq_none (by rw [wipe_length, h.1]; omega), List.getElem?_eq_none (by rw [wipe_length]; omega)]
  · rw [wipe_out hi, wipe_out hi, h.2 i hi]
theorem wipe_wipe {vs : List Nat} {σ : L2.St} : wipe (wipe σ vs) vs = wipe σ vs := by
  refine wipe_same ⟨wipe_length _ _, fun i hi => wipe_out hi⟩
def gT (w : Wo) (t : Tg) : TG := fun v σ H Q => ∃ φ S env d env', Sim w.K φ w.ex H S σ env ∧ RE w φ H S v d ∧ bind1 t d env = some env' ∧ ∀ σ', Sim w.K φ w.ex H S σ' env' → Same t.ix σ σ' → Q σ' H
theorem pgI {tg : Expr} {t t' : TG} (h : PG X tg t) (f : ∀ v σ H Q, t' v σ H Q → t v σ H Q) : PG X tg t' := ⟨fun pins s σ H v u Q I r q => h.run pins s σ H v u Q I r (f _ _ _ _ q)⟩
section
variable {φ : Nat → Addr} {S : Store} {H : Hp} {σ : L2.St} {env : Env} {v : V} {d : D}
theorem SimE.set {K : PySem.W.Frag} {ex : Ex1} {n : Nat} (m : SimE K φ ex H n σ env) (r : Rp K φ ex H v d) (b : D.bel n d = true) (i : Nat) (hx : ∀ a j fs, ex = some (a, j, fs) → i ≠ j) : SimE K φ ex H n (σ.set i (some v)) (env.set i (some d)) := by
  refine ⟨by simp [m.len], fun j u h => ?_, fun a j fs e => by rw [List.getElem?_set_ne (hx a j fs e)]; exact m.xs a j fs e⟩
  by_cases z : i = j
  · subst z
    by_cases hl : i < env.length
    · rw [List.getElem?_set_self hl] at h
      cases h
      exact ⟨v, List.getElem?_set_self (by rw [m.len]; exact hl), r, b⟩
    · rw [List.getElem?_eq_none (by simpa using hl)] at h; cases h
  · rw [List.getElem?_set_ne z] at h
    obtain ⟨u2, h1, h2⟩ := m.at_ j u h
    exact ⟨u2, by rw [List.getElem?_set_ne z]; exact h1, h2⟩
theorem SimE.non {K : PySem.W.Frag} {ex : Ex1} {n : Nat} (m : SimE K φ ex H n σ env) (i : Nat) : SimE K φ ex H n σ (env.set i .none) := by
  refine ⟨by simp [m.len], fun j u h => ?_, m.xs⟩
  by_cases z : i = j
  · subst z
    by_cases hl : i < env.length
    · rw [List.getElem?_set_self hl] at h; cases h
    · rw [List.getElem?_eq_none (by simpa using hl)] at h; cases h
  · rw [List.getElem?_set_ne z] at h
    exact m.at_ j u h
theorem SimE.kill {K : PySem.W.Frag} {ex : Ex1} {n : Nat} : ∀ (ks : List Nat) {env : Env}, SimE K φ ex H n σ env → SimE K φ ex H n σ (Pw.kill ks env)
  | [], _, m => m
  | k :: ks, _, m => SimE.kill ks (m.non k)
theorem kill_at : ∀ (ks : List Nat) {env : Env} {i : Nat} {d : D}, (Pw.kill ks env)[i]? = some (some d) → env[i]? = some (some d) ∧ i ∉ ks
  | [], _, _, _, h => ⟨h, by simp⟩
  | k :: ks, env, i, d, h => by
    obtain ⟨h1, h2⟩ := kill_at ks h
    by_cases z : k = i
    · subst z
      by_cases hl : k < env.length
      · rw [List.getElem?_set_self hl] at h1; cases h1
      · rw [List.getElem?_eq_none (by simpa using hl)] at h1; cases h1
    · rw [List.getElem?_set_ne z] at h1
      exact ⟨h1, by simp only [List.mem_cons, not_or]; exact ⟨fun e => z e.symm, h2⟩⟩
theorem kill_len : ∀ (ks : List Nat) (env : Env), (Pw.kill ks env).length = env.length
  | [], _ => rfl
  | k :: ks, env => by
    show (Pw.kill ks (env.set k .none)).length = _
    rw [kill_len ks, List.length_set]
theorem SimE.wipe {K : PySem.W.Frag} {ex : Ex1} {n : Nat} (m : SimE K φ ex H n σ env) (vs : List Nat) (hx : ex = none) : SimE K φ ex H n (wipe σ vs) (Pw.kill vs env) := by
  refine ⟨by rw [wipe_length, kill_len, m.len], fun j u h => ?_, fun a j fs e => by rw [hx] at e; cases e⟩
  obtain ⟨h1, h2⟩ := kill_at vs h
  rw [wipe_out h2]
  exact m.at_ j u h1
end
theorem sg_v {i : Nat} {n : Str} (he : ∀ a j fs, w.ex = some (a, j, fs) → i ≠ j) (hN : X.N.Nodup) (hi : X.N[i]? = some n) (hx : Loc X.env.scope n) (hf : X.fn n = true ∨ X.env.scope.names.lookup n = some .local) : PG X (.Name n pos) (gT w (.v i)) :=
  pgI (pg_name hN hi hx hf) fun v σ H Q ⟨φ, S, env, d, env', m, r, h, q⟩ => by
    cases h
    exact q _ ⟨m.o, m.e.set r.1 r.2 i he⟩ ⟨by simp, fun j hj => List.getElem?_set_ne (fun z => hj (by simp [Tg.ix, z]))⟩
/-- several slots -/
def sets (σ : L2.St) : List (Nat × V) → L2.St
  | [] => σ
  | p :: r => sets (σ.set p.1 (some p.2)) r
def gNs : List Nat → TGs
  | [] => gNil
  | i :: is => gCons (gName i) (gNs is)
theorem gNs_ok : ∀ (is : List Nat) (vs : List V) (σ : L2.St) (H : Hp) (Q : L2.St → Hp → Prop), vs.length = is.length → Q (sets σ (is.zip vs)) H → gNs is vs σ H Q
  | [], [], σ, H, Q, _, q => ⟨rfl, q⟩
  | i :: is, v :: vs, σ, H, Q, h, q => ⟨v, vs, rfl, gNs_ok is vs _ H Q (by simpa using h) q⟩
theorem SimE.sets {K : PySem.W.Frag} {ex : Ex1} {φ : Nat → Addr} {H : Hp} {n : Nat} : ∀ (is : List Nat) {vs : List V} {ds : List D} {σ : L2.St} {env : Env}, SimE K φ ex H n σ env → RpA K φ ex H vs ds → D.bels n ds = true → ex = none →
    SimE K φ ex H n (Pw.sets σ (is.zip vs)) ((is.zip ds).foldl (fun e p => e.set p.1 (some p.2)) env)
  | [], _, _, _, _, m, _, _, _ => m
  | i :: is, _, _, _, _, m, .nil, _, _ => m
  | i :: is, _, _, _, _, m, .cons q r, b, he => by
    simp only [D.bels, Bool.and_eq_true] at b
    exact SimE.sets is (m.set q b.1 i fun a j fs e => by rw [he] at e; cases e) r b.2 he
theorem sets_same : ∀ (is : List Nat) (vs : List V) (σ : L2.St), Same is σ (sets σ (is.zip vs))
  | [], _, σ => ⟨rfl, fun _ _ => rfl⟩
  | _ :: _, [], σ => ⟨rfl, fun _ _ => rfl⟩
  | i :: is, v :: vs, σ => by
    obtain ⟨h1, h2⟩ := sets_same is vs (σ.set i (some v))
    refine ⟨h1.trans (by simp), fun j hj => ?_⟩
    simp only [List.mem_cons, not_or] at hj
    exact (h2 j hj.2).trans (List.getElem?_set_ne (fun z => hj.1 z.symm))
theorem sg_tup {es : List Expr} {k : Nat} {is : List Nat} (he : w.ex = none) (hK : w.K = X.K) (hc : X.calm = true) (h : PGs X es (gNs is)) (hn : (assignEach es X.env).length = is.length) (hst : (assignEach es X.env).findIdx? (·.1) = none) : PG X (.Tuple es k pos) (gT w (.tup is)) :=
  pgI (pg_tup hc h hn hst) fun v σ H Q ⟨φ, S, env, d, env', m, r, h, q⟩ => by
    cases d <;> first | cases h; done | skip
    rename_i ds
    have h : (if is.length = ds.length then some ((is.zip ds).foldl (fun e p => e.set p.1 (some p.2)) env) else none) = some env' := h
    split at h
    · rename_i hl
      cases h
      have hb : D.bels S.length ds = true := by have := r.2; simpa [D.bel] using this
      obtain ⟨r, _⟩ := r
      cases r with
      | @tup a vs _ h1 r1 =>
        have hv : vs.length = is.length := by rw [r1.length, hl]
        exact ⟨a, vs, rfl, hK ▸ h1, hv, gNs_ok is vs σ H Q hv (q _ ⟨m.o, m.e.sets is r1 hb he⟩ (sets_same is vs σ))⟩
    · cases h
end
end Pw
end
section
set_option Elab.async false
set_option linter.all false
set_option maxRecDepth 100000
set_option maxHeartbeats 1000000
set_option autoImplicit false
/-! Pw11: comprehensions -/
namespace Pw
open PySem PySem.Spec PyProof.Rows L2
variable {w : Wo} {xw : Xw} {C : Ctx} {W : WX} {X : Cx}
/-- nothing may leave a comprehension's block -/
def W0 : WX := fun _ _ _ _ => False
def tTs (w : Wo) (xw : Xw) (C : Ctx) (W : WX) (ts : List Tst) : TT := fun σ H Q => ∃ φ env S, Sim w.K φ w.ex H S σ env ∧ Rg w xw W σ RB φ S H (evTs C ts env S) Q
theorem sts_nil : PTs X [] (tTs w xw C W []) := ⟨fun pins s σ H Q I ⟨φ, env, S, m, g⟩ => pts_nil.run pins s σ H Q I (fB g m.o)⟩
theorem sts_one {c : Expr} {t : Tst} (h : PT X c (tT w xw C W t)) : PTs X [c] (tTs w xw C W [t]) := ⟨fun pins s σ H Q I ⟨φ, env, S, m, g⟩ => (pts_one h).run pins s σ H Q I (by
  refine ⟨φ, env, S, m, ?_⟩
  have g : Rg w xw W σ RB φ S H ((evT C t env S).bind fun k S => if k then .ok true S else .ok false S) Q := g
  have e : ((evT C t env S).bind fun k S => if k then .ok true S else .ok false S) = evT C t env S := by
    cases evT C t env S with
    | ok k S => cases k <;> rfl
    | _ => rfl
  rw [e] at g
  exact g)⟩
/-- one turn of a comprehension -/
def compF (C : Ctx) (e : Exp) (t : Tg) (ifs : List Tst) (env : Env) (x : D) (S : Store) : Res (Option D) := match bind1 t x (kill t.ix env) with
  | some env => (match evTs C ifs env S with
    | .ok true S => (match evE C e env S with
      | .ok y S => .ok (some y) S
      | _ => .bad)
    | .ok false S => .ok none S
    | _ => .bad)
  | none => .bad
theorem drop_at {α : Type} {l : List α} {i : Nat} {x : α} {r : List α} (h : l.drop i = x :: r) : l[i]? = some x ∧ l.drop (i + 1) = r ∧ i < l.length := by
  have hl : i < l.length := by
    by_cases z : i < l.length
    · exact z
    · rw [List.drop_eq_nil_of_le (by omega)] at h; cases h
  rw [List.drop_eq_getElem_cons hl] at h
  cases h
  exact ⟨List.getElem?_eq_getElem hl, rfl, hl⟩
theorem comp_rd {e : Exp} {t : Tg} {l : Src} {ts : List Tst} (hx : w.ex = none) {σ : L2.St} {H : Hp} {Q : VK} (q : tN w xw C W (.comp e t l ts) σ H Q) : tLc (tI w xw C W l) (gT w t) (tTs w xw C W0 ts) (tE w xw C W0 e) t.ix σ H Q := by
  obtain ⟨φ, env, S, m, g⟩ := q
  refine ⟨φ, env, S, m, ?_⟩
  have g : Rg w xw W σ (RN w H) φ S H ((evL C l env S).bind fun p S => if p.1.length ≤ line then (compL (compF C e t ts env) (stands p.2 (obAt p.2 S)) p.1 S).bind fun ys S => .ok (ys, none) S else .bad) Q := g
  cases ev : evL C l env S with
  | bad => rw [ev] at g; exact g.elim
  | exc c fs S' => rw [ev] at g; exact g
  | ok p S1 =>
    rw [ev] at g
    intro J φ1 H1 l1 so1 r1 Lp hD
    have g : Rg w xw W σ (RN w H) φ S H (if p.1.length ≤ line then (compL (compF C e t ts env) (stands p.2 (obAt p.2 S1)) p.1 S1).bind fun ys S => .ok (ys, none) S else .bad) Q := g
    obtain ⟨hl, g⟩ := Rg.ite g
    obtain ⟨b1, it⟩ := r1
    generalize hgd : stands p.2 (obAt p.2 S1) = gd at g it
    generalize hds : p.1 = ds at g it b1 hl
    refine ⟨fun i mm H' => mm = ds.length - i ∧ ∃ φ2 S2 vs acc, Lat φ1 φ2 S1 S2 H1 H' ∧ SimO w.K φ2 w.ex H' S2 ∧ H' Lp = some (.lst vs) ∧ RpA w.K φ2 w.ex H' vs acc ∧ D.bels S2.length acc = true ∧ (∀ n, n < S2.length → φ2 n ≠ Lp) ∧ acc.length ≤ i ∧
      Rg w xw W σ (RN w H) φ S H ((compL (compF C e t ts env) gd (ds.drop i) S2).bind fun ys S => .ok (acc ++ ys, none) S) Q, ⟨ds.length, by simp, φ1, S1, [], [], Lat.newT hD, so1.new hD, upd_same, .nil, rfl, so1.ne hD, Nat.le_refl _, by simpa using g⟩, ?_⟩
    rintro i mm H' ⟨rfl, φ2, S2, vs, acc, l2, so2, hH, ra, ba, hn, ha, g⟩
    cases hdr : ds.drop i with
    | nil =>
      rw [hdr] at g
      have g : Rg w xw W σ (RN w H) φ S H ((if gd S2 then Res.ok [] S2 else Res.bad).bind fun ys S => .ok (acc ++ ys, none) S) Q := g
      cases hgS : gd S2 with
      | false => rw [hgS] at g; exact g.elim
      | true =>
        rw [hgS] at g
        have hi' : ds.length ≤ i := by
          have := congrArg List.length hdr
          simp only [List.length_drop, List.length_nil] at this
          omega
        refine .inl ⟨((it i φ2 S2 H' l2.w so2 hgS).1 hi'), ?_⟩
        have g : Rg w xw W σ (RN w H) φ S H (.ok (acc ++ [], none) S2) Q := g
        rw [List.append_nil] at g
        exact g (.ref Lp) φ2 H' (l1.trans l2) so2 ⟨ba, Lp, vs, rfl, l1.no Lp hD, hH, ra, hn⟩
    | cons d rest =>
      obtain ⟨hd, hrest, hil⟩ := drop_at hdr
      rw [hdr] at g
      have g : Rg w xw W σ (RN w H) φ S H ((if gd S2 then (match compF C e t ts env d S2 with
        | Res.ok o S => (compL (compF C e t ts env) gd rest S).bind fun ys S => .ok (match o with | some y => y :: ys | none => ys) S
        | _ => Res.bad) else Res.bad).bind fun ys S => .ok (acc ++ ys, none) S) Q := g
      cases hgS : gd S2 with
      | false => rw [hgS] at g; exact g.elim
      | true =>
        rw [hgS, if_pos rfl] at g
        obtain ⟨hgo, hy⟩ := (it i φ2 S2 H' l2.w so2 hgS).2 d hd
        refine .inr ⟨hgo, fun H2 => ∃ φ2 S2 vs acc, Lat φ1 φ2 S1 S2 H1 H2 ∧ SimO w.K φ2 w.ex H2 S2 ∧ H2 Lp = some (.lst vs) ∧ RpA w.K φ2 w.ex H2 vs acc ∧ D.bels S2.length acc = true ∧ (∀ n, n < S2.length → φ2 n ≠ Lp) ∧ acc.length ≤ i + 1 ∧
          Rg w xw W σ (RN w H) φ S H ((compL (compF C e t ts env) gd rest S2).bind fun ys S => .ok (acc ++ ys, none) S) Q, fun H2 q => ⟨ds.length - (i + 1), by omega, rfl, by rw [hrest]; exact q⟩, fun x H3 y => ?_⟩
        obtain ⟨l3, so3, rx⟩ := hy x H3 y
        have hD3 : H3 Lp = some (.lst vs) := l3.fr Lp _ hH hn
        have ra3 := ra.lat ba l3
        have bd : D.bel S2.length d = true := D.bel_mono l2.le _ (bels_all.mp b1 d (List.mem_of_getElem? hd))
        cases hF : compF C e t ts env d S2 with
        | bad => rw [hF] at g; exact g.elim
        | exc c fs S' => rw [hF] at g; exact g.elim
        | ok o S4 =>
          rw [hF] at g
          unfold compF at hF
          cases hb : bind1 t d (kill t.ix env) with
          | none => rw [hb] at hF; cases hF
          | some env2 =>
            rw [hb] at hF
            have m3 : Sim w.K φ2 w.ex H3 S2 (wipe σ t.ix) (kill t.ix env) := ⟨so3, ((m.e.lat l1).lat (l2.trans l3)).wipe _ hx⟩
            refine ⟨φ2, S2, kill t.ix env, d, env2, m3, ⟨rx, bd⟩, hb, fun σ2 m4 sm => ⟨(wipe_same sm).trans wipe_wipe, ?_⟩⟩
            refine ⟨φ2, env2, S2, m4, ?_⟩
            dsimp only at hF
            cases hT : evTs C ts env2 S2 with
            | bad => rw [hT] at hF; cases hF
            | exc c fs S' => rw [hT] at hF; cases hF
            | ok k S5 =>
              rw [hT] at hF
              intro kb φ5 H5 l5 so5 rk
              cases rk
              cases k with
              | false =>
                cases hF
                rw [if_neg (by simp)]
                refine ⟨φ5, S4, vs, acc, l2.trans (l3.trans l5), so5, l5.fr Lp _ hD3 hn, ra3.lat ba l5, bels_lat ba l5, fun n hn' z => ?_, by omega, ?_⟩
                · by_cases hs : n < S2.length
                  · rw [l5.same n hs] at z; exact hn n hs z
                  · have := l5.nw n (by omega) hn'
                    rw [z, hD3] at this; cases this
                · have e0 : ((compL (compF C e t ts env) gd rest S4).bind fun ys S => Res.ok (match (none : Option D) with | some y => y :: ys | none => ys) S) = compL (compF C e t ts env) gd rest S4 := by
                    cases compL (compF C e t ts env) gd rest S4 <;> rfl
                  have g : Rg w xw W σ (RN w H) φ S H (((compL (compF C e t ts env) gd rest S4).bind fun ys S => Res.ok (match (none : Option D) with | some y => y :: ys | none => ys) S).bind fun ys S => .ok (acc ++ ys, none) S) Q := g
                  rw [e0] at g
                  exact g
              | true =>
                dsimp only at hF
                rw [if_pos rfl]
                refine ⟨φ5, env2, S5, m4.lat l5 so5, ?_⟩
                cases hE : evE C e env2 S5 with
                | bad => rw [hE] at hF; cases hF
                | exc c fs S' => rw [hE] at hF; cases hF
                | ok y S6 =>
                  rw [hE] at hF
                  cases hF
                  intro yv φ6 H6 l6 so6 ry
                  have l56 := l5.trans l6
                  have hD6 : H6 Lp = some (.lst vs) := l56.fr Lp _ hD3 hn
                  have hn6 : ∀ n, n < S4.length → φ6 n ≠ Lp := fun n hn' z => by
                    by_cases hs : n < S2.length
                    · rw [l56.same n hs] at z; exact hn n hs z
                    · have := l56.nw n (by omega) hn'
                      rw [z, hD3] at this; cases this
                  have kp : Kp H6 (upd H6 Lp (.lst (vs ++ [yv]))) := Kp.set hD6 trivial
                  refine ⟨vs, hD6, by rw [ra.length, line_eq]; omega, φ6, S4, vs ++ [yv], acc ++ [y], ?_, ?_, upd_same, ((ra3.lat ba l56).append (.cons ry.1 .nil)).mono (n := S4.length) ?_ (fun _ _ => rfl) kp, ?_, hn6, by simp; omega, ?_⟩
                  · have l7 := l2.trans (l3.trans l56)
                    refine ⟨l7.le, l7.same, l7.kp.trans kp, fun a o ha2 hna => ?_, l7.nw, fun a ha2 => l7.no a (by
                      by_cases z : a = Lp
                      · rw [z, upd_same] at ha2; cases ha2
                      · rw [upd_ne z] at ha2; exact ha2)⟩
                    have : a ≠ Lp := fun z => by rw [z, hD] at ha2; cases ha2
                    rw [upd_ne this]
                    exact l7.fr a o ha2 hna
                  · refine so6.heap kp fun n o en _ u eu => ?_
                    rw [upd_ne (hn6 n (get_lt en))]
                    exact eu
                  · exact bels_all.mpr fun d hd => (List.mem_append.mp hd).elim (bels_all.mp (bels_lat ba l56) d) (fun z => by rw [List.mem_singleton.mp z]; exact ry.2)
                  · exact bels_all.mpr fun d hd => (List.mem_append.mp hd).elim (bels_all.mp (bels_lat ba l56) d) (fun z => by rw [List.mem_singleton.mp z]; exact ry.2)
                  · have e0 : (((compL (compF C e t ts env) gd rest S4).bind fun ys S => Res.ok (match (some y : Option D) with | some y => y :: ys | none => ys) S).bind fun ys S => Res.ok (acc ++ ys, (none : Option Nat)) S) = (compL (compF C e t ts env) gd rest S4).bind fun ys S => .ok (acc ++ [y] ++ ys, none) S := by
                      cases compL (compF C e t ts env) gd rest S4 with
                      | ok ys S => show Res.ok (acc ++ y :: ys, none) S = Res.ok (acc ++ [y] ++ ys, none) S; rw [List.append_assoc]; rfl
                      | _ => rfl
                    have g : Rg w xw W σ (RN w H) φ S H (((compL (compF C e t ts env) gd rest S4).bind fun ys S => Res.ok (match (some y : Option D) with | some y => y :: ys | none => ys) S).bind fun ys S => .ok (acc ++ ys, none) S) Q := g
                    rw [e0] at g
                    exact g
theorem sn_comp {elt tg iter : Expr} {ifs : List Expr} {scope : Scope} {own : List (Str × Nat)} {pos : Pos} {e : Exp} {t : Tg} {l : Src} {ts : List Tst} (hx : w.ex = none) (hc : X.calm = true) (hN : X.N.Nodup) (hi : PI X tg iter (tI w xw C W l)) (ok : BlkOk X.N X.env.scope scope own) (hv : own.map (·.2) = t.ix)
    (hg : ∀ (s : Shared) (H : Hp) (D : Addr) (cl : List (Str × Addr)) (fp : List Addr), PG (X.blk s H scope (compEnvC scope cl D X.env) fp) tg (gT w t))
    (ht : ∀ (s : Shared) (H : Hp) (D : Addr) (cl : List (Str × Addr)) (fp : List Addr), PTs (X.blk s H scope (compEnvC scope cl D X.env) fp) ifs (tTs w xw C W0 ts))
    (he : ∀ (s : Shared) (H : Hp) (D : Addr) (cl : List (Str × Addr)) (fp : List Addr), PE (X.blk s H scope (compEnvC scope cl D X.env) fp) elt (tE w xw C W0 e)) (hs : ∀ x, foldedSetIterable iter X.env x = pure x) :
    PE X (.ListComp elt [⟨tg, iter, ifs, 0⟩] scope pos) (tN w xw C W (.comp e t l ts)) :=
  peI (pe_lc hc hN hi ok hg ht he hs) fun σ H Q q => by rw [hv]; exact comp_rd hx q
end Pw
end
section
set_option Elab.async false
set_option linter.all false
set_option maxRecDepth 100000
set_option maxHeartbeats 1000000
set_option autoImplicit false
/-! Pw12: calls of own defs, of built-ins -/
namespace Pw
open PySem PySem.Spec PyProof.Rows L2
variable {w : Wo} {xw : Xw} {C : Ctx} {W : WX} {X : Cx}
section
variable {e a b c : Expr} {es : List Expr} {x y z : Exp} {xs : List Exp} {pos p : Pos}
/-- f(e, ..) -/
theorem se_call {pr : Prg} {nm : Nm} {k i : Nat} {n : Str} (hC : C.Φ none = den pr k none) (tk : L2N.Takes X W) (fx : Fx w xw pr nm k X) (hi : nm.fns[i]? = some n) (hg : Gl X n) (ha : PA X (a :: es) (tEs w xw C W xs)) (hdb : okName n = true) (h1 : okX a = true) (h2 : es.all okX = true) :
    PE X (.Call (.Name n p) (a :: es) [] pos) (tE w xw C W (.call i xs)) := by
  obtain ⟨f, fd, ps, hm, hk, F, hb⟩ := fx.gd.fn i n hi
  rw [fx.hK] at hk F hb
  refine peI (pe_callS (E := WE W) F fx.room hg hm hk hb (L2N.passAt tk) ha (okName_ok hdb).1 (star_ok h1) (plainArgs_ok h2)) fun σ H Q ⟨φ, env, S, m, g⟩ => ?_
  have g : Rg w xw W σ (RE w) φ S H ((evEs C xs env S).bind fun ds S => C.Φ none i ds S) Q := g
  rw [hC] at g
  exact tEs.then m g fun vs ds S1 φ1 H1 l1 m1 r1 g => ⟨φ1, S1, ds, m1.o, r1, by
    cases e : den pr k none i ds S1 with
    | ok d S' => rw [e] at g; exact g
    | exc c fs S' => rw [e] at g; exact g
    | bad => rw [e] at g; exact g⟩
theorem cb1 {n : Str} {id : String} {t : TE} {r : List V → Hp → VK → Prop} (hc : CallR X (.builtin id) r) (hg : Gl X n) (hm : X.mg n = none) (hv : bootBuiltins n = some (.builtin id)) (ha : PE X a t) (hn : okName n = true) (h1 : okX a = true) : PE X (.Call (.Name n p) [a] [] pos) (tCB r (tCons t tNil)) :=
  pe_callB hc hg hm hv (pa_cons ha pa_nil (star_ok h1)) (okName_ok hn).2.2 (okName_ok hn).1 (star_ok h1) rfl
theorem ct1 {n : Str} {id : String} {t : TE} {r : List V → Hp → VK → Prop} (hc : CallR X (.type id) r) (hg : Gl X n) (hm : X.mg n = none) (hv : bootBuiltins n = some (.type id)) (ha : PE X a t) (hn : okName n = true) (h1 : okX a = true) : PE X (.Call (.Name n p) [a] [] pos) (tCB r (tCons t tNil)) :=
  pe_callTy hc hg hm hv (pa_cons ha pa_nil (star_ok h1)) (okName_ok hn).2.2 (okName_ok hn).1 (star_ok h1) rfl
theorem cb2 {n : Str} {id : String} {t u : TE} {r : List V → Hp → VK → Prop} (hc : CallR X (.builtin id) r) (hg : Gl X n) (hm : X.mg n = none) (hv : bootBuiltins n = some (.builtin id)) (ha : PE X a t) (hb : PE X b u) (hn : okName n = true) (h1 : okX a = true) (h2 : okX b = true) : PE X (.Call (.Name n p) [a, b] [] pos) (tCB r (tCons t (tCons u tNil))) :=
  pe_callB hc hg hm hv (pa_cons ha (pa_cons hb pa_nil (star_ok h2)) (star_ok h1)) (okName_ok hn).2.2 (okName_ok hn).1 (star_ok h1) (plainArgs_ok (by simp [h2]))
theorem rds1 {φ : Nat → Addr} {H : Hp} {S : Store} {v : V} {d : D} (r : RE w φ H S v d) : REs w φ H S [v] [d] := ⟨.cons r.1 .nil, by show (D.bel S.length d && true) = true; rw [r.2]; rfl⟩
theorem rds2 {φ : Nat → Addr} {H : Hp} {S : Store} {v u : V} {d d2 : D} (r : RE w φ H S v d) (q : RE w φ H S u d2) : REs w φ H S [v, u] [d, d2] := ⟨.cons r.1 (.cons q.1 .nil), by show (D.bel S.length d && (D.bel S.length d2 && true)) = true; rw [r.2, q.2]; rfl⟩
/-- some values, by what the evaluator does to them -/
def rF1 (w : Wo) (f : D → Store → Res D) : List V → Hp → VK → Prop := fun xs H Q => ∃ d, rF w [d] (f d) xs H Q
def rF2 (w : Wo) (f : D → D → Store → Res D) : List V → Hp → VK → Prop := fun xs H Q => ∃ d d2, rF w [d, d2] (f d d2) xs H Q
theorem crF1 {v : Value} {f : D → Store → Res D} (h : ∀ d, CallR X v (rF w [d] (f d))) : CallR X v (rF1 w f) := fun pins s σ H xs us Q I r ⟨d, q⟩ => h d pins s σ H xs us Q I r q
theorem crF2 {v : Value} {f : D → D → Store → Res D} (h : ∀ d d2, CallR X v (rF w [d, d2] (f d d2))) : CallR X v (rF2 w f) := fun pins s σ H xs us Q I r ⟨d, d2, q⟩ => h d d2 pins s σ H xs us Q I r q
theorem rd1 {f : D → Store → Res D} {ev : Env → Store → Res D} (he : ∀ env S, ev env S = (evE C x env S).bind f) : ∀ σ H Q, (∃ φ env S, Sim w.K φ w.ex H S σ env ∧ Rg w xw W σ (RE w) φ S H (ev env S) Q) → tCB (rF1 w f) (tCons (tE w xw C W x) tNil) σ H Q := fun σ H Q ⟨φ, env, S, m, g⟩ => by
  rw [he] at g
  exact tE.then m g fun v d S1 φ1 H1 l1 m1 r1 g => ⟨d, φ1, S1, m1.o, rds1 r1, g.g0⟩
theorem rd2 {f : D → D → Store → Res D} {ev : Env → Store → Res D} (he : ∀ env S, ev env S = (evE C x env S).bind fun d S => (evE C y env S).bind fun d2 S => f d d2 S) : ∀ σ H Q, (∃ φ env S, Sim w.K φ w.ex H S σ env ∧ Rg w xw W σ (RE w) φ S H (ev env S) Q) → tCB (rF2 w f) (tCons (tE w xw C W x) (tCons (tE w xw C W y) tNil)) σ H Q := fun σ H Q ⟨φ, env, S, m, g⟩ => by
  rw [he] at g
  refine tE.then m g fun v d S1 φ1 H1 l1 m1 r1 g => ?_
  refine tE.then m1 g fun u d2 S2 φ2 H2 l2 m2 r2 g => ?_
  exact ⟨d, d2, φ2, S2, m2.o, rds2 (r1.lat l2) r2, g.g0⟩
theorem bb_len : bootBuiltins "len" = some (.builtin "len") := by decide +kernel
theorem bb_abs : bootBuiltins "abs" = some (.builtin "abs") := by decide +kernel
theorem bb_min : bootBuiltins "min" = some (.builtin "min") := by decide +kernel
theorem bb_max : bootBuiltins "max" = some (.builtin "max") := by decide +kernel
theorem bb_int : bootBuiltins "int" = some (.type "int") := by decide +kernel
theorem bb_str : bootBuiltins "str" = some (.type "str") := by decide +kernel
theorem bb_all : bootBuiltins "all" = some (.builtin "all") := by decide +kernel
theorem bb_any : bootBuiltins "any" = some (.builtin "any") := by decide +kernel
theorem bb_sum : bootBuiltins "sum" = some (.builtin "sum") := by decide +kernel
theorem bb_sorted : bootBuiltins "sorted" = some (.builtin "sorted") := by decide +kernel
theorem bb_tuple : bootBuiltins "tuple" = some (.type "tuple") := by decide +kernel
theorem bb_list : bootBuiltins "list" = some (.type "list") := by decide +kernel
theorem bb_isi : bootBuiltins "isinstance" = some (.builtin "isinstance") := by decide +kernel
variable (hg : ∀ n ∈ freeNames, X.mg n = none)
theorem se_len (hK : w.K = X.K) (gl : Gl X "len") (hm : X.mg "len" = none) (ha : PE X a (tE w xw C W x)) (h1 : okX a = true) : PE X (.Call (.Name "len" p) [a] [] pos) (tE w xw C W (.f1 .len x)) :=
  peI (cb1 (crF1 fun d => callR_len hK d) gl hm bb_len ha (by decide) h1) (rd1 fun _ _ => rfl)
theorem se_abs (gl : Gl X "abs") (hm : X.mg "abs" = none) (ha : PE X a (tE w xw C W x)) (h1 : okX a = true) : PE X (.Call (.Name "abs" p) [a] [] pos) (tE w xw C W (.f1 .abs x)) :=
  peI (cb1 (crF1 fun d => callR_abs d) gl hm bb_abs ha (by decide) h1) (rd1 fun _ _ => rfl)
theorem se_int (gl : Gl X "int") (hm : X.mg "int" = none) (ha : PE X a (tE w xw C W x)) (h1 : okX a = true) : PE X (.Call (.Name "int" p) [a] [] pos) (tE w xw C W (.f1 .int x)) :=
  peI (ct1 (crF1 fun d => callR_int d) gl hm bb_int ha (by decide) h1) (rd1 fun _ _ => rfl)
theorem se_min (hc : X.calm = true) (gl : Gl X "min") (hm : X.mg "min" = none) (ha : PE X a (tE w xw C W x)) (hb : PE X b (tE w xw C W y)) (h1 : okX a = true) (h2 : okX b = true) : PE X (.Call (.Name "min" p) [a, b] [] pos) (tE w xw C W (.f2 .min x y)) :=
  peI (cb2 (crF2 fun d d2 => callR_min hc d d2) gl hm bb_min ha hb (by decide) h1 h2) (rd2 fun _ _ => rfl)
theorem se_max (hc : X.calm = true) (gl : Gl X "max") (hm : X.mg "max" = none) (ha : PE X a (tE w xw C W x)) (hb : PE X b (tE w xw C W y)) (h1 : okX a = true) (h2 : okX b = true) : PE X (.Call (.Name "max" p) [a, b] [] pos) (tE w xw C W (.f2 .max x y)) :=
  peI (cb2 (crF2 fun d d2 => callR_max hc d d2) gl hm bb_max ha hb (by decide) h1 h2) (rd2 fun _ _ => rfl)
/-! ### rows as arguments -/
def RS (w : Wo) (H0 : Hp) (φ : Nat → Addr) (H : Hp) (S : Store) (v : V) (p : List D × Option Nat) : Prop := D.bels S.length p.1 = true ∧ ∃ a vs, v = .ref a ∧ (SqL w.K H a vs ∨ SqT w.K H a vs) ∧ RpA w.K φ w.ex H vs p.1
def tS (w : Wo) (xw : Xw) (C : Ctx) (W : WX) (l : Src) : TE := fun σ H Q => ∃ φ env S, Sim w.K φ w.ex H S σ env ∧ Rg w xw W σ (RS w H) φ S H (evL C l env S) Q
theorem Rg.weak {α β : Type} {σ : L2.St} {R R' : (Nat → Addr) → Hp → Store → β → α → Prop} {φ : Nat → Addr} {S : Store} {H : Hp} {r : Res α} {Q : β → Hp → Prop} (h : Rg w xw W σ R φ S H r Q) (f : ∀ φ H S b a, R' φ H S b a → R φ H S b a) : Rg w xw W σ R' φ S H r Q := by
  cases r with
  | ok a S' => exact fun b φ' H' l so r => h b φ' H' l so (f _ _ _ _ _ r)
  | exc c fs S' => exact h
  | bad => exact h
theorem ss_new {l : Src} (h : PE X e (tN w xw C W l)) : PE X e (tS w xw C W l) := peI h fun σ H Q ⟨φ, env, S, m, g⟩ => ⟨φ, env, S, m, g.weak fun φ H S b p ⟨h1, a, vs, h2, _, h3, h4, _⟩ => ⟨h1, a, vs, h2, .inl (SqL.of h3), h4⟩⟩
/-- a value that is a row -/
theorem seq_of {φ : Nat → Addr} {H : Hp} {S : Store} {v : V} {d : D} {xs : List D} (so : SimO w.K φ w.ex H S) (r : RE w φ H S v d) (h : seqD d S = some xs) : D.bels S.length xs = true ∧ ∃ a vs, v = .ref a ∧ (SqL w.K H a vs ∨ SqT w.K H a vs) ∧ RpA w.K φ w.ex H vs xs := by
  obtain ⟨r, b⟩ := r
  cases d with
  | tup ds =>
    cases h
    cases r with
    | tup h1 r1 => exact ⟨by simpa [D.bel] using b, _, _, rfl, .inr h1, r1⟩
  | obj n =>
    cases r
    simp only [seqD] at h
    split at h
    · rename_i ys e
      cases h
      obtain ⟨vs, h1, r1⟩ := so.ob n _ e
      exact ⟨so.wf n _ e, _, vs, rfl, .inl (SqL.of h1), r1⟩
    · rename_i ys e
      cases h
      obtain ⟨vs, h1, r1⟩ := so.ob n _ e
      exact ⟨so.wf n _ e, _, vs, rfl, .inl h1.sq, r1⟩
    · cases h
  | _ => cases h
theorem ss_val (h : PE X e (tE w xw C W x)) : PE X e (tS w xw C W (.seq x)) := peI h fun σ H Q ⟨φ, env, S, m, g⟩ => by
  refine tE.then m g fun v d S1 φ1 H1 l1 m1 r1 g => ?_
  obtain ⟨p, hp, g⟩ := g.of
  obtain ⟨xs, hx, rfl⟩ := Option.map_eq_some_iff.mp hp
  exact g v φ1 H1 Lat.refl m1.o (seq_of m1.o r1 hx)
theorem tS.then {γ δ : Type} {R2 : (Nat → Addr) → Hp → Store → δ → γ → Prop} {φ : Nat → Addr} {S : Store} {H : Hp} {σ : L2.St} {env : Env} {l : Src} {k : List D × Option Nat → Store → Res γ} {Q : δ → Hp → Prop} {Q' : VK} (m : Sim w.K φ w.ex H S σ env) (h : Rg w xw W σ R2 φ S H ((evL C l env S).bind k) Q)
    (f : ∀ v p S1 φ1 H1, Lat φ φ1 S S1 H H1 → Sim w.K φ1 w.ex H1 S1 σ env → RS w H φ1 H1 S1 v p → Rg w xw W σ R2 φ1 S1 H1 (k p S1) Q → Q' v H1) : tS w xw C W l σ H Q' :=
  ⟨φ, env, S, m, h.bind fun v d S1 φ1 H1 l so r g => f v d S1 φ1 H1 l (m.lat l so) r g⟩
theorem se_tupOf {l : Src} (hK : w.K = X.K) (gl : Gl X "tuple") (hm : X.mg "tuple" = none) (ha : PE X a (tS w xw C W l)) (h1 : okX a = true) : PE X (.Call (.Name "tuple" p) [a] [] pos) (tE w xw C W (.tupOf l)) :=
  peI (ct1 call_tuple_of gl hm bb_tuple ha (by decide) h1) fun σ H Q ⟨φ, env, S, m, g⟩ => by
    refine tS.then m g fun v q S1 φ1 H1 l1 m1 r1 g => ?_
    obtain ⟨b, a, vs, rfl, h, r⟩ := r1
    refine ⟨a, vs, rfl, ?_⟩
    rcases h with h | h
    · exact .inl ⟨hK ▸ h, fun l hl => g.g0.tup m1.o r b hl⟩
    · exact .inr ⟨hK ▸ h, fE g m1.o (.tup h r) b⟩
theorem sn_list {l : Src} (hK : w.K = X.K) (gl : Gl X "list") (hm : X.mg "list" = none) (ha : PE X a (tS w xw C W l)) (h1 : okX a = true) : PE X (.Call (.Name "list" p) [a] [] pos) (tN w xw C W l) :=
  peI (ct1 call_list_of gl hm bb_list ha (by decide) h1) fun σ H Q ⟨φ, env, S, m, g⟩ => by
    refine ⟨φ, env, S, m, ?_⟩
    cases ev : evL C l env S with
    | bad => rw [ev] at g; exact g
    | exc c fs S' => rw [ev] at g; exact g
    | ok q S' =>
      rw [ev] at g
      intro v φ1 H1 l1 so r1
      obtain ⟨b, a, vs, rfl, h, r⟩ := r1
      refine ⟨a, vs, rfl, hK ▸ h, fun l hl => ?_⟩
      exact g (.ref l) φ1 _ (l1.trans (Lat.newT hl)) (so.new hl) ⟨b, l, vs, rfl, l1.no l hl, upd_same, r.mono b (fun _ _ => rfl) (Kp.new hl), so.ne hl⟩
/-- the bools of a row -/
theorem bls_of {φ : Nat → Addr} {H : Hp} : ∀ {ds : List D} {vs : List V} {bs : List Bool}, RpA w.K φ w.ex H vs ds → bls ds = some bs → vs = bs.map V.bl
  | [], _, _, .nil, h => by cases h; rfl
  | d :: ds, _, bs, .cons q r, h => by
    cases d with
    | bl b =>
      obtain ⟨bs', hb, rfl⟩ := Option.map_eq_some_iff.mp (show (bls ds).map (b :: ·) = some bs from h)
      cases q
      rw [bls_of r hb]; rfl
    | _ => cases h
/-- a row that is a list (a new one, or a list's) -/
def RL (w : Wo) (H0 : Hp) (φ : Nat → Addr) (H : Hp) (S : Store) (v : V) (p : List D × Option Nat) : Prop := D.bels S.length p.1 = true ∧ ∃ a vs, v = .ref a ∧ SqL w.K H a vs ∧ RpA w.K φ w.ex H vs p.1
def tL (w : Wo) (xw : Xw) (C : Ctx) (W : WX) (l : Src) : TE := fun σ H Q => ∃ φ env S, Sim w.K φ w.ex H S σ env ∧ Rg w xw W σ (RL w H) φ S H (evL C l env S) Q
theorem tL.then {γ δ : Type} {R2 : (Nat → Addr) → Hp → Store → δ → γ → Prop} {φ : Nat → Addr} {S : Store} {H : Hp} {σ : L2.St} {env : Env} {l : Src} {k : List D × Option Nat → Store → Res γ} {Q : δ → Hp → Prop} {Q' : VK} (m : Sim w.K φ w.ex H S σ env) (h : Rg w xw W σ R2 φ S H ((evL C l env S).bind k) Q)
    (f : ∀ v p S1 φ1 H1, Lat φ φ1 S S1 H H1 → Sim w.K φ1 w.ex H1 S1 σ env → RL w H φ1 H1 S1 v p → Rg w xw W σ R2 φ1 S1 H1 (k p S1) Q → Q' v H1) : tL w xw C W l σ H Q' :=
  ⟨φ, env, S, m, h.bind fun v d S1 φ1 H1 l so r g => f v d S1 φ1 H1 l (m.lat l so) r g⟩
theorem sl_new {l : Src} (h : PE X e (tN w xw C W l)) : PE X e (tL w xw C W l) := peI h fun σ H Q ⟨φ, env, S, m, g⟩ => ⟨φ, env, S, m, g.weak fun φ H S b p ⟨h1, a, vs, h2, _, h3, h4, _⟩ => ⟨h1, a, vs, h2, SqL.of h3, h4⟩⟩
theorem se_all {l : Src} (hK : w.K = X.K) (hc : X.calm = true) (gl : Gl X "all") (hm : X.mg "all" = none) (ha : PE X a (tL w xw C W l)) (h1 : okX a = true) : PE X (.Call (.Name "all" p) [a] [] pos) (tE w xw C W (.allOf l)) :=
  peI (cb1 (cr_all hc) gl hm bb_all ha (by decide) h1) fun σ H Q ⟨φ, env, S, m, g⟩ => by
    refine tL.then m g fun v q S1 φ1 H1 l1 m1 r1 g => ?_
    obtain ⟨b, a, vs, rfl, h, r⟩ := r1
    obtain ⟨bs, hb, g⟩ := g.ofb
    have e := bls_of r hb
    subst e
    exact ⟨a, bs, rfl, hK ▸ h, fBl g m1.o⟩
theorem se_any {l : Src} (hK : w.K = X.K) (hc : X.calm = true) (gl : Gl X "any") (hm : X.mg "any" = none) (ha : PE X a (tL w xw C W l)) (h1 : okX a = true) : PE X (.Call (.Name "any" p) [a] [] pos) (tE w xw C W (.anyOf l)) :=
  peI (cb1 (cr_any hc) gl hm bb_any ha (by decide) h1) fun σ H Q ⟨φ, env, S, m, g⟩ => by
    refine tL.then m g fun v q S1 φ1 H1 l1 m1 r1 g => ?_
    obtain ⟨b, a, vs, rfl, h, r⟩ := r1
    obtain ⟨bs, hb, g⟩ := g.ofb
    have e := bls_of r hb
    subst e
    exact ⟨a, bs, rfl, hK ▸ h, fBl g m1.o⟩
end
end Pw
end
section
set_option Elab.async false
set_option linter.all false
set_option maxRecDepth 100000
set_option maxHeartbeats 1000000
set_option autoImplicit false
/-! Pw13: methods, slices, isinstance, sums -/
namespace Pw
open PySem PySem.Spec PyProof.Rows L2
variable {w : Wo} {xw : Xw} {C : Ctx} {W : WX} {X : Cx}
section
variable {e a b c o : Expr} {es : List Expr} {x y z : Exp} {xs : List Exp} {pos p apos : Pos}
theorem few_ok {cpos : Pos} {env : PySem.Env} (h1 : okX a = true) : ((backTo cpos (starEach [a] env)).all (fun x => !x.1) && (backToKw cpos (keywordEach [] env)).all (fun x => x.1.isSome)
      && decide ([a].length + ([] : List Keyword).length + (if ([] : List Keyword).isEmpty then 0 else 1) < 30)) = true := by
  rw [star_ok h1]; rfl
/-! ### lists that are written -/
theorem isL_ok {φ : Nat → Addr} {H : Hp} {S : Store} {v : V} {d : D} (so : SimO w.K φ w.ex H S) (r : RE w φ H S v d) (h : isL d S = true) : ∃ n ds vs, d = .obj n ∧ v = .ref (φ n) ∧ get S n = some (.lst ds) ∧ H (φ n) = some (.lst vs) ∧ RpA w.K φ w.ex H vs ds := by
  obtain ⟨r, b⟩ := r
  cases d with
  | obj n =>
    cases r
    simp only [isL] at h
    split at h
    · rename_i xs e
      obtain ⟨vs, h1, r1⟩ := so.ob n _ e
      exact ⟨n, xs, vs, rfl, rfl, e, h1, r1⟩
    · cases h
  | _ => cases h
theorem fW {φ φ' : Nat → Addr} {S S' : Store} {H H' : Hp} {σ : L2.St} {d : D} {v : V} {Q : VK} (g : Rg w xw W σ (RE w) φ S H (.ok d S') Q) (l : Lat φ φ' S S' H H') (so : SimO w.K φ' w.ex H' S') (r : Rp w.K φ' w.ex H' v d) (b : D.bel S'.length d = true) : Q v H' := g v φ' H' l so ⟨r, b⟩
theorem se_app (hK : w.K = X.K) (ho : PE X o (tE w xw C W x)) (ha : PE X a (tE w xw C W y)) (h1 : okX a = true) (hb : attributeBase o "append" X.env (eval o X.env) = eval o X.env) (hl : (apos.endLine == pos.line) = true) :
    PE X (.Call (.Attribute o "append" apos) [a] [] pos) (tE w xw C W (.app x y)) :=
  peI (pe_bm PySem.F.plainAttrs_list PySem.F.slot_list_append PySem.F.type_list_append mt_append ho (pa_cons ha pa_nil (star_ok h1)) hb (few_ok h1) hl (star_ok h1) rfl) fun σ H Q ⟨φ, env, S, m, g⟩ => by
    refine tE.then m g fun v d S1 φ1 H1 l1 m1 r1 g => ?_
    obtain ⟨hi, g⟩ := Rg.ite (c := isL d S1 = true) g
    obtain ⟨n, ds, vs, rfl, rfl, en, hH, rv⟩ := isL_ok m1.o r1 hi
    refine ⟨.inl ⟨rfl, vs, SqL.of hH⟩, ?_⟩
    refine tE.then m1 g fun u d2 S2 φ2 H2 l2 m2 r2 g => ?_
    have g : Rg w xw W σ (RE w) φ2 S2 H2 (match get S2 n with
      | some (.lst xs) => if xs.length < line then .ok .non (put S2 n (.lst (xs ++ [d2]))) else .bad
      | _ => .bad) Q := g
    split at g
    · rename_i ys e2
      obtain ⟨hl2, g⟩ := Rg.ite g
      obtain ⟨us, h2, ru⟩ := m2.o.ob n _ e2
      have hn : n < S1.length := get_lt en
      rw [l2.same n hn] at h2
      have b3 : D.bels S2.length (ys ++ [d2]) = true := bels_all.mpr fun d hd => (List.mem_append.mp hd).elim (bels_all.mp (m2.o.wf n _ e2) d) (fun z => by rw [List.mem_singleton.mp z]; exact r2.2)
      obtain ⟨lw, sw⟩ := m2.o.write (n := n) (o := .lst ys) (o' := .lst (ys ++ [d2])) (u := .lst (us ++ [u])) e2 rfl b3 fun w' hw => ⟨us ++ [u], upd_same, (ru.append (.cons r2.1 .nil)).mono b3 (fun _ _ => rfl) (Kp.set hw (by rw [l2.same n hn, h2] at hw; cases hw; trivial))⟩
      rw [l2.same n hn] at lw sw
      exact ⟨φ1 n, us, u, rfl, rfl, h2, by rw [ru.length, line_eq]; exact hl2, fW g lw sw .non rfl⟩
    · exact g.elim
theorem se_ext (hK : w.K = X.K) (ho : PE X o (tE w xw C W x)) (ha : PE X a (tE w xw C W y)) (h1 : okX a = true) (hb : attributeBase o "extend" X.env (eval o X.env) = eval o X.env) (hl : (apos.endLine == pos.line) = true) :
    PE X (.Call (.Attribute o "extend" apos) [a] [] pos) (tE w xw C W (.ext x y)) :=
  peI (pe_bm PySem.F.plainAttrs_list PySem.F.slot_list_extend PySem.F.type_list_extend mt_extend ho (pa_cons ha pa_nil (star_ok h1)) hb (few_ok h1) hl (star_ok h1) rfl) fun σ H Q ⟨φ, env, S, m, g⟩ => by
    refine tE.then m g fun v d S1 φ1 H1 l1 m1 r1 g => ?_
    obtain ⟨hi, g⟩ := Rg.ite (c := isL d S1 = true) g
    obtain ⟨n, ds, vs, rfl, rfl, en, hH, rv⟩ := isL_ok m1.o r1 hi
    refine ⟨.inl ⟨rfl, vs, SqL.of hH⟩, ?_⟩
    refine tE.then m1 g fun u d2 S2 φ2 H2 l2 m2 r2 g => ?_
    cases d2 <;> first | exact g.elim | skip
    rename_i k
    have g : Rg w xw W σ (RE w) φ2 S2 H2 (match get S2 n, get S2 k with
      | some (.lst xs), some (.lst ys) => if xs.length + ys.length ≤ line then .ok .non (put S2 n (.lst (xs ++ ys))) else .bad
      | _, _ => .bad) Q := g
    split at g
    · rename_i ys zs e2 e3
      obtain ⟨hl2, g⟩ := Rg.ite g
      obtain ⟨us, h2, ru⟩ := m2.o.ob n _ e2
      obtain ⟨ws, h3, rw3⟩ := m2.o.ob k _ e3
      cases r2.1
      have hn : n < S1.length := get_lt en
      rw [l2.same n hn] at h2
      have b3 : D.bels S2.length (ys ++ zs) = true := bels_all.mpr fun d hd => (List.mem_append.mp hd).elim (bels_all.mp (m2.o.wf n _ e2) d) (bels_all.mp (m2.o.wf k _ e3) d)
      obtain ⟨lw, sw⟩ := m2.o.write (n := n) (o := .lst ys) (o' := .lst (ys ++ zs)) (u := .lst (us ++ ws)) e2 rfl b3 fun w' hw => ⟨us ++ ws, upd_same, (ru.append rw3).mono b3 (fun _ _ => rfl) (Kp.set hw (by rw [l2.same n hn, h2] at hw; cases hw; trivial))⟩
      rw [l2.same n hn] at lw sw
      exact ⟨φ1 n, φ2 k, us, ws, rfl, rfl, h2, h3, by rw [ru.length, rw3.length, line_eq]; exact hl2, fW g lw sw .non rfl⟩
    · exact g.elim
theorem se_pop (hK : w.K = X.K) (ho : PE X o (tE w xw C W x)) (hb : attributeBase o "pop" X.env (eval o X.env) = eval o X.env) (hl : (apos.endLine == pos.line) = true) :
    PE X (.Call (.Attribute o "pop" apos) [] [] pos) (tE w xw C W (.pop x)) :=
  peI (pe_bm0 PySem.F.plainAttrs_list PySem.F.slot_list_pop PySem.F.type_list_pop mt_pop ho hb hl) fun σ H Q ⟨φ, env, S, m, g⟩ => by
    refine tE.then m g fun v d S1 φ1 H1 l1 m1 r1 g => ?_
    obtain ⟨hi, g⟩ := Rg.ite (c := isL d S1 = true) g
    obtain ⟨n, ds, vs, rfl, rfl, en, hH, rv⟩ := isL_ok m1.o r1 hi
    refine ⟨.inl ⟨rfl, vs, SqL.of hH⟩, ?_⟩
    have g : Rg w xw W σ (RE w) φ1 S1 H1 (match get S1 n with
      | some (.lst xs) => (match xs.getLast? with
        | some v => .ok v (put S1 n (.lst xs.dropLast))
        | none => .bad)
      | _ => .bad) Q := g
    rw [en] at g
    dsimp only at g
    cases eg : ds.getLast? with
    | none => rw [eg] at g; exact g.elim
    | some d2 =>
      rw [eg] at g
      rw [List.getLast?_eq_getElem?] at eg
      obtain ⟨u, hu, ru⟩ := rv.get d2 eg
      have bd : D.bels S1.length ds = true := m1.o.wf n _ en
      have b3 : D.bels S1.length ds.dropLast = true := bels_all.mpr fun d hd => bels_all.mp bd d (List.dropLast_subset _ hd)
      have rdl : RpA w.K φ1 w.ex H1 vs.dropLast ds.dropLast := by
        rw [List.dropLast_eq_take, List.dropLast_eq_take, rv.length]
        exact rv.take _
      obtain ⟨lw, sw⟩ := m1.o.write (n := n) (o := .lst ds) (o' := .lst ds.dropLast) (u := .lst vs.dropLast) en rfl b3 fun w' hw => ⟨vs.dropLast, upd_same, rdl.mono b3 (fun _ _ => rfl) (Kp.set hw (by rw [hH] at hw; cases hw; trivial))⟩
      have bu : D.bel S1.length d2 = true := bels_all.mp bd d2 (List.mem_of_getElem? eg)
      exact ⟨φ1 n, vs, u, rfl, rfl, hH, by rw [rv.length]; exact hu, fW g lw sw (ru.lat bu lw) (by rw [put_length]; exact bu)⟩
/-! ### texts -/
theorem isS_ok {φ : Nat → Addr} {H : Hp} {S : Store} {v : V} {d : D} (r : RE w φ H S v d) (h : isS d = true) : ∃ t : Str, d = .str t.cps.toList ∧ v = .str t := by
  cases d with
  | str t =>
    obtain ⟨z, rfl, rfl⟩ := rp_inv r.1
    exact ⟨z, rfl, rfl⟩
  | _ => cases h
theorem sw_ok (x y : Str) : Txt.startswith x y = y.cps.toList.isPrefixOf x.cps.toList := by
  unfold Txt.startswith
  rw [StrLaws.subAt_eq, List.drop_zero, str_len, str_len]
  rw [Bool.eq_iff_iff]
  simp only [Bool.and_eq_true, decide_eq_true_eq, beq_iff_eq, List.isPrefixOf_iff_prefix]
  constructor
  · rintro ⟨_, h⟩
    rw [← h]
    exact List.take_prefix _ _
  · intro h
    exact ⟨by have := h.length_le; omega, (List.prefix_iff_eq_take.mp h).symm⟩
theorem se_sw (ho : PE X o (tE w xw C W x)) (ha : PE X a (tE w xw C W y)) (h1 : okX a = true) (hb : attributeBase o "startswith" X.env (eval o X.env) = eval o X.env) (hl : (apos.endLine == pos.line) = true) :
    PE X (.Call (.Attribute o "startswith" apos) [a] [] pos) (tE w xw C W (.sw x y)) :=
  peI (pe_bm PySem.F.plainAttrs_str PySem.F.slot_str_startswith PySem.F.type_str_startswith mt_startswith ho (pa_cons ha pa_nil (star_ok h1)) hb (few_ok h1) hl (star_ok h1) rfl) fun σ H Q ⟨φ, env, S, m, g⟩ => by
    refine tE.then m g fun v d S1 φ1 H1 l1 m1 r1 g => ?_
    obtain ⟨hi, g⟩ := Rg.ite (c := isS d = true) g
    obtain ⟨t, rfl, rfl⟩ := isS_ok r1 hi
    refine ⟨rfl, ?_⟩
    refine tE.then m1 g fun u d2 S2 φ2 H2 l2 m2 r2 g => ?_
    obtain ⟨k, hk, g⟩ := g.ofb
    cases d2 <;> first | cases hk; done | skip
    obtain ⟨z, rfl, rfl⟩ := rp_inv r2.1
    cases hk
    refine ⟨t, z, rfl, rfl, ?_⟩
    rw [sw_ok]
    exact fBl g m2.o
theorem strs_of {φ : Nat → Addr} {H : Hp} : ∀ {ds : List D} {vs : List V} {ts : List (List Nat)}, RpA w.K φ w.ex H vs ds → strsD ds = some ts → ∃ ys : List Str, vs = ys.map V.str ∧ ts = ys.map fun y => y.cps.toList
  | [], _, _, .nil, h => by cases h; exact ⟨[], rfl, rfl⟩
  | d :: ds, _, ts, .cons q r, h => by
    cases d with
    | str s =>
      obtain ⟨ts', hb, rfl⟩ := Option.map_eq_some_iff.mp (show (strsD ds).map (s :: ·) = some ts from h)
      obtain ⟨ys, rfl, rfl⟩ := strs_of r hb
      obtain ⟨z, rfl, rfl⟩ := rp_inv q
      exact ⟨z :: ys, rfl, rfl⟩
    | _ => cases h
theorem join_ok (s : Str) : ∀ ys : List Str, (Txt.join s ys).cps.toList = joinS s.cps.toList (ys.map fun y => y.cps.toList) := by
  intro ys
  show (Builtin.Str.glued s ys).cps.toList = _
  rw [StrLaws.glued_eq_join]
  induction ys with
  | nil => rfl
  | cons y r ih => cases r with
    | nil => rfl
    | cons y2 r =>
      show ((y ++ s ++ Str.join s (y2 :: r) : Str)).cps.toList = _
      rw [toList_app, toList_app, ih]
      rfl
theorem se_join {l : Src} (hK : w.K = X.K) (ho : PE X o (tE w xw C W x)) (ha : PE X a (tS w xw C W l)) (h1 : okX a = true) (hb : attributeBase o "join" X.env (eval o X.env) = eval o X.env) (hl : (apos.endLine == pos.line) = true) :
    PE X (.Call (.Attribute o "join" apos) [a] [] pos) (tE w xw C W (.join x l)) :=
  peI (pe_bm PySem.F.plainAttrs_str PySem.F.slot_str_join PySem.F.type_str_join mt_join ho (pa_cons ha pa_nil (star_ok h1)) hb (few_ok h1) hl (star_ok h1) rfl) fun σ H Q ⟨φ, env, S, m, g⟩ => by
    refine tE.then m g fun v d S1 φ1 H1 l1 m1 r1 g => ?_
    obtain ⟨hi, g⟩ := Rg.ite (c := isS d = true) g
    obtain ⟨t, rfl, rfl⟩ := isS_ok r1 hi
    refine ⟨rfl, ?_⟩
    refine tS.then m1 g fun u q S2 φ2 H2 l2 m2 r2 g => ?_
    obtain ⟨bb, a', vs, rfl, hs, rv⟩ := r2
    cases et : strsD q.1 with
    | none => rw [et] at g; exact g.elim
    | some ts =>
      rw [et] at g
      obtain ⟨hl2, g⟩ := Rg.ite (c := (ts.map (·.length)).sum + ts.length * t.cps.toList.length ≤ line) g
      obtain ⟨ys, rfl, rfl⟩ := strs_of rv et
      refine ⟨t, a', ys, rfl, rfl, hK ▸ hs, ?_, fE g m2.o (rp_str (join_ok t ys)) rfl⟩
      rw [List.map_map, List.length_map] at hl2
      have e1 : (List.length ∘ fun y : Str => y.cps.toList) = fun y : Str => y.length := by funext y; exact (str_len y).symm
      rw [e1, ← str_len] at hl2
      exact hl2
end
end Pw
end
section
set_option Elab.async false
set_option linter.all false
set_option maxRecDepth 100000
set_option maxHeartbeats 1000000
set_option autoImplicit false
/-! Pw14: slices, isinstance, sums, sorting -/
namespace Pw
open PySem PySem.Spec PyProof.Rows L2
variable {w : Wo} {xw : Xw} {C : Ctx} {W : WX} {X : Cx}
section
variable {e a b c o : Expr} {es : List Expr} {x y z : Exp} {xs : List Exp} {pos p apos p2 : Pos}
/-! ### slices -/
def tO (w : Wo) (xw : Xw) (C : Ctx) (W : WX) (x : Option Exp) : TO := fun σ H Q => ∃ φ env S, Sim w.K φ w.ex H S σ env ∧ Rg w xw W σ (fun φ H S (v : Option Int) (d : Option D) => d = v.map .int) φ S H (evO C x env S) Q
theorem so_none : PO X none (tO w xw C W none) := ⟨fun pins s σ H Q I ⟨φ, env, S, m, g⟩ => po_none.run pins s σ H Q I (g none φ H Lat.refl m.o rfl)⟩
theorem so_some (h : PE X a (tE w xw C W x)) : PO X (some a) (tO w xw C W (some x)) := ⟨fun pins s σ H Q I ⟨φ, env, S, m, g⟩ => (po_some h).run pins s σ H Q I (by
  refine tE.then m g fun v d S1 φ1 H1 l1 m1 r1 g => ?_
  cases d <;> first | exact g.elim | skip
  rename_i i
  cases r1.1
  exact ⟨i, rfl, g (some i) φ1 H1 Lat.refl m1.o rfl⟩)⟩
theorem tO.then {γ δ : Type} {R2 : (Nat → Addr) → Hp → Store → δ → γ → Prop} {φ : Nat → Addr} {S : Store} {H : Hp} {σ : L2.St} {env : Env} {l : Option Exp} {k : Option D → Store → Res γ} {Q : δ → Hp → Prop} {Q' : Option Int → Hp → Prop} (m : Sim w.K φ w.ex H S σ env) (h : Rg w xw W σ R2 φ S H ((evO C l env S).bind k) Q)
    (f : ∀ (v : Option Int) S1 φ1 H1, Lat φ φ1 S S1 H H1 → Sim w.K φ1 w.ex H1 S1 σ env → Rg w xw W σ R2 φ1 S1 H1 (k (v.map .int) S1) Q → Q' v H1) : tO w xw C W l σ H Q' :=
  ⟨φ, env, S, m, h.bind fun v d S1 φ1 H1 l so r g => f v S1 φ1 H1 l (m.lat l so) (by cases r; exact g)⟩
theorem se_sl {lo hi : Option Expr} {xl xh : Option Exp} (hK : w.K = X.K) (ha : PE X a (tE w xw C W x)) (hl : PO X lo (tO w xw C W xl)) (hh : PO X hi (tO w xw C W xh)) : PE X (.Subscript a (.Slice lo hi none p2) pos) (tE w xw C W (.sl x xl xh)) :=
  peI (pe_slice (slR hK) ha hl hh) fun σ H Q ⟨φ, env, S, m, g⟩ => by
    refine tE.then m g fun v d S1 φ1 H1 l1 m1 r1 g => ?_
    refine tO.then m1 g fun lo' S2 φ2 H2 l2 m2 g => ?_
    refine tO.then m2 g fun hi' S3 φ3 H3 l3 m3 g => ?_
    exact ⟨φ3, S3, d, m3.o, r1.lat (l2.trans l3), g.g0⟩
/-! ### isinstance -/
def tyN (S : Store) : D → Option String
  | .non => some "NoneType"
  | .bl _ => some "bool"
  | .int _ => some "int"
  | .str _ => some "str"
  | .tup _ => some "tuple"
  | .obj n => (match get S n with
    | some (.lst _) => some "list"
    | some (.ro _) => some "list"
    | some (.dct _) => some "dict"
    | _ => none)
  | .exc _ _ => none
theorem tyX_of {φ : Nat → Addr} {H : Hp} {S : Store} {v : V} {d : D} {n : String} (so : SimO w.K φ w.ex H S) (r : Rp w.K φ w.ex H v d) (h : tyN S d = some n) : TyX w.K H v (.type n) := by
  cases d with
  | non => cases r; cases h; exact .base .non
  | bl b => cases r; cases h; exact .base (.bl _)
  | int i => cases r; cases h; exact .base (.int _)
  | str s =>
    obtain ⟨z, rfl, rfl⟩ := rp_inv r
    cases h; exact .base (.str _)
  | tup ds =>
    cases r with
    | tup h1 r1 =>
      cases h
      rcases h1 with (h1 | ⟨o, h1⟩) | ⟨o, its, n, h1, h2, _⟩
      · exact .base (.tup h1)
      · exact .fTuple h1
      · exact .kTuple h1 h2
  | obj k =>
    cases r
    simp only [tyN] at h
    split at h
    · rename_i xs e
      obtain ⟨vs, h1, _⟩ := so.ob k _ e
      cases h; exact .base (.lst h1)
    · rename_i xs e
      obtain ⟨vs, ⟨o, h1⟩, _⟩ := so.ob k _ e
      cases h; exact .base (.frz h1)
    · rename_i xs e
      obtain ⟨ws, h1, _⟩ := so.ob k _ e
      cases h; exact .base (.dK h1)
    · cases h
  | exc c fs => cases h
def kdN : Kd → Option String
  | .int => some "int" | .bool => some "bool" | .str => some "str" | .tuple => some "tuple" | .list => some "list" | .dict => some "dict" | .set => none | .own _ => none
theorem tyN_some {φ : Nat → Addr} {H : Hp} {S : Store} {v : V} {d : D} (so : SimO w.K φ w.ex H S) (r : RE w φ H S v d) (he : ∀ c fs, d ≠ .exc c fs) : ∃ n, tyN S d = some n := by
  cases d with
  | obj n =>
    have hn : n < S.length := by have := r.2; simpa [D.bel] using this
    obtain ⟨o, e⟩ := get_some hn
    have ho := so.ob n o e
    simp only [tyN, e]
    cases o with
    | lst xs => exact ⟨_, rfl⟩
    | ro xs => exact ⟨_, rfl⟩
    | dct xs => exact ⟨_, rfl⟩
    | set xs => exact ho.elim
    | ins _ _ => exact ho.elim
  | exc c fs => exact absurd rfl (he c fs)
  | _ => exact ⟨_, rfl⟩
theorem kd_ok {Cl : Classes} {S : Store} {d : D} {k : Kd} {T n : String} {r : Bool} (hT : kdN k = some T) (h : isKd Cl S d k = some r) (hn : tyN S d = some n) : kitB n T = some r := by
  cases d with
  | obj m =>
    simp only [tyN] at hn
    split at hn
    all_goals first | (cases hn; done) | skip
    all_goals (rename_i e; cases hn)
    all_goals (cases k <;> first | (cases hT; done) | skip)
    all_goals (cases hT; simp only [isKd, e] at h; cases h; decide +kernel)
  | exc c fs => cases hn
  | _ =>
    cases hn
    cases k <;> first | (cases hT; done) | (cases hT; cases h; decide +kernel)
theorem bt_int : bootBuiltins "int" = some (.type "int") := bb_int
theorem bt_bool : bootBuiltins "bool" = some (.type "bool") := by decide +kernel
theorem bt_dict : bootBuiltins "dict" = some (.type "dict") := by decide +kernel
theorem pe_ty {n : Str} {T : String} (hg : Gl X n) (hm : X.mg n = none) (hv : bootBuiltins n = some (.type T)) (hn : okName n = true) : PE X (.Name n p) (tC (.ty T)) := pe_bltn hg hm hv rfl (okName_ok hn).2.2 (okName_ok hn).1
theorem se_isB {n : Str} {k : Kd} {T : String} {p1 : Pos} (hK : w.K = X.K) (gl : Gl X "isinstance") (hm : X.mg "isinstance" = none) (ha : PE X a (tE w xw C W x)) (hg : Gl X n) (hmn : X.mg n = none) (hv : bootBuiltins n = some (.type T)) (hT : kdN k = some T) (hn : okName n = true) (h1 : okX a = true) :
    PE X (.Call (.Name "isinstance" p) [a, .Name n p1] [] pos) (tE w xw C W (.isI x [k])) :=
  peI (cb2 call_isi gl hm bb_isi ha (pe_ty hg hmn hv hn) (by decide) h1 rfl) fun σ H Q ⟨φ, env, S, m, g⟩ => by
    refine tE.then m g fun v d S1 φ1 H1 l1 m1 r1 g => ?_
    obtain ⟨r, hr, g⟩ := g.ofb
    have hr : ((isKd C.Cl S1 d k).bind fun b => if b then some true else some false) = some r := hr
    cases ek : isKd C.Cl S1 d k with
    | none => rw [ek] at hr; cases hr
    | some r' =>
      rw [ek] at hr
      have : r' = r := by cases r' <;> (cases hr; rfl)
      subst this
      obtain ⟨nm, h2⟩ := tyN_some m1.o r1 fun c fs z => by subst z; cases k <;> first | (cases hT; done) | (cases ek; done)
      have h3 := kd_ok hT ek h2
      exact ⟨v, .ty T, .type nm, .type T, r', rfl, .ty T, hK ▸ tyX_of m1.o r1.1 h2, kit_ty h3, fBl g m1.o⟩
/-! ### sums -/
theorem ints_of {φ : Nat → Addr} {H : Hp} : ∀ {ds : List D} {vs : List V} {ns : List Int}, RpA w.K φ w.ex H vs ds → intsD ds = some ns → vs = ns.map V.int ∧ ds = ns.map .int
  | [], _, _, .nil, h => by cases h; exact ⟨rfl, rfl⟩
  | d :: ds, _, ns, .cons q r, h => by
    cases d with
    | int i =>
      obtain ⟨ns', hb, rfl⟩ := Option.map_eq_some_iff.mp (show (intsD ds).map (i :: ·) = some ns from h)
      obtain ⟨rfl, rfl⟩ := ints_of r hb
      cases q
      exact ⟨rfl, rfl⟩
    | _ => cases h
theorem se_sum {l : Src} (hK : w.K = X.K) (hc : X.calm = true) (gl : Gl X "sum") (hm : X.mg "sum" = none) (ha : PE X a (tL w xw C W l)) (h1 : okX a = true) : PE X (.Call (.Name "sum" p) [a] [] pos) (tE w xw C W (.sumOf l)) :=
  peI (cb1 (cr_sum hc) gl hm bb_sum ha (by decide) h1) fun σ H Q ⟨φ, env, S, m, g⟩ => by
    refine tL.then m g fun v q S1 φ1 H1 l1 m1 r1 g => ?_
    obtain ⟨b, a, vs, rfl, h, r⟩ := r1
    obtain ⟨ns, hb, g⟩ := g.ofb
    obtain ⟨rfl, _⟩ := ints_of r hb
    exact ⟨a, ns, rfl, hK ▸ h, fInt g m1.o⟩
theorem foldl_max_mem : ∀ (l : List Int) (x : Int), l.foldl max x ∈ x :: l
  | [], x => by simp
  | y :: l, x => by
    have := foldl_max_mem l (max x y)
    simp only [List.foldl_cons, List.mem_cons] at this ⊢
    rcases this with h | h
    · by_cases z : x ≤ y
      · right; left; rw [h]; omega
      · left; rw [h]; omega
    · exact .inr (.inr h)
theorem foldl_max_le : ∀ (l : List Int) (x : Int), ∀ y ∈ x :: l, y ≤ l.foldl max x
  | [], x, y, h => by simp at h; simp [h]
  | z :: l, x, y, h => by
    have k := foldl_max_le l (max x z)
    simp only [List.mem_cons, List.foldl_cons] at h k ⊢
    rcases h with rfl | rfl | h
    · have := k _ (.inl rfl); omega
    · have := k _ (.inl rfl); omega
    · exact k _ (.inr h)
theorem foldl_min_mem : ∀ (l : List Int) (x : Int), l.foldl min x ∈ x :: l
  | [], x => by simp
  | y :: l, x => by
    have := foldl_min_mem l (min x y)
    simp only [List.foldl_cons, List.mem_cons] at this ⊢
    rcases this with h | h
    · by_cases z : x ≤ y
      · left; rw [h]; omega
      · right; left; rw [h]; omega
    · exact .inr (.inr h)
theorem foldl_min_le : ∀ (l : List Int) (x : Int), ∀ y ∈ x :: l, l.foldl min x ≤ y
  | [], x, y, h => by simp at h; simp [h]
  | z :: l, x, y, h => by
    have k := foldl_min_le l (min x z)
    simp only [List.mem_cons, List.foldl_cons] at h k ⊢
    rcases h with rfl | rfl | h
    · have := k _ (.inl rfl); omega
    · have := k _ (.inl rfl); omega
    · exact k _ (.inr h)
theorem se_maxL {l : Src} (hK : w.K = X.K) (hc : X.calm = true) (gl : Gl X "max") (hm : X.mg "max" = none) (ha : PE X a (tL w xw C W l)) (h1 : okX a = true) : PE X (.Call (.Name "max" p) [a] [] pos) (tE w xw C W (.maxOf l)) :=
  peI (cb1 (cr_max hc) gl hm bb_max ha (by decide) h1) fun σ H Q ⟨φ, env, S, m, g⟩ => by
    refine tL.then m g fun v q S1 φ1 H1 l1 m1 r1 g => ?_
    obtain ⟨b, a, vs, rfl, h, r⟩ := r1
    cases e : intsD q.1 with
    | none => rw [e] at g; exact g.elim
    | some ns => cases ns with
      | nil => rw [e] at g; exact g.elim
      | cons x t =>
        rw [e] at g
        obtain ⟨rfl, _⟩ := ints_of r e
        refine ⟨a, x :: t, rfl, hK ▸ h, by simp, fun mx h2 h3 => ?_⟩
        have : mx = t.foldl max x := by
          have k1 := h3 _ (foldl_max_mem t x)
          have k2 := foldl_max_le t x _ h2
          omega
        subst this
        exact fInt g m1.o
/-! ### a list's value -/
theorem sl_val (h : PE X e (tE w xw C W x)) : PE X e (tL w xw C W (.lis x)) := peI h fun σ H Q ⟨φ, env, S, m, g⟩ => by
  refine tE.then m g fun v d S1 φ1 H1 l1 m1 r1 g => ?_
  obtain ⟨hi, g⟩ := Rg.ite (c := isLs d S1 = true) g
  obtain ⟨p, hp, g2⟩ := g.of
  obtain ⟨xs, hx, rfl⟩ := Option.map_eq_some_iff.mp hp
  obtain ⟨n, rfl⟩ : ∃ n, d = .obj n := by cases d <;> first | exact ⟨_, rfl⟩ | (cases hi; done)
  refine g2 v φ1 H1 Lat.refl m1.o ?_
  cases r1.1
  simp only [seqD] at hx
  split at hx
  · rename_i ys e
    cases hx
    obtain ⟨vs, h1, r1⟩ := m1.o.ob n _ e
    exact ⟨m1.o.wf n _ e, _, vs, rfl, SqL.of h1, r1⟩
  · rename_i ys e
    cases hx
    obtain ⟨vs, h1, r1⟩ := m1.o.ob n _ e
    exact ⟨m1.o.wf n _ e, _, vs, rfl, h1.sq, r1⟩
  · cases hx
end
end Pw
end
section
set_option Elab.async false
set_option linter.all false
set_option maxRecDepth 100000
set_option maxHeartbeats 1000000
set_option autoImplicit false
/-! Pw15: sorting, dicts -/
namespace Pw
open PySem PySem.Spec PyProof.Rows L2
variable {w : Wo} {xw : Xw} {C : Ctx} {W : WX} {X : Cx}
section
variable {e a b c o : Expr} {es : List Expr} {x y z : Exp} {xs : List Exp} {pos p apos p2 : Pos}
theorem sort_ints {ns ns' : List Int} (h1 : ns'.Perm ns) (h2 : ns'.Pairwise (· ≤ ·)) : ns' = ns.mergeSort fun a b => decide (a ≤ b) := by
  have h3 : (ns.mergeSort fun a b => decide (a ≤ b)).Pairwise (· ≤ ·) :=
    (List.pairwise_mergeSort (le := fun a b : Int => decide (a ≤ b)) (fun a b c h1 h2 => by simp only [decide_eq_true_eq] at *; omega) (fun a b => by simp only [Bool.or_eq_true, decide_eq_true_eq]; omega) ns).imp fun h => of_decide_eq_true h
  exact List.Perm.eq_of_pairwise (le := (· ≤ ·)) (fun a b _ _ h1 h2 => by omega) h2 h3 (h1.trans (List.mergeSort_perm _ _).symm)
theorem ltCps_eq : ∀ a b : List Nat, ltCps a b = decide (a < b)
  | [], [] => by simp [ltCps]
  | [], _ :: _ => by simp [ltCps]
  | _ :: _, [] => by simp [ltCps]
  | a :: r, b :: t => by
    unfold ltCps
    rw [ltCps_eq r t, Bool.eq_iff_iff]
    simp only [Bool.or_eq_true, Bool.and_eq_true, decide_eq_true_eq, beq_iff_eq, List.cons_lt_cons_iff]
theorem pairwise_of_sortedS : ∀ l : List Str, sortedS l = true → l.Pairwise fun a b => ¬ b.cps.toList < a.cps.toList
  | [], _ => .nil
  | x :: r, h => by
    have key : ∀ (r : List Str) (x : Str), risingS x r = true → (x :: r).Pairwise fun a b => ¬ b.cps.toList < a.cps.toList := by
      intro r
      induction r with
      | nil => intro x _; exact List.pairwise_singleton _ _
      | cons y r ih =>
        intro x h
        have h : (!ltCps y.cps.toList x.cps.toList && risingS y r) = true := h
        simp only [Bool.and_eq_true, Bool.not_eq_true', ltCps_eq, decide_eq_false_iff_not] at h
        have h2 := ih y h.2
        refine List.pairwise_cons.mpr ⟨fun z hz => ?_, h2⟩
        rcases List.mem_cons.mp hz with rfl | hz
        · exact h.1
        · have h3 := List.rel_of_pairwise_cons h2 hz
          rw [List.not_lt] at h3 ⊢
          exact List.le_trans (List.not_lt.mp h.1) h3
    exact key r x h
theorem sort_strs {xs ys : List Str} (h1 : ys.Perm xs) (h2 : sortedS ys = true) : ys.map (fun y => y.cps.toList) = (xs.map fun y => y.cps.toList).mergeSort leL := by
  have h3 : ((xs.map fun y => y.cps.toList).mergeSort leL).Pairwise (fun a b => ¬ b < a) :=
    (List.pairwise_mergeSort (le := leL) (fun a b c h1 h2 => by
      simp only [leL, Bool.not_eq_true', decide_eq_false_iff_not, List.not_lt] at *
      exact List.le_trans h1 h2) (fun a b => by
      simp only [leL, Bool.or_eq_true, Bool.not_eq_true', decide_eq_false_iff_not, List.not_lt]
      exact List.le_total a b) _).imp fun h => by simpa [leL] using h
  have h4 : (ys.map fun y => y.cps.toList).Pairwise (fun a b => ¬ b < a) := List.pairwise_map.mpr (pairwise_of_sortedS ys h2)
  refine List.Perm.eq_of_pairwise (le := fun a b : List Nat => ¬ b < a) (fun a b _ _ h1 h2 => ?_) h4 h3 ((h1.map _).trans (List.mergeSort_perm _ _).symm)
  exact List.le_antisymm (List.not_lt.mp h1) (List.not_lt.mp h2)
theorem se_sorted {l : Src} (hK : w.K = X.K) (gl : Gl X "sorted") (hm : X.mg "sorted" = none) (ha : PE X a (tL w xw C W l)) (h1 : okX a = true) : PE X (.Call (.Name "sorted" p) [a] [] pos) (tE w xw C W (.sorted l)) :=
  peI (cb1 (r := fun xs H Q => rSortedI X.K xs H Q ∨ rSortedS X.K xs H Q) (fun pins s σ H xs us Q I r h => h.elim (cr_sortedI pins s σ H xs us Q I r) (cr_sortedS pins s σ H xs us Q I r)) gl hm bb_sorted ha (by decide) h1) fun σ H Q ⟨φ, env, S, m, g⟩ => by
    refine tL.then m g fun v q S1 φ1 H1 l1 m1 r1 g => ?_
    obtain ⟨b, a, vs, rfl, h, r⟩ := r1
    cases e : intsD q.1 with
    | some ns =>
      have es : sortD q.1 = some ((ns.mergeSort fun a b => decide (a ≤ b)).map .int) := by unfold sortD; rw [e]
      rw [es] at g
      obtain ⟨rfl, _⟩ := ints_of r e
      refine .inl ⟨a, ns, rfl, hK ▸ h, fun ns' p h2 h3 hp => ?_⟩
      rw [sort_ints h2 h3]
      refine Rg0.lst g.g0 m1.o ?_ (bels_map fun _ => rfl) hp
      generalize (ns.mergeSort fun a b => decide (a ≤ b)) = l
      induction l with
      | nil => exact .nil
      | cons n l ih => exact .cons (.int _) ih
    | none => cases e2 : strsD q.1 with
      | none =>
        have es : sortD q.1 = none := by unfold sortD; rw [e, e2]
        rw [es] at g
        exact g.elim
      | some ts =>
        have es : sortD q.1 = if ts.length < 64 then some ((ts.mergeSort leL).map .str) else none := by unfold sortD; rw [e, e2]
        rw [es] at g
        split at g
        · rename_i y heq
          split at heq
          · rename_i h64
            cases heq
            obtain ⟨ys, rfl, rfl⟩ := strs_of r e2
            rw [List.length_map] at h64
            refine .inr ⟨a, ys, rfl, hK ▸ h, h64, fun ys' p h2 h3 hp => ?_⟩
            rw [← sort_strs h2 h3] at g
            refine Rg0.lst g.g0 m1.o ?_ (bels_map fun _ => rfl) hp
            rw [List.map_map]
            clear g h2 h3
            induction ys' with
            | nil => exact .nil
            | cons n l ih => exact .cons (.str _) ih
          · cases heq
        · exact g.elim
end
end Pw
end
section
set_option Elab.async false
set_option linter.all false
set_option maxRecDepth 100000
set_option maxHeartbeats 1000000
set_option autoImplicit false
/-! Pw16: statements -/
namespace Pw
open PySem PySem.Spec PyProof.Rows L2
variable {w : Wo} {xw : Xw} {C : Ctx} {W : WX} {X : Cx}
/-- what a statement's end is to reach -/
def RgS (w : Wo) (xw : Xw) (W : WX) (φ : Nat → Addr) (S : Store) (H : Hp) (r : Res Pw.Flow) (D0 : Ends) : Prop := match r with
  | .ok (.nx env) S' => ∀ φ' H' σ', Lat φ φ' S S' H H' → Sim w.K φ' w.ex H' S' σ' env → D0.nx σ' H'
  | .ok (.bk env) S' => ∀ φ' H' σ', Lat φ φ' S S' H H' → Sim w.K φ' w.ex H' S' σ' env → D0.bk σ' H'
  | .ok (.ct env) S' => ∀ φ' H' σ', Lat φ φ' S S' H H' → Sim w.K φ' w.ex H' S' σ' env → D0.ct σ' H'
  | .ok (.rt d) S' => ∀ v φ' H', Lat φ φ' S S' H H' → SimO w.K φ' w.ex H' S' → RE w φ' H' S' v d → D0.rt v H'
  | .ok (.ex c fs env) S' => ∀ φ' H' σ' cls dd, Lat φ φ' S S' H H' → Sim w.K φ' w.ex H' S' σ' env → XR w xw φ' H' S' c fs cls dd → W cls dd σ' H'
  | _ => False
def tSt (w : Wo) (xw : Xw) (C : Ctx) (W : WX) (s : Stm) : TS := fun D0 σ H => ∃ φ env S, Sim w.K φ w.ex H S σ env ∧ RgS w xw W φ S H (evS C s env S) D0
def tSts (w : Wo) (xw : Xw) (C : Ctx) (W : WX) (s : List Stm) : TS := fun D0 σ H => ∃ φ env S, Sim w.K φ w.ex H S σ env ∧ RgS w xw W φ S H (evSs C s env S) D0
section
variable {φ φ1 : Nat → Addr} {S S1 : Store} {H H1 : Hp} {D0 : Ends} {σ : L2.St} {env : Env}
theorem RgS.later {r : Res Pw.Flow} (h : RgS w xw W φ S H r D0) (l : Lat φ φ1 S S1 H H1) : RgS w xw W φ1 S1 H1 r D0 := by
  cases r with
  | ok f S' => cases f with
    | nx env => exact fun φ' H' σ' l2 => h φ' H' σ' (l.trans l2)
    | bk env => exact fun φ' H' σ' l2 => h φ' H' σ' (l.trans l2)
    | ct env => exact fun φ' H' σ' l2 => h φ' H' σ' (l.trans l2)
    | rt d => exact fun v φ' H' l2 => h v φ' H' (l.trans l2)
    | ex c fs env => exact fun φ' H' σ' cls dd l2 => h φ' H' σ' cls dd (l.trans l2)
  | exc c fs S' => exact h
  | bad => exact h
/-- an expression within a statement -/
theorem RgS.st {α β : Type} {R : (Nat → Addr) → Hp → Store → β → α → Prop} {r : Res α} {k : α → Store → Res Pw.Flow} {Q' : β → Hp → Prop} (m : Sim w.K φ w.ex H S σ env) (h : RgS w xw W φ S H (r.st env k) D0)
    (f : ∀ b a S1 φ1 H1, Lat φ φ1 S S1 H H1 → Sim w.K φ1 w.ex H1 S1 σ env → R φ1 H1 S1 b a → RgS w xw W φ1 S1 H1 (k a S1) D0 → Q' b H1) : Rg w xw W σ R φ S H r Q' := by
  cases r with
  | ok a S' => exact fun b φ' H' l so ra => f b a S' φ' H' l (m.lat l so) ra (RgS.later (r := k a S') h l)
  | exc c fs S' => exact fun φ' H' cls dd l so x => h φ' H' σ cls dd l (m.lat l so) x
  | bad => exact h
theorem sE.then {x : Exp} {k : D → Store → Res Pw.Flow} {Q' : VK} (m : Sim w.K φ w.ex H S σ env) (h : RgS w xw W φ S H ((evE C x env S).st env k) D0)
    (f : ∀ v d S1 φ1 H1, Lat φ φ1 S S1 H H1 → Sim w.K φ1 w.ex H1 S1 σ env → RE w φ1 H1 S1 v d → RgS w xw W φ1 S1 H1 (k d S1) D0 → Q' v H1) : tE w xw C W x σ H Q' :=
  ⟨φ, env, S, m, h.st m f⟩
theorem sT.then {x : Tst} {k : Bool → Store → Res Pw.Flow} {Q' : Bool → Hp → Prop} (m : Sim w.K φ w.ex H S σ env) (h : RgS w xw W φ S H ((evT C x env S).st env k) D0)
    (f : ∀ b S1 φ1 H1, Lat φ φ1 S S1 H H1 → Sim w.K φ1 w.ex H1 S1 σ env → RgS w xw W φ1 S1 H1 (k b S1) D0 → Q' b H1) : tT w xw C W x σ H Q' :=
  ⟨φ, env, S, m, h.st m fun b a S1 φ1 H1 l m1 r g => by cases r; exact f _ S1 φ1 H1 l m1 g⟩
theorem RgS.nx {S' : Store} (h : RgS w xw W φ S H (.ok (.nx env) S') D0) (l : Lat φ φ1 S S' H H1) (m : Sim w.K φ1 w.ex H1 S' σ env) : D0.nx σ H1 := h φ1 H1 σ l m
end
theorem psI {st : Stmt} {t t' : TS} (h : PS X st t) (f : ∀ D0 σ H, t' D0 σ H → t D0 σ H) : PS X st t' := ⟨fun pins s σ H D0 I q => h.run pins s σ H D0 I (f _ _ _ q)⟩
theorem pssI {st : List Stmt} {t t' : TS} (h : PSs X st t) (f : ∀ D0 σ H, t' D0 σ H → t D0 σ H) : PSs X st t' := ⟨fun pins s σ H D0 I q => h.run pins s σ H D0 I (f _ _ _ q)⟩
section
variable {e a b c o : Expr} {es : List Expr} {x y z : Exp} {xs : List Exp} {pos p apos p2 : Pos} {st : Stmt} {sts : List Stmt} {s : Stm} {ss : List Stm}
theorem sss_nil : PSs X [] (tSts w xw C W []) := pssI pss_nil fun D0 σ H ⟨φ, env, S, m, g⟩ => RgS.nx g Lat.refl m
theorem sss_cons (h1 : PS X st (tSt w xw C W s)) (h2 : PSs X sts (tSts w xw C W ss)) : PSs X (st :: sts) (tSts w xw C W (s :: ss)) :=
  pssI (pss_cons h1 h2) fun D0 σ H ⟨φ, env, S, m, g⟩ => by
    refine ⟨φ, env, S, m, ?_⟩
    have g : RgS w xw W φ S H ((evS C s env S).bind fun fl S => match fl with
      | .nx env => evSs C ss env S
      | fl => .ok fl S) D0 := g
    cases r : evS C s env S with
    | ok f S' =>
      rw [r] at g
      cases f with
      | nx env2 => exact fun φ' H' σ' l m' => ⟨φ', env2, S', m', RgS.later (r := evSs C ss env2 S') g l⟩
      | bk env2 => exact g
      | ct env2 => exact g
      | rt d => exact g
      | ex c fs env2 => exact g
    | exc c fs S' => rw [r] at g; exact g
    | bad => rw [r] at g; exact g
theorem sst_pass : PS X (.Pass pos) (tSt w xw C W .pass) := psI ps_pass fun D0 σ H ⟨φ, env, S, m, g⟩ => RgS.nx g Lat.refl m
theorem sst_brk : PS X (.Break pos) (tSt w xw C W .brk) := psI ps_break fun D0 σ H ⟨φ, env, S, m, g⟩ => g φ H σ Lat.refl m
theorem sst_cont : PS X (.Continue pos) (tSt w xw C W .cont) := psI ps_continue fun D0 σ H ⟨φ, env, S, m, g⟩ => g φ H σ Lat.refl m
theorem sst_ex (ha : PE X a (tE w xw C W x)) (hs : swapsWith a none pos.line X.env = pure false) : PS X (.Expr a pos) (tSt w xw C W (.ex x)) :=
  psI (ps_expr ha hs) fun D0 σ H ⟨φ, env, S, m, g⟩ => sE.then m g fun v d S1 φ1 H1 l1 m1 r1 g => RgS.nx g Lat.refl m1
theorem sst_ret (ha : PE X a (tE w xw C W x)) : PS X (.Return (some a) pos) (tSt w xw C W (.ret x)) :=
  psI (ps_ret ha) fun D0 σ H ⟨φ, env, S, m, g⟩ => sE.then m g fun v d S1 φ1 H1 l1 m1 r1 g => g v φ1 H1 Lat.refl m1.o r1
theorem sst_retN : PS X (.Return none pos) (tSt w xw C W (.ret (.c .non))) :=
  psI ps_retN fun D0 σ H ⟨φ, env, S, m, g⟩ => g .non φ H Lat.refl m.o ⟨.non, rfl⟩
theorem sst_if {t : Tst} {sa sb : List Stm} {ta tb : List Stmt} (hc : PT X c (tT w xw C W t)) (ha : PSs X ta (tSts w xw C W sa)) (hb : PSs X tb (tSts w xw C W sb)) : PS X (.If c ta tb pos) (tSt w xw C W (.ite t sa sb)) :=
  psI (ps_if hc ha hb) fun D0 σ H ⟨φ, env, S, m, g⟩ => sT.then m g fun k S1 φ1 H1 l1 m1 g => by
    cases k with
    | true => exact ⟨φ1, env, S1, m1, g⟩
    | false => exact ⟨φ1, env, S1, m1, g⟩
/-- name = value, a, b = value -/
theorem sst_set {tg : Expr} {t : Tg} (ha : PE X a (tE w xw C W x)) (hg : PG X tg (gT w t)) (hs : swapsWithSole [tg] a pos.line X.env = pure false) (hw : swappedStores [tg] a X.env = pure none)
    (h1 : (assignEach [tg] X.env).map (·.2) = [assign tg X.env]) : PS X (.Assign [tg] a pos) (tSt w xw C W (.set t x)) :=
  psI (ps_asg ha hg hs hw h1) fun D0 σ H ⟨φ, env, S, m, g⟩ => sE.then m g fun v d S1 φ1 H1 l1 m1 r1 g => by
    cases hb : bind1 t d env with
    | none => rw [hb] at g; exact g.elim
    | some env2 =>
      rw [hb] at g
      exact ⟨φ1, S1, env, d, env2, m1, r1, hb, fun σ' m' _ => RgS.nx g Lat.refl m'⟩
/-- o[i] = value -/
def setR (w : Wo) : TSet := fun o i v H Q => ∃ φ S do' di dv, SimO w.K φ w.ex H S ∧ RE w φ H S o do' ∧ RE w φ H S i di ∧ RE w φ H S v dv ∧ ∃ S', setIxD do' di dv S = some S' ∧ ∀ H', Lat φ φ S S' H H' → SimO w.K φ w.ex H' S' → Q H'
theorem sst_setIx (hst : PSet X (setR w)) (ho : PE X o (tE w xw C W x)) (hi : PE X b (tE w xw C W y)) (ha : PE X a (tE w xw C W z)) (hs : swapsWithSole [.Subscript o b p] a pos.line X.env = pure false) (hw : swappedStores [.Subscript o b p] a X.env = pure none)
    (h1 : (assignEach [.Subscript o b p] X.env).map (·.2) = [assign (.Subscript o b p) X.env])
    (h2 : ∀ v, assign (.Subscript o b p) X.env v = (do
      let ov ← holding [v] (eval o X.env)
      let iv ← holding [v, ov] (eval b X.env)
      standAt p
      holding [v, ov, iv] (setItem ov iv v)
      release [v, ov, iv] [])) : PS X (.Assign [.Subscript o b p] a pos) (tSt w xw C W (.setIx x y z)) :=
  psI (ps_asg ha (pg_sub ho hi hst h2) hs hw h1) fun D0 σ H ⟨φ, env, S, m, g⟩ => by
    refine sE.then m g fun v d S1 φ1 H1 l1 m1 r1 g => ?_
    refine sE.then m1 g fun u d2 S2 φ2 H2 l2 m2 r2 g => ?_
    refine sE.then m2 g fun u3 d3 S3 φ3 H3 l3 m3 r3 g => ?_
    cases hb : setIxD d2 d3 d S3 with
    | none => rw [hb] at g; exact g.elim
    | some S4 =>
      rw [hb] at g
      exact ⟨φ3, S3, d2, d3, d, m3.o, r2.lat l3, r3, r1.lat (l2.trans l3), S4, hb, fun H' l so => RgS.nx g l (m3.lat l so)⟩
end
end Pw
end
section
set_option Elab.async false
set_option linter.all false
set_option maxRecDepth 100000
set_option maxHeartbeats 1000000
set_option autoImplicit false
/-! Pw17: loops -/
namespace Pw
open PySem PySem.Spec PyProof.Rows L2
variable {w : Wo} {xw : Xw} {C : Ctx} {W : WX} {X : Cx}
theorem okOld_ok {n : Nat} : ∀ {S T : Store}, okOld n S T = true → T.length = S.length ∧ ∀ m o, get T m = some o → get S m = some o ∨ o.bel n = true
  | [], [], _ => ⟨rfl, fun m o h => by cases h⟩
  | [], _ :: _, h => by cases h
  | _ :: _, [], h => by cases h
  | a :: r, b :: t, h => by
    simp only [okOld, Bool.and_eq_true, Bool.or_eq_true, decide_eq_true_eq] at h
    obtain ⟨h1, h2⟩ := okOld_ok h.2
    refine ⟨by simp [h1], fun m o hm => ?_⟩
    simp only [get] at hm ⊢
    rw [h1] at hm
    split at hm
    · rename_i e
      cases hm
      rw [if_pos e]
      exact h.1.imp (fun e => by rw [e]) id
    · rename_i e
      rw [if_neg e]
      exact h2 m o hm
section
variable {K : PySem.W.Frag} {ex : Ex1} {φ φ' : Nat → Addr} {S S' : Store} {H H' : Hp} {σ : L2.St} {env : Env}
/-- what was laid since S is forgotten -/
theorem SimO.drop (x : SimO K φ' ex H' S') (so : SimO K φ ex H S) (h : okOld S.length S (S'.drop (S'.length - S.length)) = true) : SimO K φ' ex H' (S'.drop (S'.length - S.length)) := by
  obtain ⟨hl, hb⟩ := okOld_ok h
  refine ⟨fun n o e => x.ob n o (by rw [← get_drop (get_lt e)]; exact e), fun n o e => ?_, fun m n om on em en => x.inj m n om on (by rw [← get_drop (get_lt em)]; exact em) (by rw [← get_drop (get_lt en)]; exact en)⟩
  rw [hl]
  rcases hb n o e with h1 | h1
  · exact so.wf n o h1
  · exact h1
theorem Lat.drop (l : Lat φ φ' S S' H H') {T : Store} (h : T.length = S.length) : Lat φ φ' S T H H' :=
  ⟨by rw [h]; exact Nat.le_refl _, l.same, l.kp, l.fr, fun n h1 h2 => absurd h2 (by omega), l.no⟩
theorem trim_ok (so : SimO K φ ex H S) (l : Lat φ φ' S S' H H') (m : Sim K φ' ex H' S' σ env) : Lat φ φ' S (trim S S' env) H H' ∧ Sim K φ' ex H' (trim S S' env) σ env := by
  unfold trim
  split
  · exact ⟨l, m⟩
  · split
    · rename_i h1 h2
      simp only [Bool.and_eq_true] at h2
      obtain ⟨hl, _⟩ := okOld_ok h2.2
      refine ⟨l.drop hl, m.o.drop so h2.2, m.e.len, fun i d hd => ?_, m.e.xs⟩
      obtain ⟨v, h3, h4, h5⟩ := m.e.at_ i d hd
      refine ⟨v, h3, h4, ?_⟩
      rw [hl]
      have h6 := h2.1
      unfold envBel at h6
      rw [List.all_eq_true] at h6
      exact h6 _ (List.mem_of_getElem? hd)
    · exact ⟨l, m⟩
theorem Sim.kill (m : Sim K φ ex H S σ env) (ks : List Nat) : Sim K φ ex H S σ (Pw.kill ks env) := ⟨m.o, m.e.kill ks⟩
end
section
variable {e a b c o : Expr} {es : List Expr} {x y z : Exp} {xs : List Exp} {pos p apos p2 : Pos} {st : Stmt} {sts : List Stmt} {s : Stm} {ss : List Stm}
/-- a turn's end -/
theorem turn_end {φ φ1 : Nat → Addr} {S S1 : Store} {H H1 : Hp} {σ : L2.St} {env : Env} {D0 : Ends} {ks : List Nat} {k : Env → Store → Res Pw.Flow} {r : Res Pw.Flow} {N : L2.St → Hp → Prop} (m : Sim w.K φ w.ex H S σ env) (l1 : Lat φ φ1 S S1 H H1)
    (g : RgS w xw W φ S H (r.bind fun fl S' => match fl with
      | .nx env => k (kill ks env) (trim S S' (kill ks env))
      | .ct env => k (kill ks env) (trim S S' (kill ks env))
      | .bk env => .ok (.nx (kill ks env)) S'
      | .rt d => .ok (.rt d) S'
      | .ex c fs env => .ok (.ex c fs env) S') D0)
    (hN : ∀ φ' σ' H' S' env', Lat φ φ' S S' H H' → Sim w.K φ' w.ex H' S' σ' env' → RgS w xw W φ' S' H' (k env' S') D0 → N σ' H') :
    RgS w xw W φ1 S1 H1 r { D0 with nx := N, ct := N, bk := D0.nx } := by
  cases r with
  | exc c fs S' => exact g.elim
  | bad => exact g.elim
  | ok f S' => cases f with
    | nx env2 =>
      intro φ' H' σ' l m'
      obtain ⟨l3, m3⟩ := trim_ok m.o (l1.trans l) (m'.kill ks)
      exact hN _ _ _ _ _ l3 m3 (RgS.later (r := k (kill ks env2) (trim S S' (kill ks env2))) g l3)
    | ct env2 =>
      intro φ' H' σ' l m'
      obtain ⟨l3, m3⟩ := trim_ok m.o (l1.trans l) (m'.kill ks)
      exact hN _ _ _ _ _ l3 m3 (RgS.later (r := k (kill ks env2) (trim S S' (kill ks env2))) g l3)
    | bk env2 => exact fun φ' H' σ' l m' => g φ' H' σ' (l1.trans l) (m'.kill ks)
    | rt d => exact fun v φ' H' l so r => g v φ' H' (l1.trans l) so r
    | ex c fs env2 => exact fun φ' H' σ' cls dd l m' x => g φ' H' σ' cls dd (l1.trans l) m' x
theorem sst_whl {t : Tst} {ks : List Nat} (hp : PassesOwn (model X.prog X.w) X.A X.env X.xe) (hc : PT X c (tT w xw C W t)) (hb : PSs X sts (tSts w xw C W ss)) : PS X (.While c sts [] pos) (tSt w xw C W (.whl t ss ks)) :=
  psI (ps_while hp hc hb) fun D0 σ H ⟨φ, env, S, m, g⟩ => by
    refine ⟨fun n σ H => ∃ φ env S, Sim w.K φ w.ex H S σ env ∧ RgS w xw W φ S H (whlL (evT C t) (evSs C ss) ks n env S) D0, ⟨turns, φ, env, S, m, g⟩, ?_⟩
    rintro n σ H ⟨φ, env, S, m, g⟩
    cases n with
    | zero => exact g.elim
    | succ n =>
      refine ⟨φ, env, S, m, ?_⟩
      have g : RgS w xw W φ S H ((evT C t env S).st env fun k S1 => if k then (evSs C ss env S1).bind fun fl S' => (match fl with
        | .nx env => whlL (evT C t) (evSs C ss) ks n (kill ks env) (trim S S' (kill ks env))
        | .ct env => whlL (evT C t) (evSs C ss) ks n (kill ks env) (trim S S' (kill ks env))
        | .bk env => .ok (.nx (kill ks env)) S'
        | .rt d => .ok (.rt d) S'
        | .ex c fs env => .ok (.ex c fs env) S') else .ok (.nx env) S1) D0 := g
      cases e : evT C t env S with
      | bad => rw [e] at g; exact g
      | exc c fs S' => rw [e] at g; exact fun φ' H' cls dd l so x => g φ' H' σ cls dd l (m.lat l so) x
      | ok k S1 =>
        rw [e] at g
        intro b φ1 H1 l1 so1 rb
        cases rb
        cases k with
        | false => exact g φ1 H1 σ l1 (m.lat l1 so1)
        | true =>
          rw [if_pos rfl]
          refine ⟨fun σ' H' => ∃ φ env S, Sim w.K φ w.ex H' S σ' env ∧ RgS w xw W φ S H' (whlL (evT C t) (evSs C ss) ks n env S) D0, fun σ' H' q => ⟨n, Nat.lt_succ_self n, q⟩, φ1, env, S1, m.lat l1 so1, ?_⟩
          exact turn_end (k := fun env S => whlL (evT C t) (evSs C ss) ks n env S) m l1 g fun φ' σ' H' S' env' l m' g' => ⟨φ', env', S', m', g'⟩
theorem sst_for {tg iter : Expr} {t : Tg} {l : Src} {ks : List Nat} (hp : PassesOwn (model X.prog X.w) X.A X.env X.xe) (hc : X.calm = true) (hi : PI X tg iter (tI w xw C W l)) (hg : PG X tg (gT w t)) (hb : PSs X sts (tSts w xw C W ss))
    (hps : PS X (.For tg iter sts [] pos) (tFor (tI w xw C W l) (gT w t) (tSts w xw C W ss))) : PS X (.For tg iter sts [] pos) (tSt w xw C W (.forS t l ss ks)) :=
  psI hps fun D0 σ H ⟨φ, env, S, m, g⟩ => by
    refine ⟨φ, env, S, m, ?_⟩
    have g : RgS w xw W φ S H ((evL C l env S).st env fun p S => loopL (fun x env S => match bind1 t x env with
      | some env => evSs C ss env S
      | none => .bad) ks (stands p.2 (obAt p.2 S)) p.1 env S) D0 := g
    cases ev : evL C l env S with
    | bad => rw [ev] at g; exact g
    | exc c fs S' => rw [ev] at g; exact fun φ' H' cls dd l so x => g φ' H' σ cls dd l (m.lat l so) x
    | ok p S1 =>
      rw [ev] at g
      intro J φ1 H1 l1 so1 r1
      obtain ⟨b1, it⟩ := r1
      have g : RgS w xw W φ S H (loopL (fun x env S => match bind1 t x env with
        | some env => evSs C ss env S
        | none => .bad) ks (stands p.2 (obAt p.2 S1)) p.1 env S1) D0 := g
      generalize hgd : stands p.2 (obAt p.2 S1) = gd at g it
      generalize hds : p.1 = ds at g it b1
      generalize hf : (fun (x : D) (env : Env) (S : Store) => match bind1 t x env with
        | some env => evSs C ss env S
        | none => Res.bad) = f at g
      refine ⟨fun i mm σ H' => mm = ds.length - i ∧ ∃ φ2 env2 S2, Lat φ1 φ2 S1 S2 H1 H' ∧ Sim w.K φ2 w.ex H' S2 σ env2 ∧ RgS w xw W φ2 S2 H' (loopL f ks gd (ds.drop i) env2 S2) D0, ⟨ds.length, by simp, φ1, env, S1, Lat.refl, m.lat l1 so1, RgS.later g l1⟩, ?_⟩
      rintro i mm σ H' ⟨rfl, φ2, env2, S2, l2, m2, g⟩
      cases hdr : ds.drop i with
      | nil =>
        rw [hdr] at g
        have g : RgS w xw W φ2 S2 H' (if gd S2 then .ok (.nx env2) S2 else .bad) D0 := g
        cases hgS : gd S2 with
        | false => rw [hgS] at g; exact g.elim
        | true =>
          rw [hgS] at g
          have hi' : ds.length ≤ i := by
            have := congrArg List.length hdr
            simp only [List.length_drop, List.length_nil] at this
            omega
          exact .inl ⟨(it i φ2 S2 H' l2.w m2.o hgS).1 hi', g φ2 H' σ Lat.refl m2⟩
      | cons d rest =>
        obtain ⟨hd, hrest, hil⟩ := drop_at hdr
        rw [hdr] at g
        have g : RgS w xw W φ2 S2 H' (if gd S2 then (f d env2 S2).bind fun fl S' => (match fl with
          | .nx env => loopL f ks gd rest (kill ks env) (trim S2 S' (kill ks env))
          | .ct env => loopL f ks gd rest (kill ks env) (trim S2 S' (kill ks env))
          | .bk env => .ok (.nx (kill ks env)) S'
          | .rt d => .ok (.rt d) S'
          | .ex c fs env => .ok (.ex c fs env) S') else .bad) D0 := g
        cases hgS : gd S2 with
        | false => rw [hgS] at g; exact g.elim
        | true =>
          rw [hgS, if_pos rfl] at g
          obtain ⟨hgo, hy⟩ := (it i φ2 S2 H' l2.w m2.o hgS).2 d hd
          refine .inr ⟨hgo, fun σ3 H3 => ∃ φ3 env3 S3, Lat φ1 φ3 S1 S3 H1 H3 ∧ Sim w.K φ3 w.ex H3 S3 σ3 env3 ∧ RgS w xw W φ3 S3 H3 (loopL f ks gd rest env3 S3) D0, fun σ3 H3 q => ⟨ds.length - (i + 1), by omega, rfl, by rw [hrest]; exact q⟩, fun x H3 y => ?_⟩
          obtain ⟨l3, so3, rx⟩ := hy x H3 y
          have bd : D.bel S2.length d = true := D.bel_mono l2.le _ (bels_all.mp b1 d (List.mem_of_getElem? hd))
          cases hbi : bind1 t d env2 with
          | none =>
            have : f d env2 S2 = .bad := by rw [← hf]; show (match bind1 t d env2 with | some env => evSs C ss env S2 | none => Res.bad) = _; rw [hbi]
            rw [this] at g; exact g.elim
          | some env3 =>
            have ef : f d env2 S2 = evSs C ss env3 S2 := by rw [← hf]; show (match bind1 t d env2 with | some env => evSs C ss env S2 | none => Res.bad) = _; rw [hbi]
            rw [ef] at g
            refine ⟨φ2, S2, env2, d, env3, m2.lat l3 so3, ⟨rx, bd⟩, hbi, fun σ4 m4 _ => ⟨φ2, env3, S2, m4, ?_⟩⟩
            exact turn_end (k := fun env S => loopL f ks gd rest env S) m2 l3 g fun φ' σ' H5 S' env' l m' g' => ⟨φ', env', S', l2.trans l, m', g'⟩
end
end Pw
end
section
set_option Elab.async false
set_option linter.all false
set_option maxRecDepth 100000
set_option maxHeartbeats 1000000
set_option autoImplicit false
/-! Pw18: more statements: name = [..], o[i] = v, raise, try -/
namespace Pw
open PySem PySem.Spec PyProof.Rows L2
variable {w : Wo} {xw : Xw} {C : Ctx} {W : WX} {X : Cx}
section
variable {e a b c o : Expr} {es : List Expr} {x y z : Exp} {xs : List Exp} {pos p apos p2 : Pos} {st : Stmt} {sts : List Stmt} {s : Stm} {ss : List Stm}
theorem setLc_rd {i : Nat} {l : Src} {D0 : Ends} {σ : L2.St} {H : Hp} (hx : w.ex = none) (q : tSt w xw C W (.set (.v i) (.ls l)) D0 σ H) : tN w xw C W l σ H (fun v H1 => D0.nx (σ.set i (some v)) H1) := by
  obtain ⟨φ, env, S, m, g⟩ := q
  refine ⟨φ, env, S, m, ?_⟩
  have g : RgS w xw W φ S H (((evL C l env S).bind fun p S => Res.ok (.obj S.length) (.lst p.1 :: S)).st env fun x S => .ok (.nx (env.set i (some x))) S) D0 := g
  cases ev : evL C l env S with
  | bad => rw [ev] at g; exact g
  | exc c fs S' => rw [ev] at g; exact fun φ' H' cls dd l so x => g φ' H' σ cls dd l (m.lat l so) x
  | ok p S' =>
    rw [ev] at g
    intro v φ' H' l1 so r
    obtain ⟨b, a, vs, rfl, h0, h1, rv, hn⟩ := r
    obtain ⟨φ2, l2, e2, so2⟩ := so.adopt l1 h0 h1 hn rv b
    have rr : Rp w.K φ2 w.ex H' (.ref a) (.obj S'.length) := by
      have := Rp.obj (K := w.K) (φ := φ2) (ex := w.ex) (H := H') S'.length
      rw [e2] at this
      exact this
    have bb : D.bel (SO.lst p.1 :: S').length (.obj S'.length) = true := by
      show Nat.blt S'.length (S'.length + 1) = true
      exact Nat.ble_eq_true_of_le (Nat.le_refl _)
    exact g φ2 H' _ l2 ⟨so2, (m.e.lat l2).set rr bb i fun a j fs e => by rw [hx] at e; cases e⟩
theorem sst_setLc {i : Nat} {n : Str} {py : Pos} {elt tg iter : Expr} {ifs : List Expr} {scope : Scope} {own : List (Str × Nat)} {spos : Pos} {e : Exp} {t : Tg} {l : Src} {ts : List Tst} (hx : w.ex = none) (hc : X.calm = true) (hN : X.N.Nodup) (hy : X.N[i]? = some n) (hyl : X.env.scope.names.lookup n = some .local)
    (hsw : swapsWith (.ListComp elt [⟨tg, iter, ifs, 0⟩] scope pos) (some (.Name n py)) spos.line X.env = pure true) (hi : PI X tg iter (tI w xw C W l)) (ok : BlkOk X.N X.env.scope scope own) (hv : own.map (·.2) = t.ix)
    (hg : ∀ (s : Shared) (H : Hp) (D : Addr) (cl : List (Str × Addr)) (fp : List Addr), PG (X.blk s H scope (compEnvC scope cl D X.env) fp) tg (gT w t))
    (ht : ∀ (s : Shared) (H : Hp) (D : Addr) (cl : List (Str × Addr)) (fp : List Addr), PTs (X.blk s H scope (compEnvC scope cl D X.env) fp) ifs (tTs w xw C W0 ts))
    (he : ∀ (s : Shared) (H : Hp) (D : Addr) (cl : List (Str × Addr)) (fp : List Addr), PE (X.blk s H scope (compEnvC scope cl D X.env) fp) elt (tE w xw C W0 e)) (hs : ∀ x, foldedSetIterable iter X.env x = pure x) :
    PS X (.Assign [.Name n py] (.ListComp elt [⟨tg, iter, ifs, 0⟩] scope pos) spos) (tSt w xw C W (.set (.v i) (.ls (.comp e t l ts)))) :=
  psI (ps_setLc hc hN hy hyl hsw hi ok hg ht he hs) fun D0 σ H q => by rw [hv]; exact comp_rd hx (setLc_rd hx q)
/-! ### o[i] = v -/
def keyD : Key → D
  | .inl i => .int i
  | .inr x => .str x.cps.toList
theorem rp_key {K : PySem.W.Frag} {φ : Nat → Addr} {ex : Ex1} {H : Hp} {k : Key} {d : D} (r : Rp K φ ex H (kV k) d) : d = keyD k := by
  cases k with
  | inl i => cases (show Rp K φ ex H (.int i) d from r); rfl
  | inr x => cases (show Rp K φ ex H (.str x) d from r); rfl
theorem rp_keyD {K : PySem.W.Frag} {φ : Nat → Addr} {ex : Ex1} {H : Hp} (k : Key) : Rp K φ ex H (kV k) (keyD k) := by
  cases k with
  | inl i => exact .int i
  | inr x => exact .str x
theorem keyD_inj {k k' : Key} (h : keyD k = keyD k') : k = k' := by
  cases k <;> cases k' <;> first | (cases h; done) | skip
  · cases h; rfl
  · rw [str_ext (D.str.inj h)]
theorem putK_cons {a k : Key} {u v : V} {r : List (Key × V)} (nd : ((a, u) :: r).map (·.1) |>.Nodup) : putK ((a, u) :: r) k v = if a = k then (a, v) :: r else (a, u) :: putK r k v := by
  unfold putK
  by_cases h : a = k
  · subst h
    have hr : r.map (fun kv => if kv.1 = a then (kv.1, v) else kv) = r := by
      have : ∀ p ∈ r, (if p.1 = a then (p.1, v) else p) = p := fun p hp => by
        rw [if_neg]
        intro e
        simp only [List.map_cons, List.nodup_cons] at nd
        exact nd.1 (by rw [← e]; exact List.mem_map_of_mem hp)
      exact (List.map_congr_left this).trans (List.map_id _)
    simp [hr]
  · simp only [List.any_cons, decide_eq_false h, Bool.false_or, List.map_cons, if_neg h]
    split <;> rfl
theorem put_rel {K : PySem.W.Frag} {φ : Nat → Addr} {ex : Ex1} {H : Hp} {k : Key} {v : V} {dv : D} (rv : Rp K φ ex H v dv) : ∀ {kvs : List (D × D)} {ws : List (Key × V)}, RpA K φ ex H (ws.map fun p => kV p.1) (kvs.map (·.1)) → RpA K φ ex H (ws.map (·.2)) (kvs.map (·.2)) → (ws.map (·.1)).Nodup →
    RpA K φ ex H ((putK ws k v).map fun p => kV p.1) ((putD (keyD k) dv kvs).map (·.1)) ∧ RpA K φ ex H ((putK ws k v).map (·.2)) ((putD (keyD k) dv kvs).map (·.2)) ∧ ((putK ws k v).map (·.1)).Nodup ∧ ∀ x ∈ (putK ws k v).map (·.1), x = k ∨ x ∈ ws.map (·.1)
  | [], [], _, _, _ => by
    refine ⟨.cons (rp_keyD k) .nil, .cons rv .nil, by simp [putK], fun x hx => ?_⟩
    simp [putK] at hx
    exact .inl hx
  | (a, u) :: r, [], h, _, _ => by cases h
  | [], (a, u) :: t, h, _, _ => by cases h
  | (da, du) :: r, (a, u) :: t, h1, h2, nd => by
    simp only [List.map_cons] at h1 h2
    cases h1 with
    | cons q1 r1 => cases h2 with
      | cons q2 r2 =>
        have ea := rp_key q1
        subst ea
        rw [putK_cons nd]
        have nd' := nd
        simp only [List.map_cons, List.nodup_cons] at nd'
        by_cases h : a = k
        · subst h
          have e : putD (keyD a) dv ((keyD a, du) :: r) = (keyD a, dv) :: r := by unfold putD; rw [if_pos rfl]
          rw [if_pos rfl, e]
          exact ⟨.cons q1 r1, .cons rv r2, nd, fun x hx => .inr hx⟩
        · have e : putD (keyD k) dv ((keyD a, du) :: r) = (keyD a, du) :: putD (keyD k) dv r := by
            unfold putD
            rw [if_neg (fun z => h (keyD_inj z))]
            cases r <;> rfl
          obtain ⟨i1, i2, i3, i4⟩ := put_rel (k := k) rv r1 r2 nd'.2
          rw [if_neg h, e]
          refine ⟨.cons q1 i1, .cons q2 i2, ?_, fun x hx => ?_⟩
          · simp only [List.map_cons, List.nodup_cons]
            exact ⟨fun hm => (i4 a hm).elim h nd'.1, i3⟩
          · simp only [List.map_cons, List.mem_cons] at hx ⊢
            rcases hx with rfl | hx
            · exact .inr (.inl rfl)
            · exact (i4 x hx).imp id .inr
theorem bels_putD {n : Nat} {k v : D} (hk : D.bel n k = true) (hv : D.bel n v = true) : ∀ {kvs : List (D × D)}, (SO.dct kvs).bel n = true → (SO.dct (putD k v kvs)).bel n = true
  | [], _ => by
    show (D.bel n k && true && (D.bel n v && true)) = true
    rw [hk, hv]; rfl
  | (a, u) :: r, h => by
    have h' : D.bel n a = true ∧ D.bel n u = true ∧ (SO.dct r).bel n = true := by
      simp only [SO.bel, List.map_cons, D.bels, Bool.and_eq_true] at h ⊢
      exact ⟨h.1.1, h.2.1, h.1.2, h.2.2⟩
    unfold putD
    split
    · simp only [SO.bel, List.map_cons, D.bels, Bool.and_eq_true] at h ⊢
      exact ⟨h.1, hv, h.2.2⟩
    · have := bels_putD hk hv h'.2.2
      simp only [SO.bel, List.map_cons, D.bels, Bool.and_eq_true] at this ⊢
      exact ⟨⟨h'.1, this.1⟩, h'.2.1, this.2⟩
theorem psetR (hu : X.A.units + 1 < cLine) : PSet X (setR w) := by
  intro pins s σ H o i v ov iv u Q I ro ri rv h
  obtain ⟨φ, S, do', di, dv, so, r1, r2, r3, S', hS, q⟩ := h
  cases do' with
  | obj n =>
    cases r1.1
    simp only [setIxD] at hS
    split at hS
    · rename_i xs e
      cases di with
      | int k =>
        cases r2.1
        obtain ⟨j, hj, rfl⟩ := Option.map_eq_some_iff.mp hS
        obtain ⟨vs, hH, rr⟩ := so.ob n _ e
        have b3 : D.bels S.length (xs.set j dv) = true := bels_all.mpr fun d hd => by
          rcases List.mem_or_eq_of_mem_set hd with h | h
          · exact bels_all.mp (so.wf n _ e) d h
          · rw [h]; exact r3.2
        obtain ⟨lw, sw⟩ := so.write (n := n) (o := .lst xs) (o' := .lst (xs.set j dv)) (u := .lst (vs.set j v)) e rfl b3 fun w' hw => ⟨vs.set j v, upd_same, (rr.set r3.1 j).mono b3 (fun _ _ => rfl) (Kp.set hw (by rw [hH] at hw; cases hw; trivial))⟩
        exact set_list pins s σ H _ _ v ov iv u Q I ro ri rv ⟨φ n, vs, k, j, rfl, rfl, hH, by rw [rr.length, ← place_ix]; exact hj, q _ lw sw⟩
      | _ => cases hS
    · rename_i kvs e
      split at hS
      · rename_i hc
        cases hS
        simp only [Bool.and_eq_true, decide_eq_true_eq] at hc
        obtain ⟨ws, hH, k1, k2, nd⟩ := so.ob n _ e
        obtain ⟨k, hk, hi⟩ : ∃ k : Key, di = keyD k ∧ i = kV k := by
          cases di <;> first | (cases hc.1; done) | skip
          · cases r2.1; exact ⟨.inl _, rfl, rfl⟩
          · obtain ⟨z, rfl, rfl⟩ := rp_inv r2.1; exact ⟨.inr z, rfl, rfl⟩
        subst hk hi
        have hb := bels_putD r2.2 r3.2 (so.wf n _ e)
        have lw := so.write (n := n) (o := .dct kvs) (o' := .dct (putD (keyD k) dv kvs)) (u := .dK (putK ws k v)) e rfl hb fun w' hw => by
          have kp : Kp H (upd H (φ n) (.dK (putK ws k v))) := Kp.set hw (by rw [hH] at hw; cases hw; trivial)
          obtain ⟨j1, j2, j3, _⟩ := put_rel (k := k) r3.1 k1 k2 nd
          simp only [SO.bel, Bool.and_eq_true] at hb
          exact ⟨putK ws k v, upd_same, j1.mono hb.1 (fun _ _ => rfl) kp, j2.mono hb.2 (fun _ _ => rfl) kp, j3⟩
        have hl : ws.length < sizeLine := by
          have := k2.length
          simp only [List.length_map] at this
          rw [this, sizeLine_eq]; omega
        exact set_dict hu pins s σ H _ _ v ov iv u Q I ro ri rv ⟨φ n, _, rfl, DPut.k hH hl, q _ lw.1 lw.2⟩
      · cases hS
    · cases hS
  | _ => cases hS
/-! ### raise -/
theorem sst_raise0 {k : Nat} (hc : X.calm = true) (tk : L2N.Takes X W) (he : L2N.PMk X e (fun _ H Q => Q (xw.cA k) none H)) (hf : xw.fl k = []) (hn : k < xw.n) : PS X (.Raise (some e) none pos) (tSt w xw C W (.rais k [])) :=
  psI (L2N.ps_raise hc tk he) fun D0 σ H ⟨φ, env, S, m, g⟩ => g φ H σ _ _ Lat.refl m ⟨hn, rfl, rfl, .inl ⟨hf, rfl, rfl⟩⟩
/-! ### try -/
def Wo.at (w : Wo) (a : Addr) (i : Nat) : Wo := { w with ex := some (a, i, []) }
mutual
theorem rp_ex {K : PySem.W.Frag} {φ : Nat → Addr} {ex ex' : Ex1} {H : Hp} : ∀ {v : V} {d : D}, Rp K φ ex H v d → Rp K φ ex' H v d
  | _, _, .non => .non
  | _, _, .bl b => .bl b
  | _, _, .int i => .int i
  | _, _, .str x => .str x
  | _, _, .tup h r => .tup h (rpA_ex r)
  | _, _, .obj m => .obj m
  | _, _, .exc h => h.elim
theorem rpA_ex {K : PySem.W.Frag} {φ : Nat → Addr} {ex ex' : Ex1} {H : Hp} : ∀ {vs : List V} {ds : List D}, RpA K φ ex H vs ds → RpA K φ ex' H vs ds
  | _, _, .nil => .nil
  | _, _, .cons r t => .cons (rp_ex r) (rpA_ex t)
end
theorem ob_ex {K : PySem.W.Frag} {φ : Nat → Addr} {ex ex' : Ex1} {H : Hp} {a : Addr} {o : SO} (x : ObR K φ ex H a o) : ObR K φ ex' H a o := by
  cases o with
  | lst ds => obtain ⟨vs, e, r⟩ := x; exact ⟨vs, e, rpA_ex r⟩
  | ro ds => obtain ⟨vs, e, r⟩ := x; exact ⟨vs, e, rpA_ex r⟩
  | dct kvs => obtain ⟨ws, e, r1, r2, nd⟩ := x; exact ⟨ws, e, rpA_ex r1, rpA_ex r2, nd⟩
  | set _ => exact x.elim
  | ins _ _ => exact x.elim
theorem so_ex {K : PySem.W.Frag} {φ : Nat → Addr} {ex ex' : Ex1} {H : Hp} {S : Store} (x : SimO K φ ex H S) : SimO K φ ex' H S := ⟨fun n o e => ob_ex (x.ob n o e), x.wf, x.inj⟩
/-- what the suite is to do with the exception at hand -/
def tsX (w : Wo) (xw : Xw) (C : Ctx) (i : Nat) (suite : List Stm) : Addr → Value → Option Addr → TS := fun a cls dd D0 σ H => ∃ c fs φ env S, XR w xw φ H S c fs cls dd ∧ Sim w.K φ (w.at a i).ex H S σ env ∧ RgS (w.at a i) xw W0 φ S H (evSs { C with exn := some (c, fs) } suite env S) D0
theorem sst_try {n cn : Str} {cv : Value} {i : Nat} {suite : List Stm} {b₀ : Stmt} {rest : List Stmt} {np pos' : Pos} {cs : List Nat} (hx : w.ex = none) (hK : w.K = X.K) (hs : X.stack = X.env :: X.outer) (hf : X.env.frame = some X.env.locals) (hN : X.N.Nodup) (hi : X.N[i]? = some n) (hln : X.env.kindOf n = some .local) (hc : Names X cn cv) (tk : L2N.Takes X W)
    (hex : ∀ k, k < xw.n → PySem.W.exmOne X.K (xw.cA k) cv = some (catches C.Cl k cs))
    (hb : ∀ (W : WX) (pn : List (Addr × Obj)) (xe : Value → Shared → Prop), L2N.Takes (X.tr pn xe) W → PassesOwn (model X.prog X.w) X.A X.env xe → PSs (X.tr pn xe) sts (tSts w xw C W ss))
    (hsu : ∀ (a : Addr) (oe : Obj) (cls : Value) (d : Option Addr) (pn : List (Addr × Obj)), L2N.Zn cls d oe → (∃ vs, oe.data = .fields vs) → PSs (X.suite a ((a, oe) :: pn)) (b₀ :: rest) (tsX w xw C i suite a cls d)) :
    PS X (.Try sts [.ExceptHandler (some (.Name cn np)) (some n) (b₀ :: rest) pos'] [] [] pos) (tSt w xw C W (.tryS ss [(cs, some i, suite)])) :=
  psI (L2N.ps_try_as (tb := fun W => tSts w xw C W ss) hs hf hN hi hln hc tk hb hsu) fun D0 σ H ⟨φ, env, S, m, g⟩ => by
    refine ⟨φ, env, S, m, ?_⟩
    have g : RgS w xw W φ S H ((evSs C ss env S).bind fun fl S => match fl with
      | .ex c fs env => evH C [(cs, some i, suite)] c fs env S
      | fl => .ok fl S) D0 := g
    cases r : evSs C ss env S with
    | exc c fs S' => rw [r] at g; exact g
    | bad => rw [r] at g; exact g
    | ok f S' =>
      rw [r] at g
      cases f with
      | nx env2 => exact g
      | bk env2 => exact g
      | ct env2 => exact g
      | rt d => exact g
      | ex c fs env2 =>
        intro φ' H' σ' cls dd l m' xr
        have hcls : cls = xw.cA c := xr.2.1
        have he : PySem.W.exmOne X.K (xw.cA c) cv = some (catches C.Cl c cs) := hex c xr.1
        have g : RgS w xw W φ S H (if catches C.Cl c cs then
          (if i < env2.length then (evSs { C with exn := some (c, fs) } suite (env2.set i none) S').bind fun fl S => (match fl with
            | .nx env => .ok (.nx (env.set i none)) S
            | .rt d => .ok (.rt d) S
            | _ => .bad) else .bad) else .ok (.ex c fs env2) S') D0 := g
        refine ⟨catches C.Cl c cs, by rw [hcls]; exact he, fun hb a ha => ?_, fun hb => ?_⟩
        · rw [if_pos hb] at g
          by_cases hl : i < env2.length
          · rw [if_pos hl] at g
            have g := RgS.later g l
            refine ⟨c, fs, φ', env2.set i none, S', xr, ⟨so_ex m'.o, by simp [m'.e.len], fun j d hd => ?_, fun a' j fs' e => ?_⟩, ?_⟩
            · by_cases z : i = j
              · subst z
                rw [List.getElem?_set_self hl] at hd; cases hd
              · rw [List.getElem?_set_ne z] at hd ⊢
                obtain ⟨v, h1, h2, h3⟩ := m'.e.at_ j d hd
                exact ⟨v, h1, rp_ex h2, h3⟩
            · cases e
              exact List.getElem?_set_self (by rw [m'.e.len]; exact hl)
            · cases r2 : evSs { C with exn := some (c, fs) } suite (env2.set i none) S' with
              | exc c fs S' => rw [r2] at g; exact g
              | bad => rw [r2] at g; exact g
              | ok f S2 =>
                rw [r2] at g
                cases f with
                | nx env3 =>
                  intro φ3 H3 σ3 l3 m3
                  refine g φ3 H3 _ l3 ⟨so_ex m3.o, by simp [m3.e.len], fun j d hd => ?_, fun a' j fs' e => by rw [hx] at e; cases e⟩
                  by_cases z : i = j
                  · subst z
                    by_cases hl3 : i < env3.length
                    · rw [List.getElem?_set_self hl3] at hd; cases hd
                    · rw [List.getElem?_eq_none (by simpa using hl3)] at hd; cases hd
                  · rw [List.getElem?_set_ne z] at hd ⊢
                    obtain ⟨v, h1, h2, h3⟩ := m3.e.at_ j d hd
                    exact ⟨v, h1, rp_ex h2, h3⟩
                | rt d => exact fun v φ3 H3 l3 so3 r3 => g v φ3 H3 l3 (so_ex so3) ⟨rp_ex r3.1, r3.2⟩
                | bk env3 => exact g.elim
                | ct env3 => exact g.elim
                | ex c fs env3 => exact g.elim
          · rw [if_neg hl] at g; exact g.elim
        · rw [if_neg (by rw [hb]; simp)] at g
          exact g φ' H' σ' cls dd l m' xr
end
end Pw
end
section
set_option Elab.async false
set_option linter.all false
set_option maxRecDepth 100000
set_option maxHeartbeats 2000000
set_option autoImplicit false
/-! Pw18a: while an exception is handled: any(list), isinstance -/
namespace Pw
open PySem PySem.Spec PyProof.Rows L2
section
variable {prog : Program} {wd : World} {A : Around} {E : Value → Shared → Prop} {s : Shared}
/-- a list's iterator at its end, an exception being handled -/
theorem listEndHot {it l x1 : Addr} {i : Nat} {items : Array Value} {Q : Option Value → Shared → Prop} (hot : HotX.HotAt A x1 s.heap) (hx1 : x1 ≠ it) (hit : s.heap.IsListIter it l i) (hl : s.heap.IsList l items) (hx : items[i]? = none)
    (hQ : ∀ h', (∀ b o, b ≠ it → s.heap.get? b = some o → h'.get? b = some o) → Q none { s with heap := h' }) : wpAny (model prog wd) A (pyNext (.ref it)) Q E s := by
  obtain ⟨ob, kob, _, kd⟩ := id hit
  obtain ⟨ol, kol, _, nl, kdl⟩ := hl
  obtain ⟨hh, o1, vs1, e1, d1, c1⟩ := hot
  unfold pyNext
  refine wpAny_bind (wpAny_attempt (wpAny_callSpecial?_slot (name := Str.ofString "__next__") hit.typeIs slot_listiter_next (wpAny_call_entry slot_listiter_next hit.typeIs entry_listiter_next ?_ (args_listiter_next _))))
  (show wpAny _ _ (field (.ref it) 0 >>= _) _ _ s; refine wpAny_bind (wpAny_field kob kd (x := .ref l) rfl ?_))
  (show wpAny _ _ (if (Value.ref l == Value.none) = true then _ else _) _ _ s; rw [if_neg (show ¬ ((Value.ref l == Value.none) = true) from Bool.false_ne_true)])
  (show wpAny _ _ (field (.ref it) 1 >>= _) _ _ s; refine wpAny_bind (wpAny_field kob kd (x := .int i 0) rfl ?_))
  (show wpAny _ _ (seqItems? (.ref l) >>= _) _ _ s; refine wpAny_bind (wpAny_seqItems kol kdl ?_))
  simp only [Int.toNat_natCast, hx]
  refine wpAny_bind (wpAny_rule (wpAny_bind (wpAny_setField kob kd (by simp) ?_)))
  (show wpAny _ _ (newExc (.type "StopIteration") [] >>= _) _ _ _; refine wpAny_bind ?_)
  simp only [newExc, newTuple]
  (refine wpAny_bind (wpAny_newObj_type ?_ (by size_fits)); refine wpAny_bind (m := firstArgMember _ _) (wpAny_of_eq (a := Value.none) (by first | rfl | (simp only [firstArgMember]; rfl)) ?_))
  refine (wpAny_newObj_type ?_ (by size_fits))
  have up : ∀ b o, b ≠ it → s.heap.get? b = some o → (s.heap.update it (Obj.mapFields (·.setIfInBounds 0 .none))).get? b = some o := fun b o hb eb => (Heap.get?_update_other _ _ (Ne.symm hb)).trans eb
  refine HotX.raiseNew_hot (x1 := x1) ⟨hh, o1, vs1, Heap.get?_push_of_some _ (Heap.get?_push_of_some _ ?_), d1, c1⟩ ?_ (Heap.get?_push_size _ rfl) rfl (by first | (simp; done) | (simp; omega) | (simp only [Array.size_append]; simp; omega)) ?_
  · exact up x1 o1 hx1 e1
  · exact Nat.ne_of_lt (Heap.lt_size (Heap.get?_push_of_some _ (up x1 o1 hx1 e1)))
  · refine wpAny_bind (wpAny_isInstance (T := "StopIteration") (b := true) ⟨_, (Heap.get?_update_self _ (Heap.get?_push_size _ rfl) rfl), rfl⟩ isSubtype_stop ?_)
    refine wpAny_pure (hQ _ fun b o hb eb => ?_)
    have kb := up b o hb eb
    exact (Heap.get?_update_other _ _ (Nat.ne_of_gt (Heap.lt_size (Heap.get?_push_of_some _ kb)))).trans (Heap.get?_push_of_some _ (Heap.get?_push_of_some _ kb))
/-- the walk over a list, an exception being handled -/
theorem listWalkHot {x1 I l : Addr} {items : Array Value} (h1 : x1 ≠ I) (hne : l ≠ I) : Walks prog wd A I [I, l, x1] [I] items.size (fun i v => items[i]? = some v) (fun i h => h.IsListIter I l i ∧ h.IsList l items ∧ HotX.HotAt A x1 h) where
  sub := fun b hb => by simp at hb; simp [hb]
  frame := fun i h h' st hk => ⟨st.1.at fun o e => hk I (by simp) o e, st.2.1.at fun o e => hk l (by simp) o e, by
    obtain ⟨a1, o, vs, a2, a3, a4⟩ := st.2.2
    exact ⟨a1, o, vs, hk x1 (by simp) o a2, a3, a4⟩⟩
  item := fun i s Q E hi st hQ => by
    refine wpAny_pyNext_list_item st.1 st.2.1 (x := items[i]) (by simp [hi]) fun h' it2 same => ?_
    refine hQ _ h' s.toks (by simp [hi]) ⟨it2, st.2.1.extBut same.extBut hne, ?_⟩ fun b o hb e => same.extBut b o (fun z => hb (by simp [z])) e
    obtain ⟨a1, o, vs, a2, a3, a4⟩ := st.2.2
    exact ⟨a1, o, vs, same.extBut x1 o h1 a2, a3, a4⟩
  done := fun s Q E st hQ => listEndHot st.2.2 h1 st.1 st.2.1 (by simp) fun h' he => hQ h' s.toks fun b o hb e => he b o (fun z => hb (by simp [z])) e
  self := fun _ _ _ _ st hQ => wpAny_pyIter_listiter st.1 hQ
end
theorem cr_anyHot {X : Cx} (hc : L2H.HotC X) : CallR X (.builtin "any") (rAny X.K) := by
  intro pins s σ H vs us Q I r h
  obtain ⟨a, bs, rfl, hs, q⟩ := h
  obtain ⟨its, rv, hl, _⟩ := I.list hs
  rw [Vals.ref1 r]
  have hb := rv.bls
  obtain ⟨x1, hot⟩ := hc.at I
  have hlt : x1 < s.heap.objs.size := by obtain ⟨_, o, vs, e, _⟩ := hot; exact Heap.lt_size e
  refine call_any_walk (iter_any hl.isList fun s2 e2 st hne => ?_)
  subst e2
  have hot2 : HotX.HotAt X.A.in1 x1 (s.heap.push { cls := .type "list_iterator", data := .fields #[.ref a, .int 0 0] }) := by
    obtain ⟨a1, o, vs, a2, a3, a4⟩ := hot
    exact ⟨a1, o, vs, Heap.get?_push_of_some _ a2, a3, a4⟩
  refine ⟨_, _, _, _, _, _, _, rfl, listWalkHot (A := X.A.in1) (items := its.toArray) (Nat.ne_of_lt hlt) hne, ⟨st.1, st.2, hot2⟩, truth_bools hb, fun h' tk hk => ⟨.bl _, H, I.kept fun b o eo => hk b o (fun hm => ?_) (Heap.get?_push_of_some _ eo), ?_, q⟩⟩
  · rcases List.mem_cons.mp hm with e1 | hm
    · exact absurd (e1 ▸ Heap.lt_size eo) (Nat.lt_irrefl _)
    · cases hm
  · show Value.bool _ = Value.bool _
    rw [← L2.any_range, hb, List.size_toArray, List.length_map]
end Pw
end
section
set_option Elab.async false
set_option linter.all false
set_option maxRecDepth 100000
set_option maxHeartbeats 2000000
set_option autoImplicit false
/-! Pw18b: the exception at hand: isinstance, calls with it -/
namespace Pw
open PySem PySem.Spec PyProof.Rows L2
section
variable {X : Cx} {a D0 : Addr} {oe : Obj}
/-- isinstance(e, (C1, ..)) -/
def rIsET (K : PySem.W.Frag) (D0 a : Addr) : List V → Hp → VK → Prop := fun xs H Q => ∃ (tp : Addr) (cs : List V) (us : List Value) (b : Bool), xs = [.ref a, .ref tp] ∧ H tp = some (.tup cs) ∧ Paired ClsV cs us ∧ PySem.W.kitAny K (.ref D0) us = some b ∧ Q (.bl b) H
theorem instAt_of {pins : List (Addr × Obj)} {σ : L2.St} {H : Hp} {s : Shared} (I : Inv X pins σ H s) (hp : (a, oe) ∈ X.pn) (hz : Zc (.ref D0) none oe) (hf : ∃ vs, oe.data = .fields vs) : PySem.W.InstAt s.heap a oe D0 none := by
  obtain ⟨g, _⟩ := I.pin (a, oe) (List.mem_append_left _ hp)
  obtain ⟨vs, hv⟩ := hf
  obtain ⟨oc, od, oda, osl⟩ := oe
  obtain ⟨z1, z2⟩ := hz
  dsimp only at z1 z2 hv
  subst z1 z2 hv
  exact ⟨g, rfl, rfl, trivial⟩
theorem cr_isX (C : ExcC X.K D0) (hp : (a, oe) ∈ X.pn) (hz : Zc (.ref D0) none oe) (hf : ∃ vs, oe.data = .fields vs) : CallR X (.builtin "isinstance") (rIsE X.K D0 a) := by
  intro pins s σ H xs us Q I r h
  obtain ⟨c, cv, b, rfl, hcv, e, q⟩ := h
  obtain ⟨u1, u2, rfl, r1, r2⟩ := Vals.two r
  cases (show u1 = Value.ref a from r1)
  obtain rfl := hcv _ r2
  exact PySem.W.kia_one (PySem.W.handS_kitx_exc C.hg C.hk C.hs C.hd C.ha C.hn C.ht C.hm) I.kIn (instAt_of I hp hz hf) e (fun z => nomatch z) fun tk => ⟨.bl b, H, I.tok tk, rfl, q⟩
theorem cr_isXT (C : ExcC X.K D0) (hp : (a, oe) ∈ X.pn) (hz : Zc (.ref D0) none oe) (hf : ∃ vs, oe.data = .fields vs) : CallR X (.builtin "isinstance") (rIsET X.K D0 a) := by
  intro pins s σ H xs us Q I r h
  obtain ⟨tp, cs, ws, b, rfl, hT, k, e, q⟩ := h
  obtain ⟨u1, u2, rfl, r1, r2⟩ := Vals.two r
  cases (show u1 = Value.ref a from r1)
  cases (show u2 = Value.ref tp from r2)
  obtain ⟨_, its, rv, o, h1, h2, n, h3⟩ := (show ObjOk X.prog X.w H s.heap tp (.tup cs) from I.hok tp _ hT)
  have e3 := ClsV.all k rv
  subst e3
  obtain ⟨oc, od, dt, sl⟩ := o
  simp only at h2 h3
  subst h2 h3
  exact PySem.W.kia_tup (PySem.W.handS_kitx_exc C.hg C.hk C.hs C.hd C.ha C.hn C.ht C.hm) I.kIn (instAt_of I hp hz hf) h1 e (fun z => nomatch z) fun tk => ⟨.bl b, H, I.tok tk, rfl, q⟩
end
variable {w : Wo} {xw : Xw} {C : Ctx} {W : WX} {X : Cx} {p : Prg}
/-- what is known where an exception is at hand -/
structure Hx (w : Wo) (xw : Xw) (p : Prg) (n : Nat) (C : Ctx) (sl : Option Nat) (X : Cx) : Prop where
  ex : ∃ (a : Addr) (oe : Obj) (i c : Nat) (D0 : Addr), w.ex = some (a, i, []) ∧ sl = some i ∧ C.exn = some (c, []) ∧ c < xw.n ∧ xw.cA c = .ref D0 ∧ (a, oe) ∈ X.pn ∧ L2N.Zn (.ref D0) none oe ∧ (∃ vs, oe.data = .fields vs) ∧ ExcC X.K D0 ∧ X.A.handled = some (.ref a)
  un : L2H.RoomH n X.A
theorem Hx.hot {n : Nat} {sl : Option Nat} (h : Hx w xw p n C sl X) : L2H.HotC X := by
  obtain ⟨a, oe, i, c, D0, _, _, _, _, _, hp, hz, ⟨vs, hv⟩, _, hh⟩ := h.ex
  exact ⟨(a, oe), ⟨hh, vs, hv, hz.2.2 vs hv⟩, hp⟩
section
variable {e t : Expr} {x : Exp} {pos q q1 q2 : Pos} {n : Nat} {sl : Option Nat}
/-- the name of the exception -/
theorem pe_exn {i : Nat} {y : Str} (hN : X.N[i]? = some y) (hv : Vis X.env.scope y) (h : okName y = true) : PE X (.Name y pos) (tVar i) := pe_var hN hv (okName_ok h).1 (okName_ok h).2.1
theorem pe_tst {k : Nat} {x : Str} {cv : Value} (h : TstOk xw X.K X.mg p k x cv) (hg : Gl X x) (hn : okName x = true) : ∃ v, PE X (.Name x pos) (tC v) ∧ ClsV v cv := by
  rcases h.nm with ⟨a, rfl, hm⟩ | ⟨T, rfl, hm, hb⟩
  · exact ⟨.ref a, pe_glob hg hm rfl (okName_ok hn).1, .own a⟩
  · exact ⟨.ty T, pe_bltn hg hm hb rfl (okName_ok hn).2.2 (okName_ok hn).1, .ty T⟩
theorem se_isX {i k : Nat} {y x : Str} {cv : Value} (hK : w.K = X.K) (hx : Hx w xw p n C sl X) (hs : sl = some i) (hC : C.Cl = p.Cl) (gl : Gl X "isinstance") (hm : X.mg "isinstance" = none) (hN : X.N[i]? = some y) (hv : Vis X.env.scope y) (hy : okName y = true)
    (ht : TstOk xw X.K X.mg p k x cv) (hg : Gl X x) (hn : okName x = true) : PE X (.Call (.Name "isinstance" q) [.Name y q1, .Name x q2] [] pos) (tE w xw C W (.isX [k])) := by
  obtain ⟨v, hpe, hcv⟩ := pe_tst (pos := q2) ht hg hn
  obtain ⟨a, oe, i', c, D0, he, hs', hc, hcn, hD, hp, hz, hf, hE, _⟩ := hx.ex
  rw [hs] at hs'
  cases hs'
  refine peI (cb2 (cr_isX hE hp hz.zc hf) gl hm bb_isi (pe_exn hN hv hy) hpe (by decide) rfl rfl) fun σ H Q ⟨φ, env, S, m, g⟩ => ?_
  refine ⟨.ref a, m.e.xs a i [] he, v, cv, ?_⟩
  obtain ⟨bs, hb, hk, _⟩ := ht.kit c hcn
  have g : Rg w xw W σ (RE w) φ S H (match C.exn with
    | some (c, _) => (match C.Cl[c]? with
      | some bs => .ok (.bl ([k].any fun k => bs.contains k)) S
      | none => .bad)
    | none => .bad) Q := g
  rw [hc] at g
  dsimp only at g
  rw [hC, hb] at g
  rw [hD] at hk
  refine ⟨bs.contains k, rfl, fun u r => hcv.eq r, hk, ?_⟩
  have g : Rg w xw W σ (RE w) φ S H (.ok (.bl (bs.contains k || false)) S) Q := g
  rw [Bool.or_false] at g
  exact fBl g m.o
theorem se_anyH (hK : w.K = X.K) (hx : Hx w xw p n C sl X) (gl : Gl X "any") (hm : X.mg "any" = none) (ha : PE X e (tE w xw C W x)) (h1 : okX e = true) (cr : CallR X (.builtin "any") (rAny X.K)) : PE X (.Call (.Name "any" q) [e] [] pos) (tE w xw C W (.anyH x)) :=
  peI (cb1 cr gl hm bb_any ha (by decide) h1) fun σ H Q ⟨φ, env, S, m, g⟩ => by
    refine tE.then m g fun v d S1 φ1 H1 l1 m1 r1 g => ?_
    obtain ⟨bs, hb, g2⟩ := g.ofb
    obtain ⟨k, rfl⟩ : ∃ k, d = .obj k := by cases d <;> first | exact ⟨_, rfl⟩ | (cases hb; done)
    simp only [lbls] at hb
    split at hb
    · rename_i ys en
      obtain ⟨vs, h2, r2⟩ := m1.o.ob k _ en
      have e2 := bls_of r2 hb
      subst e2
      cases r1.1
      exact ⟨φ1 k, bs, rfl, SqL.of h2, fBl g2 m1.o⟩
    · cases hb
theorem cx_never {P : Program} {wd : World} {outer : List PySem.Env} {H : Hp} {s s' : Shared} {u : Value} (h : L2N.CX P wd outer H s (fun _ _ _ => False) u s') : False := by
  obtain ⟨_, _, _, _, _, _, _, _, _, _, _, _, z⟩ := h
  exact z
/-- f(e) -/
theorem se_hot {i j : Nat} {y x z : Str} {f : Addr} {fd : FuncData} (hK : w.K = X.K) (hx : Hx w xw p n C sl X) (hs : sl = some i) (hC : ∀ ex, C.Φ ex = den p n ex) (hg : Gl X x) (hn : okName x = true) (hN : X.N[i]? = some y) (hv : Vis X.env.scope y) (hy : okName y = true)
    (hmg : X.mg x = some (.ref f)) (hk : PySem.W.keepIn X.K (.ref f) = true) (F : FnHp X.prog X.w X.K X.mg X.base (L2N.CX X.prog X.w) n f fd [z] (spX ⟨X.K, none⟩ xw p n j)) (hb : Binds X.K fd [z] []) :
    PE X (.Call (.Name x q) [.Name y q1] [] pos) (tE w xw C W (.hot j)) := by
  obtain ⟨a, oe, i', c, D0, he, hs', hc, hcn, hD, hp, hz, ⟨vs, hvs⟩, hE, hh⟩ := hx.ex
  rw [hs] at hs'
  cases hs'
  refine ⟨fun pins s σ H Q I ⟨φ, env, S, m, g⟩ => ?_⟩
  have ha : PA X [.Name y q1] (tCons (tVar i) tNil) := pa_cons (pe_exn hN hv hy) pa_nil rfl
  refine wpAny_Call_Name_kw (ld_glob I hg hmg ?_ (okName_ok hn).1)
  refine PySem.W.callWith_K (h₀ := X.base) I.ok.mod.kin hk (thn (ha.run pos pins s σ H (fun xs H1 => xs = [.ref a] ∧ H1 = H) I ⟨.ref a, m.e.xs a i [] he, rfl, rfl⟩) fun us s1 ⟨xs, H1, I1, r, ex, eH⟩ => ⟨I1.kIn, ?_⟩) rfl rfl
  subst ex eH
  have hl : us.length = 1 := r.length.symm
  have b := hb s1 us I1.kIn (by rw [List.append_nil]; exact hl)
  rw [List.append_nil] at b
  have P1 := I1.pin (a, oe) (List.mem_append_left _ hp)
  have hpin : L2H.PinOk X.stack H1 s1 (a, oe) := ⟨P1.1, P1.2.1, fun hm => (List.mem_cons.mp (I1.stkSub a hm)).elim P1.2.2.1 P1.2.2.2.1, P1.2.2.2.2⟩
  have g : Rg w xw W σ (RE w) φ S H1 (if C.exn.isSome then (match C.Φ C.exn j [] S with
    | .ok d S => .ok d S
    | _ => .bad) else .bad) Q := g
  rw [hc] at g
  have g : Rg w xw W σ (RE w) φ S H1 (match C.Φ (some (c, [])) j [] S with
    | .ok d S => .ok d S
    | _ => .bad) Q := g
  rw [hC] at g
  have sp0 : spX ⟨X.K, none⟩ xw p n j a (.ref D0) [.ref a] H1 (fun v H' => ∃ φ' S' d, SimO w.K φ' w.ex H' S' ∧ RE w φ' H' S' v d ∧ Q v H') (fun _ _ _ => False) := by
    refine ⟨rfl, c, φ, S, hD.symm, hcn, hK ▸ so_ex m.o, ?_⟩
    cases e : den p n (some (c, [])) j [] S with
    | bad => rw [e] at g; exact g
    | exc c' fs S' => rw [e] at g; exact g.elim
    | ok d S' =>
      rw [e] at g
      intro v φ' H' l so rv
      have so' : SimO w.K φ' w.ex H' S' := hK ▸ so_ex so
      have rv' : RE w φ' H' S' v d := ⟨hK ▸ rp_ex rv.1, rv.2⟩
      exact ⟨φ', S', d, so', rv', g v φ' H' l so' rv'⟩
  refine wpAny_call (codeAny_mono (F.run X.A X.stack s1 H1 ⟨us, []⟩ us [.ref a] _ _ (a, oe) (.ref D0) hx.un ⟨hh, vs, hvs, hz.2.2 vs hvs⟩ hpin hz I1.env0 b r sp0) fun rr s' hq => ?_)
  cases rr with
  | error e => exact (cx_never hq).elim
  | ok fl => cases fl with
    | ret u =>
      obtain ⟨v, H', Iv, rvu, _, _, _, _, _, qv⟩ := I1.after hq
      exact ⟨v, H', Iv, rvu, qv⟩
    | next => exact False.elim hq
    | brk => exact False.elim hq
    | cont => exact False.elim hq
end
end Pw
end
section
set_option Elab.async false
set_option linter.all false
set_option maxRecDepth 100000
set_option maxHeartbeats 2000000
set_option autoImplicit false
/-! Pw18c: dict displays, the keys of a dict in order -/
namespace Pw
open PySem PySem.Spec PyProof.Rows L2
variable {w : Wo} {xw : Xw} {C : Ctx} {W : WX} {X : Cx} {p : Prg}
def trP (w : Wo) (xw : Xw) (C : Ctx) (W : WX) : List Exp → List (TE × TE)
  | k :: v :: r => (tE w xw C W k, tE w xw C W v) :: trP w xw C W r
  | _ => []
def flatP : List (V × V) → List V
  | [] => []
  | (a, b) :: r => a :: b :: flatP r
theorem pairs_rd {σ : L2.St} : ∀ (es : List Exp) {H : Hp} {Q : List (V × V) → Hp → Prop}, es.length % 2 = 0 → tEs w xw C W es σ H (fun vs H2 => ∀ ps, flatP ps = vs → Q ps H2) → tPairs (trP w xw C W es) σ H Q
  | [], H, Q, _, ⟨φ, env, S, m, g⟩ => Rg.fin (a := ([] : List D)) (b := ([] : List V)) g m.o ⟨.nil, rfl⟩ [] rfl
  | [_], H, Q, h, _ => by simp at h
  | k :: v :: r, H, Q, h, ⟨φ, env, S, m, g⟩ => by
    refine tE.then m g fun a d S1 φ1 H1 l1 m1 r1 g => ?_
    have g : Rg w xw W σ (REs w) φ1 S1 H1 (((evE C v env S1).bind fun x S => (evEs C r env S).bind fun xs S => .ok (x :: xs) S).bind fun xs S => .ok (d :: xs) S) (fun vs H2 => ∀ ps, flatP ps = vs → Q ps H2) := g
    have e : (((evE C v env S1).bind fun x S => (evEs C r env S).bind fun xs S => Res.ok (x :: xs) S).bind fun xs S => Res.ok (d :: xs) S) = (evE C v env S1).bind fun x S => (evEs C r env S).bind fun xs S => .ok (d :: x :: xs) S := by
      cases evE C v env S1 with
      | ok x S => show ((evEs C r env S).bind _).bind _ = (evEs C r env S).bind _; cases evEs C r env S <;> rfl
      | _ => rfl
    rw [e] at g
    refine tE.then m1 g fun b d2 S2 φ2 H2 l2 m2 r2 g => ?_
    refine pairs_rd (Q := fun ps H2 => Q ((a, b) :: ps) H2) r (by simp only [List.length_cons] at h; omega) (tEs.then m2 g fun vs ds S3 φ3 H3 l3 m3 r3 g => fun ps hps => ?_)
    subst hps
    refine Rg.fin (a := d :: d2 :: ds) (b := a :: b :: flatP ps) g m3.o ?_ ((a, b) :: ps) rfl
    exact ⟨.cons (r1.lat (l2.trans l3)).1 (.cons (r2.lat l3).1 r3.1), by
      show (D.bel S3.length d && (D.bel S3.length d2 && D.bels S3.length ds)) = true
      rw [(r1.lat (l2.trans l3)).2, (r2.lat l3).2, r3.2]; rfl⟩
theorem pairsD_rd {K : PySem.W.Frag} {φ : Nat → Addr} {ex : Ex1} {H : Hp} {n : Nat} : ∀ {ds : List D} {ps : List (V × V)} {m : List (D × D)}, RpA K φ ex H (flatP ps) ds → pairsD ds = some m → D.bels n ds = true →
    ∃ kvs : List (Key × V), ps = kvs.map (fun kv => (kV kv.1, kv.2)) ∧ m.map (·.1) = kvs.map (fun kv => keyD kv.1) ∧ RpA K φ ex H (kvs.map (·.2)) (m.map (·.2)) ∧ D.bels n (m.map (·.1)) = true ∧ D.bels n (m.map (·.2)) = true
  | [], [], m, _, h, _ => by cases h; exact ⟨[], rfl, rfl, .nil, rfl, rfl⟩
  | [], _ :: _, m, r, h, _ => by cases r
  | [d], ps, m, r, h, _ => by cases h
  | d :: e :: ds, [], m, r, h, _ => by cases r
  | d :: e :: ds, (a, b) :: ps, m, r, h, hb => by
    cases r with
    | cons q1 r => cases r with
      | cons q2 r =>
        have h : (if isKey d then (pairsD ds).map ((d, e) :: ·) else none) = some m := h
        split at h
        · rename_i hk
          obtain ⟨m', hm, rfl⟩ := Option.map_eq_some_iff.mp h
          simp only [D.bels, Bool.and_eq_true] at hb
          obtain ⟨kvs, e1, e2, e3, e4, e5⟩ := pairsD_rd r hm hb.2.2
          obtain ⟨k, hk1, hk2⟩ : ∃ k : Key, d = keyD k ∧ a = kV k := by
            cases d <;> first | (cases hk; done) | skip
            · cases q1; exact ⟨.inl _, rfl, rfl⟩
            · obtain ⟨z, rfl, rfl⟩ := rp_inv q1; exact ⟨.inr z, rfl, rfl⟩
          subst hk1 hk2 e1
          refine ⟨(k, b) :: kvs, rfl, by simp [e2], .cons q2 e3, ?_, ?_⟩
          · simp only [List.map_cons, D.bels, hb.1, e4, Bool.true_and]
          · simp only [List.map_cons, D.bels, hb.2.1, e5, Bool.true_and]
        · cases h
theorem merge_rel {K : PySem.W.Frag} {φ : Nat → Addr} {ex : Ex1} {H : Hp} {n : Nat} : ∀ {more : List (Key × V)} {m : List (D × D)} {kvs : List (D × D)} {ws : List (Key × V)}, m.map (·.1) = more.map (fun kv => keyD kv.1) → RpA K φ ex H (more.map (·.2)) (m.map (·.2)) →
    D.bels n (m.map (·.1)) = true → D.bels n (m.map (·.2)) = true → (SO.dct kvs).bel n = true →
    RpA K φ ex H (ws.map fun p => kV p.1) (kvs.map (·.1)) → RpA K φ ex H (ws.map (·.2)) (kvs.map (·.2)) → (ws.map (·.1)).Nodup →
    RpA K φ ex H ((mergeK ws more).map fun p => kV p.1) ((m.foldl (fun m p => putD p.1 p.2 m) kvs).map (·.1)) ∧ RpA K φ ex H ((mergeK ws more).map (·.2)) ((m.foldl (fun m p => putD p.1 p.2 m) kvs).map (·.2)) ∧ ((mergeK ws more).map (·.1)).Nodup ∧ (SO.dct (m.foldl (fun m p => putD p.1 p.2 m) kvs)).bel n = true
  | [], [], _, _, _, _, _, _, b, r1, r2, nd => ⟨r1, r2, nd, b⟩
  | [], _ :: _, _, _, e, _, _, _, _, _, _, _ => by simp at e
  | _ :: _, [], _, _, e, _, _, _, _, _, _, _ => by simp at e
  | (k, v) :: more, (dk, dv) :: m, kvs, ws, e, rv, b1, b2, b, r1, r2, nd => by
    simp only [List.map_cons, List.cons.injEq] at e
    obtain ⟨rfl, e⟩ := e
    simp only [List.map_cons, D.bels, Bool.and_eq_true] at b1 b2
    cases rv with
    | cons q rv =>
      obtain ⟨i1, i2, i3, _⟩ := put_rel (k := k) q r1 r2 nd
      exact merge_rel (more := more) (m := m) (kvs := putD (keyD k) dv kvs) (ws := putK ws k v) e rv b1.2 b2.2 (bels_putD b1.1 b2.1 b) i1 i2 i3
theorem dct_rd {es : List Exp} {σ : L2.St} {H : Hp} {Q : VK} (h2 : es.length % 2 = 0) (q : tE w xw C W (.dct es) σ H Q) (pp : Addr) (hp : H pp = none) :
    tPairs (trP w xw C W es) σ (upd H pp (.dK [])) fun ps H2 => H2 pp = some (.dK []) ∧ ∃ kvs : List (Key × V), ps = kvs.map (fun kv => (kV kv.1, kv.2)) ∧ kvs.length ≤ 15 ∧ Q (.ref pp) (upd H2 pp (.dK (mergeK [] kvs))) := by
  obtain ⟨φ, env, S, m, g⟩ := q
  have l0 : Lat φ φ S S H (upd H pp (.dK [])) := Lat.newT hp
  have m0 := m.lat l0 (m.o.new hp)
  have g : Rg w xw W σ (RE w) φ S H ((evEs C es env S).bind fun ds S => (match pairsD ds with
    | some m => if ds.length ≤ 30 then .ok (.obj S.length) (.dct (m.foldl (fun m p => putD p.1 p.2 m) []) :: S) else .bad
    | none => .bad)) Q := g
  refine pairs_rd es h2 ⟨φ, env, S, m0, ?_⟩
  cases e : evEs C es env S with
  | bad => rw [e] at g; exact g
  | exc c fs S' => rw [e] at g; exact fun φ' H' cls dd l so x => g φ' H' cls dd (l0.trans l) so x
  | ok ds S' =>
    rw [e] at g
    intro vs φ' H' l so r ps hps
    subst hps
    have hpp : H' pp = some (.dK []) := l.fr pp _ upd_same fun n hn => m.o.ne hp n hn
    refine ⟨hpp, ?_⟩
    have g : Rg w xw W σ (RE w) φ S H (match pairsD ds with
      | some m => if ds.length ≤ 30 then .ok (.obj S'.length) (.dct (m.foldl (fun m p => putD p.1 p.2 m) []) :: S') else .bad
      | none => .bad) Q := g
    cases em : pairsD ds with
    | none => rw [em] at g; exact g.elim
    | some mm =>
      rw [em] at g
      obtain ⟨h30, g⟩ := Rg.ite (c := ds.length ≤ 30) g
      obtain ⟨kvs, rfl, e2, e3, e4, e5⟩ := pairsD_rd r.1 em r.2
      have hlen : kvs.length ≤ 15 := by
        have h1 := r.1.length
        have h3 : ∀ l : List (Key × V), (flatP (l.map fun kv => (kV kv.1, kv.2))).length = 2 * l.length := fun l => by
          induction l with
          | nil => rfl
          | cons q l ih => simp only [List.map_cons, flatP, List.length_cons, ih]; omega
        rw [h3] at h1
        omega
      refine ⟨kvs, rfl, hlen, ?_⟩
      have hn : ∀ n, n < S'.length → φ' n ≠ pp := fun n hn z => by
        by_cases hs : n < S.length
        · rw [l.same n hs] at z; exact m.o.ne hp n hs z
        · have := l.nw n (by omega) hn
          rw [z, upd_same] at this; cases this
      have kp : Kp H' (upd H' pp (.dK (mergeK [] kvs))) := Kp.set hpp trivial
      obtain ⟨i1, i2, i3, i4⟩ := merge_rel (n := S'.length) (kvs := []) (ws := []) e2 e3 e4 e5 rfl .nil .nil List.nodup_nil
      have so2 : SimO w.K φ' w.ex (upd H' pp (.dK (mergeK [] kvs))) S' := so.heap kp fun n o en _ u eu => by rw [upd_ne (hn n (get_lt en))]; exact eu
      have l2 : Lat φ φ' S S' H (upd H' pp (.dK (mergeK [] kvs))) := by
        have l7 := l0.trans l
        refine ⟨l7.le, l7.same, l7.kp.trans kp, fun a o ha hna => ?_, l7.nw, fun a ha => l7.no a (by
          by_cases z : a = pp
          · rw [z, upd_same] at ha; cases ha
          · rw [upd_ne z] at ha; exact ha)⟩
        have : a ≠ pp := fun z => by rw [z, hp] at ha; cases ha
        rw [upd_ne this]
        exact l7.fr a o ha hna
      have i4' := i4
      simp only [SO.bel, Bool.and_eq_true] at i4'
      obtain ⟨φ3, l3, e6, so3⟩ := so2.adoptO l2 hp (q0 := .dct (mm.foldl (fun m p => putD p.1 p.2 m) [])) ⟨mergeK [] kvs, upd_same, i1.mono i4'.1 (fun _ _ => rfl) kp, i2.mono i4'.2 (fun _ _ => rfl) kp, i3⟩ hn i4
      refine g _ φ3 _ l3 so3 ⟨?_, ?_⟩
      · rw [← e6]; exact .obj _
      · show Nat.blt S'.length (S'.length + 1) = true
        exact Nat.ble_eq_true_of_le (Nat.le_refl _)
end Pw
namespace Pw
open PySem PySem.Spec PyProof.Rows L2
variable {w : Wo} {xw : Xw} {C : Ctx} {W : WX} {X : Cx}
section
variable {e a : Expr} {x : Exp} {es : List Exp} {pos p : Pos}
theorem se_dct0 : PE X (.Dict [] [] pos) (tE w xw C W (.dct [])) := peI pe_dnewK fun σ H Q q pp hp => by
  obtain ⟨_, kvs, e1, _, g⟩ := dct_rd rfl q pp hp
  have : kvs = [] := by
    cases kvs with
    | nil => rfl
    | cons q l => simp at e1
  subst this
  rw [upd_upd] at g
  exact g
theorem se_dct {keys : List (Option Expr)} {vals : List Expr} (h : PPs X pos keys vals (trP w xw C W es)) (h2 : es.length % 2 = 0) (hall : keys.all (·.isSome) = true) (hl : keys.length = vals.length) (h0 : keys ≠ []) (h15 : keys.length ≤ 15) : PE X (.Dict keys vals pos) (tE w xw C W (.dct es)) :=
  peI (pe_disp h hall hl h0 h15) fun σ H Q q pp hp => dct_rd h2 q pp hp
/-- the keys of a dict -/
theorem keys_of {φ : Nat → Addr} {H : Hp} : ∀ {kvs : List (D × D)} {ws : List (Key × V)}, RpA w.K φ w.ex H (ws.map fun p => kV p.1) (kvs.map (·.1)) → kvs.map (·.1) = ws.map fun p => keyD p.1
  | [], [], _ => rfl
  | [], _ :: _, r => by cases r
  | _ :: _, [], r => by cases r
  | (a, b) :: r, (k, v) :: t, h => by
    cases h with
    | cons q h =>
      simp only [List.map_cons]
      have q' : a = keyD k := rp_key q
      rw [keys_of h, q']
theorem strs_keys : ∀ {ks : List Key} {ts : List (List Nat)}, strsD (ks.map keyD) = some ts → ∃ ys : List Str, ks = ys.map Sum.inr ∧ ts = ys.map fun y => y.cps.toList
  | [], _, h => by cases h; exact ⟨[], rfl, rfl⟩
  | .inl i :: ks, _, h => by cases h
  | .inr y :: ks, ts, h => by
    obtain ⟨ts', h1, rfl⟩ := Option.map_eq_some_iff.mp (show (strsD (ks.map keyD)).map (y.cps.toList :: ·) = some ts from h)
    obtain ⟨ys, rfl, rfl⟩ := strs_keys h1
    exact ⟨y :: ys, rfl, rfl⟩
theorem ints_keys : ∀ {ks : List Key} {ns : List Int}, intsD (ks.map keyD) = some ns → ks = ns.map Sum.inl
  | [], _, h => by cases h; rfl
  | .inr i :: ks, _, h => by cases h
  | .inl y :: ks, ns, h => by
    obtain ⟨ns', h1, rfl⟩ := Option.map_eq_some_iff.mp (show (intsD (ks.map keyD)).map (y :: ·) = some ns from h)
    rw [ints_keys h1]; rfl
theorem se_sortedK (hK : w.K = X.K) (hc : X.calm = true) (gl : Gl X "sorted") (hm : X.mg "sorted" = none) (ha : PE X a (tE w xw C W x)) (h1 : okX a = true) : PE X (.Call (.Name "sorted" p) [a] [] pos) (tE w xw C W (.sorted (.keys x))) :=
  peI (cb1 (r := fun xs H Q => (∃ (a : Addr) (kvs : List (Key × V)) (ks : List Str), xs = [.ref a] ∧ Rd H a (.dK kvs) ∧ kvs.map (·.1) = ks.map Sum.inr ∧ ks.length < 64 ∧ ∀ ys p, ys.Perm ks → sortedS ys = true → H p = none → Q (.ref p) (upd H p (.lst (ys.map V.str)))) ∨
    (∃ (a : Addr) (kvs : List (Key × V)) (ks : List Int), xs = [.ref a] ∧ Rd H a (.dK kvs) ∧ kvs.map (·.1) = ks.map Sum.inl ∧ ks.length < 64 ∧ ∀ (ys : List Int) (p : Addr), ys.Perm ks → ys.Pairwise (· ≤ ·) → H p = none → Q (.ref p) (upd H p (.lst (ys.map V.int)))))
    (fun pins s σ H xs us Q I r h => h.elim (call_sortedD hc pins s σ H xs us Q I r) (call_sortedDI hc pins s σ H xs us Q I r)) gl hm bb_sorted ha (by decide) h1) fun σ H Q ⟨φ, env, S, m, g⟩ => by
    have g : Rg w xw W σ (RE w) φ S H (((evE C x env S).bind fun x S => Res.of ((keysD x S).map fun xs => (xs, (none : Option Nat))) S).bind fun p S => (match sortD p.1 with
      | some ys => .ok (.obj S.length) (.lst ys :: S)
      | none => .bad)) Q := g
    have e : (((evE C x env S).bind fun x S => Res.of ((keysD x S).map fun xs => (xs, (none : Option Nat))) S).bind fun p S => (match sortD p.1 with
      | some ys => Res.ok (D.obj S.length) (.lst ys :: S)
      | none => .bad)) = (evE C x env S).bind fun x S => (Res.of ((keysD x S).map fun xs => (xs, (none : Option Nat))) S).bind fun p S => (match sortD p.1 with
      | some ys => .ok (.obj S.length) (.lst ys :: S)
      | none => .bad) := by cases evE C x env S <;> rfl
    rw [e] at g
    refine tE.then m g fun v d S1 φ1 H1 l1 m1 r1 g => ?_
    obtain ⟨q, hq, g2⟩ := g.ofb
    obtain ⟨ds, hd, rfl⟩ := Option.map_eq_some_iff.mp hq
    obtain ⟨k, rfl⟩ : ∃ k, d = .obj k := by cases d <;> first | exact ⟨_, rfl⟩ | (cases hd; done)
    simp only [keysD] at hd
    split at hd
    · rename_i kvs en
      split at hd
      · rename_i h64
        cases hd
        obtain ⟨ws, hH, k1, k2, nd⟩ := m1.o.ob k _ en
        cases r1.1
        have ek := keys_of k1
        have hlw : ws.length = kvs.length := by have := k2.length; simpa using this
        dsimp only at g2
        rw [ek] at g2
        have ek2 : (ws.map fun p => keyD p.1) = (ws.map (·.1)).map keyD := by rw [List.map_map]; rfl
        rw [ek2] at g2
        cases ei : intsD ((ws.map (·.1)).map keyD) with
        | some ns =>
          have es : sortD ((ws.map (·.1)).map keyD) = some ((ns.mergeSort fun a b => decide (a ≤ b)).map .int) := by unfold sortD; rw [ei]
          rw [es] at g2
          have hk := ints_keys ei
          have hl : ns.length < 64 := by have := congrArg List.length hk; simp only [List.length_map] at this; omega
          refine .inr ⟨φ1 k, ws, ns, rfl, .inl hH, hk, hl, fun ns' p h2 h3 hp => ?_⟩
          rw [sort_ints h2 h3]
          refine Rg0.lst g2.g0 m1.o ?_ (bels_map fun _ => rfl) hp
          generalize (ns.mergeSort fun a b => decide (a ≤ b)) = l
          induction l with
          | nil => exact .nil
          | cons n l ih => exact .cons (.int _) ih
        | none => cases e2 : strsD ((ws.map (·.1)).map keyD) with
          | none =>
            have es : sortD ((ws.map (·.1)).map keyD) = none := by unfold sortD; rw [ei, e2]
            rw [es] at g2
            exact g2.elim
          | some ts =>
            obtain ⟨ys, hk, rfl⟩ := strs_keys e2
            have hl : ys.length < 64 := by have := congrArg List.length hk; simp only [List.length_map] at this; omega
            have es : sortD ((ws.map (·.1)).map keyD) = some (((ys.map fun y => y.cps.toList).mergeSort leL).map .str) := by unfold sortD; rw [ei, e2]; dsimp only; rw [if_pos (by simpa using hl)]
            rw [es] at g2
            refine .inl ⟨φ1 k, ws, ys, rfl, .inl hH, hk, hl, fun ys' p h2 h3 hp => ?_⟩
            rw [← sort_strs h2 h3] at g2
            refine Rg0.lst g2.g0 m1.o ?_ (bels_map fun _ => rfl) hp
            rw [List.map_map]
            clear g2 h2 h3 g e
            induction ys' with
            | nil => exact .nil
            | cons n l ih => exact .cons (.str _) ih
      · cases hd
    · cases hd
end
end Pw
end
section
set_option Elab.async false
set_option linter.all false
set_option maxRecDepth 100000
set_option maxHeartbeats 2000000
set_option autoImplicit false
/-! Pw18d: x[::-1] -/
namespace Pw
open PySem PySem.Spec PyProof.Rows L2
section
variable {prog : Program} {wd : World} {A : Around} {E : Value → Shared → Prop} {s : Shared}
theorem places_down (n : Nat) : Builtin.Slice.slicePlaces ((n : Int) - 1) (-1) (-1) = n := by
  unfold Builtin.Slice.slicePlaces
  have h1 : ¬ ((-1 : Int) > 0) := by omega
  simp only [h1, if_false, show (- -1 : Int) = 1 by decide, Int.ediv_one]
  split <;> omega
theorem pick_down (xs : Array Value) : ((List.range xs.size).filterMap fun (k : Nat) => xs[(((xs.size : Int) - 1) + (k : Int) * (-1)).toNat]?).toArray = xs.toList.reverse.toArray := by
  have e : ((List.range xs.size).filterMap fun (k : Nat) => xs[(((xs.size : Int) - 1) + (k : Int) * (-1)).toNat]?) = ((List.range xs.size).map fun k => xs.size - 1 - k).filterMap (xs[·]?) := by
    rw [List.filterMap_map]
    have key : ∀ l : List Nat, (∀ k ∈ l, k < xs.size) → (l.filterMap fun (k : Nat) => xs[(((xs.size : Int) - 1) + (k : Int) * (-1)).toNat]?) = l.filterMap ((xs[·]?) ∘ fun k => xs.size - 1 - k) := fun l => by
      induction l with
      | nil => intro _; rfl
      | cons a l ih =>
        intro hl
        have ha := hl a List.mem_cons_self
        have e1 : (((xs.size : Int) - 1) + (a : Int) * (-1)).toNat = xs.size - 1 - a := by omega
        rw [List.filterMap_cons, List.filterMap_cons, ih fun k hk => hl k (List.mem_cons_of_mem _ hk), e1]
        rfl
    exact key _ fun k hk => List.mem_range.mp hk
  rw [e, PySem.W.krv_range, List.filterMap_reverse, PySem.W.krv_all]
theorem tuple_rev {t sl : Addr} {items : Array Value} {vl vu vs : Value} {Q : Value → Shared → Prop} (ht : IsTup s.heap t items) (hs : s.heap.IsSliceOf sl vl vu vs) (pl : IsPart vl none) (pu : IsPart vu none) (ps : IsPart vs (some (-1)))
    (h : Q (.ref s.heap.objs.size) { s with heap := s.heap.push { cls := .type "tuple", data := .seq items.toList.reverse.toArray } }) (hsz : items.size ≤ sizeLine) : wpAny (model prog wd) A (getItem (.ref t) (.ref sl)) Q E s := by
  have hok : sizeOk (.seq items.toList.reverse.toArray) := by
    show items.toList.reverse.toArray.size ≤ sizeLine
    simpa using hsz
  obtain ⟨os, k1, k2, k3⟩ := id hs
  have hT : s.TypeIs (.ref sl) "slice" := ⟨os, k1, k2⟩
  unfold getItem
  try with_reducible refine wpAny_holding ?_
  first | refine wpAny_bind (wpAny_pure ?_) | skip
  refine wpAny_bind (wpAny_sequenceKey ht.typeIs (by decide) (wpAny_bind (wpAny_callSpecial?_slot (name := Str.ofString "__getitem__") ht.typeIs PyProof.Rows.slot_tuple_getitem (wpAny_call_entry PyProof.Rows.slot_tuple_getitem ht.typeIs entry_tuple_getitem ?_ (args_tuple_getitem _ _)))))
  (show wpAny _ _ (Builtin.Tuple.tupleItemsOf (.ref t) >>= _) _ _ s; refine wpAny_bind (tupleItemsOf_ ht (wpAny_bind (wpAny_typeOf hT ?_))))
  rw [if_pos (by decide)]
  have app : ∀ {R : Int × Int × Nat → Shared → Prop}, R ((items.size : Int) - 1, -1, items.size) s → wpAny (model prog wd) A.in1 (Builtin.Slice.sliceApplied (.ref sl) (pure (items.size : Int))) R E s := fun {R} hR => by
    unfold Builtin.Slice.sliceApplied Builtin.Slice.sliceFields
    refine wpAny_bind (wpAny_bind (wpAny_field k1 k3 (x := vl) rfl (wpAny_bind (wpAny_field k1 k3 (x := vu) rfl (wpAny_bind (wpAny_field k1 k3 (x := vs) rfl (wpAny_pure ?_)))))))
    refine wpAny_bind (HT.slicePart_ ps ?_)
    (show wpAny _ _ (if ((-1 : Int) == 0) = true then _ else _) _ _ s; rw [if_neg (by decide)])
    refine wpAny_bind (HT.slicePart_ pl (wpAny_bind (HT.slicePart_ pu (wpAny_bind (wpAny_pure ?_)))))
    show wpAny _ _ (pure ((items.size : Int) - 1, (-1 : Int), Builtin.Slice.slicePlaces ((items.size : Int) - 1) (-1) (-1))) _ _ s
    rw [places_down]
    exact wpAny_pure hR
  refine wpAny_bind (app ?_)
  have hno : ¬ ((((items.size : Int) - 1) == 0 && (-1 : Int) == 1 && items.size == items.size) = true) := by simp
  show wpAny _ _ (if (((items.size : Int) - 1) == 0 && (-1 : Int) == 1 && items.size == items.size) = true then _ else _) _ _ s
  rw [if_neg hno, pick_down]
  first
    | exact wpAny_bind (m := Builtin.Tuple.tupleExact _) (wpAny_newObj_type (wpAny_pure ⟨_, rfl, wpAny_pure h⟩) hok)
    | exact wpAny_bind (wpAny_newObj_type (wpAny_pure ⟨_, rfl, wpAny_pure h⟩) hok)
end
end Pw
namespace Pw
open PySem PySem.Spec PyProof.Rows L2
variable {w : Wo} {xw : Xw} {C : Ctx} {W : WX} {X : Cx}
/-- x[::-1] of a list, a tuple -/
def tRev (K : PySem.W.Frag) (te : TE) : TE := fun σ H Q => te σ H fun x H1 => ∃ a xs, x = .ref a ∧ ((SqL K H1 a xs ∧ ∀ p, H1 p = none → Q (.ref p) (upd H1 p (.lst xs.reverse))) ∨ (SqT K H1 a xs ∧ ∀ p, H1 p = none → Q (.ref p) (upd H1 p (.tup xs.reverse))))
theorem pe_rev2 {e : Expr} {te : TE} {k : Nat} {p1 p2 p3 pos : Pos} (he : PE X e te) : PE X (.Subscript e (.Slice none none (some (.UnaryOp .USub (.Constant (.int 1) k p1) p2)) p3) pos) (tRev X.K te) := by
  refine ⟨fun pins s σ H Q I h => Subscript_ (thn (he.run pins s σ H _ I h) fun v s1 ⟨x, H1, I1, r1, a, xs, ex, hq⟩ => ?_)⟩
  subst ex
  cases r1
  have step : PO X (some (.UnaryOp .USub (.Constant (.int 1) k p1) p2)) (tPart (tUn (rU fun i => .int (-i)) (tC (.int 1)))) := po_some (pe_un un_neg pe_int)
  refine wpAny_Slice (thn (po_none.run pins s1 σ H1 (fun o H2 => o = none ∧ H2 = H1) I1 ⟨rfl, rfl⟩) fun vl s2 ⟨l, H2, I2, pl, e1, e2⟩ => ?_)
  subst e1 e2
  refine thn (po_none.run pins s2 σ H2 (fun o H3 => o = none ∧ H3 = H2) I2 ⟨rfl, rfl⟩) fun vu s3 ⟨u, H3, I3, pu, e1, e3⟩ => ?_
  subst e1 e3
  refine thn (step.run pins s3 σ H3 (fun o H4 => o = some (-1) ∧ H4 = H3) I3 ⟨1, rfl, -1, rfl, rfl, rfl⟩) fun vs s4 ⟨o, H4, I4, ps, e1, e4⟩ => ?_
  subst e1 e4
  have J : Inv X pins σ H4 { s4 with heap := s4.heap.push { cls := .type "slice", data := .fields #[vl, vu, vs] } } := I4.kept (t' := s4.toks) fun b ob q => Heap.get?_push_of_some _ q
  rcases hq with ⟨hx, q⟩ | ⟨hx, q⟩
  · obtain ⟨its, r, ht, hz⟩ := J.list hx
    have hlen := r.length
    refine tail_any (ops := [.ref a, .ref s4.heap.objs.size]) ht.isList.typeIs (PySem.slot_list_getitem.lookup) (wpAny_getItem_list_slice ht.isList (Heap.IsSliceOf.new _ vl vu vs) pl pu ps (by decide) ?_ (by rw [List.size_toArray]; omega)) (by with_unfolding_all rfl)
    rw [PySem.W.krv_pick]
    exact ⟨.ref _, _, J.laid (t' := s4.toks) (o := .lst xs.reverse) (fun b ob q => Heap.get?_push_of_some _ q) (Nat.le_refl _) ⟨by rw [List.length_reverse]; exact hz, _, 0, r.reverse, Heap.get?_push_size _ rfl⟩, rfl, q _ (J.hok.fresh (Nat.le_refl _))⟩
  · obtain ⟨its, r, ht, hz⟩ := J.tuple hx
    have hlen := r.length
    refine tail_any (ops := [.ref a, .ref s4.heap.objs.size]) ht.typeIs (PyProof.Rows.slot_tuple_getitem.lookup) (tuple_rev ht (Heap.IsSliceOf.new _ vl vu vs) pl pu ps ?_ (by rw [List.size_toArray]; omega)) (by with_unfolding_all rfl)
    exact ⟨.ref _, _, J.laid (t' := s4.toks) (o := .tup xs.reverse) (fun b ob q => Heap.get?_push_of_some _ q) (Nat.le_refl _) ⟨by rw [List.length_reverse]; exact hz, _, r.reverse, ⟨_, Heap.get?_push_size _ rfl, rfl, _, rfl⟩⟩, rfl, q _ (J.hok.fresh (Nat.le_refl _))⟩
theorem RpA.rev {K : PySem.W.Frag} {φ : Nat → Addr} {ex : Ex1} {H : Hp} {vs : List V} {ds : List D} (r : RpA K φ ex H vs ds) : RpA K φ ex H vs.reverse ds.reverse := r.reverse
theorem se_rev {e : Expr} {x : Exp} {k : Nat} {p1 p2 p3 pos : Pos} (hK : w.K = X.K) (he : PE X e (tE w xw C W x)) : PE X (.Subscript e (.Slice none none (some (.UnaryOp .USub (.Constant (.int 1) k p1) p2)) p3) pos) (tE w xw C W (.rev x)) :=
  peI (pe_rev2 he) fun σ H Q ⟨φ, env, S, m, g⟩ => by
    refine tE.then m g fun v d S1 φ1 H1 l1 m1 r1 g => ?_
    obtain ⟨r1, b1⟩ := r1
    cases d with
    | tup ds =>
      have hb : D.bels S1.length ds = true := by simpa [D.bel] using b1
      cases r1 with
      | tup h1 rr =>
        refine ⟨_, _, rfl, .inr ⟨hK ▸ h1, fun p hp => ?_⟩⟩
        exact Rg0.tup g.g0 m1.o rr.reverse (bels_all.mpr fun d hd => bels_all.mp hb d (List.mem_reverse.mp hd)) hp
    | obj n =>
      have g2 : Rg w xw W σ (RE w) φ1 S1 H1 (match get S1 n with
        | some (.lst xs) => .ok (.obj S1.length) (.lst xs.reverse :: S1)
        | _ => .bad) Q := g
      cases r1
      split at g2
      · rename_i xs en
        obtain ⟨vs, h1, rr⟩ := m1.o.ob n _ en
        have hb : D.bels S1.length xs = true := m1.o.wf n _ en
        refine ⟨_, vs, rfl, .inl ⟨SqL.of h1, fun p hp => ?_⟩⟩
        exact Rg0.lst g2.g0 m1.o rr.reverse (bels_all.mpr fun d hd => bels_all.mp hb d (List.mem_reverse.mp hd)) hp
      · exact g2.elim
    | _ => exact g.elim
end Pw
end
section
set_option Elab.async false
set_option linter.all false
set_option maxRecDepth 100000
set_option maxHeartbeats 2000000
set_option autoImplicit false
/-! Pw18e: comprehensions of two clauses -/
namespace Pw
open PySem PySem.Spec PyProof.Rows L2
variable {w : Wo} {xw : Xw} {C : Ctx} {W : WX} {X : Cx}
/-- the list that grows: where it stands, what it holds -/
structure Acc (w : Wo) (φ1 : Nat → Addr) (S1 : Store) (H1 : Hp) (Lp : Addr) (φ2 : Nat → Addr) (S2 : Store) (H2 : Hp) (vs : List V) (acc : List D) : Prop where
  lat : Lat φ1 φ2 S1 S2 H1 H2
  so : SimO w.K φ2 w.ex H2 S2
  at_ : H2 Lp = some (.lst vs)
  ra : RpA w.K φ2 w.ex H2 vs acc
  ba : D.bels S2.length acc = true
  ne : ∀ n, n < S2.length → φ2 n ≠ Lp
section
variable {φ1 φ2 φ3 : Nat → Addr} {S1 S2 S3 : Store} {H1 H2 H3 : Hp} {Lp : Addr} {vs : List V} {acc : List D}
theorem Acc.step (a : Acc w φ1 S1 H1 Lp φ2 S2 H2 vs acc) (l : Lat φ2 φ3 S2 S3 H2 H3) (so : SimO w.K φ3 w.ex H3 S3) : Acc w φ1 S1 H1 Lp φ3 S3 H3 vs acc :=
  ⟨a.lat.trans l, so, l.fr Lp _ a.at_ a.ne, a.ra.lat a.ba l, bels_lat a.ba l, fun n hn' z => by
    by_cases hs : n < S2.length
    · rw [l.same n hs] at z; exact a.ne n hs z
    · have := l.nw n (by omega) hn'
      rw [z, a.at_] at this; cases this⟩
theorem Acc.add (a : Acc w φ1 S1 H1 Lp φ2 S2 H2 vs acc) (hD : H1 Lp = none) {yv : V} {y : D} (ry : RE w φ2 H2 S2 yv y) : Acc w φ1 S1 H1 Lp φ2 S2 (upd H2 Lp (.lst (vs ++ [yv]))) (vs ++ [yv]) (acc ++ [y]) := by
  have kp : Kp H2 (upd H2 Lp (.lst (vs ++ [yv]))) := Kp.set a.at_ trivial
  have l7 := a.lat
  have hb : D.bels S2.length (acc ++ [y]) = true := bels_all.mpr fun d hd => (List.mem_append.mp hd).elim (bels_all.mp a.ba d) (fun z => by rw [List.mem_singleton.mp z]; exact ry.2)
  refine ⟨⟨l7.le, l7.same, l7.kp.trans kp, fun b o ha2 hna => ?_, l7.nw, fun b ha2 => l7.no b (by
    by_cases z : b = Lp
    · rw [z, upd_same] at ha2; cases ha2
    · rw [upd_ne z] at ha2; exact ha2)⟩, a.so.heap kp fun n o en _ u eu => ?_, upd_same, (a.ra.append (.cons ry.1 .nil)).mono (n := S2.length) hb (fun _ _ => rfl) kp, hb, a.ne⟩
  · have : b ≠ Lp := fun z => by rw [z, hD] at ha2; cases ha2
    rw [upd_ne this]
    exact l7.fr b o ha2 hna
  · rw [upd_ne (a.ne n (get_lt en))]
    exact eu
end
theorem LatW.refl {φ : Nat → Addr} {S : Store} {H : Hp} : LatW φ φ S S H H := ⟨Nat.le_refl _, fun _ _ => rfl, Kp.refl⟩
theorem LatW.trans {φ φ1 φ' : Nat → Addr} {S S1 S' : Store} {H H1 H' : Hp} (a : LatW φ φ1 S S1 H H1) (b : LatW φ1 φ' S1 S' H1 H') : LatW φ φ' S S' H H' := ⟨Nat.le_trans a.le b.le, fun m hm => (b.same m (Nat.lt_of_lt_of_le hm a.le)).trans (a.same m hm), a.kp.trans b.kp⟩
theorem SimE.latW {K : PySem.W.Frag} {φ φ' : Nat → Addr} {ex : Ex1} {S S' : Store} {H H' : Hp} {σ : L2.St} {env : Env} (e : SimE K φ ex H S.length σ env) (l : LatW φ φ' S S' H H') : SimE K φ' ex H' S'.length σ env :=
  ⟨e.len, fun i d h => let ⟨v, h1, h2, h3⟩ := e.at_ i d h; ⟨v, h1, h2.mono h3 l.same l.kp, D.bel_mono l.le d h3⟩, e.xs⟩
theorem Same.mono {is js : List Nat} {σ σ' : L2.St} (h : Same is σ σ') (k : ∀ i ∈ is, i ∈ js) : Same js σ σ' := ⟨h.1, fun i hi => h.2 i fun z => hi (k i z)⟩
/-- one inner turn -/
def compF1 (C : Ctx) (e : Exp) (t1 : Tg) (ifs1 : List Tst) (env : Env) (x : D) (S : Store) : Res (Option D) := match bind1 t1 x (kill t1.ix env) with
  | some env => (match evTs C ifs1 env S with
    | .ok true S => (match evE C e env S with
      | .ok y S => .ok (some y) S
      | _ => .bad)
    | .ok false S => .ok none S
    | _ => .bad)
  | none => .bad
/-- one outer turn -/
def compF2 (C : Ctx) (e : Exp) (t : Tg) (ifs : List Tst) (t1 : Tg) (l1 : Src) (ifs1 : List Tst) (env : Env) (x : D) (S : Store) : Res (List D) := match bind1 t x (kill (t.ix ++ t1.ix) env) with
  | some env => (match evTs C ifs env S with
    | .ok true S => (match evL C l1 env S with
      | .ok p1 S => if p1.1.length ≤ line then compL (compF1 C e t1 ifs1 env) (stands p1.2 (obAt p1.2 S)) p1.1 S else .bad
      | _ => .bad)
    | .ok false S => .ok [] S
    | _ => .bad)
  | none => .bad
def comp2K (acc : List D) (ys : List D) (S : Store) : Res (List D × Option Nat) := if (acc ++ ys).length ≤ line then .ok (acc ++ ys, none) S else .bad
/-- a comprehension's own walks raise nothing -/
theorem compL_noX {f : D → Store → Res (Option D)} {g : Store → Bool} : ∀ (xs : List D) (S : Store) {c fs S'}, compL f g xs S ≠ .exc c fs S'
  | [], S, c, fs, S', h => by
    simp only [compL] at h
    split at h <;> cases h
  | x :: r, S, c, fs, S', h => by
    simp only [compL] at h
    split at h
    · split at h
      · cases hr : compL f g r (by assumption) with
        | ok ys S2 => rw [hr] at h; cases h
        | exc c2 fs2 S2 => exact compL_noX r _ hr
        | bad => rw [hr] at h; cases h
      · cases h
    · cases h
theorem compL2_noX {f : D → Store → Res (List D)} {g : Store → Bool} : ∀ (xs : List D) (S : Store) {c fs S'}, compL2 f g xs S ≠ .exc c fs S'
  | [], S, c, fs, S', h => by
    simp only [compL2] at h
    split at h <;> cases h
  | x :: r, S, c, fs, S', h => by
    simp only [compL2] at h
    split at h
    · split at h
      · cases hr : compL2 f g r (by assumption) with
        | ok ys S2 => rw [hr] at h; cases h
        | exc c2 fs2 S2 => exact compL2_noX r _ hr
        | bad => rw [hr] at h; cases h
      · cases h
    · cases h
theorem comp2_rd {e : Exp} {t : Tg} {l : Src} {ts : List Tst} {t1 : Tg} {l1 : Src} {ts1 : List Tst} (hx : w.ex = none) {σ : L2.St} {H : Hp} {Q : VK} (q : tN w xw C W (.comp2 e t l ts t1 l1 ts1) σ H Q) :
    tLc2 (tI w xw C W l) (gT w t) (tTs w xw C W0 ts) (tI w xw C W0 l1) (gT w t1) (tTs w xw C W0 ts1) (tE w xw C W0 e) (t.ix ++ t1.ix) t1.ix σ H Q := by
  obtain ⟨φ, env, S, m, g⟩ := q
  refine ⟨φ, env, S, m, ?_⟩
  have g : Rg w xw W σ (RN w H) φ S H ((evL C l env S).bind fun p S => if p.1.length ≤ line then (compL2 (compF2 C e t ts t1 l1 ts1 env) (stands p.2 (obAt p.2 S)) p.1 S).bind fun ys S => comp2K [] ys S else .bad) Q := g
  cases ev : evL C l env S with
  | bad => rw [ev] at g; exact g.elim
  | exc c fs S' => rw [ev] at g; exact g
  | ok p S1 =>
    rw [ev] at g
    intro J φ1 H1 l1' so1 r1 Lp hD
    have g : Rg w xw W σ (RN w H) φ S H (if p.1.length ≤ line then (compL2 (compF2 C e t ts t1 l1 ts1 env) (stands p.2 (obAt p.2 S1)) p.1 S1).bind fun ys S => comp2K [] ys S else .bad) Q := g
    obtain ⟨hl, g⟩ := Rg.ite g
    obtain ⟨b1, it⟩ := r1
    generalize hgd : stands p.2 (obAt p.2 S1) = gd at g it
    generalize hds : p.1 = ds at g it b1 hl
    refine ⟨fun i mm H' => mm = ds.length - i ∧ ∃ φ2 S2 vs acc, Acc w φ1 S1 H1 Lp φ2 S2 H' vs acc ∧
      Rg w xw W σ (RN w H) φ S H ((compL2 (compF2 C e t ts t1 l1 ts1 env) gd (ds.drop i) S2).bind fun ys S => comp2K acc ys S) Q, ⟨ds.length, by simp, φ1, S1, [], [], ⟨Lat.newT hD, so1.new hD, upd_same, .nil, rfl, so1.ne hD⟩, by simpa using g⟩, ?_⟩
    rintro i mm H' ⟨rfl, φ2, S2, vs, acc, A, g⟩
    cases hdr : ds.drop i with
    | nil =>
      rw [hdr] at g
      have g : Rg w xw W σ (RN w H) φ S H ((if gd S2 then Res.ok [] S2 else Res.bad).bind fun ys S => comp2K acc ys S) Q := g
      cases hgS : gd S2 with
      | false => rw [hgS] at g; exact g.elim
      | true =>
        rw [hgS] at g
        have hi' : ds.length ≤ i := by
          have := congrArg List.length hdr
          simp only [List.length_drop, List.length_nil] at this
          omega
        refine .inl ⟨((it i φ2 S2 H' A.lat.w A.so hgS).1 hi'), ?_⟩
        have g : Rg w xw W σ (RN w H) φ S H (if (acc ++ []).length ≤ line then .ok (acc ++ [], none) S2 else .bad) Q := g
        obtain ⟨_, g⟩ := Rg.ite g
        rw [List.append_nil] at g
        exact g (.ref Lp) φ2 H' (l1'.trans A.lat) A.so ⟨A.ba, Lp, vs, rfl, l1'.no Lp hD, A.at_, A.ra, A.ne⟩
    | cons d rest =>
      obtain ⟨hd, hrest, hil⟩ := drop_at hdr
      rw [hdr] at g
      have g : Rg w xw W σ (RN w H) φ S H ((if gd S2 then (match compF2 C e t ts t1 l1 ts1 env d S2 with
        | Res.ok zs S => (compL2 (compF2 C e t ts t1 l1 ts1 env) gd rest S).bind fun ys S => .ok (zs ++ ys) S
        | _ => Res.bad) else Res.bad).bind fun ys S => comp2K acc ys S) Q := g
      cases hgS : gd S2 with
      | false => rw [hgS] at g; exact g.elim
      | true =>
        rw [hgS, if_pos rfl] at g
        obtain ⟨hgo, hy⟩ := (it i φ2 S2 H' A.lat.w A.so hgS).2 d hd
        refine .inr ⟨hgo, fun H2 => ∃ φ2 S2 vs acc, Acc w φ1 S1 H1 Lp φ2 S2 H2 vs acc ∧
          Rg w xw W σ (RN w H) φ S H ((compL2 (compF2 C e t ts t1 l1 ts1 env) gd rest S2).bind fun ys S => comp2K acc ys S) Q, fun H2 q => ⟨ds.length - (i + 1), by omega, rfl, by rw [hrest]; exact q⟩, fun x H3 y => ?_⟩
        obtain ⟨l3, so3, rx⟩ := hy x H3 y
        have A3 := A.step l3 so3
        have bd : D.bel S2.length d = true := D.bel_mono A.lat.le _ (bels_all.mp b1 d (List.mem_of_getElem? hd))
        cases hF : compF2 C e t ts t1 l1 ts1 env d S2 with
        | bad => rw [hF] at g; exact g.elim
        | exc c fs S' => rw [hF] at g; exact g.elim
        | ok zs S4 =>
          rw [hF] at g
          unfold compF2 at hF
          cases hb : bind1 t d (kill (t.ix ++ t1.ix) env) with
          | none => rw [hb] at hF; cases hF
          | some env2 =>
            rw [hb] at hF
            have m3 : Sim w.K φ2 w.ex H3 S2 (wipe σ (t.ix ++ t1.ix)) (kill (t.ix ++ t1.ix) env) := ⟨so3, ((m.e.lat l1').lat (A.lat.trans l3)).wipe _ hx⟩
            refine ⟨φ2, S2, kill (t.ix ++ t1.ix) env, d, env2, m3, ⟨rx, bd⟩, hb, fun σ2 m4 sm => ⟨(wipe_same (sm.mono fun i hi => List.mem_append_left _ hi)).trans wipe_wipe, ?_⟩⟩
            refine ⟨φ2, env2, S2, m4, ?_⟩
            dsimp only at hF
            cases hT : evTs C ts env2 S2 with
            | bad => rw [hT] at hF; cases hF
            | exc c fs S' => rw [hT] at hF; cases hF
            | ok k S5 =>
              rw [hT] at hF
              intro kb φ5 H5 l5 so5 rk
              cases rk
              have A5 := A3.step l5 so5
              cases k with
              | false =>
                cases hF
                rw [if_neg (by simp)]
                refine ⟨φ5, S4, vs, acc, A5, ?_⟩
                have e0 : ((compL2 (compF2 C e t ts t1 l1 ts1 env) gd rest S4).bind fun ys S => Res.ok ([] ++ ys) S) = compL2 (compF2 C e t ts t1 l1 ts1 env) gd rest S4 := by
                  cases compL2 (compF2 C e t ts t1 l1 ts1 env) gd rest S4 <;> rfl
                have g : Rg w xw W σ (RN w H) φ S H (((compL2 (compF2 C e t ts t1 l1 ts1 env) gd rest S4).bind fun ys S => Res.ok ([] ++ ys) S).bind fun ys S => comp2K acc ys S) Q := g
                rw [e0] at g
                exact g
              | true =>
                dsimp only at hF
                rw [if_pos rfl]
                refine ⟨φ5, env2, S5, m4.lat l5 so5, ?_⟩
                cases hL : evL C l1 env2 S5 with
                | bad => rw [hL] at hF; cases hF
                | exc c fs S' => rw [hL] at hF; cases hF
                | ok p1 S6 =>
                  rw [hL] at hF
                  dsimp only at hF
                  intro J1 φ6 H6 l6 so6 r6
                  obtain ⟨b6, it6⟩ := r6
                  have A6 := A5.step l6 so6
                  by_cases hl6 : p1.1.length ≤ line
                  · rw [if_pos hl6] at hF
                    generalize hgd1 : stands p1.2 (obAt p1.2 S6) = gd1 at hF it6
                    generalize hds1 : p1.1 = ds1 at hF it6 b6 hl6
                    have m6 : Sim w.K φ6 w.ex H6 S6 σ2 env2 := (m4.lat l5 so5).lat l6 so6
                    refine ⟨fun j kk H' => kk = ds1.length - j ∧ ∃ φ7 S7 vs7 acc7, Acc w φ1 S1 H1 Lp φ7 S7 H' vs7 acc7 ∧ LatW φ6 φ7 S6 S7 H6 H' ∧
                      Rg w xw W σ (RN w H) φ S H ((compL (compF1 C e t1 ts1 env2) gd1 (ds1.drop j) S7).bind fun zs S => (compL2 (compF2 C e t ts t1 l1 ts1 env) gd rest S).bind fun ys S => comp2K acc7 (zs ++ ys) S) Q, ⟨ds1.length, by simp, φ6, S6, vs, acc, A6, LatW.refl, ?_⟩, ?_⟩
                    · rw [List.drop_zero, hF]
                      show Rg w xw W σ (RN w H) φ S H ((compL2 (compF2 C e t ts t1 l1 ts1 env) gd rest S4).bind fun ys S => comp2K acc (zs ++ ys) S) Q
                      have e0 : (((compL2 (compF2 C e t ts t1 l1 ts1 env) gd rest S4).bind fun ys S => Res.ok (zs ++ ys) S).bind fun ys S => comp2K acc ys S) = (compL2 (compF2 C e t ts t1 l1 ts1 env) gd rest S4).bind fun ys S => comp2K acc (zs ++ ys) S := by
                        cases compL2 (compF2 C e t ts t1 l1 ts1 env) gd rest S4 <;> rfl
                      rw [← e0]
                      exact g
                    · clear g hF
                      rintro j kk H7 ⟨rfl, φ7, S7, vs7, acc7, A7, W7, g7⟩
                      cases hdr1 : ds1.drop j with
                      | nil =>
                        rw [hdr1] at g7
                        have g7 : Rg w xw W σ (RN w H) φ S H ((if gd1 S7 then Res.ok [] S7 else Res.bad).bind fun zs S => (compL2 (compF2 C e t ts t1 l1 ts1 env) gd rest S).bind fun ys S => comp2K acc7 (zs ++ ys) S) Q := g7
                        cases hg1 : gd1 S7 with
                        | false => rw [hg1] at g7; exact g7.elim
                        | true =>
                          rw [hg1] at g7
                          have hj' : ds1.length ≤ j := by
                            have := congrArg List.length hdr1
                            simp only [List.length_drop, List.length_nil] at this
                            omega
                          exact .inl ⟨(it6 j φ7 S7 H7 W7 A7.so hg1).1 hj', φ7, S7, vs7, acc7, A7, g7⟩
                      | cons d1 rest1 =>
                        obtain ⟨hd1, hrest1, hjl⟩ := drop_at hdr1
                        rw [hdr1] at g7
                        have g7 : Rg w xw W σ (RN w H) φ S H ((if gd1 S7 then (match compF1 C e t1 ts1 env2 d1 S7 with
                          | Res.ok o S => (compL (compF1 C e t1 ts1 env2) gd1 rest1 S).bind fun ys S => .ok (match o with | some y => y :: ys | none => ys) S
                          | _ => Res.bad) else Res.bad).bind fun zs S => (compL2 (compF2 C e t ts t1 l1 ts1 env) gd rest S).bind fun ys S => comp2K acc7 (zs ++ ys) S) Q := g7
                        cases hg1 : gd1 S7 with
                        | false => rw [hg1] at g7; exact g7.elim
                        | true =>
                          rw [hg1, if_pos rfl] at g7
                          obtain ⟨hgo1, hy1⟩ := (it6 j φ7 S7 H7 W7 A7.so hg1).2 d1 hd1
                          refine .inr ⟨hgo1, fun H8 => ∃ φ8 S8 vs8 acc8, Acc w φ1 S1 H1 Lp φ8 S8 H8 vs8 acc8 ∧ LatW φ6 φ8 S6 S8 H6 H8 ∧
                            Rg w xw W σ (RN w H) φ S H ((compL (compF1 C e t1 ts1 env2) gd1 rest1 S8).bind fun zs S => (compL2 (compF2 C e t ts t1 l1 ts1 env) gd rest S).bind fun ys S => comp2K acc8 (zs ++ ys) S) Q, fun H8 q => ⟨ds1.length - (j + 1), by omega, rfl, by rw [hrest1]; exact q⟩, fun x1 H8 y1 => ?_⟩
                          obtain ⟨l8, so8, rx1⟩ := hy1 x1 H8 y1
                          have A8 := A7.step l8 so8
                          have W8 := W7.trans l8.w
                          have bd1 : D.bel S7.length d1 = true := D.bel_mono W7.le _ (bels_all.mp b6 d1 (List.mem_of_getElem? hd1))
                          cases hF1 : compF1 C e t1 ts1 env2 d1 S7 with
                          | bad => rw [hF1] at g7; exact g7.elim
                          | exc c fs S' => rw [hF1] at g7; exact g7.elim
                          | ok o S9 =>
                            rw [hF1] at g7
                            unfold compF1 at hF1
                            cases hb1 : bind1 t1 d1 (kill t1.ix env2) with
                            | none => rw [hb1] at hF1; cases hF1
                            | some env3 =>
                              rw [hb1] at hF1
                              have m8 : Sim w.K φ7 w.ex H8 S7 (wipe σ2 t1.ix) (kill t1.ix env2) := ⟨so8, (m6.e.latW W8).wipe _ hx⟩
                              refine ⟨φ7, S7, kill t1.ix env2, d1, env3, m8, ⟨rx1, bd1⟩, hb1, fun σ3 m9 sm1 => ⟨(wipe_same sm1).trans wipe_wipe, ?_⟩⟩
                              refine ⟨φ7, env3, S7, m9, ?_⟩
                              dsimp only at hF1
                              cases hT1 : evTs C ts1 env3 S7 with
                              | bad => rw [hT1] at hF1; cases hF1
                              | exc c fs S' => rw [hT1] at hF1; cases hF1
                              | ok k1 S10 =>
                                rw [hT1] at hF1
                                intro kb1 φ11 H11 l11 so11 rk1
                                cases rk1
                                have A11 := A8.step l11 so11
                                have W11 := W8.trans l11.w
                                cases k1 with
                                | false =>
                                  cases hF1
                                  rw [if_neg (by simp)]
                                  refine ⟨φ11, S9, vs7, acc7, A11, W11, ?_⟩
                                  have e0 : ((compL (compF1 C e t1 ts1 env2) gd1 rest1 S9).bind fun ys S => Res.ok (match (none : Option D) with | some y => y :: ys | none => ys) S) = compL (compF1 C e t1 ts1 env2) gd1 rest1 S9 := by
                                    cases compL (compF1 C e t1 ts1 env2) gd1 rest1 S9 <;> rfl
                                  have g7 : Rg w xw W σ (RN w H) φ S H (((compL (compF1 C e t1 ts1 env2) gd1 rest1 S9).bind fun ys S => Res.ok (match (none : Option D) with | some y => y :: ys | none => ys) S).bind fun zs S => (compL2 (compF2 C e t ts t1 l1 ts1 env) gd rest S).bind fun ys S => comp2K acc7 (zs ++ ys) S) Q := g7
                                  rw [e0] at g7
                                  exact g7
                                | true =>
                                  dsimp only at hF1
                                  rw [if_pos rfl]
                                  refine ⟨φ11, env3, S10, m9.lat l11 so11, ?_⟩
                                  cases hE : evE C e env3 S10 with
                                  | bad => rw [hE] at hF1; cases hF1
                                  | exc c fs S' => rw [hE] at hF1; cases hF1
                                  | ok y S12 =>
                                    rw [hE] at hF1
                                    cases hF1
                                    intro yv φ13 H13 l13 so13 ry
                                    have A13 := A11.step l13 so13
                                    have W13 := W11.trans l13.w
                                    have g7 : Rg w xw W σ (RN w H) φ S H (((compL (compF1 C e t1 ts1 env2) gd1 rest1 S9).bind fun ys S => Res.ok (y :: ys) S).bind fun zs S => (compL2 (compF2 C e t ts t1 l1 ts1 env) gd rest S).bind fun ys S => comp2K acc7 (zs ++ ys) S) Q := g7
                                    have key : acc7.length < sizeLine ∧ Rg w xw W σ (RN w H) φ S H ((compL (compF1 C e t1 ts1 env2) gd1 rest1 S9).bind fun zs S => (compL2 (compF2 C e t ts t1 l1 ts1 env) gd rest S).bind fun ys S => comp2K (acc7 ++ [y]) (zs ++ ys) S) Q := by
                                      cases hc : compL (compF1 C e t1 ts1 env2) gd1 rest1 S9 with
                                      | bad => rw [hc] at g7; exact g7.elim
                                      | exc c fs S' => exact absurd hc (compL_noX _ _)
                                      | ok zs1 S13 =>
                                        rw [hc] at g7
                                        have g7 : Rg w xw W σ (RN w H) φ S H ((compL2 (compF2 C e t ts t1 l1 ts1 env) gd rest S13).bind fun ys S => comp2K acc7 (y :: zs1 ++ ys) S) Q := g7
                                        show _ ∧ Rg w xw W σ (RN w H) φ S H ((compL2 (compF2 C e t ts t1 l1 ts1 env) gd rest S13).bind fun ys S => comp2K (acc7 ++ [y]) (zs1 ++ ys) S) Q
                                        have e1 : ∀ ys, acc7 ++ (y :: zs1 ++ ys) = acc7 ++ [y] ++ (zs1 ++ ys) := fun ys => by simp
                                        have e2 : (fun (ys : List D) (S : Store) => comp2K acc7 (y :: zs1 ++ ys) S) = fun ys S => comp2K (acc7 ++ [y]) (zs1 ++ ys) S := by
                                          funext ys S
                                          unfold comp2K
                                          rw [e1]
                                        refine ⟨?_, by rw [← e2]; exact g7⟩
                                        cases hc2 : compL2 (compF2 C e t ts t1 l1 ts1 env) gd rest S13 with
                                        | bad => rw [hc2] at g7; exact g7.elim
                                        | exc c fs S' => exact absurd hc2 (compL2_noX _ _)
                                        | ok ys S14 =>
                                          rw [hc2] at g7
                                          have g7 : Rg w xw W σ (RN w H) φ S H (if (acc7 ++ (y :: zs1 ++ ys)).length ≤ line then .ok (acc7 ++ (y :: zs1 ++ ys), none) S14 else .bad) Q := g7
                                          obtain ⟨hl, _⟩ := Rg.ite g7
                                          simp only [List.length_append, List.length_cons] at hl
                                          rw [line_eq]; omega
                                    have A14 := A13.add hD ry
                                    exact ⟨vs7, A13.at_, by rw [A13.ra.length]; exact key.1, φ13, S9, vs7 ++ [yv], acc7 ++ [y], A14, W13.trans ⟨Nat.le_refl _, fun _ _ => rfl, Kp.set A13.at_ trivial⟩, key.2⟩
                  · rw [if_neg hl6] at hF; cases hF
theorem sn_comp2 {elt tg iter tg1 iter1 : Expr} {ifs ifs1 : List Expr} {scope : Scope} {own : List (Str × Nat)} {pos : Pos} {e : Exp} {t : Tg} {l : Src} {ts : List Tst} {t1 : Tg} {l1 : Src} {ts1 : List Tst} (hx : w.ex = none) (hc : X.calm = true) (hN : X.N.Nodup) (hi : PI X tg iter (tI w xw C W l)) (ok : BlkOk X.N X.env.scope scope own) (hv : own.map (·.2) = t.ix ++ t1.ix)
    (hg : ∀ (s : Shared) (H : Hp) (D : Addr) (cl : List (Str × Addr)) (fp : List Addr), PG (X.blk s H scope (compEnvC scope cl D X.env) fp) tg (gT w t))
    (ht : ∀ (s : Shared) (H : Hp) (D : Addr) (cl : List (Str × Addr)) (fp : List Addr), PTs (X.blk s H scope (compEnvC scope cl D X.env) fp) ifs (tTs w xw C W0 ts))
    (hi1 : ∀ (s : Shared) (H : Hp) (D : Addr) (cl : List (Str × Addr)) (fp : List Addr), PI (X.blk s H scope (compEnvC scope cl D X.env) fp) tg1 iter1 (tI w xw C W0 l1))
    (hg1 : ∀ (s : Shared) (H : Hp) (D : Addr) (cl : List (Str × Addr)) (fp : List Addr), PG (X.blk s H scope (compEnvC scope cl D X.env) fp) tg1 (gT w t1))
    (ht1 : ∀ (s : Shared) (H : Hp) (D : Addr) (cl : List (Str × Addr)) (fp : List Addr), PTs (X.blk s H scope (compEnvC scope cl D X.env) fp) ifs1 (tTs w xw C W0 ts1))
    (he : ∀ (s : Shared) (H : Hp) (D : Addr) (cl : List (Str × Addr)) (fp : List Addr), PE (X.blk s H scope (compEnvC scope cl D X.env) fp) elt (tE w xw C W0 e)) (hs : ∀ x, foldedSetIterable iter X.env x = pure x) (hs1 : ∀ env x, foldedSetIterable iter1 env x = pure x) :
    PE X (.ListComp elt [⟨tg, iter, ifs, 0⟩, ⟨tg1, iter1, ifs1, 0⟩] scope pos) (tN w xw C W (.comp2 e t l ts t1 l1 ts1)) :=
  peI (pe_lc2 (vs1 := t1.ix) hc hN hi ok (fun i hi => by rw [hv]; exact List.mem_append_right _ hi) hg ht hi1 hg1 ht1 he hs hs1) fun σ H Q q => by rw [hv]; exact comp2_rd hx q
end Pw
end
section
set_option Elab.async false
set_option linter.all false
set_option maxRecDepth 100000
set_option maxHeartbeats 2000000
set_option autoImplicit false
/-! Pw18f: min() of a list of like values -/
namespace Pw
open PySem PySem.Spec PyProof.Rows L2
open PySem.W (keyToks keyToksAll dataLt alike alikeAll minD AlikeAll min_list_data reads_keeps)
mutual
def toDa : D → PyData
  | .bl b => .bool b
  | .int i => .int i
  | .str s => .str ⟨s.toArray⟩
  | .tup xs => .tuple (toDas xs)
  | _ => .none
def toDas : List D → List PyData
  | [] => []
  | x :: r => toDa x :: toDas r
end
theorem toDas_map : ∀ xs : List D, toDas xs = xs.map toDa
  | [] => by rw [toDas]; rfl
  | x :: r => by rw [toDas, toDas_map r]; rfl
mutual
theorem toks_eq : ∀ d : D, keyToks (toDa d) = toksD d
  | .non => by simp [toDa, toksD, keyToks]
  | .bl b => by simp [toDa, toksD, keyToks]
  | .int i => by simp [toDa, toksD, keyToks]
  | .str s => by simp [toDa, toksD, keyToks]
  | .tup xs => by simp only [toDa, toksD, keyToks]; exact toks_eqs xs
  | .obj n => by simp [toDa, toksD, keyToks]
  | .exc c fs => by simp [toDa, toksD, keyToks]
theorem toks_eqs : ∀ xs : List D, keyToksAll (toDas xs) = toksDs xs
  | [] => by simp [toDas, toksDs, keyToksAll]
  | x :: r => by simp only [toDas, toksDs, keyToksAll]; rw [toks_eq x, toks_eqs r]
end
theorem itLt_eq (a b : Int ⊕ List Nat) : itemLt a b = itLt a b := by
  cases a <;> cases b <;> rfl
theorem lexT_eq : ∀ a b : List (Int ⊕ List Nat), PyProof.Rows.lexLt itemOrd a b = lexT a b
  | [], [] => rfl
  | [], _ :: _ => rfl
  | _ :: _, [] => rfl
  | x :: r, y :: t => by
    rw [lex_cons, lexT, lexT_eq r t]
    show (itemLt x y || (!itemLt y x && _)) = _
    rw [itLt_eq, itLt_eq]
theorem ltT_eq (a b : D) : dataLt (toDa a) (toDa b) = ltT a b := by
  unfold dataLt ltT
  rw [toks_eq, toks_eq, lexT_eq]
mutual
theorem like_eq : ∀ a b : D, likeD a b = true → alike (toDa a) (toDa b) = true
  | .bl _, b, h => by cases b <;> first | (simp [likeD] at h; done) | (simp [toDa, alike])
  | .int _, b, h => by cases b <;> first | (simp [likeD] at h; done) | (simp [toDa, alike])
  | .str _, b, h => by cases b <;> first | (simp [likeD] at h; done) | (simp [toDa, alike])
  | .tup xs, b, h => by
    cases b with
    | tup ys => simp only [toDa, alike]; exact like_eqs xs ys (by simpa [likeD] using h)
    | _ => simp [likeD] at h
  | .non, b, h => by cases b <;> simp [likeD] at h
  | .obj _, b, h => by cases b <;> simp [likeD] at h
  | .exc _ _, b, h => by cases b <;> simp [likeD] at h
theorem like_eqs : ∀ a b : List D, likeDs a b = true → alikeAll (toDas a) (toDas b) = true
  | [], b, _ => by simp [toDas, alikeAll]
  | x :: r, [], h => by simp [likeDs] at h
  | x :: r, y :: t, h => by
    simp only [likeDs, Bool.and_eq_true] at h
    simp only [toDas, alikeAll, Bool.and_eq_true]
    exact ⟨like_eq x y h.1, like_eqs r t h.2⟩
end
theorem depth_le : ∀ (n : Nat) (d : D), flatQ n d = true → (toDa d).depth ≤ n
  | n, .bl b, _ => by simp [toDa, PyData.depth]
  | n, .int b, _ => by simp [toDa, PyData.depth]
  | n, .str b, _ => by simp [toDa, PyData.depth]
  | n + 1, .tup xs, h => by
    simp only [flatQ, List.all_eq_true] at h
    have key : ∀ l : List D, (∀ x ∈ l, flatQ n x = true) → PyData.depthAll (l.map toDa) ≤ n := by
      intro l
      induction l with
      | nil => intro _; simp [PyData.depthAll]
      | cons x r ih =>
        intro hl
        rw [List.map_cons, PyData.depthAll]
        have h1 := depth_le n x (hl x (by simp))
        have h2 := ih fun y hy => hl y (by simp [hy])
        omega
    have := key xs h
    simp only [toDa, PyData.depth, toDas_map]
    omega
  | 0, .tup xs, h => by simp [flatQ] at h
  | n, .non, h => by cases n <;> simp [flatQ] at h
  | n, .obj _, h => by cases n <;> simp [flatQ] at h
  | n, .exc _ _, h => by cases n <;> simp [flatQ] at h
theorem toDa_inj : ∀ (n : Nat) (a b : D), flatQ n a = true → flatQ n b = true → toDa a = toDa b → a = b
  | n, .bl x, b, _, hb, h => by
    cases b <;> first | (simp [toDa] at h; done) | (simp [toDa] at h; rw [h])
  | n, .int x, b, _, hb, h => by
    cases b <;> first | (simp [toDa] at h; done) | (simp [toDa] at h; rw [h])
  | n, .str x, b, _, hb, h => by
    cases b <;> first | (simp [toDa] at h; done) | (simp [toDa] at h; rw [h])
  | n + 1, .tup xs, b, ha, hb, h => by
    cases b with
    | tup ys =>
      simp only [flatQ, List.all_eq_true] at ha hb
      simp only [toDa, toDas_map] at h
      injection h with h
      have key : ∀ l m : List D, (∀ x ∈ l, flatQ n x = true) → (∀ x ∈ m, flatQ n x = true) → l.map toDa = m.map toDa → l = m := by
        intro l
        induction l with
        | nil => intro m _ _ h; cases m with
          | nil => rfl
          | cons => cases h
        | cons x r ih => intro m h1 h2 h; cases m with
          | nil => cases h
          | cons y t =>
            rw [List.map_cons, List.map_cons] at h
            injection h with h3 h4
            rw [toDa_inj n x y (h1 x (by simp)) (h2 y (by simp)) h3, ih t (fun z hz => h1 z (by simp [hz])) (fun z hz => h2 z (by simp [hz])) h4]
      rw [key xs ys ha hb h]
    | _ => simp [toDa] at h
  | 0, .tup xs, _, h, _, _ => by simp [flatQ] at h
  | n, .non, _, h, _, _ => by cases n <;> simp [flatQ] at h
  | n, .obj _, _, h, _, _ => by cases n <;> simp [flatQ] at h
  | n, .exc _ _, _, h, _, _ => by cases n <;> simp [flatQ] at h
theorem minT_eq (x : D) (xs : List D) : minD (toDa x) (xs.map toDa) = toDa (minT x xs) := by
  unfold minD minT
  induction xs generalizing x with
  | nil => rfl
  | cons y r ih =>
    rw [List.map_cons, List.foldl_cons, List.foldl_cons, ltT_eq]
    rw [← ih]
    split <;> rfl
theorem minT_mem : ∀ (xs : List D) (x : D), minT x xs ∈ x :: xs
  | [], x => by simp [minT]
  | y :: r, x => by
    have := minT_mem r (if ltT y x = true then y else x)
    unfold minT at this ⊢
    rw [List.foldl_cons]
    rw [List.mem_cons] at this ⊢
    rcases this with h | h
    · rw [h]; split
      · exact .inr (by simp)
      · exact .inl rfl
    · exact .inr (by simp [h])
section
variable {K : PySem.W.Frag} {φ : Nat → Addr} {ex : Ex1} {H : Hp}
mutual
theorem dp_of : ∀ (n : Nat) (d : D) (v : V), flatQ n d = true → Rp K φ ex H v d → Dp K H v (toDa d)
  | n, .bl b, v, _, r => by cases r; simp only [toDa]; exact .bl b
  | n, .int i, v, _, r => by cases r; simp only [toDa]; exact .int i
  | n, .str s, v, _, r => by
    obtain ⟨x, rfl, rfl⟩ := rp_inv r
    simp only [toDa]
    exact .str x
  | n + 1, .tup xs, v, h, r => by
    cases r with
    | tup h1 r1 =>
      simp only [toDa]
      simp only [flatQ, List.all_eq_true] at h
      exact .tup h1 (dps_of n xs _ h r1)
  | 0, .tup xs, _, h, _ => by simp [flatQ] at h
  | n, .non, _, h, _ => by cases n <;> simp [flatQ] at h
  | n, .obj _, _, h, _ => by cases n <;> simp [flatQ] at h
  | n, .exc _ _, _, h, _ => by cases n <;> simp [flatQ] at h
theorem dps_of : ∀ (n : Nat) (ds : List D) (vs : List V), (∀ d ∈ ds, flatQ n d = true) → RpA K φ ex H vs ds → DpAll K H vs (toDas ds)
  | n, [], _, _, .nil => by rw [toDas]; exact .nil
  | n, d :: ds, _, h, .cons r rs => by
    rw [toDas]
    exact .cons (dp_of n d _ (h d (by simp)) r) (dps_of n ds _ (fun x hx => h x (by simp [hx])) rs)
end
end
def rMinD (K : PySem.W.Frag) : List V → Hp → VK → Prop := fun vs H Q => ∃ (a : Addr) (xs : List V) (x : PyData) (ds : List PyData), vs = [V.ref a] ∧ SqL K H a xs ∧ DpAll K H xs (x :: ds) ∧ AlikeAll (x :: ds) ∧ PyData.depthAll (x :: ds) ≤ 60 ∧
  ∀ (i : Nat) v d, xs[i]? = some v → (x :: ds)[i]? = some d → d = minD x ds → Q v H
theorem vals_at : ∀ {xs : List V} {us : List Value}, Vals xs us → ∀ (i : Nat) (u : Value), us[i]? = some u → ∃ v, xs[i]? = some v ∧ RelV v u
  | _, _, .nil, i, u, h => by simp at h
  | _, _, .cons r rs, 0, u, h => by
    have e := Option.some.inj (show some _ = some u from h)
    subst e
    exact ⟨_, rfl, r⟩
  | _, _, .cons r rs, i + 1, u, h => vals_at rs i u (by simpa using h)
theorem dpAll_at {K : PySem.W.Frag} {H : Hp} : ∀ {xs : List V} {ds : List PyData}, DpAll K H xs ds → ∀ (i : Nat) v, xs[i]? = some v → ∃ d, ds[i]? = some d ∧ Dp K H v d
  | _, _, .nil, i, v, h => by simp at h
  | _, _, .cons r rs, 0, v, h => by
    have e := Option.some.inj (show some _ = some v from h)
    subst e
    exact ⟨_, rfl, r⟩
  | _, _, .cons r rs, i + 1, v, h => dpAll_at rs i v (by simpa using h)
variable {w : Wo} {xw : Xw} {C : Ctx} {W : WX} {X : Cx}
theorem cr_minD (hc : X.calm = true) (hu : X.A.units + 65 < cLine) : CallR X (.builtin "min") (rMinD X.K) := by
  intro pins s σ H vs us Q I r h
  obtain ⟨a, xs, x, ds, rfl, hs, hd, ha, hdep, q⟩ := h
  obtain ⟨its, rv, hl, _⟩ := I.list hs
  rw [Vals.ref1 r]
  obtain ⟨as, hr⟩ := Dp.readsAll I _ _ _ hd rv
  refine min_list_data (I.ok.hd hc) hl.isList hr ha (by omega) fun i u h' tk bs hv hrd hk => ?_
  have hv' : its[i]? = some u := by simpa using hv
  obtain ⟨v, hx, rvu⟩ := vals_at rv i u hv'
  obtain ⟨d, hdi, dpv⟩ := dpAll_at hd i v hx
  obtain ⟨as2, r2⟩ := Dp.reads I d v u dpv rvu
  have e := (PyProof.Rows.reads_det (fun _ _ e _ => e) (reads_keeps hk r2) hrd).1
  exact ⟨v, H, I.kept hk, rvu, q i v d hx hdi e.symm⟩
theorem se_minG {a : Expr} {p pos : Pos} {l : Src} (hK : w.K = X.K) (hc : X.calm = true) (hu : X.A.units + 65 < cLine) (gl : Gl X "min") (hm : X.mg "min" = none) (ha : PE X a (tL w xw C W l)) (h1 : okX a = true) : PE X (.Call (.Name "min" p) [a] [] pos) (tE w xw C W (.minOf l)) :=
  peI (cb1 (r := fun xs H Q => rMin X.K xs H Q ∨ rMinD X.K xs H Q) (fun pins s σ H xs us Q I r h => h.elim (cr_min hc pins s σ H xs us Q I r) (cr_minD hc hu pins s σ H xs us Q I r)) gl hm bb_min ha (by decide) h1) fun σ H Q ⟨φ, env, S, m, g⟩ => by
    refine tL.then m g fun v q S1 φ1 H1 l1 m1 r1 g => ?_
    obtain ⟨b, a, vs, rfl, h, r⟩ := r1
    have data : intsD q.1 = none ∨ intsD q.1 = some [] → rMin X.K [V.ref a] H1 Q ∨ rMinD X.K [V.ref a] H1 Q := fun e => by
      have g : Rg w xw W σ (RE w) φ1 S1 H1 (match q.1 with
        | x :: r => if minLk (x :: r) = true then .ok (minT x r) S1 else .bad
        | [] => .bad) Q := by
        rcases e with e | e <;> (rw [e] at g; exact g)
      cases hq : q.1 with
      | nil => rw [hq] at g; exact g.elim
      | cons x t =>
        rw [hq] at g r b
        obtain ⟨hk, g⟩ := Rg.ite g
        simp only [minLk, List.all_eq_true, Bool.and_eq_true] at hk
        refine .inr ⟨a, vs, toDa x, t.map toDa, rfl, hK ▸ h, ?_, ?_, ?_, fun i v d hv hd e => ?_⟩
        · have := dps_of (K := w.K) 8 (x :: t) vs (fun d hd => (hk d hd).1) r
          rw [toDas, toDas_map] at this
          exact hK ▸ this
        · refine ⟨fun y hy z hz => ?_, fun y hy => ?_⟩
          · rw [← List.map_cons, List.mem_map] at hy hz
            obtain ⟨y', hy', rfl⟩ := hy
            obtain ⟨z', hz', rfl⟩ := hz
            exact like_eq y' z' ((hk y' hy').2 z' hz')
          · rw [← List.map_cons, List.mem_map] at hy
            obtain ⟨y', hy', rfl⟩ := hy
            have := (hk y' hy').1
            cases y' <;> first | (simp [flatQ] at this; done) | (simp [toDa])
        · rw [← List.map_cons]
          have : ∀ l : List D, (∀ d ∈ l, flatQ 8 d = true) → PyData.depthAll (l.map toDa) ≤ 8 := by
            intro l hl
            induction l with
            | nil => simp [PyData.depthAll]
            | cons x r ih =>
              rw [List.map_cons, PyData.depthAll]
              have h1 := depth_le 8 x (hl x (by simp))
              have h2 := ih fun y hy => hl y (by simp [hy])
              omega
          have := this (x :: t) fun d hd => (hk d hd).1
          omega
        · rw [minT_eq] at e
          rw [← List.map_cons, List.getElem?_map] at hd
          obtain ⟨y, hy, rfl⟩ := Option.map_eq_some_iff.mp hd
          have hym := List.mem_of_getElem? hy
          have := toDa_inj 8 y (minT x t) (hk y hym).1 (hk _ (minT_mem t x)).1 e
          obtain ⟨v2, hv2, rv2⟩ := r.get y hy
          have : v2 = v := by rw [hv] at hv2; exact (Option.some.inj hv2).symm
          subst this
          subst_vars
          exact g v2 φ1 H1 Lat.refl m1.o ⟨rv2, bels_all.mp b _ hym⟩
    cases e : intsD q.1 with
    | none => exact data (.inl e)
    | some ns => cases ns with
      | nil => exact data (.inr e)
      | cons x t =>
        rw [e] at g
        obtain ⟨rfl, _⟩ := ints_of r e
        refine .inl ⟨a, x :: t, rfl, hK ▸ h, by simp, fun mx h2 h3 => ?_⟩
        have : mx = t.foldl min x := by
          have k1 := h3 _ (foldl_min_mem t x)
          have k2 := foldl_min_le t x _ h2
          omega
        subst this
        exact fInt g m1.o
end Pw
end
section
set_option Elab.async false
set_option linter.all false
set_option maxRecDepth 100000
set_option maxHeartbeats 1000000
set_option autoImplicit false
/-! Pw19: the look at the text: is this term of the small language what stands there? -/
namespace Pw
open PySem PySem.Spec PyProof.Rows L2
/-- what is fixed within a def -/
structure Cf where
  nm : Nm
  N : List Str
  cm : Bool
  sl : Option Nat
/-- what changes with a block -/
structure Cs where
  sc : Scope
  cf : Str → Bool
def blkS (c : Cs) (scope : Scope) : Cs := ⟨relS scope c.sc, fun x => scope.names.lookup x == some .cell⟩
inductive Md where | n | i | s | l
def bopOk : Bop → Operator → Bool
  | .add, .Add => true | .sub, .Sub => true | .mul, .Mult => true | .fdiv, .FloorDiv => true | .mod, .Mod => true | .pow, .Pow => true | .shl, .LShift => true | .shr, .RShift => true | .band, .BitAnd => true
  | _, _ => false
def copOk : Cop → CmpOp → Bool
  | .eq, .Eq => true | .ne, .NotEq => true | .lt, .Lt => true | .le, .LtE => true | .gt, .Gt => true | .ge, .GtE => true | .inn, .In => true | .nin, .NotIn => true | .is, .Is => true | .isn, .IsNot => true
  | _, _ => false
def nameIs (c : Cs) (e : Expr) (s : Str) : Bool := match e with
  | .Name x _ => eqS x s && gloB c.sc x
  | _ => false
def okB (o : Expr) : Bool := match o with
  | .Call _ [] [] _ => false
  | _ => true
def kdS : Kd → Str
  | .int => "int" | .bool => "bool" | .str => "str" | .tuple => "tuple" | .list => "list" | .dict => "dict" | .set => "" | .own _ => ""
def okK : Kd → Bool
  | .set => false | .own _ => false | _ => true
/-- forms whose test is their value's truth -/
def okV : Expr → Bool
  | .Name .. => true | .Call .. => true | .Subscript .. => true | .Constant .. => true | .Attribute .. => true
  | _ => false
def isBo : Expr → Bool
  | .BoolOp .. => true
  | _ => false
def nameC (f : Cf) (c : Cs) (i : Nat) (e : Expr) : Bool := match e with
  | .Name x _ => isAt f.N i x && (locB c.sc x || (match kindAt c.sc.names x with | some .cell => true | _ => false) && c.cf x)
  | _ => false
def namesC (f : Cf) (c : Cs) : List Nat → List Expr → Bool
  | [], [] => true
  | i :: is, e :: es => nameC f c i e && namesC f c is es
  | _, _ => false
def tgC (f : Cf) (c : Cs) (t : Tg) (e : Expr) : Bool := match t with
  | .v i => nameC f c i e && (match f.sl with | some j => decide (i ≠ j) | none => true)
  | .tup is => (match e with
    | .Tuple es _ _ => namesC f c is es && f.cm
    | _ => false)
def ownOf (N : List Str) (t : Tg) : List (Str × Nat) := t.ix.map fun i => ((N[i]?).getD "", i)
def constC (d : D) (e : Expr) : Bool := match e with
  | .Constant k _ _ => (match k, d with
    | .none, .non => true
    | .bool b, .bl b' => b == b'
    | .int i, .int j => decide (i = j)
    | .str s, .str l => decide (s.cps.toList = l)
    | _, _ => false)
  | _ => false
/-- the exception's name -/
def slN (f : Cf) (c : Cs) (y : Str) : Bool := match f.sl with
  | some i => isAt f.N i y && visB c.sc y && okName y
  | none => false
def hotAt (l : List (Nat × Str)) (j : Nat) (x : Str) : Bool := l.any fun q => decide (q.1 = j) && eqS q.2 x
mutual
def cE (f : Cf) (c : Cs) : Exp → Expr → Bool
  | .c d, e => constC d e
  | .v i, e => (match e with
    | .Name x _ => isAt f.N i x && visB c.sc x && okName x
    | _ => false)
  | .g i, e => (match e with
    | .Name x _ => isAt f.nm.gs i x && gloB c.sc x && okName x
    | _ => false)
  | .bin o x y, e => (match e with
    | .BinOp a op b _ => bopOk o op && cE f c x a && cE f c y b
    | _ => false)
  | .neg x, e => (match e with
    | .UnaryOp op a _ => (match op with | .USub => cE f c x a | _ => false)
    | _ => false)
  | .notV x, e => (match e with
    | .UnaryOp op a _ => (match op with | .Not => cE f c x a | _ => false)
    | _ => false)
  | .andV x y, e => (match e with
    | .BoolOp op (a :: b :: r) p => (match op with | .And => cE f c x a && cE f c y (match r with | [] => b | _ => .BoolOp .And (b :: r) p) | _ => false)
    | _ => false)
  | .orV x y, e => (match e with
    | .BoolOp op (a :: b :: r) p => (match op with | .Or => cE f c x a && cE f c y (match r with | [] => b | _ => .BoolOp .Or (b :: r) p) | _ => false)
    | _ => false)
  | .cmp o x y, e => (match e with
    | .Compare a [op] [b] _ => copOk o op && cE f c x a && cE f c y b && okX b
    | _ => false)
  | .chn o o' x y z, e => (match e with
    | .Compare a [op, op'] [b, d] _ => copOk o op && copOk o' op' && cE f c x a && cE f c y b && cE f c z d && okX d
    | _ => false)
  | .ife t x y, e => (match e with
    | .IfExp g a b _ => cT f c t g && cE f c x a && cE f c y b
    | _ => false)
  | .call i xs, e => (match e with
    | .Call (.Name n _) (a :: es) [] _ => isAt f.nm.fns i n && gloB c.sc n && okName n && f.cm && okX a && es.all okX && cEs f c xs (a :: es)
    | _ => false)
  | .isX ks, e => (match ks, e with
    | [k], .Call n [.Name y _, .Name x _] [] _ => !f.cm && nameIs c n "isinstance" && slN f c y && isAt f.nm.tst k x && gloB c.sc x && okName x
    | _, _ => false)
  | .anyH x, e => (match e with
    | .Call n [a] [] _ => !f.cm && nameIs c n "any" && okX a && cE f c x a
    | _ => false)
  | .hot j, e => (match e with
    | .Call (.Name x _) [.Name y _] [] _ => !f.cm && slN f c y && hotAt f.nm.hots j x && gloB c.sc x && okName x
    | _ => false)
  | .f1 g x, e => (match e with
    | .Call n [a] [] _ => (match g with
      | .len => nameIs c n "len" && okX a && cE f c x a
      | .int => nameIs c n "int" && okX a && cE f c x a
      | .abs => nameIs c n "abs" && okX a && cE f c x a
      | .str => false)
    | _ => false)
  | .f2 g x y, e => (match e with
    | .Call n [a, b] [] _ => f.cm && okX a && okX b && cE f c x a && cE f c y b && (match g with
      | .min => nameIs c n "min"
      | .max => nameIs c n "max")
    | _ => false)
  | .isI x ks, e => (match e, ks with
    | .Call n [a, t] [] _, [k] => nameIs c n "isinstance" && okK k && nameIs c t (kdS k) && okX a && cE f c x a
    | _, _ => false)
  | .idx x y, e => (match e with
    | .Subscript a b _ => cE f c x a && cE f c y b && okX b
    | _ => false)
  | .sl x lo hi, e => (match e with
    | .Subscript a (.Slice l h none _) _ => cE f c x a && cO f c lo l && cO f c hi h
    | _ => false)
  | .rev x, e => (match e with
    | .Subscript a (.Slice none none (some (.UnaryOp op (.Constant (.int j) _ _) _)) _) _ => (match op with | .USub => decide (j = 1) && cE f c x a | _ => false)
    | _ => false)
  | .tup xs, e => (match e with
    | .Tuple es _ _ => cEs f c xs es && decide (xs.length ≤ 1000)
    | _ => false)
  | .ls l, e => cR f c .n l e
  | .tupOf l, e => (match e with
    | .Call n [a] [] _ => nameIs c n "tuple" && okX a && cR f c .s l a
    | _ => false)
  | .allOf l, e => (match e with
    | .Call n [a] [] _ => f.cm && nameIs c n "all" && okX a && cR f c .l l a
    | _ => false)
  | .anyOf l, e => (match e with
    | .Call n [a] [] _ => f.cm && nameIs c n "any" && okX a && cR f c .l l a
    | _ => false)
  | .sumOf l, e => (match e with
    | .Call n [a] [] _ => f.cm && nameIs c n "sum" && okX a && cR f c .l l a
    | _ => false)
  | .minOf l, e => (match e with
    | .Call n [a] [] _ => f.cm && nameIs c n "min" && okX a && cR f c .l l a
    | _ => false)
  | .maxOf l, e => (match e with
    | .Call n [a] [] _ => f.cm && nameIs c n "max" && okX a && cR f c .l l a
    | _ => false)
  | .sorted l, e => (match l with
    | .keys x => (match e with
      | .Call n [a] [] _ => f.cm && nameIs c n "sorted" && okX a && cE f c x a
      | _ => false)
    | l => (match e with
      | .Call n [a] [] _ => nameIs c n "sorted" && okX a && cR f c .l l a
      | _ => false))
  | .dct es, e => (match e with
    | .Dict ks vs _ => cKV f c es ks vs && decide (ks.length ≤ 15)
    | _ => false)
  | .join x l, e => (match e with
    | .Call (.Attribute o n ap) [a] [] p => eqS n "join" && okB o && (ap.endLine == p.line) && okX a && cE f c x o && cR f c .s l a
    | _ => false)
  | .app x y, e => (match e with
    | .Call (.Attribute o n ap) [a] [] p => eqS n "append" && okB o && (ap.endLine == p.line) && okX a && cE f c x o && cE f c y a
    | _ => false)
  | .pop x, e => (match e with
    | .Call (.Attribute o n ap) [] [] p => eqS n "pop" && okB o && (ap.endLine == p.line) && cE f c x o
    | _ => false)
  | .ext x y, e => (match e with
    | .Call (.Attribute o n ap) [a] [] p => eqS n "extend" && okB o && (ap.endLine == p.line) && okX a && cE f c x o && cE f c y a
    | _ => false)
  | .sw x y, e => (match e with
    | .Call (.Attribute o n ap) [a] [] p => eqS n "startswith" && okB o && (ap.endLine == p.line) && okX a && cE f c x o && cE f c y a
    | _ => false)
  | _, _ => false
def cEs (f : Cf) (c : Cs) : List Exp → List Expr → Bool
  | [], es => (match es with | [] => true | _ => false)
  | x :: xs, es => (match es with | e :: es => cE f c x e && okX e && cEs f c xs es | [] => false)
def cKV (f : Cf) (c : Cs) : List Exp → List (Option Expr) → List Expr → Bool
  | [], ks, vs => (match ks, vs with | [], [] => true | _, _ => false)
  | [_], _, _ => false
  | k :: v :: r, ks, vs => (match ks, vs with
    | some a :: ks, b :: vs => cE f c k a && cE f c v b && cKV f c r ks vs
    | _, _ => false)
def cO (f : Cf) (c : Cs) : Option Exp → Option Expr → Bool
  | none, e => (match e with | none => true | _ => false)
  | some x, e => (match e with | some e => cE f c x e | none => false)
def cR (f : Cf) (c : Cs) : Md → Src → Expr → Bool
  | m, .val x, e => (match m with | .i => cE f c x e | _ => false)
  | m, .seq x, e => (match m with
    | .s => cE f c x e
    | .n => (match e with
      | .Call n [a] [] _ => nameIs c n "list" && okX a && cE f c x a
      | _ => false)
    | _ => false)
  | m, .lis x, e => (match m with | .l => cE f c x e | _ => false)
  | m, .rng x, e => (match m, e with
    | .i, .Call n [a] [] _ => nameIs c n "range" && okX a && cE f c x a
    | _, _ => false)
  | m, .rng2 x y, e => (match m, e with
    | .i, .Call n [a, b] [] _ => nameIs c n "range" && okX a && okX b && cE f c x a && cE f c y b
    | _, _ => false)
  | m, .rng3 x y z, e => (match m, e with
    | .i, .Call n [a, b, d] [] _ => nameIs c n "range" && okX a && okX b && okX d && cE f c x a && cE f c y b && cE f c z d
    | _, _ => false)
  | m, .disp xs, e => (match m, e with
    | .i, _ => false
    | _, .List es _ => cEs f c xs es && decide (xs.length ≤ 1000)
    | _, _ => false)
  | m, .comp x t l ts, e => (match m, e with
    | .i, _ => false
    | _, .ListComp elt [⟨tg, iter, ifs, as⟩] scope _ => f.cm && decide (as = 0) && okX iter && blkC f.N c.sc scope (ownOf f.N t) && tgC f (blkS c scope) t tg && cR f c .i l iter && cTs f (blkS c scope) ts ifs && cE f (blkS c scope) x elt
    | _, _ => false)
  | m, .comp2 x t l ts t1 l1 ts1, e => (match m, e with
    | .i, _ => false
    | _, .ListComp elt [⟨tg, iter, ifs, as⟩, ⟨tg1, iter1, ifs1, as1⟩] scope _ => f.cm && decide (as = 0) && decide (as1 = 0) && okX iter && okX iter1 && blkC f.N c.sc scope (ownOf f.N t ++ ownOf f.N t1) && tgC f (blkS c scope) t tg && tgC f (blkS c scope) t1 tg1 && cR f c .i l iter && cTs f (blkS c scope) ts ifs && cR f (blkS c scope) .i l1 iter1 && cTs f (blkS c scope) ts1 ifs1 && cE f (blkS c scope) x elt
    | _, _ => false)
  | _, _, _ => false
def cT (f : Cf) (c : Cs) : Tst → Expr → Bool
  | .val x, e => cE f c x e && (okV e || (match x, e with | .cmp .., .Compare .. => true | .chn .., .Compare .. => true | _, _ => false))
  | .not t, e => (match e with
    | .UnaryOp op a _ => (match op with | .Not => cT f c t a | _ => false)
    | _ => false)
  | .and t u, e => (match e with
    | .BoolOp op (a :: b :: r) p => (match op with | .And => cT f c t a && cT f c u (match r with | [] => b | _ => .BoolOp .And (b :: r) p) | _ => false)
    | _ => false)
  | .or t u, e => (match e with
    | .BoolOp op (a :: b :: r) p => (match op with | .Or => cT f c t a && cT f c u (match r with | [] => b | _ => .BoolOp .Or (b :: r) p) | _ => false)
    | _ => false)
def cTs (f : Cf) (c : Cs) : List Tst → List Expr → Bool
  | [], es => (match es with | [] => true | _ => false)
  | t :: ts, es => (match ts, es with | [], [e] => cT f c t e | _, _ => false)
end
end Pw
end
section
set_option Elab.async false
set_option linter.all false
set_option maxRecDepth 100000
set_option maxHeartbeats 1000000
set_option autoImplicit false
/-! Pw20: what the look has found holds -/
namespace Pw
open PySem PySem.Spec PyProof.Rows L2
variable {w : Wo} {xw : Xw} {C : Ctx} {p : Prg} {n : Nat} {f : Cf}
structure Fc (w : Wo) (xw : Xw) (p : Prg) (n : Nat) (C : Ctx) (f : Cf) (c : Cs) (W : WX) (X : Cx) : Prop where
  hK : w.K = X.K
  gd : Gd ⟨w.K, none⟩ xw X.prog X.w X.mg X.base p f.nm n
  nd : X.N.Nodup
  un : X.A.units + 65 < cLine
  cG : C.G = p.G
  cP : ∀ ex, C.Φ ex = den p n ex
  cC : C.Cl = p.Cl
  hx : f.cm = false → Hx w xw p n C f.sl X
  tk : L2N.Takes X W
  hN : X.N = f.N
  sc : X.env.scope = c.sc
  fn : ∀ x, c.cf x = true → X.fn x = true
  sx : ∀ a j fs, w.ex = some (a, j, fs) → f.sl = some j
  calm : f.cm = true → X.calm = true ∧ w.ex = none ∧ Room n X.A
section
variable {c : Cs} {W : WX} {X : Cx} {e : Expr}
theorem Fc.w0 (h : Fc w xw p n C f c W X) (hc : f.cm = true) : (⟨w.K, none⟩ : Wo) = w := by
  have := (h.calm hc).2.1
  cases w
  simp only at this
  rw [this]
theorem Fc.fx (h : Fc w xw p n C f c W X) (hc : f.cm = true) : Fx w xw p f.nm n X := ⟨h.hK, (by have g := h.gd; rw [h.w0 hc] at g; exact g), h.nd, (h.calm hc).2.1, (h.calm hc).1, (h.calm hc).2.2⟩
theorem takes0 : L2N.Takes X W0 := fun u s' ⟨a, B, sI, pins, σ, H, cls, d, h⟩ => by
  obtain ⟨_, _, _, _, _, _, _, _, z⟩ := h
  exact z.elim
theorem Fc.blk {scope : Scope} (h : Fc w xw p n C f c W X) (hc : f.cm = true) (s : Shared) (H : Hp) (D : Addr) (cl : List (Str × Addr)) (fp : List Addr) : Fc w xw p n C f (blkS c scope) W0 (X.blk s H scope (compEnvC scope cl D X.env) fp) where
  hK := h.hK
  gd := h.gd
  nd := h.nd
  un := h.un
  cG := h.cG
  cP := h.cP
  cC := h.cC
  hx := fun z => by rw [hc] at z; cases z
  tk := takes0
  hN := h.hN
  sc := by show relS scope X.env.scope = relS scope c.sc; rw [h.sc]
  fn := fun x hx => hx
  sx := h.sx
  calm := h.calm
theorem Fc.gl (h : Fc w xw p n C f c W X) {x : Str} (g : gloB c.sc x = true) : Gl X x := by
  show X.env.scope.names.lookup x = _
  rw [h.sc]; exact gloB_ok g
theorem Fc.vis (h : Fc w xw p n C f c W X) {x : Str} (g : visB c.sc x = true) : Vis X.env.scope x := by rw [h.sc]; exact visB_ok g
theorem nameIs_ok {s : Str} (h : Fc w xw p n C f c W X) (g : nameIs c e s = true) : ∃ p, e = .Name s p ∧ Gl X s := by
  unfold nameIs at g
  split at g
  · rename_i x p
    simp only [Bool.and_eq_true] at g
    have := eqS_ok g.1
    subst this
    exact ⟨p, rfl, h.gl g.2⟩
  · cases g
theorem Fc.at (h : Fc w xw p n C f c W X) {i : Nat} {x : Str} (g : isAt f.N i x = true) : X.N[i]? = some x := by rw [h.hN]; exact isAt_ok g
theorem okB_ok {o : Expr} {env : PySem.Env} {a : Str} (h : okB o = true) : attributeBase o a env (eval o env) = eval o env := by
  unfold okB at h
  split at h
  · cases h
  · rename_i hn
    unfold attributeBase
    split
    · rename_i id x pos
      exact absurd rfl (hn _ _)
    · rfl
theorem okV_ok {whole : Sem Value} {env : PySem.Env} (h : okV e = true) : isTrue e env whole = (do let v ← whole; standAt e.pos; holding [v] (truthy v)) := by
  cases e <;> first | (cases h; done) | rfl
theorem bop_ok (hK : w.K = X.K) {o : Bop} {op : Operator} (h : bopOk o op = true) : OpR X (binaryOp op) (rB w o) := by
  cases o <;> cases op <;> first | (cases h; done) | exact opR_add hK | exact opR_sub | exact opR_mul | exact opR_fdiv | exact opR_mod | exact opR_pow | exact opR_shl | exact opR_shr | exact opR_band
theorem cop_ok (hK : w.K = X.K) (hu : X.A.units + 65 < cLine) {o : Cop} {op : CmpOp} (h : copOk o op = true) : OpR X (compareOp op) (rC w o) := by
  cases o <;> cases op <;> first | (cases h; done) | skip
  · exact opR_eq hK (by omega)
  · exact opR_ne hK (by omega)
  · exact opR_ord .lt (fun _ _ _ => rfl)
  · exact opR_ord .le (fun _ _ _ => rfl)
  · exact opR_ord .gt (fun _ _ _ => rfl)
  · exact opR_ord .ge (fun _ _ _ => rfl)
  · exact opR_in hK
  · exact opR_nin hK
  · exact opR_is
  · exact opR_isn
theorem chain_marks {op op' : CmpOp} {b d : Expr} (h : okX d = true) : lastMarks [op, op'] [b, d] = false := mark_ok h
theorem kd_facts {k : Kd} (h : okK k = true) : ∃ T, kdN k = some T ∧ bootBuiltins (kdS k) = some (.type T) ∧ okName (kdS k) = true ∧ kdS k ∈ freeNames := by
  cases k <;> first | (cases h; done) | skip
  · exact ⟨_, rfl, bb_int, by decide, by decide⟩
  · exact ⟨_, rfl, bt_bool, by decide, by decide⟩
  · exact ⟨_, rfl, bb_str, by decide, by decide⟩
  · exact ⟨_, rfl, bb_tuple, by decide, by decide⟩
  · exact ⟨_, rfl, bb_list, by decide, by decide⟩
  · exact ⟨_, rfl, bt_dict, by decide, by decide⟩
theorem const_ok {d : D} (h : constC d e = true) : PE X e (tE w xw C W (.c d)) := by
  unfold constC at h
  split at h
  · rename_i k _ _
    split at h
    · exact se_c pe_non (fun _ _ _ => .non) rfl
    · have := eq_of_beq h
      subst this
      exact se_c pe_bl (fun _ _ _ => .bl _) rfl
    · have := of_decide_eq_true h
      subst this
      exact se_c pe_int (fun _ _ _ => .int _) rfl
    · have := of_decide_eq_true h
      subst this
      exact se_c pe_str (fun _ _ _ => .str _) rfl
    · cases h
  · cases h
theorem nameC_ok {i : Nat} (h : Fc w xw p n C f c W X) (g : nameC f c i e = true) : ∃ x pos, e = .Name x pos ∧ X.N[i]? = some x ∧ Loc X.env.scope x ∧ (X.fn x = true ∨ X.env.scope.names.lookup x = some .local) := by
  unfold nameC at g
  split at g
  · rename_i x pos
    simp only [Bool.and_eq_true, Bool.or_eq_true] at g
    refine ⟨x, pos, rfl, h.at g.1, ?_⟩
    rw [h.sc]
    rcases g.2 with k | ⟨k, k2⟩
    · exact ⟨.inl (locB_ok k), .inr (locB_ok k)⟩
    · rw [kindAt_ok] at k
      split at k
      · rename_i hk
        exact ⟨.inr hk, .inl (h.fn x k2)⟩
      · cases k
  · cases g
theorem namesC_ok (h : Fc w xw p n C f c W X) : ∀ {is : List Nat} {es : List Expr}, namesC f c is es = true → PGs X es (gNs is) ∧ (assignEach es X.env).length = is.length ∧ (assignEach es X.env).findIdx? (·.1) = none
  | [], [], _ => ⟨pgs_nil, rfl, rfl⟩
  | [], _ :: _, g => by cases g
  | _ :: _, [], g => by cases g
  | i :: is, e :: es, g => by
    have g : (nameC f c i e && namesC f c is es) = true := g
    simp only [Bool.and_eq_true] at g
    obtain ⟨x, pos, rfl, h1, h2, h3⟩ := nameC_ok h g.1
    obtain ⟨k1, k2, k3⟩ := namesC_ok h g.2
    refine ⟨pgs_cons (pg_name h.nd h1 h2 h3) k1 rfl, ?_, ?_⟩
    · show (assignEach es X.env).length + 1 = _
      rw [k2]; rfl
    · show List.findIdx? _ ((false, assign (.Name x pos) X.env) :: assignEach es X.env) = none
      rw [List.findIdx?_cons]
      simp only [Bool.false_eq_true, if_false, k3]
      rfl
theorem tgC_ok {t : Tg} (h : Fc w xw p n C f c W X) (g : tgC f c t e = true) : PG X e (gT w t) := by
  cases t with
  | v i =>
    have g : (nameC f c i e && (match f.sl with | some j => decide (i ≠ j) | none => true)) = true := g
    simp only [Bool.and_eq_true] at g
    obtain ⟨x, pos, rfl, h1, h2, h3⟩ := nameC_ok h g.1
    refine sg_v (fun a j fs he => ?_) h.nd h1 h2 h3
    have := h.sx a j fs he
    rw [this] at g
    exact of_decide_eq_true g.2
  | tup is =>
    unfold tgC at g
    dsimp only at g
    split at g
    · simp only [Bool.and_eq_true] at g
      obtain ⟨k1, k2, k3⟩ := namesC_ok h g.1
      exact sg_tup (h.calm g.2).2.1 h.hK (h.calm g.2).1 k1 k2 k3
    · cases g
end
end Pw
end
section
set_option Elab.async false
set_option linter.all false
set_option maxRecDepth 100000
set_option maxHeartbeats 4000000
set_option autoImplicit false
/-! Pw21: expressions: what the look has found holds -/
namespace Pw
open PySem PySem.Spec PyProof.Rows L2
variable {w : Wo} {xw : Xw} {C : Ctx} {p : Prg} {n : Nat} {f : Cf}
def rdR (w : Wo) (xw : Xw) (C : Ctx) (W : WX) (X : Cx) (l : Src) (e : Expr) : Md → Prop
  | .n => PE X e (tN w xw C W l)
  | .i => ∀ tg, PI X tg e (tI w xw C W l)
  | .s => PE X e (tS w xw C W l)
  | .l => PE X e (tL w xw C W l)
theorem rdR_n {W : WX} {X : Cx} {l : Src} {e : Expr} {m : Md} (h : PE X e (tN w xw C W l)) (hm : m ≠ .i) : rdR w xw C W X l e m := by
  cases m with
  | n => exact h
  | i => exact absurd rfl hm
  | s => exact ss_new h
  | l => exact sl_new h
theorem Fc.fr {W : WX} {X : Cx} {c : Cs} (h : Fc w xw p n C f c W X) {x : Str} (hx : x ∈ freeNames) : X.mg x = none := h.gd.free x hx
theorem slN_ok {W : WX} {X : Cx} {c : Cs} {y : Str} (F : Fc w xw p n C f c W X) (h : slN f c y = true) : ∃ i, f.sl = some i ∧ X.N[i]? = some y ∧ Vis X.env.scope y ∧ okName y = true := by
  unfold slN at h
  split at h
  · rename_i i hs
    simp only [Bool.and_eq_true] at h
    exact ⟨i, hs, F.at h.1.1, F.vis h.1.2, h.2⟩
  · cases h
theorem hotAt_ok {l : List (Nat × Str)} {j : Nat} {x : Str} (h : hotAt l j x = true) : (j, x) ∈ l := by
  unfold hotAt at h
  rw [List.any_eq_true] at h
  obtain ⟨⟨a, b⟩, hm, h⟩ := h
  simp only [Bool.and_eq_true, decide_eq_true_eq] at h
  obtain ⟨rfl, h⟩ := h
  rw [← eqS_ok h]
  exact hm
theorem tail_And {X : Cx} {b : Expr} {r : List Expr} {q : Pos} {t : TT} (k : PT X (match r with | [] => b | _ => .BoolOp .And (b :: r) q) t ∧ (isBo (match r with | [] => b | _ => .BoolOp .And (b :: r) q) = true → PW X (match r with | [] => b | _ => .BoolOp .And (b :: r) q) t)) : PW X (.BoolOp .And (b :: r) q) t := by
  cases r with
  | nil => exact pw_and1 k.1
  | cons => exact k.2 rfl
theorem tail_Or {X : Cx} {b : Expr} {r : List Expr} {q : Pos} {t : TT} (k : PT X (match r with | [] => b | _ => .BoolOp .Or (b :: r) q) t ∧ (isBo (match r with | [] => b | _ => .BoolOp .Or (b :: r) q) = true → PW X (match r with | [] => b | _ => .BoolOp .Or (b :: r) q) t)) : PW X (.BoolOp .Or (b :: r) q) t := by
  cases r with
  | nil => exact pw_or1 k.1
  | cons => exact k.2 rfl
theorem sorted_case {l : Src} {g a : Expr} {pos : Pos} {c : Cs} {W : WX} {X : Cx} (F : Fc w xw p n C f c W X) (h : (nameIs c g "sorted" && okX a && cR f c .l l a) = true) (ih : cR f c .l l a = true → rdR w xw C W X l a .l) : PE X (.Call g [a] [] pos) (tE w xw C W (.sorted l)) := by
  simp only [Bool.and_eq_true] at h
  obtain ⟨q, rfl, hg⟩ := nameIs_ok F h.1.1
  exact se_sorted F.hK hg (F.fr (by decide)) (ih h.2) h.1.2
mutual
theorem cE_ok : ∀ (x : Exp) {e : Expr} {c : Cs} {W : WX} {X : Cx}, Fc w xw p n C f c W X → cE f c x e = true → PE X e (tE w xw C W x)
  | .c d, e, c, W, X, F, h => const_ok (by simpa only [cE] using h)
  | .v i, e, c, W, X, F, h => by
    simp only [cE] at h
    split at h
    · simp only [Bool.and_eq_true] at h
      exact se_v (F.at h.1.1) (F.vis h.1.2) h.2
    · cases h
  | .g i, e, c, W, X, F, h => by
    simp only [cE] at h
    split at h
    · simp only [Bool.and_eq_true] at h
      obtain ⟨d, u, v, h1, h2, h3, h4, h5⟩ := F.gd.gl i _ (isAt_ok h.1.1)
      exact se_g (by rw [F.cG]; exact h1) (pe_glob (F.gl h.1.2) h2 h3 (okName_ok h.2).1) h4 h5
    · cases h
  | .bin o x y, e, c, W, X, F, h => by
    simp only [cE] at h
    split at h
    · simp only [Bool.and_eq_true] at h
      exact se_bin (bop_ok F.hK h.1.1) (cE_ok x F h.1.2) (cE_ok y F h.2)
    · cases h
  | .neg x, e, c, W, X, F, h => by
    simp only [cE] at h
    split at h
    · split at h
      · exact se_neg (cE_ok x F h)
      · cases h
    · cases h
  | .notV x, e, c, W, X, F, h => by
    simp only [cE] at h
    split at h
    · split at h
      · exact se_notV (cE_ok x F h)
      · cases h
    · cases h
  | .andV x y, e, c, W, X, F, h => by
    simp only [cE] at h
    split at h
    · split at h
      · simp only [Bool.and_eq_true] at h
        refine se_and (cE_ok x F h.1) ?_
        have k := cE_ok y F h.2
        split at k
        · exact pe_one k
        · exact k
      · cases h
    · cases h
  | .orV x y, e, c, W, X, F, h => by
    simp only [cE] at h
    split at h
    · split at h
      · simp only [Bool.and_eq_true] at h
        refine se_or (cE_ok x F h.1) ?_
        have k := cE_ok y F h.2
        split at k
        · exact pe_one k
        · exact k
      · cases h
    · cases h
  | .cmp o x y, e, c, W, X, F, h => by
    simp only [cE] at h
    split at h
    · simp only [Bool.and_eq_true] at h
      exact se_cmp (cop_ok F.hK F.un h.1.1.1) (cE_ok x F h.1.1.2) (cE_ok y F h.1.2) (mark_ok h.2)
    · cases h
  | .chn o o' x y z, e, c, W, X, F, h => by
    simp only [cE] at h
    split at h
    · simp only [Bool.and_eq_true] at h
      exact se_chn (cop_ok F.hK F.un h.1.1.1.1.1) (cop_ok F.hK F.un h.1.1.1.1.2) (cE_ok x F h.1.1.1.2) (cE_ok y F h.1.1.2) (cE_ok z F h.1.2) (chain_marks h.2)
    · cases h
  | .ife t x y, e, c, W, X, F, h => by
    simp only [cE] at h
    split at h
    · simp only [Bool.and_eq_true] at h
      exact se_ife (cT_ok t F h.1.1).1 (cE_ok x F h.1.2) (cE_ok y F h.2)
    · cases h
  | .call i xs, e, c, W, X, F, h => by
    simp only [cE] at h
    split at h
    · simp only [Bool.and_eq_true] at h
      exact se_call (F.cP none) F.tk (F.fx h.1.1.1.2) (isAt_ok h.1.1.1.1.1.1) (F.gl h.1.1.1.1.1.2) (cEs_ok xs F h.2) h.1.1.1.1.2 h.1.1.2 h.1.2
    · cases h
  | .hcall _ _, e, c, W, X, F, h => by simp [cE] at h
  | .hot j, e, c, W, X, F, h => by
    simp only [cE] at h
    split at h
    · simp only [Bool.and_eq_true, Bool.not_eq_true'] at h
      have hx := F.hx h.1.1.1.1
      obtain ⟨i, hs, k1, k2, k3⟩ := slN_ok F h.1.1.1.2
      obtain ⟨f', fd, z, g1, g2, g3, g4⟩ := F.gd.hot j _ (hotAt_ok h.1.1.2)
      have e0 : w.K = X.K := F.hK
      exact se_hot e0 hx hs F.cP (F.gl h.1.2) h.2 k1 k2 k3 g1 (e0 ▸ g2) (by have g3 := g3; simp only at g3; rw [e0] at g3; exact g3) (by have g4 := g4; simp only at g4; rw [e0] at g4; exact g4)
    · cases h
  | .isX ks, e, c, W, X, F, h => by
    simp only [cE] at h
    split at h
    · simp only [Bool.and_eq_true, Bool.not_eq_true'] at h
      obtain ⟨q, rfl, hg⟩ := nameIs_ok F h.1.1.1.1.2
      obtain ⟨i, hs, k1, k2, k3⟩ := slN_ok F h.1.1.1.2
      obtain ⟨cv, ht⟩ := F.gd.tst _ _ (isAt_ok h.1.1.2)
      dsimp only at ht
      rw [F.hK] at ht
      exact se_isX F.hK (F.hx h.1.1.1.1.1) hs F.cC hg (F.fr (by decide)) k1 k2 k3 ht (F.gl h.1.2) h.2
    · cases h
  | .xf _, e, c, W, X, F, h => by simp [cE] at h
  | .anyH x, e, c, W, X, F, h => by
    simp only [cE] at h
    split at h
    · simp only [Bool.and_eq_true, Bool.not_eq_true'] at h
      obtain ⟨q, rfl, hg⟩ := nameIs_ok F h.1.1.2
      have hx := F.hx h.1.1.1
      exact se_anyH F.hK hx hg (F.fr (by decide)) (cE_ok x F h.2) h.1.2 (cr_anyHot hx.hot)
    · cases h
  | .f1 g x, e, c, W, X, F, h => by
    simp only [cE] at h
    split at h
    · cases g with
      | len =>
        simp only [Bool.and_eq_true] at h
        obtain ⟨q, rfl, hg⟩ := nameIs_ok F h.1.1
        exact se_len F.hK hg (F.fr (by decide)) (cE_ok x F h.2) h.1.2
      | int =>
        simp only [Bool.and_eq_true] at h
        obtain ⟨q, rfl, hg⟩ := nameIs_ok F h.1.1
        exact se_int hg (F.fr (by decide)) (cE_ok x F h.2) h.1.2
      | abs =>
        simp only [Bool.and_eq_true] at h
        obtain ⟨q, rfl, hg⟩ := nameIs_ok F h.1.1
        exact se_abs hg (F.fr (by decide)) (cE_ok x F h.2) h.1.2
      | str => cases h
    · cases h
  | .f2 g x y, e, c, W, X, F, h => by
    simp only [cE] at h
    split at h
    · simp only [Bool.and_eq_true] at h
      cases g with
      | min =>
        obtain ⟨q, rfl, hg⟩ := nameIs_ok F h.2
        exact se_min (F.calm h.1.1.1.1.1).1 hg (F.fr (by decide)) (cE_ok x F h.1.1.2) (cE_ok y F h.1.2) h.1.1.1.1.2 h.1.1.1.2
      | max =>
        obtain ⟨q, rfl, hg⟩ := nameIs_ok F h.2
        exact se_max (F.calm h.1.1.1.1.1).1 hg (F.fr (by decide)) (cE_ok x F h.1.1.2) (cE_ok y F h.1.2) h.1.1.1.1.2 h.1.1.1.2
    · cases h
  | .isI x ks, e, c, W, X, F, h => by
    simp only [cE] at h
    split at h
    · simp only [Bool.and_eq_true] at h
      obtain ⟨q, rfl, hg⟩ := nameIs_ok F h.1.1.1.1
      obtain ⟨q2, rfl, hg2⟩ := nameIs_ok F h.1.1.2
      obtain ⟨T, k1, k2, k3, k4⟩ := kd_facts h.1.1.1.2
      exact se_isB F.hK hg (F.fr (by decide)) (cE_ok x F h.2) hg2 (F.fr k4) k2 k1 k3 h.1.2
    · cases h
  | .idx x y, e, c, W, X, F, h => by
    simp only [cE] at h
    split at h
    · simp only [Bool.and_eq_true] at h
      exact se_idx F.hK (cE_ok x F h.1.1) (cE_ok y F h.1.2) (plainIx_ok h.2)
    · cases h
  | .sl x lo hi, e, c, W, X, F, h => by
    simp only [cE] at h
    split at h
    · simp only [Bool.and_eq_true] at h
      exact se_sl F.hK (cE_ok x F h.1.1) (cO_ok lo F h.1.2) (cO_ok hi F h.2)
    · cases h
  | .rev x, e, c, W, X, F, h => by
    simp only [cE] at h
    split at h
    · split at h
      · simp only [Bool.and_eq_true, decide_eq_true_eq] at h
        obtain ⟨rfl, h⟩ := h
        exact se_rev F.hK (cE_ok x F h)
      · cases h
    · cases h
  | .tup xs, e, c, W, X, F, h => by
    simp only [cE] at h
    split at h
    · simp only [Bool.and_eq_true, decide_eq_true_eq] at h
      exact se_tup (cEs_ok xs F h.1) (by rw [sizeLine_eq]; omega)
    · cases h
  | .ls l, e, c, W, X, F, h => by
    simp only [cE] at h
    exact se_ls (cR_ok l .n F h)
  | .dct es, e, c, W, X, F, h => by
    simp only [cE] at h
    split at h
    · simp only [Bool.and_eq_true, decide_eq_true_eq] at h
      obtain ⟨k1, k2, k3, k4, k5⟩ := cKV_ok es F h.1
      rcases k5 with ⟨rfl, rfl, rfl⟩ | k5
      · exact se_dct0
      · exact se_dct (k1 _) k2 k3 k4 k5 h.2
    · cases h
  | .tupOf l, e, c, W, X, F, h => by
    simp only [cE] at h
    split at h
    · simp only [Bool.and_eq_true] at h
      obtain ⟨q, rfl, hg⟩ := nameIs_ok F h.1.1
      exact se_tupOf F.hK hg (F.fr (by decide)) (cR_ok l .s F h.2) h.1.2
    · cases h
  | .allOf l, e, c, W, X, F, h => by
    simp only [cE] at h
    split at h
    · simp only [Bool.and_eq_true] at h
      obtain ⟨q, rfl, hg⟩ := nameIs_ok F h.1.1.2
      exact se_all F.hK (F.calm h.1.1.1).1 hg (F.fr (by decide)) (cR_ok l .l F h.2) h.1.2
    · cases h
  | .anyOf l, e, c, W, X, F, h => by
    simp only [cE] at h
    split at h
    · simp only [Bool.and_eq_true] at h
      obtain ⟨q, rfl, hg⟩ := nameIs_ok F h.1.1.2
      exact se_any F.hK (F.calm h.1.1.1).1 hg (F.fr (by decide)) (cR_ok l .l F h.2) h.1.2
    · cases h
  | .sumOf l, e, c, W, X, F, h => by
    simp only [cE] at h
    split at h
    · simp only [Bool.and_eq_true] at h
      obtain ⟨q, rfl, hg⟩ := nameIs_ok F h.1.1.2
      exact se_sum F.hK (F.calm h.1.1.1).1 hg (F.fr (by decide)) (cR_ok l .l F h.2) h.1.2
    · cases h
  | .minOf l, e, c, W, X, F, h => by
    simp only [cE] at h
    split at h
    · simp only [Bool.and_eq_true] at h
      obtain ⟨q, rfl, hg⟩ := nameIs_ok F h.1.1.2
      exact se_minG F.hK (F.calm h.1.1.1).1 F.un hg (F.fr (by decide)) (cR_ok l .l F h.2) h.1.2
    · cases h
  | .maxOf l, e, c, W, X, F, h => by
    simp only [cE] at h
    split at h
    · simp only [Bool.and_eq_true] at h
      obtain ⟨q, rfl, hg⟩ := nameIs_ok F h.1.1.2
      exact se_maxL F.hK (F.calm h.1.1.1).1 hg (F.fr (by decide)) (cR_ok l .l F h.2) h.1.2
    · cases h
  | .sorted (.keys x), e, c, W, X, F, h => by
    simp only [cE] at h
    split at h
    · simp only [Bool.and_eq_true] at h
      obtain ⟨q, rfl, hg⟩ := nameIs_ok F h.1.1.2
      exact se_sortedK F.hK (F.calm h.1.1.1).1 hg (F.fr (by decide)) (cE_ok x F h.2) h.1.2
    · cases h
  | .sorted (.val x), e, c, W, X, F, h => by
    simp only [cE] at h
    split at h
    · exact sorted_case F h (fun h => cR_ok (.val x) .l F h)
    · cases h
  | .sorted (.seq x), e, c, W, X, F, h => by
    simp only [cE] at h
    split at h
    · exact sorted_case F h (fun h => cR_ok (.seq x) .l F h)
    · cases h
  | .sorted (.lis x), e, c, W, X, F, h => by
    simp only [cE] at h
    split at h
    · exact sorted_case F h (fun h => cR_ok (.lis x) .l F h)
    · cases h
  | .sorted (.rng x), e, c, W, X, F, h => by
    simp only [cE] at h
    split at h
    · exact sorted_case F h (fun h => cR_ok (.rng x) .l F h)
    · cases h
  | .sorted (.rng2 x y), e, c, W, X, F, h => by
    simp only [cE] at h
    split at h
    · exact sorted_case F h (fun h => cR_ok (.rng2 x y) .l F h)
    · cases h
  | .sorted (.rng3 x y z), e, c, W, X, F, h => by
    simp only [cE] at h
    split at h
    · exact sorted_case F h (fun h => cR_ok (.rng3 x y z) .l F h)
    · cases h
  | .sorted (.disp xs), e, c, W, X, F, h => by
    simp only [cE] at h
    split at h
    · exact sorted_case F h (fun h => cR_ok (.disp xs) .l F h)
    · cases h
  | .sorted (.comp x t l ts), e, c, W, X, F, h => by
    simp only [cE] at h
    split at h
    · exact sorted_case F h (fun h => cR_ok (.comp x t l ts) .l F h)
    · cases h
  | .sorted (.comp2 x t l ts t1 l1 ts1), e, c, W, X, F, h => by
    simp only [cE] at h
    split at h
    · exact sorted_case F h (fun h => cR_ok (.comp2 x t l ts t1 l1 ts1) .l F h)
    · cases h
  | .sorted (.zip l l2), e, c, W, X, F, h => by
    simp only [cE] at h
    split at h
    · exact sorted_case F h (fun h => cR_ok (.zip l l2) .l F h)
    · cases h
  | .join x l, e, c, W, X, F, h => by
    simp only [cE] at h
    split at h
    · simp only [Bool.and_eq_true] at h
      obtain rfl := eqS_ok h.1.1.1.1.1
      exact se_join F.hK (cE_ok x F h.1.2) (cR_ok l .s F h.2) h.1.1.2 (okB_ok h.1.1.1.1.2) h.1.1.1.2
    · cases h
  | .app x y, e, c, W, X, F, h => by
    simp only [cE] at h
    split at h
    · simp only [Bool.and_eq_true] at h
      obtain rfl := eqS_ok h.1.1.1.1.1
      exact se_app F.hK (cE_ok x F h.1.2) (cE_ok y F h.2) h.1.1.2 (okB_ok h.1.1.1.1.2) h.1.1.1.2
    · cases h
  | .pop x, e, c, W, X, F, h => by
    simp only [cE] at h
    split at h
    · simp only [Bool.and_eq_true] at h
      obtain rfl := eqS_ok h.1.1.1
      exact se_pop F.hK (cE_ok x F h.2) (okB_ok h.1.1.2) h.1.2
    · cases h
  | .ext x y, e, c, W, X, F, h => by
    simp only [cE] at h
    split at h
    · simp only [Bool.and_eq_true] at h
      obtain rfl := eqS_ok h.1.1.1.1.1
      exact se_ext F.hK (cE_ok x F h.1.2) (cE_ok y F h.2) h.1.1.2 (okB_ok h.1.1.1.1.2) h.1.1.1.2
    · cases h
  | .sw x y, e, c, W, X, F, h => by
    simp only [cE] at h
    split at h
    · simp only [Bool.and_eq_true] at h
      obtain rfl := eqS_ok h.1.1.1.1.1
      exact se_sw (cE_ok x F h.1.2) (cE_ok y F h.2) h.1.1.2 (okB_ok h.1.1.1.1.2) h.1.1.1.2
    · cases h
theorem cEs_ok : ∀ (xs : List Exp) {es : List Expr} {c : Cs} {W : WX} {X : Cx}, Fc w xw p n C f c W X → cEs f c xs es = true → PA X es (tEs w xw C W xs)
  | [], es, c, W, X, F, h => by
    simp only [cEs] at h
    split at h
    · exact sa_nil
    · cases h
  | x :: xs, es, c, W, X, F, h => by
    simp only [cEs] at h
    split at h
    · simp only [Bool.and_eq_true] at h
      exact sa_cons (cE_ok x F h.1.1) (cEs_ok xs F h.2) h.1.2
    · cases h
theorem cKV_ok : ∀ (es : List Exp) {ks : List (Option Expr)} {vs : List Expr} {c : Cs} {W : WX} {X : Cx}, Fc w xw p n C f c W X → cKV f c es ks vs = true →
    (∀ pos, PPs X pos ks vs (trP w xw C W es)) ∧ es.length % 2 = 0 ∧ ks.all (·.isSome) = true ∧ ks.length = vs.length ∧ ((es = [] ∧ ks = [] ∧ vs = []) ∨ ks ≠ [])
  | [], ks, vs, c, W, X, F, h => by
    simp only [cKV] at h
    split at h
    · exact ⟨fun _ => pps_nil, rfl, rfl, rfl, .inl ⟨rfl, rfl, rfl⟩⟩
    · cases h
  | [_], ks, vs, c, W, X, F, h => by simp [cKV] at h
  | k :: v :: r, ks, vs, c, W, X, F, h => by
    simp only [cKV] at h
    split at h
    · simp only [Bool.and_eq_true] at h
      obtain ⟨k1, k2, k3, k4, _⟩ := cKV_ok r F h.2
      have hk := cE_ok k F h.1.1
      have hv := cE_ok v F h.1.2
      refine ⟨fun pos => pps_cons hk hv (k1 pos), by simp only [List.length_cons]; omega, ?_, by simp [k4], .inr (by simp)⟩
      simp only [List.all_cons, k3, Option.isSome_some, Bool.and_true]
    · cases h
theorem cO_ok : ∀ (xs : Option Exp) {es : Option Expr} {c : Cs} {W : WX} {X : Cx}, Fc w xw p n C f c W X → cO f c xs es = true → PO X es (tO w xw C W xs)
  | none, es, c, W, X, F, h => by
    simp only [cO] at h
    split at h
    · exact so_none
    · cases h
  | some x, es, c, W, X, F, h => by
    simp only [cO] at h
    split at h
    · exact so_some (cE_ok x F h)
    · cases h
theorem cR_ok : ∀ (l : Src) (m : Md) {e : Expr} {c : Cs} {W : WX} {X : Cx}, Fc w xw p n C f c W X → cR f c m l e = true → rdR w xw C W X l e m
  | .val x, m, e, c, W, X, F, h => by
    simp only [cR] at h
    split at h
    · exact fun tg => si_val F.hK (cE_ok x F h)
    · cases h
  | .seq x, m, e, c, W, X, F, h => by
    simp only [cR] at h
    split at h
    · exact ss_val (cE_ok x F h)
    · split at h
      · simp only [Bool.and_eq_true] at h
        obtain ⟨q, rfl, hg⟩ := nameIs_ok F h.1.1
        exact sn_list F.hK hg (F.fr (by decide)) (ss_val (cE_ok x F h.2)) h.1.2
      · cases h
    · cases h
  | .lis x, m, e, c, W, X, F, h => by
    simp only [cR] at h
    split at h
    · exact sl_val (cE_ok x F h)
    · cases h
  | .keys _, m, e, c, W, X, F, h => by simp [cR] at h
  | .rng x, m, e, c, W, X, F, h => by
    simp only [cR] at h
    split at h
    · simp only [Bool.and_eq_true] at h
      obtain ⟨q, rfl, hg⟩ := nameIs_ok F h.1.1
      exact fun tg => si_rng hg (F.fr (by decide)) (cE_ok x F h.2) h.1.2
    · cases h
  | .rng2 x y, m, e, c, W, X, F, h => by
    simp only [cR] at h
    split at h
    · simp only [Bool.and_eq_true] at h
      obtain ⟨q, rfl, hg⟩ := nameIs_ok F h.1.1.1.1
      exact fun tg => si_rng2 hg (F.fr (by decide)) (cE_ok x F h.1.2) (cE_ok y F h.2) h.1.1.1.2 h.1.1.2
    · cases h
  | .rng3 x y z, m, e, c, W, X, F, h => by
    simp only [cR] at h
    split at h
    · simp only [Bool.and_eq_true] at h
      obtain ⟨q, rfl, hg⟩ := nameIs_ok F h.1.1.1.1.1.1
      exact fun tg => si_rng3 hg (F.fr (by decide)) (cE_ok x F h.1.1.2) (cE_ok y F h.1.2) (cE_ok z F h.2) h.1.1.1.1.1.2 h.1.1.1.1.2 h.1.1.1.2
    · cases h
  | .disp xs, m, e, c, W, X, F, h => by
    simp only [cR] at h
    split at h
    · cases h
    · simp only [Bool.and_eq_true, decide_eq_true_eq] at h
      exact rdR_n (sn_disp (cEs_ok xs F h.1) (by rw [sizeLine_eq]; omega)) (by assumption)
    · cases h
  | .comp x t l ts, m, e, c, W, X, F, h => by
    simp only [cR] at h
    split at h
    · cases h
    · simp only [Bool.and_eq_true, decide_eq_true_eq] at h
      obtain ⟨⟨⟨⟨⟨⟨⟨h1, h2⟩, h3⟩, h4⟩, h5⟩, h6⟩, h7⟩, h8⟩ := h
      subst h2
      have ok := blkOk_by h4
      rw [← F.hN, ← F.sc] at ok
      refine rdR_n (sn_comp (F.calm h1).2.1 (F.calm h1).1 F.nd (cR_ok l .i F h6 _) ok ?_ (fun s H D cl fp => tgC_ok (F.blk h1 s H D cl fp) h5) (fun s H D cl fp => cTs_ok ts (F.blk h1 s H D cl fp) h7) (fun s H D cl fp => cE_ok x (F.blk h1 s H D cl fp) h8) (fold_ok h3)) (by assumption)
      unfold ownOf
      rw [List.map_map]
      exact List.map_id _
    · cases h
  | .comp2 x t l ts t1 l1 ts1, m, e, c, W, X, F, h => by
    simp only [cR] at h
    split at h
    · cases h
    · simp only [Bool.and_eq_true, decide_eq_true_eq] at h
      obtain ⟨⟨⟨⟨⟨⟨⟨⟨⟨⟨⟨⟨h1, h2⟩, h2'⟩, h3⟩, h3'⟩, h4⟩, h5⟩, h5'⟩, h6⟩, h7⟩, h6'⟩, h7'⟩, h8⟩ := h
      subst h2
      subst h2'
      have ok := blkOk_by h4
      rw [← F.hN, ← F.sc] at ok
      refine rdR_n (sn_comp2 (F.calm h1).2.1 (F.calm h1).1 F.nd (cR_ok l .i F h6 _) ok ?_ (fun s H D cl fp => tgC_ok (F.blk h1 s H D cl fp) h5) (fun s H D cl fp => cTs_ok ts (F.blk h1 s H D cl fp) h7) (fun s H D cl fp => cR_ok l1 .i (F.blk h1 s H D cl fp) h6' _) (fun s H D cl fp => tgC_ok (F.blk h1 s H D cl fp) h5') (fun s H D cl fp => cTs_ok ts1 (F.blk h1 s H D cl fp) h7') (fun s H D cl fp => cE_ok x (F.blk h1 s H D cl fp) h8) (fold_ok h3) (fun _ => fold_ok h3')) (by assumption)
      unfold ownOf
      rw [List.map_append, List.map_map, List.map_map]
      congr 1 <;> exact List.map_id _
    · cases h
  | .zip _ _, m, e, c, W, X, F, h => by simp [cR] at h
theorem cT_ok : ∀ (t : Tst) {e : Expr} {c : Cs} {W : WX} {X : Cx}, Fc w xw p n C f c W X → cT f c t e = true → PT X e (tT w xw C W t) ∧ (isBo e = true → PW X e (tT w xw C W t))
  | .val x, e, c, W, X, F, h => by
    simp only [cT, Bool.and_eq_true, Bool.or_eq_true] at h
    obtain ⟨h1, h2⟩ := h
    rcases h2 with h2 | h2
    · exact ⟨st_val F.hK (cE_ok x F h1) (fun _ => okV_ok h2), fun z => by cases e <;> first | (cases z; done) | (cases h2; done)⟩
    · split at h2
      · simp only [cE] at h1
        split at h1
        · simp only [Bool.and_eq_true] at h1
          rename_i heq
          cases heq
          exact ⟨st_cmp (cop_ok F.hK F.un h1.1.1.1) (cE_ok _ F h1.1.1.2) (cE_ok _ F h1.1.2) (mark_ok h1.2), fun z => by cases z⟩
        · cases h1
      · simp only [cE] at h1
        split at h1
        · simp only [Bool.and_eq_true] at h1
          rename_i heq
          cases heq
          exact ⟨st_chn (cop_ok F.hK F.un h1.1.1.1.1.1) (cop_ok F.hK F.un h1.1.1.1.1.2) (cE_ok _ F h1.1.1.1.2) (cE_ok _ F h1.1.1.2) (cE_ok _ F h1.1.2) (chain_marks h1.2), fun z => by cases z⟩
        · cases h1
      · cases h2
  | .not t, e, c, W, X, F, h => by
    simp only [cT] at h
    split at h
    · split at h
      · exact ⟨st_not (cT_ok t F h).1, fun z => by cases z⟩
      · cases h
    · cases h
  | .and t u, e, c, W, X, F, h => by
    simp only [cT] at h
    split at h
    · split at h
      · simp only [Bool.and_eq_true] at h
        have k := cT_ok u F h.2
        have q : PW X _ (tT w xw C W (.and t u)) := st_and (cT_ok t F h.1).1 (tail_And k)
        exact ⟨q.pt, fun _ => q⟩
      · cases h
    · cases h
  | .or t u, e, c, W, X, F, h => by
    simp only [cT] at h
    split at h
    · split at h
      · simp only [Bool.and_eq_true] at h
        have k := cT_ok u F h.2
        have q : PW X _ (tT w xw C W (.or t u)) := st_or (cT_ok t F h.1).1 (tail_Or k)
        exact ⟨q.pt, fun _ => q⟩
      · cases h
    · cases h
theorem cTs_ok : ∀ (ts : List Tst) {es : List Expr} {c : Cs} {W : WX} {X : Cx}, Fc w xw p n C f c W X → cTs f c ts es = true → PTs X es (tTs w xw C W ts)
  | [], es, c, W, X, F, h => by
    simp only [cTs] at h
    split at h
    · exact sts_nil
    · cases h
  | t :: ts, es, c, W, X, F, h => by
    simp only [cTs] at h
    split at h
    · exact sts_one (cT_ok t F h).1
    · cases h
end
end Pw
end
section
set_option Elab.async false
set_option linter.all false
set_option maxRecDepth 100000
set_option maxHeartbeats 4000000
set_option autoImplicit false
/-! Pw22: statements: the look, and that what it finds holds -/
namespace Pw
open PySem PySem.Spec PyProof.Rows L2
theorem contains_any (bs : List Nat) (k : Nat) : bs.contains k = bs.any fun b => [k].contains b := by
  rw [Bool.eq_iff_iff, List.contains_iff_mem, List.any_eq_true]
  constructor
  · intro h; exact ⟨k, h, by simp⟩
  · rintro ⟨b, hb, e⟩
    have : b = k := by simpa using e
    rw [← this]; exact hb
/-- no comprehension -/
def notLc : Expr → Bool
  | .ListComp .. => false | .SetComp .. => false | .DictComp .. => false
  | _ => true
def notTup : Expr → Bool
  | .Tuple .. => false
  | _ => true
def tgOk : Expr → Bool
  | .Name .. => true | .Tuple .. => true | .Subscript .. => true
  | _ => false
def mkC (f : Cf) (c : Cs) (k : Nat) (e : Expr) : Bool := match e with
  | .Call (.Name x _) [.Constant (.str _) _ _] [] _ => isAt f.nm.cls k x && gloB c.sc x && okName x
  | _ => false
/-- the value is stored in the plain way -/
def nosw (c : Cs) (tg e : Expr) : Bool := notLc e || (match tg, e with
  | .Name x py, .ListComp _ _ scope pos => !(locB c.sc x) || !(py.line == pos.line) || (scope.names.any fun (n, k) => n == x && (k == .local || k == .cell))
  | _, _ => false)
/-- name = [..] on one line -/
def lcC (f : Cf) (c : Cs) (i : Nat) (l : Src) (tg e : Expr) : Bool := match tg, e with
  | .Name x py, .ListComp _ [⟨_, _, _, _⟩] scope pos => isAt f.N i x && locB c.sc x && (py.line == pos.line) && !(scope.names.any fun (n, k) => n == x && (k == .local || k == .cell)) && cR f c .n l e
  | _, _ => false
mutual
def cSt (f : Cf) (c : Cs) : Stm → Stmt → Bool
  | .pass, s => (match s with | .Pass _ => true | _ => false)
  | .brk, s => (match s with | .Break _ => true | _ => false)
  | .cont, s => (match s with | .Continue _ => true | _ => false)
  | .ex x, s => (match s with | .Expr e _ => cE f c x e && notLc e | _ => false)
  | .ret x, s => (match s with
    | .Return (some e) _ => cE f c x e
    | .Return none _ => (match x with | .c d => (match d with | .non => true | _ => false) | _ => false)
    | _ => false)
  | .set t x, s => (match s with
    | .Assign [tg] e _ => (cE f c x e && nosw c tg e && tgC f c t tg && tgOk tg && (notTup tg || notTup e)) || (match t, x with
      | .v i, .ls (.comp y t2 l ts) => f.cm && lcC f c i (.comp y t2 l ts) tg e
      | _, _ => false)
    | _ => false)
  | .setIx o i x, s => (match s with
    | .Assign [.Subscript a b _] e _ => cE f c x e && cE f c o a && cE f c i b && notLc e && okX b
    | _ => false)
  | .ite t a b, s => (match s with
    | .If g x y _ => cT f c t g && cSts f c a x && cSts f c b y
    | _ => false)
  | .forS t l body _, s => (match s with
    | .For tg iter x [] _ => f.cm && okX iter && tgC f c t tg && cR f c .i l iter && cSts f c body x
    | _ => false)
  | .whl t body _, s => (match s with
    | .While g x [] _ => f.cm && cT f c t g && cSts f c body x
    | _ => false)
  | .rais k es, s => (match s with
    | .Raise (some e) none _ => (match es with | [] => f.cm && mkC f c k e | _ => false)
    | _ => false)
  | .tryS body hs, s => (match hs with
    | [(cs, sl, suite)] => (match s with
      | .Try x [.ExceptHandler (some (.Name cn _)) (some y) (b0 :: r) _] [] [] _ => (match cs, sl with
        | [k], some i => f.cm && cSts f c body x && isAt f.N i y && locB c.sc y && isAt f.nm.tst k cn && gloB c.sc cn && okName cn && cSts { f with cm := false, sl := some i } c suite (b0 :: r)
        | _, _ => false)
      | _ => false)
    | _ => false)
  | _, _ => false
def cSts (f : Cf) (c : Cs) : List Stm → List Stmt → Bool
  | [], l => (match l with | [] => true | _ => false)
  | s :: r, l => (match l with
    | x :: t => cSt f c s x && cSts f c r t
    | [] => false)
end
variable {w : Wo} {xw : Xw} {C : Ctx} {p : Prg} {n : Nat} {f : Cf}
structure Fs (w : Wo) (xw : Xw) (p : Prg) (n : Nat) (C : Ctx) (f : Cf) (c : Cs) (W : WX) (X : Cx) : Prop extends Fc w xw p n C f c W X where
  own : f.cm = true → PassesOwn (model X.prog X.w) X.A X.env X.xe
  stk : X.stack = X.env :: X.outer
  frm : X.env.frame = some X.env.locals
  knd : X.env.scope.kind = .function
  fl0 : ∀ c, c < xw.n → xw.fl c = []
section
variable {c : Cs} {W : WX} {X : Cx} {e tg : Expr} {pos : Pos}
theorem notLc_ok {t : Option Expr} {l : Nat} {env : PySem.Env} (h : notLc e = true) : swapsWith e t l env = pure false := by
  cases e <;> first | (cases h; done) | rfl
theorem notLcS {t : Expr} {l : Nat} {env : PySem.Env} (h : notLc e = true) : swapsWithSole [t] e l env = pure false := notLc_ok h
theorem nosw_ok {t : Expr} {l : Nat} {env : PySem.Env} (hs : env.scope = c.sc) (h : nosw c t e = true) : swapsWithSole [t] e l env = pure false := by
  unfold nosw at h
  rw [Bool.or_eq_true] at h
  rcases h with h | h
  · exact notLcS h
  · split at h
    · rename_i x py elt gs scope pos
      show swapsWith (.ListComp elt gs scope pos) (some (.Name x py)) l env = _
      have key : (env.blockKind == .function && env.kindOf x == some .local && py.line == pos.line && !(scope.names.any fun (n, k) => n == x && (k == .local || k == .cell))) = false := by
        simp only [Bool.or_eq_true, Bool.not_eq_true'] at h
        rcases h with (h | h) | h
        · have : (env.kindOf x == some .local) = false := by
            rw [Bool.eq_false_iff]
            intro z
            have z : env.scope.names.lookup x = some .local := eq_of_beq z
            rw [hs] at z
            unfold locB at h
            rw [kindAt_ok, z] at h
            cases h
          rw [this, Bool.and_false, Bool.false_and, Bool.false_and]
        · rw [h, Bool.and_false, Bool.false_and]
        · rw [h, Bool.not_true, Bool.and_false]
      unfold swapsWith
      simp only [Expr.pos, key]
    · cases h
theorem notTup_ok {env : PySem.Env} (h : (notTup tg || notTup e) = true) (h2 : tgOk tg = true) : swappedStores [tg] e env = pure none := by
  cases tg <;> first | (cases h2; done) | rfl | (cases e <;> first | (cases h; done) | rfl)
theorem tg1_ok {env : PySem.Env} (h2 : tgOk tg = true) : (assignEach [tg] env).map (·.2) = [assign tg env] := by
  cases tg <;> first | (cases h2; done) | rfl
theorem sub_ok {o b : Expr} {env : PySem.Env} (h : okX b = true) (v : Value) : assign (.Subscript o b pos) env v = (do
      let ov ← holding [v] (eval o env)
      let iv ← holding [v, ov] (eval b env)
      standAt pos
      holding [v, ov, iv] (setItem ov iv v)
      release [v, ov, iv] []) := by
  cases b <;> first | (cases h; done) | rfl
theorem mk_ok {k : Nat} (F : Fs w xw p n C f c W X) (h : mkC f c k e = true) : L2N.PMk X e (fun _ H Q => Q (xw.cA k) none H) ∧ xw.fl k = [] ∧ k < xw.n := by
  unfold mkC at h
  split at h
  · rename_i x q m j q2 q3
    simp only [Bool.and_eq_true] at h
    have hx := isAt_ok h.1.1
    obtain ⟨h1, a, h2, h3, h4, h5, h6, h7⟩ := F.gd.cls k x hx
    have fl := F.fl0 k h1
    dsimp only at h4 h5 h6 h7
    rw [F.hK] at h4 h5 h6 h7
    rw [h3]
    exact ⟨L2N.pmk_own PySem.F.excBase_ValueError (h5 fl) h2 h4 (raises_own h6 h7) (F.gl h.1.2) (okName_ok h.2).1, fl, h1⟩
  · cases h
theorem names_ok {k : Nat} {x : Str} {cv : Value} {K : PySem.W.Frag} (h : TstOk xw K X.mg p k x cv) (hg : Gl X x) (hn : okName x = true) : Names X x cv := by
  refine ⟨hg, (okName_ok hn).1, ?_⟩
  rcases h.nm with ⟨a, rfl, hm⟩ | ⟨T, rfl, hm, hb⟩
  · exact .inl hm
  · exact .inr ⟨hm, hb, (okName_ok hn).2.2⟩
/-- a try body -/
theorem Fs.tr {W' : WX} {pn : List (Addr × Obj)} {xe : Value → Shared → Prop} (F : Fs w xw p n C f c W X) (tk : L2N.Takes (X.tr pn xe) W') (own : PassesOwn (model X.prog X.w) X.A X.env xe) (h1 : f.cm = true := by assumption) : Fs w xw p n C f c W' (X.tr pn xe) :=
  { hK := F.hK, gd := F.gd, nd := F.nd, un := F.un, cG := F.cG, cP := F.cP, cC := F.cC, hx := fun z => (by rw [h1] at z; cases z), tk := tk, hN := F.hN, sc := F.sc, fn := F.fn, sx := F.sx, calm := F.calm, own := fun _ => own, stk := F.stk, frm := F.frm, knd := F.knd, fl0 := F.fl0 }
/-- an except suite -/
theorem Fs.suite {a : Addr} {oe : Obj} {pn : List (Addr × Obj)} {i k : Nat} (F : Fs w xw p n C f c W X) (h1 : f.cm = true) (hk : k < xw.n) (hz : L2N.Zn (xw.cA k) none oe) (hf : ∃ vs, oe.data = .fields vs) :
    Fs (w.at a i) xw p n { C with exn := some (k, []) } { f with cm := false, sl := some i } c W0 (X.suite a ((a, oe) :: pn)) := by
  obtain ⟨D0, e1, e2⟩ := F.gd.exc k hk
  dsimp only at e2
  rw [F.hK] at e2
  rw [e1] at hz
  have hr := (F.calm h1).2.2
  exact { hK := F.hK, gd := F.gd, nd := F.nd, un := F.un, cG := F.cG, cP := F.cP, cC := F.cC, hx := fun _ => ⟨⟨a, oe, i, k, D0, rfl, rfl, rfl, hk, e1, List.mem_cons_self, hz, hf, e2, rfl⟩, ⟨hr.dp, hr.un⟩⟩, tk := takes0, hN := F.hN, sc := F.sc, fn := F.fn, sx := fun a' j fs e => (by cases e; rfl), calm := fun z => (by cases z), own := fun z => (by cases z), stk := F.stk, frm := F.frm, knd := F.knd, fl0 := F.fl0 }
end
abbrev StsOk (ss : List Stm) : Prop := ∀ {w : Wo} {xw : Xw} {C : Ctx} {p : Prg} {n : Nat} {f : Cf} {sts : List Stmt} {c : Cs} {W : WX} {X : Cx}, Fs w xw p n C f c W X → cSts f c ss sts = true → PSs X sts (tSts w xw C W ss)
theorem try_case {body suite : List Stm} {cs : List Nat} {sl : Option Nat} {st : Stmt} {c : Cs} {W : WX} {X : Cx} (ihb : StsOk body) (ihs : StsOk suite) (F : Fs w xw p n C f c W X) (h : cSt f c (.tryS body [(cs, sl, suite)]) st = true) : PS X st (tSt w xw C W (.tryS body [(cs, sl, suite)])) := by
  simp only [cSt] at h
  split at h
  · rename_i x cn np y b0 r pos1 pos2
    split at h
    · rename_i k i
      simp only [Bool.and_eq_true] at h
      obtain ⟨⟨⟨⟨⟨⟨⟨h1, h2⟩, h3⟩, h4⟩, h5⟩, h6⟩, h7⟩, h8⟩ := h
      obtain ⟨cv, ht⟩ := F.gd.tst _ _ (isAt_ok h5)
      dsimp only at ht
      have hK := F.hK
      refine sst_try (F.calm h1).2.1 hK F.stk F.frm F.nd (F.toFc.at h3) (by show X.env.scope.names.lookup y = _; rw [F.sc]; exact locB_ok h4) (names_ok ht (F.gl h6) h7) F.tk (fun c' hc' => ?_) (fun W' pn xe tk own => ihb (F.tr tk own) h2) (fun a oe cls d pn hz hf => ⟨fun pins s σ H D0 I ⟨c', fs, φ, env, S, xr, m, g⟩ => ?_⟩)
      · obtain ⟨bs, hb, _, hk⟩ := ht.kit c' hc'
        rw [← hK, hk]
        congr 1
        unfold catches
        rw [F.cC, hb]
        show bs.contains k = bs.any fun b => [k].contains b
        exact contains_any bs k
      · obtain ⟨q1, q2, q3, q4⟩ := xr
        rcases q4 with ⟨q4, q5, q6⟩ | ⟨q4, _⟩
        · subst q5 q6 q2
          exact (ihs (F.suite h1 q1 hz hf) h8).run pins s σ H D0 I ⟨φ, env, S, m, g⟩
        · exact absurd (F.fl0 c' q1) q4
    · cases h
  · cases h
mutual
theorem cSt_ok : ∀ (s : Stm) {w : Wo} {xw : Xw} {C : Ctx} {p : Prg} {n : Nat} {f : Cf} {st : Stmt} {c : Cs} {W : WX} {X : Cx}, Fs w xw p n C f c W X → cSt f c s st = true → PS X st (tSt w xw C W s)
  | .pass, w, xw, C, p, n, f, st, c, W, X, F, h => by
    simp only [cSt] at h
    split at h
    · exact sst_pass
    · cases h
  | .brk, w, xw, C, p, n, f, st, c, W, X, F, h => by
    simp only [cSt] at h
    split at h
    · exact sst_brk
    · cases h
  | .cont, w, xw, C, p, n, f, st, c, W, X, F, h => by
    simp only [cSt] at h
    split at h
    · exact sst_cont
    · cases h
  | .ex x, w, xw, C, p, n, f, st, c, W, X, F, h => by
    simp only [cSt] at h
    split at h
    · simp only [Bool.and_eq_true] at h
      exact sst_ex (cE_ok x F.toFc h.1) (notLc_ok h.2)
    · cases h
  | .ret x, w, xw, C, p, n, f, st, c, W, X, F, h => by
    simp only [cSt] at h
    split at h
    · exact sst_ret (cE_ok x F.toFc h)
    · split at h
      · split at h
        · exact sst_retN
        · cases h
      · cases h
    · cases h
  | .set t x, w, xw, C, p, n, f, st, c, W, X, F, h => by
    simp only [cSt] at h
    split at h
    · rw [Bool.or_eq_true] at h
      rcases h with h | h
      · simp only [Bool.and_eq_true] at h
        exact sst_set (cE_ok x F.toFc h.1.1.1.1) (tgC_ok F.toFc h.1.1.2) (nosw_ok (by rw [F.sc]) h.1.1.1.2) (notTup_ok h.2 h.1.2) (tg1_ok h.1.2)
      · split at h
        · rw [Bool.and_eq_true] at h
          obtain ⟨hcm, h⟩ := h
          unfold lcC at h
          split at h
          · rename_i x py elt tg iter gifs as scope pos
            simp only [Bool.and_eq_true, Bool.not_eq_true'] at h
            obtain ⟨⟨⟨⟨h1, h2⟩, h3⟩, h4⟩, h5⟩ := h
            simp only [cR] at h5
            simp only [Bool.and_eq_true, decide_eq_true_eq] at h5
            obtain ⟨⟨⟨⟨⟨⟨⟨g1, g2⟩, g3⟩, g4⟩, g5⟩, g6⟩, g7⟩, g8⟩ := h5
            subst g2
            have ok := blkOk_by g4
            rw [← F.hN, ← F.sc] at ok
            have hl : X.env.scope.names.lookup x = some .local := by rw [F.sc]; exact locB_ok h2
            refine sst_setLc (F.calm g1).2.1 (F.calm g1).1 F.nd (F.toFc.at h1) hl (sw_true F.knd hl h3 h4) (cR_ok _ .i F.toFc g6 _) ok ?_ (fun s H D cl fp => tgC_ok (F.toFc.blk g1 s H D cl fp) g5) (fun s H D cl fp => cTs_ok _ (F.toFc.blk g1 s H D cl fp) g7) (fun s H D cl fp => cE_ok _ (F.toFc.blk g1 s H D cl fp) g8) (fold_ok g3)
            unfold ownOf
            rw [List.map_map]
            exact List.map_id _
          · cases h
        · cases h
    · cases h
  | .setIx o i x, w, xw, C, p, n, f, st, c, W, X, F, h => by
    simp only [cSt] at h
    split at h
    · simp only [Bool.and_eq_true] at h
      exact sst_setIx (psetR (by have := F.un; omega)) (cE_ok o F.toFc h.1.1.1.2) (cE_ok i F.toFc h.1.1.2) (cE_ok x F.toFc h.1.1.1.1) (notLcS h.1.2) (notTup_ok (by rfl) rfl) rfl (sub_ok h.2)
    · cases h
  | .ite t a b, w, xw, C, p, n, f, st, c, W, X, F, h => by
    simp only [cSt] at h
    split at h
    · simp only [Bool.and_eq_true] at h
      exact sst_if (cT_ok t F.toFc h.1.1).1 (cSts_ok a F h.1.2) (cSts_ok b F h.2)
    · cases h
  | .forS t l body ks, w, xw, C, p, n, f, st, c, W, X, F, h => by
    simp only [cSt] at h
    split at h
    · simp only [Bool.and_eq_true] at h
      have hc := (F.calm h.1.1.1.1).1
      have hi := cR_ok l .i F.toFc h.1.2
      have hg := tgC_ok F.toFc h.1.1.2
      have hb := cSts_ok body F h.2
      exact sst_for (F.own h.1.1.1.1) hc (hi _) hg hb (ps_for (F.own h.1.1.1.1) hc (hi _) hg hb (fold_ok h.1.1.1.2))
    · cases h
  | .whl t body ks, w, xw, C, p, n, f, st, c, W, X, F, h => by
    simp only [cSt] at h
    split at h
    · simp only [Bool.and_eq_true] at h
      exact sst_whl (F.own h.1.1) (cT_ok t F.toFc h.1.2).1 (cSts_ok body F h.2)
    · cases h
  | .rais k es, w, xw, C, p, n, f, st, c, W, X, F, h => by
    simp only [cSt] at h
    split at h
    · split at h
      · simp only [Bool.and_eq_true] at h
        obtain ⟨h1, h2, h3⟩ := mk_ok F h.2
        exact sst_raise0 (F.calm h.1).1 F.tk h1 h2 h3
      · cases h
    · cases h
  | .tryS body [], w, xw, C, p, n, f, st, c, W, X, F, h => by simp [cSt] at h
  | .tryS body (_ :: _ :: _), w, xw, C, p, n, f, st, c, W, X, F, h => by simp [cSt] at h
  | .tryS body [(cs, sl, suite)], w, xw, C, p, n, f, st, c, W, X, F, h => try_case (fun F h => cSts_ok body F h) (fun F h => cSts_ok suite F h) F h
  | .kill _, w, xw, C, p, n, f, st, c, W, X, F, h => by simp [cSt] at h
theorem cSts_ok : ∀ (ss : List Stm) {w : Wo} {xw : Xw} {C : Ctx} {p : Prg} {n : Nat} {f : Cf} {sts : List Stmt} {c : Cs} {W : WX} {X : Cx}, Fs w xw p n C f c W X → cSts f c ss sts = true → PSs X sts (tSts w xw C W ss)
  | [], w, xw, C, p, n, f, sts, c, W, X, F, h => by
    simp only [cSts] at h
    split at h
    · exact sss_nil
    · cases h
  | s :: r, w, xw, C, p, n, f, sts, c, W, X, F, h => by
    simp only [cSts] at h
    split at h
    · simp only [Bool.and_eq_true] at h
      exact sss_cons (cSt_ok s F h.1) (cSts_ok r F h.2)
    · cases h
end
end Pw
end
section
set_option Elab.async false
set_option linter.all false
set_option maxRecDepth 100000
set_option maxHeartbeats 4000000
set_option autoImplicit false
/-! Pw23: defs: each keeps what the evaluator says -/
namespace Pw
open PySem PySem.Spec PyProof.Rows L2
variable {w : Wo} {xw : Xw} {p : Prg} {nm : Nm}
section
variable {φ φ' : Nat → Addr} {S S' : Store} {H H' : Hp} {d : D} {v : V} {Q : VK} {W : WX} {σ : L2.St}
/-- a call's end: what was laid within is forgotten -/
theorem fin_ok (so : SimO w.K φ w.ex H S) (l : Lat φ φ' S S' H H') (so' : SimO w.K φ' w.ex H' S') (r : RE w φ' H' S' v d) (g : Rg w xw W σ (RE w) φ S H (fin S S' d) Q) : Q v H' := by
  unfold fin at g
  split at g
  · exact g v φ' H' l so' r
  · split at g
    · rename_i h1 h2
      have hl := (okOld_ok h2).1
      have sd := so'.drop so h2
      have ld := l.drop hl
      split at g
      · rename_i hb
        exact g v φ' H' ld sd ⟨r.1, by rw [hl]; exact hb⟩
      · rename_i hb
        split at g
        · rename_i m
          split at g
          · rename_i o e
            split at g
            · rename_i ho
              have hm : S.length ≤ m := by
                rcases Nat.lt_or_ge m S.length with z | z
                · exact absurd (show D.bel S.length (.obj m) = true from Nat.ble_eq_true_of_le z) hb
                · exact z
              have h0 : H (φ' m) = none := l.nw m hm (get_lt e)
              obtain ⟨φ2, l2, e2, s2⟩ := sd.adoptO ld h0 (so'.ob m o e) (fun n hn z => by
                rw [hl] at hn
                rw [l.same n hn] at z
                exact so.ne h0 n hn z) (by rw [hl]; exact ho)
              refine g v φ2 H' l2 s2 ⟨?_, ?_⟩
              · have : v = .ref (φ' m) := by cases r.1; rfl
                rw [this, ← e2, hl]
                exact .obj _
              · show Nat.blt S.length (o :: S'.drop (S'.length - S.length)).length = true
                rw [List.length_cons, hl]
                exact Nat.ble_eq_true_of_le (Nat.le_refl _)
            · exact g v φ' H' l so' r
          · exact g.elim
        · exact g v φ' H' l so' r
    · exact g v φ' H' l so' r
theorem finX_ok {c : Nat} {fs : List D} {cls : Value} {dd : Option Addr} (so : SimO w.K φ w.ex H S) (l : Lat φ φ' S S' H H') (so' : SimO w.K φ' w.ex H' S') (r : XR w xw φ' H' S' c fs cls dd) (g : Rg w xw W σ (RE w) φ S H (.exc c fs (finX S S' fs)) Q) : W cls dd σ H' := by
  unfold finX at g
  split at g
  · exact g φ' H' cls dd l so' r
  · split at g
    · rename_i h1 h2
      simp only [Bool.and_eq_true] at h2
      have hl := (okOld_ok h2.2).1
      exact g φ' H' cls dd (l.drop hl) (so'.drop so h2.2) ⟨r.1, r.2.1, by rw [hl]; exact h2.1, r.2.2.2⟩
    · exact g φ' H' cls dd l so' r
end
theorem simE0 {φ : Nat → Addr} {H : Hp} {S : Store} {vs : List V} {ds : List D} {N : List Str} {np nl : Nat} (hx : w.ex = none) (r : REs w φ H S vs ds) (hp : ds.length = np) (hn : nl = N.length) : SimE w.K φ w.ex H S.length (L2.start N vs) (ds.map some ++ List.replicate (nl - np) none) := by
  have hl := r.1.length
  refine ⟨by simp [L2.start, hl, hp, hn], fun i d h => ?_, fun a j fs e => by rw [hx] at e; cases e⟩
  have hi : i < ds.length := by
    rcases Nat.lt_or_ge i ds.length with z | z
    · exact z
    · rw [List.getElem?_append_right (by simpa using z), List.getElem?_replicate] at h
      split at h <;> cases h
  rw [List.getElem?_append_left (by simpa using hi), List.getElem?_map] at h
  cases e : ds[i]? with
  | none => rw [e] at h; cases h
  | some d' =>
    rw [e] at h
    cases h
    obtain ⟨v, h1, h2⟩ := r.1.get d e
    refine ⟨v, ?_, h2, bels_all.mp r.2 d (List.mem_of_getElem? e)⟩
    unfold L2.start
    rw [List.getElem?_append_left (by simp; omega), List.getElem?_map, h1]
    rfl
/-- what is known of the text's defs -/
structure Tx (w : Wo) (xw : Xw) (mg : Str → Option Value) (p : Prg) (nm : Nm) : Prop where
  ex : w.ex = none
  fn : ∀ (i : Nat) (x : Str), nm.fns[i]? = some x → ∃ (f : Addr) (fd : FuncData) (ps N : List Str) (params : Arguments) (body : List Stmt) (scope : Scope) (g : Fn), mg x = some (.ref f) ∧ FunD w.K x x params body scope [] [] f fd ∧ Binds w.K fd ps [] ∧ FnScope N ps scope ∧
    p.fns[i]? = some g ∧ g.np = ps.length ∧ g.nl = N.length ∧ cSts ⟨nm, N, true, none⟩ ⟨scope, fun _ => true⟩ g.body body = true
  gl : ∀ (i : Nat) (x : Str), nm.gs[i]? = some x → ∃ (d : D) (u : Value) (v : V), p.G[i]? = some d ∧ mg x = some u ∧ RelV v u ∧ (∀ φ ex H, Rp w.K φ ex H v d) ∧ D.bel 0 d = true
  free : ∀ x ∈ freeNames, mg x = none
  cls : ∀ (k : Nat) (x : Str), nm.cls[k]? = some x → k < xw.n ∧ ∃ a : Addr, mg x = some (.ref a) ∧ xw.cA k = .ref a ∧ PySem.W.keepIn w.K (.ref a) = true ∧ (xw.fl k = [] → PySem.W.excIn w.K a veB "ValueError.__new__" = true) ∧
    PySem.W.subIn w.K (.ref a) (.type "BaseException") = some true ∧ PySem.W.typeIn w.K (.ref a) = some (.type "type")
  fl0 : ∀ c, c < xw.n → xw.fl c = []
  hot : ∀ (i : Nat) (x : Str), (i, x) ∈ nm.hots → ∃ (f : Addr) (fd : FuncData) (y : Str) (N : List Str) (params : Arguments) (body : List Stmt) (scope : Scope) (g : Fn), mg x = some (.ref f) ∧ FunD w.K x x params body scope [] [] f fd ∧ Binds w.K fd [y] [] ∧ FnScope N [y] scope ∧
    p.fns[i]? = some g ∧ g.nl = N.length ∧ cSts ⟨nm, N, false, some 0⟩ ⟨scope, fun _ => true⟩ g.body body = true
  tst : ∀ (k : Nat) (x : Str), nm.tst[k]? = some x → ∃ cv, TstOk xw w.K mg p k x cv
  exc : ∀ c, c < xw.n → ∃ a : Addr, xw.cA c = .ref a ∧ ExcC w.K a
/-- one def -/
theorem fn_keeps {P : Program} {wd : World} {mg : Str → Option Value} {base : Heap} {n i : Nat} {x : Str} {f : Addr} {fd : FuncData} {ps N : List Str} {params : Arguments} {body : List Stmt} {scope : Scope} {g : Fn} (T : Tx w xw mg p nm) (G : Gd w xw P wd mg base p nm n)
    (F : FunD w.K x x params body scope [] [] f fd) (Sc : FnScope N ps scope) (hg : p.fns[i]? = some g) (hp : g.np = ps.length) (hn : g.nl = N.length) (hc : cSts ⟨nm, N, true, none⟩ ⟨scope, fun _ => true⟩ g.body body = true) : FnOk P wd w.K mg base (L2N.CX P wd) (n + 1) f fd ps (spD w xw p (n + 1) i) := by
  have hden : ∀ ds S, den p (n + 1) none i ds S = evFn ⟨den p n, p.G, p.Cl, none⟩ g ds S := fun ds S => by
    show (match p.fns[i]? with
      | some f => evFn ⟨den p n, p.G, p.Cl, none⟩ f ds S
      | none => .bad) = _
    rw [hg]
  have hev : ∀ ds S, evFn ⟨den p n, p.G, p.Cl, none⟩ g ds S = if ds.length = g.np then (match evSs ⟨den p n, p.G, p.Cl, none⟩ g.body (ds.map some ++ List.replicate (g.nl - g.np) none) S with
    | .ok (.rt d) S' => fin S S' d
    | .ok (.nx _) S' => fin S S' .non
    | .ok (.ex c fs _) S' => .exc c fs (finX S S' fs)
    | _ => .bad) else .bad := fun ds S => by
      unfold evFn
      by_cases h : ds.length = g.np
      · rw [if_pos (.inr h), if_pos h]; rfl
      · rw [if_neg (by simp [h]), if_neg h]
  refine F.ok Sc (fun vs H Q E h => ?_) fun cdv A outer s H vs Q E hr h => ?_
  · obtain ⟨φ, S, ds, so, rs, h⟩ := h
    rw [hden, hev] at h
    obtain ⟨h1, _⟩ := Rg.ite h
    rw [rs.1.length, h1, hp]
  · obtain ⟨φ, S, ds, so, rs, h⟩ := h
    rw [hden, hev] at h
    obtain ⟨h1, h⟩ := Rg.ite h
    have hu := hr.un
    have Fs0 : Fs w xw p n ⟨den p n, p.G, p.Cl, none⟩ ⟨nm, N, true, none⟩ ⟨scope, fun _ => true⟩ (fun cls d _ H => E cls d H) (cxOf (L2N.CX P wd) P wd w.K mg base N x scope f cdv A outer s H E) :=
      { hK := rfl, gd := (by cases w; have := T.ex; simp only at this; subst this; exact G), nd := Sc.nd, un := (by show (A.deeper _).units + 65 < _; omega), cG := rfl, cP := fun _ => rfl, cC := rfl, hx := fun z => (by cases z), tk := L2N.takes_of rfl rfl rfl rfl, hN := rfl, sc := rfl, fn := fun _ _ => rfl, sx := fun a j fs e => (by rw [T.ex] at e; cases e), calm := fun _ => ⟨rfl, T.ex, hr⟩, own := fun _ => passes_of rfl, stk := rfl, frm := rfl, knd := Sc.kind, fl0 := T.fl0 }
    refine ⟨_, cSts_ok g.body Fs0 hc, φ, ds.map some ++ List.replicate (g.nl - g.np) none, S, ⟨so, simE0 T.ex rs h1 hn⟩, ?_⟩
    cases e : evSs ⟨den p n, p.G, p.Cl, none⟩ g.body (ds.map some ++ List.replicate (g.nl - g.np) none) S with
    | bad => rw [e] at h; exact h.elim
    | exc c fs S' => rw [e] at h; exact h.elim
    | ok fl S' =>
      rw [e] at h
      cases fl with
      | nx env => exact fun φ' H' σ' l m => fin_ok so l m.o ⟨.non, rfl⟩ h
      | rt d => exact fun v φ' H' l so' r => fin_ok so l so' r h
      | ex c fs env => exact fun φ' H' σ' cls dd l m xr => finX_ok so l m.o xr h
      | bk env => exact h.elim
      | ct env => exact h.elim
/-- a def that is called with the exception that is handled -/
theorem fnH_keeps {P : Program} {wd : World} {mg : Str → Option Value} {base : Heap} {n i : Nat} {x y : Str} {f : Addr} {fd : FuncData} {N : List Str} {params : Arguments} {body : List Stmt} {scope : Scope} {g : Fn} (T : Tx w xw mg p nm) (G : Gd w xw P wd mg base p nm n)
    (F : FunD w.K x x params body scope [] [] f fd) (Sc : FnScope N [y] scope) (hg : p.fns[i]? = some g) (hn : g.nl = N.length) (hc : cSts ⟨nm, N, false, some 0⟩ ⟨scope, fun _ => true⟩ g.body body = true) : FnHp P wd w.K mg base (L2N.CX P wd) (n + 1) f fd [y] (spX w xw p (n + 1) i) := by
  refine ⟨fun A outer s H args us vs Q E pr cls hr hot hpin hz e0 hb r hsp => ?_⟩
  obtain ⟨rfl, c, φ, S, rfl, hcn, so, h⟩ := hsp
  obtain ⟨oc, od, dV, kV, doc, pm, an, cdv, ct, osl, rfl, lk, hcd, _, _⟩ := F.ex
  have kin : w.K.In s.heap := e0.mod.kin.keeps fun b o e => (e0.bs b o e).1
  have nolim : s.heap.NoLimit := e0.mod.nolimit.keeps fun b o e => (e0.bs b o e).1
  have kinds : ∀ q ∈ [y].zip us, scope.names.lookup q.1 = some .local ∨ (scope.names.lookup q.1 = some .cell ∧ ((cellsFrom (s.heap.objs.size + 1) scope.names []).lookup q.1).isSome = true) := fun ⟨m, v⟩ hq => (Sc.par m (List.of_mem_zip hq).1).imp id fun q => ⟨q, PySem.W.cellsFrom_some _ _ _ (.inl q)⟩
  refine codeAny_call_function hr.depth (kin _ _ lk) rfl Sc.co Sc.gen rfl (PySem.W.codeRec_of kin hcd) (hb _ _ _ _ (wpAny_newFunctionEnv_cells Sc.kind kinds fun env he s1 inn => ?_))
  subst he
  refine ⟨nolim.keeps inn.toInCall.keep, (codeAny_func ?_)⟩
  obtain ⟨D0, e1, e2⟩ := T.exc c hcn
  have hz' := hz
  rw [e1] at hz'
  obtain ⟨hh, vsf, hv, _⟩ := id hot
  have hrd := hr.deeper (envOfC x scope s.heap.objs.size f cdv)
  have hun := hrd.un
  have J : Inv (L2H.cxH (L2N.CX P wd) P wd w.K mg base N x scope f cdv A outer s H E pr) [] (L2.start N [.ref pr.1]) H s1 := L2H.inv_startH Sc hpin e0 rfl r inn
  have Fs0 : Fs (w.at pr.1 0) xw p n ⟨den p n, p.G, p.Cl, some (c, [])⟩ ⟨nm, N, false, some 0⟩ ⟨scope, fun _ => true⟩ W0 (L2H.cxH (L2N.CX P wd) P wd w.K mg base N x scope f cdv A outer s H E pr) :=
    { hK := rfl, gd := (by cases w; have := T.ex; simp only at this; subst this; exact G), nd := Sc.nd, un := (by show (A.deeper _).units + 65 < _; omega), cG := rfl, cP := fun _ => rfl, cC := rfl,
      hx := fun _ => ⟨⟨pr.1, pr.2, 0, c, D0, rfl, rfl, rfl, hcn, e1, List.mem_cons_self, hz', ⟨vsf, hv⟩, e2, hh⟩, hrd⟩, tk := takes0, hN := rfl, sc := rfl, fn := fun _ _ => rfl, sx := fun a j fs e => (by cases e; rfl), calm := fun z => (by cases z), own := fun z => (by cases z), stk := rfl, frm := rfl, knd := Sc.kind, fl0 := T.fl0 }
  have hev : den p (n + 1) (some (c, [])) i [] S = (match evSs ⟨den p n, p.G, p.Cl, some (c, [])⟩ g.body (List.replicate g.nl none) S with
    | .ok (.rt d) S' => fin S S' d
    | .ok (.nx _) S' => fin S S' .non
    | .ok (.ex c fs _) S' => .exc c fs (finX S S' fs)
    | _ => .bad) := by
    show (match p.fns[i]? with
      | some f => evFn ⟨den p n, p.G, p.Cl, some (c, [])⟩ f [] S
      | none => .bad) = _
    rw [hg]
    rfl
  rw [hev] at h
  have pre : tSts (w.at pr.1 0) xw ⟨den p n, p.G, p.Cl, some (c, [])⟩ W0 g.body { nx := fun _ H' => Q .non H', rt := Q } (L2.start N [.ref pr.1]) H := by
    have hNl : 0 < N.length := by
      have := congrArg List.length Sc.pre
      simp only [List.length_take, List.length_cons, List.length_nil] at this
      omega
    refine ⟨φ, List.replicate g.nl none, S, ⟨so_ex so, ?_, fun j d hd => ?_, fun a j fs e => ?_⟩, ?_⟩
    · simp only [L2.start, List.length_append, List.length_map, List.length_replicate, List.length_cons, List.length_nil, hn]
      omega
    · rw [List.getElem?_replicate] at hd
      split at hd <;> cases hd
    · cases e
      rfl
    · cases e : evSs ⟨den p n, p.G, p.Cl, some (c, [])⟩ g.body (List.replicate g.nl none) S with
      | bad => rw [e] at h; exact h.elim
      | exc c fs S' => rw [e] at h; exact h.elim
      | ok fl S' =>
        rw [e] at h
        cases fl with
        | nx env => exact fun φ' H' σ' l m => fin_ok so l (so_ex m.o) ⟨.non, rfl⟩ h
        | rt d => exact fun v φ' H' l so' rv => fin_ok so l (so_ex so') ⟨rp_ex rv.1, rv.2⟩ h
        | ex c fs env => exact fun φ' H' σ' cls dd l m xr => (finX_ok (Q := Q) so l (so_ex m.o) ⟨xr.1, xr.2.1, xr.2.2.1, xr.2.2.2.imp id fun ⟨z1, d, vs, z2, z3, z4, z5⟩ => ⟨z1, d, vs, z2, z3, rpA_ex z4, z5⟩⟩ h : W00 _ _ _ _).elim
        | bk env => exact h.elim
        | ct env => exact h.elim
  refine wpAny_mono ((cSts_ok g.body Fs0 hc).run [] s1 _ H _ J pre) (fun fl s' hs => ?_) fun _ _ z => z
  have out : ∀ {σ' : L2.St} {H' : Hp} {v : V} {u : Value}, Inv (L2H.cxH (L2N.CX P wd) P wd w.K mg base N x scope f cdv A outer s H E pr) [] σ' H' s' → RelV v u → Q v H' → CE outer P wd H s Q u s' := fun {σ' H' v u} J2 rv q => ⟨v, H', J2.os, J2.bare, J2.base, J2.hok, rv, q⟩
  cases fl with
  | next => obtain ⟨_, _, J2, q⟩ := hs; exact out (v := V.non) (u := Value.none) J2 rfl q
  | ret u => obtain ⟨_, _, _, J2, rv, q⟩ := hs; exact out J2 rv q
  | brk => obtain ⟨_, _, _, z⟩ := hs; exact z.elim
  | cont => obtain ⟨_, _, _, z⟩ := hs; exact z.elim
theorem gd_all {P : Program} {wd : World} {mg : Str → Option Value} {base : Heap} (T : Tx w xw mg p nm) : ∀ n, Gd w xw P wd mg base p nm n
  | 0 => ⟨fun i x h => by
      obtain ⟨f, fd, ps, N, params, body, scope, g, h1, h2, h3, _⟩ := T.fn i x h
      exact ⟨f, fd, ps, h1, h2.kp, ⟨fun vs H Q E ⟨_, _, _, _, _, z⟩ => z.elim, fun A outer s H args us vs Q E _ _ _ _ ⟨_, _, _, _, _, z⟩ => z.elim⟩, h3⟩, T.gl, T.free, T.cls, fun i x h => by
      obtain ⟨f, fd, y, N, params, body, scope, g, h1, h2, h3, _⟩ := T.hot i x h
      exact ⟨f, fd, y, h1, h2.kp, ⟨fun A outer s H args us vs Q E pr cls _ _ _ _ _ _ _ ⟨_, _, _, _, _, _, _, z⟩ => z.elim⟩, h3⟩, T.tst, T.exc⟩
  | n + 1 => ⟨fun i x h => by
      obtain ⟨f, fd, ps, N, params, body, scope, g, h1, h2, h3, h4, h5, h6, h7, h8⟩ := T.fn i x h
      exact ⟨f, fd, ps, h1, h2.kp, fn_keeps T (gd_all T n) h2 h4 h5 h6 h7 h8, h3⟩, T.gl, T.free, T.cls, fun i x h => by
      obtain ⟨f, fd, y, N, params, body, scope, g, h1, h2, h3, h4, h5, h6, h7⟩ := T.hot i x h
      exact ⟨f, fd, y, h1, h2.kp, fnH_keeps T (gd_all T n) h2 h4 h5 h6 h7, h3⟩, T.tst, T.exc⟩
end Pw
end
section
set_option Elab.async false
set_option linter.all false
set_option maxRecDepth 100000
set_option maxHeartbeats 4000000
set_option autoImplicit false
/-! Pw24: the head's facts, the end -/
namespace Pw
open PySem PySem.Spec PyProof.Rows L2
/-- one def of the text -/
structure Dd where
  x : Str
  ps : List Str
  N : List Str
  params : Arguments
  body : List Stmt
  scope : Scope
  g : Fn
def Dd.d (a : Dd) : He.DefD := ⟨(a.x, none), a.x, a.x, a.params, a.body, a.scope, [], []⟩
def scopC (ps N : List Str) (sc : Scope) : Bool := (match sc.kind with | .function => true | _ => false) && !sc.isCoroutine && !sc.isGenerator && decide N.Nodup && decide (N.take ps.length = ps) &&
  (ps.all fun x => (match kindAt sc.names x with | some .local => true | some .cell => true | _ => false)) && sc.names.all fun y => (match y.2 with | .free => false | _ => true)
theorem scopC_ok {ps N : List Str} {sc : Scope} (h : scopC ps N sc = true) : FnScope N ps sc := by
  unfold scopC at h
  simp only [Bool.and_eq_true, Bool.not_eq_true', decide_eq_true_eq, List.all_eq_true] at h
  obtain ⟨⟨⟨⟨⟨⟨h1, h2⟩, h3⟩, h4⟩, h5⟩, h6⟩, h7⟩ := h
  refine ⟨?_, h2, h3, h4, h5, fun x hx => ?_, fun y hy e => ?_⟩
  · split at h1
    · assumption
    · cases h1
  · have k := h6 x hx
    rw [kindAt_ok] at k
    split at k
    · exact .inl (by assumption)
    · exact .inr (by assumption)
    · cases k
  · have k := h7 y hy
    rw [e] at k
    cases k
def Dd.ok (nm : Nm) (hot : Bool) (a : Dd) : Bool := scopC a.ps a.N a.scope && decide (a.g.nl = a.N.length) && (if hot then decide (a.ps.length = 1) else decide (a.g.np = a.ps.length)) &&
  cSts ⟨nm, a.N, !hot, if hot then some 0 else none⟩ ⟨a.scope, fun _ => true⟩ a.g.body a.body
def BindP (a : Dd) : Prop := ∀ (kV doc pm : Value) (an : Option Addr) (cdv ct : Value) (us : List Value), us.length = a.ps.length → bindArgs (PySem.W.fnOf a.x a.x a.params a.body a.scope .none kV doc pm an cdv ct) ⟨us, []⟩ = pure (a.ps.zip us)
/-- the text: its defs, the first m in ordinary calls, the others with the exception at hand; constants; classes; classes that isinstance is asked of -/
structure Txt where
  ds : List Dd
  m : Nat
  gs : List Str
  G : List D
  cls : List Str
  tst : List Str
  Cl : Classes
def Txt.prg (t : Txt) : Prg := ⟨t.ds.map (·.g), t.G, t.Cl⟩
def Txt.nm (t : Txt) : Nm := ⟨(t.ds.take t.m).map (·.x), t.gs, t.cls, (t.ds.zipIdx.drop t.m).map fun q => (q.2, q.1.x), t.tst⟩
/-- the look at the text -/
def Txt.look (t : Txt) : Bool := ((t.ds.take t.m).all fun a => a.ok t.nm false) && ((t.ds.drop t.m).all fun a => a.ok t.nm true)
def constK (K : PySem.W.Frag) (x : Str) (d : D) : Bool := match d with
  | .int i => (He.Fa.int x i).ok K
  | .str l => (match PySem.W.nsIn K mainGlobals x with
    | some (some (.str y _)) => decide (y.cps.toList = l)
    | _ => false)
  | _ => false
def excK (K : PySem.W.Frag) (a : Addr) : Bool := decide (PySem.W.findIn K (.ref a) "__getattribute__" = some (some (.builtin "BaseException.__getattribute__"))) && decide (PySem.W.findIn K (.ref a) "__getattr__" = some none) && decide (PySem.W.subIn K (.ref a) (.type "BaseException") = some true) &&
  PySem.W.hasDictIn K a && decide (PySem.W.findIn K (.ref a) "__class__" = some (some (.builtin "object.__class__"))) && decide (PySem.W.specialIn K (.builtin "object.__class__") "__get__" = some (some (.builtin "getset_descriptor.__get__"))) &&
  decide (PySem.W.takesIn K (.builtin "object.__class__") = some true) && decide (PySem.W.mroIn K a (.type "object") = some true)
theorem excK_ok {K : PySem.W.Frag} {a : Addr} (h : excK K a = true) : ExcC K a := by
  unfold excK at h
  simp only [Bool.and_eq_true, decide_eq_true_eq] at h
  obtain ⟨⟨⟨⟨⟨⟨⟨h1, h2⟩, h3⟩, h4⟩, h5⟩, h6⟩, h7⟩, h8⟩ := h
  exact ⟨h1, h2, h3, h4, h5, h6, h7, h8⟩
def isVE (x : Str) : Bool := eqS x "ValueError"
def cvK (K : PySem.W.Frag) (x : Str) : Value := if isVE x then .type "ValueError" else .ref (He.ga K x)
/-- what is asked of the heap's part -/
def Txt.says (t : Txt) (K : PySem.W.Frag) : Bool :=
  (t.ds.all fun a => (He.Fa.glo a.x).ok K) && (freeNames.all fun x => (He.Fa.free x).ok K) && ((t.gs.zip t.G).all fun q => constK K q.1 q.2 && D.bel 0 q.2) && decide (t.gs.length = t.G.length) &&
  (t.cls.all fun x => (He.Fa.glo x).ok K && (He.Fa.exc x).ok K && excK K (He.ga K x)) && (t.tst.all fun x => isVE x || (He.Fa.glo x).ok K) &&
  (t.tst.zipIdx.all fun y => t.cls.zipIdx.all fun x => (match t.Cl[x.2]? with
    | some bs => decide (PySem.W.kitOne K (.ref (He.ga K x.1)) (cvK K y.1) = some (bs.contains y.2)) && decide (PySem.W.exmOne K (.ref (He.ga K x.1)) (cvK K y.1) = some (bs.contains y.2))
    | none => false)) && (K.all fun q => !decide (q.2.cls = .type "list"))
abbrev AlP : Type := He.AlD × Bool
def Txt.obs (t : Txt) (g : Addr → Option Obj) : AlP := (He.obsDG 4 [] (t.ds.map Dd.d) g, t.says (He.frG g (He.asD g 4)))
def Txt.hook (t : Txt) : PySem.W.Hook where
  α := AlP
  obs := fun s => t.obs s.heap.get?
  val := fun _ => (He.valD (t.ds.map Dd.d), true)
  says := fun _ h => ∃ K : PySem.W.Frag, K.In h ∧ He.SaysD [] (t.ds.map Dd.d) K ∧ t.says K = true
  of := fun _ _ e => ⟨_, He.frG_in, congrArg Prod.fst e, congrArg Prod.snd e⟩
  keeps := fun _ _ _ ⟨K, hK, c⟩ k => ⟨K, PySem.W.Frag.In.keeps hK k, c⟩
def Txt.ob (t : Txt) (s : PySem.W.SharedT) : AlP := t.obs (HandSHeadRun.getT s)
theorem Txt.ob_eq (t : Txt) (s : PySem.W.SharedT) : t.ob s = t.hook.obs s.abs := by
  have e : HandSHeadRun.getT s = s.abs.heap.get? := funext (HandSHeadRun.getT_eq s)
  unfold Txt.ob
  rw [e]
  rfl
def Txt.xw (t : Txt) (K : PySem.W.Frag) : Xw := ⟨t.cls.length, fun c => .ref (He.ga K ((t.cls[c]?).getD "")), fun _ => []⟩
theorem const_okK {K : PySem.W.Frag} {h : Heap} {mg : Str → Option Value} {x : Str} {d : D} (X : K.In h) (G : h.Ns mainGlobals mg) (c : constK K x d = true) : ∃ (u : Value) (v : V), mg x = some u ∧ RelV v u ∧ ∀ φ ex H, Rp K φ ex H v d := by
  cases d with
  | int i =>
    obtain ⟨t, e⟩ := He.int_ok X G c
    exact ⟨_, .int i, e, ⟨t, rfl⟩, fun _ _ _ => .int i⟩
  | str l =>
    unfold constK at c
    dsimp only at c
    split at c
    · rename_i y t e
      have := of_decide_eq_true c
      subst this
      exact ⟨_, .str y, PySem.W.mg_of X G e, ⟨t, rfl⟩, fun _ _ _ => .str y⟩
    · cases c
  | _ => cases c
theorem bt_VE : bootBuiltins "ValueError" = some (.type "ValueError") := by decide +kernel
theorem Txt.tx {t : Txt} {K : PySem.W.Frag} {h : Heap} {mg : Str → Option Value} (X : K.In h) (G : h.Ns mainGlobals mg) (c : He.SaysD [] (t.ds.map Dd.d) K) (s : t.says K = true) (hl : t.look = true) (hb : ∀ (i : Nat) (a : Dd), t.ds[i]? = some a → BindP a) :
    Tx ⟨K, none⟩ (t.xw K) mg t.prg t.nm := by
  unfold Txt.says at s
  simp only [Bool.and_eq_true, decide_eq_true_eq] at s
  obtain ⟨⟨⟨⟨⟨⟨⟨s1, s2⟩, s3⟩, s4⟩, s5⟩, s6⟩, s7⟩, s8⟩ := s
  unfold Txt.look at hl
  rw [Bool.and_eq_true] at hl
  have defs : ∀ (i : Nat) (a : Dd), t.ds[i]? = some a → ∃ fd, mg a.x = some (.ref (He.ga K a.x)) ∧ FunD K a.x a.x a.params a.body a.scope [] [] (He.ga K a.x) fd ∧ Binds K fd a.ps [] := fun i a ha => by
    obtain ⟨fd, F⟩ := c.def_ i (d := a.d) (by rw [List.getElem?_map, ha]; rfl)
    have F : FunD K a.x a.x a.params a.body a.scope [] [] (He.ga K a.x) fd := F
    refine ⟨fd, He.glo_ok X G (List.all_eq_true.mp s1 a (List.mem_of_getElem? ha)), F, F.bindsN (hb i a ha)⟩
  refine ⟨rfl, fun i x h => ?_, fun i x h => ?_, fun x hx => ?_, fun k x h => ?_, fun c hc => rfl, fun i x h => ?_, fun k x h => ?_, fun c hc => ?_⟩
  · have h : ((t.ds.take t.m).map (·.x))[i]? = some x := h
    rw [List.getElem?_map, Option.map_eq_some_iff] at h
    obtain ⟨a, ha, rfl⟩ := h
    have ha2 : t.ds[i]? = some a := by
      rw [List.getElem?_take] at ha
      split at ha
      · exact ha
      · cases ha
    have k := List.all_eq_true.mp hl.1 a (List.mem_of_getElem? ha)
    unfold Dd.ok at k
    simp only [Bool.and_eq_true, decide_eq_true_eq, Bool.false_eq_true, if_false, Bool.not_false] at k
    obtain ⟨fd, h1, h2, h3⟩ := defs i a ha2
    exact ⟨_, fd, a.ps, a.N, a.params, a.body, a.scope, a.g, h1, h2, h3, scopC_ok k.1.1.1, by show (t.ds.map (·.g))[i]? = _; rw [List.getElem?_map, ha2]; rfl, k.1.2, k.1.1.2, k.2⟩
  · have h : t.gs[i]? = some x := h
    have hi : i < t.gs.length := (List.getElem?_eq_some_iff.mp h).1
    have hd : t.G[i]? = some (t.G[i]'(by omega)) := List.getElem?_eq_getElem (by omega)
    have hz : (t.gs.zip t.G)[i]? = some (x, t.G[i]'(by omega)) := by rw [List.getElem?_zip_eq_some]; exact ⟨h, hd⟩
    have k := List.all_eq_true.mp s3 _ (List.mem_of_getElem? hz)
    simp only [Bool.and_eq_true] at k
    obtain ⟨u, v, e1, e2, e3⟩ := const_okK X G k.1
    exact ⟨_, u, v, hd, e1, e2, e3, k.2⟩
  · exact He.free_ok X G (List.all_eq_true.mp s2 x hx)
  · have h : t.cls[k]? = some x := h
    have k5 := List.all_eq_true.mp s5 x (List.mem_of_getElem? h)
    simp only [Bool.and_eq_true] at k5
    obtain ⟨e1, e2, e3, e4⟩ := He.exc_ok k5.1.2
    refine ⟨(List.getElem?_eq_some_iff.mp h).1, He.ga K x, He.glo_ok X G k5.1.1, ?_, e2, fun _ => e1, e3, e4⟩
    show Value.ref (He.ga K ((t.cls[k]?).getD "")) = _
    rw [h]; rfl
  · have h : (i, x) ∈ (t.ds.zipIdx.drop t.m).map fun q => (q.2, q.1.x) := h
    obtain ⟨⟨a, j⟩, hm, e⟩ := List.mem_map.mp h
    cases e
    have hm2 := List.mem_of_mem_drop hm
    rw [List.mem_zipIdx_iff_getElem?] at hm2
    have ha : t.ds[j]? = some a := hm2
    have hd : a ∈ t.ds.drop t.m := by
      have : a ∈ (t.ds.zipIdx.drop t.m).map (·.1) := List.mem_map.mpr ⟨(a, j), hm, rfl⟩
      rwa [List.map_drop, List.zipIdx_map_fst] at this
    have k := List.all_eq_true.mp hl.2 a hd
    unfold Dd.ok at k
    simp only [Bool.and_eq_true, decide_eq_true_eq, if_true, Bool.not_true] at k
    obtain ⟨y, hy⟩ : ∃ y, a.ps = [y] := List.length_eq_one_iff.mp k.1.2
    obtain ⟨fd, h1, h2, h3⟩ := defs j a ha
    have sc := scopC_ok k.1.1.1
    rw [hy] at h3 sc
    exact ⟨_, fd, y, a.N, a.params, a.body, a.scope, a.g, h1, h2, h3, sc, by show (t.ds.map (·.g))[j]? = _; rw [List.getElem?_map, ha]; rfl, k.1.1.2, k.2⟩
  · have h : t.tst[k]? = some x := h
    refine ⟨cvK K x, ?_, fun c hc => ?_⟩
    · have k6 := List.all_eq_true.mp s6 x (List.mem_of_getElem? h)
      unfold cvK
      cases hv : isVE x with
      | true =>
        have := eqS_ok hv
        subst this
        exact .inr ⟨"ValueError", rfl, He.free_ok X G (List.all_eq_true.mp s2 _ (by decide)), bt_VE⟩
      | false =>
        rw [hv] at k6
        exact .inl ⟨_, rfl, He.glo_ok X G k6⟩
    · have hc : c < t.cls.length := hc
      have k7 := List.all_eq_true.mp s7 (x, k) (by rw [List.mem_zipIdx_iff_getElem?]; exact h)
      have hcx : t.cls[c]? = some (t.cls[c]'hc) := List.getElem?_eq_getElem hc
      have k8 := List.all_eq_true.mp k7 (t.cls[c]'hc, c) (by rw [List.mem_zipIdx_iff_getElem?]; exact hcx)
      dsimp only at k8
      split at k8
      · rename_i bs hb
        simp only [Bool.and_eq_true, decide_eq_true_eq] at k8
        refine ⟨bs, hb, ?_, ?_⟩
        · show PySem.W.kitOne K (.ref (He.ga K ((t.cls[c]?).getD ""))) _ = _
          rw [hcx]; exact k8.1
        · show PySem.W.exmOne K (.ref (He.ga K ((t.cls[c]?).getD ""))) _ = _
          rw [hcx]; exact k8.2
      · cases k8
  · have hc : c < t.cls.length := hc
    have hcx : t.cls[c]? = some (t.cls[c]'hc) := List.getElem?_eq_getElem hc
    have k5 := List.all_eq_true.mp s5 _ (List.mem_of_getElem? hcx)
    simp only [Bool.and_eq_true] at k5
    refine ⟨_, ?_, excK_ok k5.2⟩
    show Value.ref (He.ga K ((t.cls[c]?).getD "")) = _
    rw [hcx]; rfl
theorem lk_mem {β : Type} : ∀ {l : List (Addr × β)} {a : Addr} {b : β}, l.lookup a = some b → (a, b) ∈ l
  | [], _, _, h => by cases h
  | (c, d) :: r, a, b, h => by
    rw [List.lookup_cons] at h
    split at h
    · rename_i e
      cases h
      rw [beq_iff_eq.mp e]
      exact List.mem_cons_self
    · exact List.mem_cons_of_mem _ (lk_mem h)
theorem rp_ints {K : PySem.W.Frag} {φ : Nat → Addr} {ex : Ex1} {H : Hp} : ∀ ns : List Int, RpA K φ ex H (ns.map V.int) (ns.map D.int)
  | [] => .nil
  | n :: ns => .cons (.int n) (rp_ints ns)
/-- the law's promise, by what the evaluator says -/
theorem Txt.walk (t : Txt) {l : PySem.W.OpenLaw} {n k j : Nat} {q : Program} {loose : List Str} {XP : (Str → Option Value) → Heap → Prop} {d : DefRec} {a0 : Dd} {x : Str}
    (hn : l.most = some n) (hn2 : n ≤ sizeLine) (hdf : d.params.defaults = []) (hr : Room (k + 1) callerA) (hl : t.look = true) (hb : ∀ (i : Nat) (a : Dd), t.ds[i]? = some a → BindP a)
    (hj : t.ds[j]? = some a0) (hm : j < t.m) (hx : a0.ps = [x]) (hd : d.name = a0.x)
    (pure_ : ∀ ns : List Int, ns.length ≤ n → (∀ z ∈ ns, Builtin.Int.intBits z ≤ 1048576) → ∃ S', den t.prg (k + 1) none j [.obj 0] [.ro (ns.map .int)] = .ok (.bl true) S') :
    PySem.W.WalkO q loose XP (fun w h => t.hook.says w h) l.row.toRowW d [] (fun f vs => PySem.call f vs) := by
  refine Att.attach_callB hn hdf fun w s₀ s₁ mg mb fa o pm cd doc a vs ns G Y ho hdd hcd hmg hobj hints hlen hbits hg => ?_
  obtain ⟨K, KX, c, says⟩ := Y
  have T := Txt.tx KX G.T.g c says hl hb
  have noL : ∀ (b : Addr) (o : Obj), K.lookup b = some o → o.cls ≠ .type "list" := fun b o e z => by
    unfold Txt.says at says
    rw [Bool.and_eq_true] at says
    have k := List.all_eq_true.mp says.2 (b, o) (lk_mem e)
    simp only [z, decide_true, Bool.not_true] at k
    cases k
  obtain ⟨fd, F⟩ := c.def_ j (d := a0.d) (by rw [List.getElem?_map, hj]; rfl)
  have F : FunD K a0.x a0.x a0.params a0.body a0.scope [] [] (He.ga K a0.x) fd := F
  have hga : mg a0.x = some (.ref (He.ga K a0.x)) := by
    unfold Txt.says at says
    simp only [Bool.and_eq_true] at says
    exact He.glo_ok KX G.T.g (List.all_eq_true.mp says.1.1.1.1.1.1.1 a0 (List.mem_of_getElem? hj))
  rw [hd, hga] at hmg
  cases hmg
  have hlk := hl
  unfold Txt.look at hlk
  rw [Bool.and_eq_true] at hlk
  have k1 := List.all_eq_true.mp hlk.1 a0 (List.mem_of_getElem? (by rw [List.getElem?_take_of_lt hm]; exact hj))
  unfold Dd.ok at k1
  simp only [Bool.and_eq_true, decide_eq_true_eq, Bool.false_eq_true, if_false, Bool.not_false] at k1
  have hbA := F.bindsA (ps := a0.ps) (hb j a0 hj)
  rw [hx] at hbA
  refine law_call (CX := L2N.CX l.prog w) (sp := spD ⟨K, none⟩ (t.xw K) t.prg (k + 1) j) KX G.T.g G.T.b G.T.builtins G.T.nolimit hg hobj hints (Nat.le_trans hlen hn2) hr (fun base hK hN => ?_) (fun s u => hbA s [u] rfl) (fun H hO hS => ?_) fun H e s' => cx_never
  · have := fn_keeps (P := l.prog) (wd := w) (base := base) T (gd_all T k) F (scopC_ok k1.1.1.1) (by show (t.ds.map (·.g))[j]? = _; rw [List.getElem?_map, hj]; rfl) k1.1.2 k1.1.1.2 k1.2
    rw [hx] at this
    exact this
  · obtain ⟨S', hS'⟩ := pure_ ns hlen hbits
    have hfz : ∃ ob, H a = some (.frz ob (.lst (ns.map V.int))) := by
      rcases hS with (h1 | ⟨ob, h1⟩) | ⟨ob, its, m, h1, h2, _⟩
      · rcases hO a with h2 | ⟨ob, xs, h2⟩
        · rw [h1] at h2; cases h2
        · rw [h1] at h2; cases h2
      · exact ⟨ob, h1⟩
      · exact absurd h2 (noL _ _ h1)
    refine ⟨fun _ => a, [.ro (ns.map .int)], [.obj 0], ⟨fun n o e => ?_, fun n o e => ?_, fun m n om on em en mm mn e => ?_⟩, ⟨.cons (.obj 0) .nil, rfl⟩, ?_⟩
    · have hn0 := get_lt e
      have : n = 0 := by simp only [List.length_cons, List.length_nil] at hn0; omega
      subst this
      cases e
      exact ⟨_, hfz, rp_ints ns⟩
    · have hn0 := get_lt e
      have : n = 0 := by simp only [List.length_cons, List.length_nil] at hn0; omega
      subst this
      cases e
      exact bels_map fun _ => rfl
    · have h1 := get_lt em
      have h2 := get_lt en
      simp only [List.length_cons, List.length_nil] at h1 h2
      omega
    · rw [hS']
      intro v φ' H' l so r
      cases r.1
      rfl
end Pw
end
section
set_option linter.all false
/-! Pw25: tools for the plain laws: the evaluator by simp, loops by invariants -/
namespace Pw
theorem bind_cg {α β : Type} {a b : Res α} {f : α → Store → Res β} (h : a = b) : a.bind f = b.bind f := by rw [h]
theorem st_cg {α : Type} {a b : Res α} {env env' : Env} {f : α → Store → Res Flow} (h : a = b) (he : env = env') : a.st env f = b.st env' f := by rw [h, he]
@[simp] theorem bind_ok {α β : Type} (a : α) (S : Store) (f : α → Store → Res β) : (Res.ok a S).bind f = f a S := Eq.trans rfl rfl
@[simp] theorem bind_exc {α β : Type} (c : Nat) (fs : List D) (S : Store) (f : α → Store → Res β) : (Res.exc c fs S).bind f = .exc c fs S := Eq.trans rfl rfl
@[simp] theorem bind_bad {α β : Type} (f : α → Store → Res β) : (Res.bad).bind f = .bad := Eq.trans rfl rfl
@[simp] theorem st_ok {α : Type} (a : α) (S : Store) (env : Env) (f : α → Store → Res Flow) : (Res.ok a S).st env f = f a S := Eq.trans rfl rfl
@[simp] theorem st_exc {α : Type} (c : Nat) (fs : List D) (S : Store) (env : Env) (f : α → Store → Res Flow) : (Res.exc c fs S).st env f = .ok (.ex c fs env) S := Eq.trans rfl rfl
@[simp] theorem of_some {α : Type} (a : α) (S : Store) : Res.of (some a) S = .ok a S := Eq.trans rfl rfl
@[simp] theorem of_none {α : Type} (S : Store) : Res.of (none : Option α) S = .bad := Eq.trans rfl rfl
theorem loop_cg {f : D → Env → Store → Res Flow} {ks : List Nat} {g : Store → Bool} {xs xs' : List D} {env env' : Env} {S S' : Store} (hx : xs = xs') (he : env = env') (hS : S = S') : loopL f ks g xs env S = loopL f ks g xs' env' S' := by rw [hx, he, hS]
theorem comp_cg {f : D → Store → Res (Option D)} {g : Store → Bool} {xs xs' : List D} {S S' : Store} (hx : xs = xs') (hS : S = S') : compL f g xs S = compL f g xs' S' := by rw [hx, hS]
theorem whl_cg {t : Env → Store → Res Bool} {f : Env → Store → Res Flow} {ks : List Nat} {n : Nat} {env env' : Env} {S S' : Store} (he : env = env') (hS : S = S') : whlL t f ks n env S = whlL t f ks n env' S' := by rw [he, hS]

/-- a row of statements, behind the first one's end -/
def seqK (C : Ctx) (r : List Stm) (x : Res Flow) : Res Flow := x.bind fun fl S => match fl with
  | .nx env => evSs C r env S
  | fl => .ok fl S
@[simp] theorem seqK_nx (C : Ctx) (r env S) : seqK C r (.ok (.nx env) S) = evSs C r env S := Eq.trans rfl rfl
@[simp] theorem seqK_rt (C : Ctx) (r d S) : seqK C r (.ok (.rt d) S) = .ok (.rt d) S := Eq.trans rfl rfl
@[simp] theorem seqK_bk (C : Ctx) (r d S) : seqK C r (.ok (.bk d) S) = .ok (.bk d) S := Eq.trans rfl rfl
@[simp] theorem seqK_ct (C : Ctx) (r d S) : seqK C r (.ok (.ct d) S) = .ok (.ct d) S := Eq.trans rfl rfl
@[simp] theorem seqK_ex (C : Ctx) (r c fs d S) : seqK C r (.ok (.ex c fs d) S) = .ok (.ex c fs d) S := Eq.trans rfl rfl
def iteK (C : Ctx) (a b : List Stm) (env : Env) (x : Res Bool) : Res Flow := x.st env fun k S => if k then evSs C a env S else evSs C b env S
@[simp] theorem iteK_ok (C : Ctx) (a b env k S) : iteK C a b env (.ok k S) = if k then evSs C a env S else evSs C b env S := Eq.trans rfl rfl
def forK (C : Ctx) (t : Tg) (body : List Stm) (ks : List Nat) (o : Option Nat) (xs : List D) (env : Env) (S : Store) : Res Flow := loopL (fun x env S => match bind1 t x env with
    | some env => evSs C body env S
    | none => .bad) ks (stands o (obAt o S)) xs env S
def forS (C : Ctx) (t : Tg) (body : List Stm) (ks : List Nat) (env : Env) (x : Res (List D × Option Nat)) : Res Flow := x.st env fun p S => forK C t body ks p.2 p.1 env S
@[simp] theorem forS_ok (C : Ctx) (t body ks env p S) : forS C t body ks env (.ok p S) = forK C t body ks p.2 p.1 env S := Eq.trans rfl rfl
def whlK (C : Ctx) (t : Tst) (body : List Stm) (ks : List Nat) (env : Env) (S : Store) : Res Flow := whlL (evT C t) (evSs C body) ks turns env S
def compK (C : Ctx) (e : Exp) (t : Tg) (ifs : List Tst) (env : Env) (o : Option Nat) (xs : List D) (S : Store) : Res (List D) := if xs.length ≤ line then compL (fun x S => match bind1 t x (kill t.ix env) with
        | some env => (match evTs C ifs env S with
          | .ok true S => (match evE C e env S with
            | .ok y S => .ok (some y) S
            | _ => .bad)
          | .ok false S => .ok none S
          | _ => .bad)
        | none => .bad) (stands o (obAt o S)) xs S else .bad
def rngF (x : D) (S : Store) : Res (List D × Option Nat) := match x with
  | .int i => if small i then .ok (rngL 0 i, none) S else .bad
  | _ => .bad
def rngF2 (x y : D) (S : Store) : Res (List D × Option Nat) := match x, y with
  | .int i, .int j => if small i && small j then .ok (rngL i j, none) S else .bad
  | _, _ => .bad
def rngF3 (x y z : D) (S : Store) : Res (List D × Option Nat) := match x, y, z with
  | .int i, .int j, .int k => if small i && small j && decide (0 < k) && decide (k < 1073741824) then .ok (rngL3 i j k, none) S else .bad
  | _, _, _ => .bad
theorem smallOk {i : Int} (h : -4611686018427387904 ≤ i ∧ i < 4611686018427387904) : small i = true := by
  unfold small
  simp only [Bool.and_eq_true, decide_eq_true_eq]
  exact h
@[simp] theorem rngF_ok {i : Int} {S : Store} (h : -4611686018427387904 ≤ i ∧ i < 4611686018427387904) : rngF (.int i) S = .ok (rngL 0 i, none) S := by
  show (if small i = true then Res.ok (rngL 0 i, none) S else .bad) = _
  rw [if_pos (smallOk h)]
@[simp] theorem rngF2_ok {i j : Int} {S : Store} (h : -4611686018427387904 ≤ i ∧ i < 4611686018427387904) (h' : -4611686018427387904 ≤ j ∧ j < 4611686018427387904) : rngF2 (.int i) (.int j) S = .ok (rngL i j, none) S := by
  show (if (small i && small j) = true then Res.ok (rngL i j, none) S else .bad) = _
  rw [if_pos (by rw [smallOk h, smallOk h']; rfl)]
@[simp] theorem rngF3_ok {i j k : Int} {S : Store} (h : -4611686018427387904 ≤ i ∧ i < 4611686018427387904) (h' : -4611686018427387904 ≤ j ∧ j < 4611686018427387904) (hk : 0 < k ∧ k < 1073741824) : rngF3 (.int i) (.int j) (.int k) S = .ok (rngL3 i j k, none) S := by
  show (if (small i && small j && decide (0 < k) && decide (k < 1073741824)) = true then Res.ok (rngL3 i j k, none) S else .bad) = _
  rw [if_pos (by rw [smallOk h, smallOk h', decide_eq_true hk.1, decide_eq_true hk.2]; rfl)]
def compF2K (C : Ctx) (e : Exp) (t : Tg) (ifs : List Tst) (t1 : Tg) (l1 : Src) (ifs1 : List Tst) (env : Env) (x : D) (S : Store) : Res (List D) := match bind1 t x (kill (t.ix ++ t1.ix) env) with
        | some env => (match evTs C ifs env S with
          | .ok true S => (match evL C l1 env S with
            | .ok p1 S => if p1.1.length ≤ line then compL (fun x S => match bind1 t1 x (kill t1.ix env) with
                | some env => (match evTs C ifs1 env S with
                  | .ok true S => (match evE C e env S with
                    | .ok y S => .ok (some y) S
                    | _ => .bad)
                  | .ok false S => .ok none S
                  | _ => .bad)
                | none => .bad) (stands p1.2 (obAt p1.2 S)) p1.1 S else .bad
            | _ => .bad)
          | .ok false S => .ok [] S
          | _ => .bad)
        | none => .bad
def compK2 (C : Ctx) (e : Exp) (t : Tg) (ifs : List Tst) (t1 : Tg) (l1 : Src) (ifs1 : List Tst) (env : Env) (o : Option Nat) (xs : List D) (S : Store) : Res (List D) := if xs.length ≤ line then
  (compL2 (fun x S => compF2K C e t ifs t1 l1 ifs1 env x S) (stands o (obAt o S)) xs S).bind fun ys S => if ys.length ≤ line then .ok ys S else .bad else .bad
def tryK (C : Ctx) (hs : List (List Nat × Option Nat × List Stm)) (x : Res Flow) : Res Flow := x.bind fun fl S => match fl with
    | .ex c fs env => evH C hs c fs env S
    | fl => .ok fl S
@[simp] theorem tryK_ex (C : Ctx) (hs c fs env S) : tryK C hs (.ok (.ex c fs env) S) = evH C hs c fs env S := Eq.trans rfl rfl
@[simp] theorem tryK_nx (C : Ctx) (hs env S) : tryK C hs (.ok (.nx env) S) = .ok (.nx env) S := Eq.trans rfl rfl
@[simp] theorem tryK_rt (C : Ctx) (hs d S) : tryK C hs (.ok (.rt d) S) = .ok (.rt d) S := Eq.trans rfl rfl
@[simp] theorem qE_0 (C : Ctx) : evE C (.c d) (env) (S) = (.ok d S) := by first | (rw [evE]; done) | (rw [evE]; rfl) | rfl
@[simp] theorem qE_1 (C : Ctx) : evE C (.v i) (env) (S) = ((match env[i]? with
    | some (some d) => .ok d S
    | _ => .bad)) := by first | (rw [evE]; done) | (rw [evE]; rfl) | rfl
@[simp] theorem qE_2 (C : Ctx) : evE C (.g i) (env) (S) = (Res.of (C.G[i]?) S) := by first | (rw [evE]; done) | (rw [evE]; rfl) | rfl
@[simp] theorem qE_3 (C : Ctx) : evE C (.bin o a b) (env) (S) = ((evE C a env S).bind fun x S => (evE C b env S).bind fun y S => binD o x y S) := by first | (rw [evE]; done) | (rw [evE]; rfl) | rfl
@[simp] theorem qE_4 (C : Ctx) : evE C (.neg a) (env) (S) = ((evE C a env S).bind fun x S => (match x with
    | .int i => .ok (.int (-i)) S
    | _ => .bad)) := by first | (rw [evE]; done) | (rw [evE]; rfl) | rfl
@[simp] theorem qE_5 (C : Ctx) : evE C (.notV a) (env) (S) = ((evE C a env S).bind fun x S => (match x with
    | .bl b => .ok (.bl (!b)) S
    | _ => .bad)) := by first | (rw [evE]; done) | (rw [evE]; rfl) | rfl
@[simp] theorem qE_6 (C : Ctx) : evE C (.andV a b) (env) (S) = ((evE C a env S).bind fun x S => (match x with
    | .bl b' => if b' then evE C b env S else .ok (.bl false) S
    | _ => .bad)) := by first | (rw [evE]; done) | (rw [evE]; rfl) | rfl
@[simp] theorem qE_7 (C : Ctx) : evE C (.orV a b) (env) (S) = ((evE C a env S).bind fun x S => (match x with
    | .bl b' => if b' then .ok (.bl true) S else evE C b env S
    | _ => .bad)) := by first | (rw [evE]; done) | (rw [evE]; rfl) | rfl
@[simp] theorem qE_8 (C : Ctx) : evE C (.cmp o a b) (env) (S) = ((evE C a env S).bind fun x S => (evE C b env S).bind fun y S => (Res.of (cmpD S o x y) S).bind fun c S => .ok (.bl c) S) := by first | (rw [evE]; done) | (rw [evE]; rfl) | rfl
@[simp] theorem qE_9 (C : Ctx) : evE C (.chn o p a b c) (env) (S) = ((evE C a env S).bind fun x S => (evE C b env S).bind fun y S => (Res.of (cmpD S o x y) S).bind fun k S =>
      if k then (evE C c env S).bind fun z S => (Res.of (cmpD S p y z) S).bind fun k S => .ok (.bl k) S else .ok (.bl false) S) := by first | (rw [evE]; done) | (rw [evE]; rfl) | rfl
@[simp] theorem qE_10 (C : Ctx) : evE C (.ife t a b) (env) (S) = ((evT C t env S).bind fun k S => if k then evE C a env S else evE C b env S) := by first | (rw [evE]; done) | (rw [evE]; rfl) | rfl
@[simp] theorem qE_11 (C : Ctx) : evE C (.call f as) (env) (S) = ((evEs C as env S).bind fun ds S => C.Φ none f ds S) := by first | (rw [evE]; done) | (rw [evE]; rfl) | rfl
@[simp] theorem qE_12 (C : Ctx) : evE C (.hcall f as) (env) (S) = ((evEs C as env S).bind fun ds S => C.Φ none f ds S) := by first | (rw [evE]; done) | (rw [evE]; rfl) | rfl
@[simp] theorem qE_13 (C : Ctx) : evE C (.hot f) (env) (S) = (if C.exn.isSome then (match C.Φ C.exn f [] S with
    | .ok d S => .ok d S
    | _ => .bad) else .bad) := by first | (rw [evE]; done) | (rw [evE]; rfl) | rfl
@[simp] theorem qE_14 (C : Ctx) : evE C (.isX cs) (env) (S) = ((match C.exn with
    | some (c, _) => (match C.Cl[c]? with
      | some bs => .ok (.bl (cs.any fun k => bs.contains k)) S
      | none => .bad)
    | none => .bad)) := by first | (rw [evE]; done) | (rw [evE]; rfl) | rfl
@[simp] theorem qE_15 (C : Ctx) : evE C (.xf k) (env) (S) = ((match C.exn with
    | some (_, fs) => Res.of fs[k]? S
    | none => .bad)) := by first | (rw [evE]; done) | (rw [evE]; rfl) | rfl
@[simp] theorem qE_16 (C : Ctx) : evE C (.anyH a) (env) (S) = ((evE C a env S).bind fun x S => (Res.of (lbls x S) S).bind fun k S => .ok (.bl (k.any id)) S) := by first | (rw [evE]; done) | (rw [evE]; rfl) | rfl
@[simp] theorem qE_17 (C : Ctx) : evE C (.f1 f a) (env) (S) = ((evE C a env S).bind fun x S => f1D f x S) := by first | (rw [evE]; done) | (rw [evE]; rfl) | rfl
@[simp] theorem qE_18 (C : Ctx) : evE C (.f2 f a b) (env) (S) = ((evE C a env S).bind fun x S => (evE C b env S).bind fun y S => f2D f x y S) := by first | (rw [evE]; done) | (rw [evE]; rfl) | rfl
@[simp] theorem qE_19 (C : Ctx) : evE C (.isI a ks) (env) (S) = ((evE C a env S).bind fun x S => (Res.of (isKds C.Cl S x ks) S).bind fun k S => .ok (.bl k) S) := by first | (rw [evE]; done) | (rw [evE]; rfl) | rfl
@[simp] theorem qE_20 (C : Ctx) : evE C (.idx a b) (env) (S) = ((evE C a env S).bind fun x S => (evE C b env S).bind fun y S => idxD x y S) := by first | (rw [evE]; done) | (rw [evE]; rfl) | rfl
@[simp] theorem qE_21 (C : Ctx) : evE C (.sl a lo hi) (env) (S) = ((evE C a env S).bind fun x S => (evO C lo env S).bind fun l S => (evO C hi env S).bind fun h S => slD x l h S) := by first | (rw [evE]; done) | (rw [evE]; rfl) | rfl
@[simp] theorem qE_22 (C : Ctx) : evE C (.rev a) (env) (S) = ((evE C a env S).bind fun x S => revD x S) := by first | (rw [evE]; done) | (rw [evE]; rfl) | rfl
@[simp] theorem qE_23 (C : Ctx) : evE C (.tup es) (env) (S) = ((evEs C es env S).bind fun ds S => .ok (.tup ds) S) := by first | (rw [evE]; done) | (rw [evE]; rfl) | rfl
@[simp] theorem qE_24 (C : Ctx) : evE C (.ls l) (env) (S) = ((evL C l env S).bind fun p S => .ok (.obj S.length) (.lst p.1 :: S)) := by first | (rw [evE]; done) | (rw [evE]; rfl) | rfl
@[simp] theorem qE_25 (C : Ctx) : evE C (.dct es) (env) (S) = ((evEs C es env S).bind fun ds S => (match pairsD ds with
    | some m => if ds.length ≤ 30 then .ok (.obj S.length) (.dct (m.foldl (fun m p => putD p.1 p.2 m) []) :: S) else .bad
    | none => .bad)) := by first | (rw [evE]; done) | (rw [evE]; rfl) | rfl
@[simp] theorem qE_26 (C : Ctx) : evE C (.tupOf l) (env) (S) = ((evL C l env S).bind fun p S => .ok (.tup p.1) S) := by first | (rw [evE]; done) | (rw [evE]; rfl) | rfl
@[simp] theorem qE_27 (C : Ctx) : evE C (.allOf l) (env) (S) = ((evL C l env S).bind fun p S => (Res.of (bls p.1) S).bind fun k S => .ok (.bl (k.all id)) S) := by first | (rw [evE]; done) | (rw [evE]; rfl) | rfl
@[simp] theorem qE_28 (C : Ctx) : evE C (.anyOf l) (env) (S) = ((evL C l env S).bind fun p S => (Res.of (bls p.1) S).bind fun k S => .ok (.bl (k.any id)) S) := by first | (rw [evE]; done) | (rw [evE]; rfl) | rfl
@[simp] theorem qE_29 (C : Ctx) : evE C (.sumOf l) (env) (S) = ((evL C l env S).bind fun p S => (Res.of (intsD p.1) S).bind fun k S => .ok (.int k.sum) S) := by first | (rw [evE]; done) | (rw [evE]; rfl) | rfl
@[simp] theorem qE_30 (C : Ctx) : evE C (.minOf l) (env) (S) = ((evL C l env S).bind fun p S => (match intsD p.1 with
    | some (x :: r) => .ok (.int (r.foldl min x)) S
    | _ => (match p.1 with
      | x :: r => if minLk (x :: r) = true then .ok (minT x r) S else .bad
      | [] => .bad))) := by first | (rw [evE]; done) | (rw [evE]; rfl) | rfl
@[simp] theorem qE_31 (C : Ctx) : evE C (.maxOf l) (env) (S) = ((evL C l env S).bind fun p S => (match intsD p.1 with
    | some (x :: r) => .ok (.int (r.foldl max x)) S
    | _ => .bad)) := by first | (rw [evE]; done) | (rw [evE]; rfl) | rfl
@[simp] theorem qE_32 (C : Ctx) : evE C (.sorted l) (env) (S) = ((evL C l env S).bind fun p S => (match sortD p.1 with
    | some ys => .ok (.obj S.length) (.lst ys :: S)
    | none => .bad)) := by first | (rw [evE]; done) | (rw [evE]; rfl) | rfl
@[simp] theorem qE_33 (C : Ctx) : evE C (.join a l) (env) (S) = ((evE C a env S).bind fun x S => if isS x then (evL C l env S).bind fun p S => (match x, strsD p.1 with
    | .str s, some ts => if (ts.map (·.length)).sum + ts.length * s.length ≤ line then .ok (.str (joinS s ts)) S else .bad
    | _, _ => .bad) else .bad) := by first | (rw [evE]; done) | (rw [evE]; rfl) | rfl
@[simp] theorem qE_34 (C : Ctx) : evE C (.app o a) (env) (S) = ((evE C o env S).bind fun x S => if isL x S then (evE C a env S).bind fun y S => appD x y S else .bad) := by first | (rw [evE]; done) | (rw [evE]; rfl) | rfl
@[simp] theorem qE_35 (C : Ctx) : evE C (.pop o) (env) (S) = ((evE C o env S).bind fun x S => if isL x S then popD x S else .bad) := by first | (rw [evE]; done) | (rw [evE]; rfl) | rfl
@[simp] theorem qE_36 (C : Ctx) : evE C (.ext o a) (env) (S) = ((evE C o env S).bind fun x S => if isL x S then (evE C a env S).bind fun y S => extD x y S else .bad) := by first | (rw [evE]; done) | (rw [evE]; rfl) | rfl
@[simp] theorem qE_37 (C : Ctx) : evE C (.sw o a) (env) (S) = ((evE C o env S).bind fun x S => if isS x then (evE C a env S).bind fun y S => (Res.of (swD x y) S).bind fun k S => .ok (.bl k) S else .bad) := by first | (rw [evE]; done) | (rw [evE]; rfl) | rfl
@[simp] theorem qEs_0 (C : Ctx) : evEs C ([]) (env) (S) = (.ok [] S) := by first | (rw [evEs]; done) | (rw [evEs]; rfl) | rfl
@[simp] theorem qEs_1 (C : Ctx) : evEs C (e :: r) (env) (S) = ((evE C e env S).bind fun x S => (evEs C r env S).bind fun xs S => .ok (x :: xs) S) := by first | (rw [evEs]; done) | (rw [evEs]; rfl) | rfl
@[simp] theorem qO_0 (C : Ctx) : evO C (none) (env) (S) = (.ok none S) := by first | (rw [evO]; done) | (rw [evO]; rfl) | rfl
@[simp] theorem qO_1 (C : Ctx) : evO C (some e) (env) (S) = ((evE C e env S).bind fun x S => (match x with
    | .int i => .ok (some (.int i)) S
    | _ => .bad)) := by first | (rw [evO]; done) | (rw [evO]; rfl) | rfl
@[simp] theorem qL_0 (C : Ctx) : evL C (.val e) (env) (S) = ((evE C e env S).bind fun x S => Res.of (items x S) S) := by first | (rw [evL]; done) | (rw [evL]; rfl) | rfl
@[simp] theorem qL_1 (C : Ctx) : evL C (.seq e) (env) (S) = ((evE C e env S).bind fun x S => Res.of ((seqD x S).map fun xs => (xs, none)) S) := by first | (rw [evL]; done) | (rw [evL]; rfl) | rfl
@[simp] theorem qL_2 (C : Ctx) : evL C (.lis e) (env) (S) = ((evE C e env S).bind fun x S => if isLs x S then Res.of ((seqD x S).map fun xs => (xs, none)) S else .bad) := by first | (rw [evL]; done) | (rw [evL]; rfl) | rfl
@[simp] theorem qL_3 (C : Ctx) : evL C (.keys e) (env) (S) = ((evE C e env S).bind fun x S => Res.of ((keysD x S).map fun xs => (xs, none)) S) := by first | (rw [evL]; done) | (rw [evL]; rfl) | rfl
@[simp] theorem qL_4 (C : Ctx) : evL C (.rng a) (env) (S) = (evE C a env S).bind rngF := by rw [evL]; first | done | rfl
@[simp] theorem qL_5 (C : Ctx) : evL C (.rng2 a b) (env) (S) = (evE C a env S).bind fun x S => (evE C b env S).bind (rngF2 x) := by rw [evL]; first | done | rfl
@[simp] theorem qL_6 (C : Ctx) : evL C (.rng3 a b c) (env) (S) = (evE C a env S).bind fun x S => (evE C b env S).bind fun y S => (evE C c env S).bind (rngF3 x y) := by rw [evL]; first | done | rfl
@[simp] theorem qL_7 (C : Ctx) : evL C (.disp es) (env) (S) = ((evEs C es env S).bind fun xs S => .ok (xs, none) S) := by first | (rw [evL]; done) | (rw [evL]; rfl) | rfl
@[simp] theorem qL_8 (C : Ctx) : evL C (.comp e t l ifs) (env) (S) = (evL C l env S).bind fun p S => (compK C e t ifs env p.2 p.1 S).bind fun ys S => .ok (ys, none) S := by
  rw [evL]; congr 1; funext p S; unfold compK; split <;> rfl
@[simp] theorem qL_9 (C : Ctx) : evL C (.zip a b) (env) (S) = ((evL C a env S).bind fun p S => (evL C b env S).bind fun q S => if p.2.isNone && q.2.isNone then .ok ((p.1.zip q.1).map fun z => .tup [z.1, z.2], none) S else .bad) := by first | (rw [evL]; done) | (rw [evL]; rfl) | rfl
@[simp] theorem qL_10 (C : Ctx) : evL C (.comp2 e t l ifs t1 l1 ifs1) (env) (S) = (evL C l env S).bind fun p S => (compK2 C e t ifs t1 l1 ifs1 env p.2 p.1 S).bind fun ys S => .ok (ys, none) S := by
  rw [evL]; congr 1; funext p S; unfold compK2; split
  · show ((compL2 (fun x S => compF2K C e t ifs t1 l1 ifs1 env x S) (stands p.2 (obAt p.2 S)) p.1 S).bind fun ys S => if ys.length ≤ line then Res.ok (ys, none) S else .bad) = ((compL2 (fun x S => compF2K C e t ifs t1 l1 ifs1 env x S) (stands p.2 (obAt p.2 S)) p.1 S).bind fun ys S => if ys.length ≤ line then Res.ok ys S else .bad).bind fun ys S => Res.ok (ys, none) S
    generalize compL2 (fun x S => compF2K C e t ifs t1 l1 ifs1 env x S) (stands p.2 (obAt p.2 S)) p.1 S = r
    cases r with
    | ok ys S => show (if ys.length ≤ line then Res.ok (ys, none) S else .bad) = Res.bind (if ys.length ≤ line then Res.ok ys S else .bad) _; split <;> rfl
    | _ => rfl
  · rfl
@[simp] theorem qT_0 (C : Ctx) : evT C (.val e) (env) (S) = ((evE C e env S).bind fun x S => Res.of (truth S x) S) := by first | (rw [evT]; done) | (rw [evT]; rfl) | rfl
@[simp] theorem qT_1 (C : Ctx) : evT C (.not t) (env) (S) = ((evT C t env S).bind fun k S => .ok (!k) S) := by first | (rw [evT]; done) | (rw [evT]; rfl) | rfl
@[simp] theorem qT_2 (C : Ctx) : evT C (.and a b) (env) (S) = ((evT C a env S).bind fun k S => if k then evT C b env S else .ok false S) := by first | (rw [evT]; done) | (rw [evT]; rfl) | rfl
@[simp] theorem qT_3 (C : Ctx) : evT C (.or a b) (env) (S) = ((evT C a env S).bind fun k S => if k then .ok true S else evT C b env S) := by first | (rw [evT]; done) | (rw [evT]; rfl) | rfl
@[simp] theorem qTs_0 (C : Ctx) : evTs C ([]) (env) (S) = (.ok true S) := by first | (rw [evTs]; done) | (rw [evTs]; rfl) | rfl
@[simp] theorem qTs_1 (C : Ctx) : evTs C (t :: r) (env) (S) = ((evT C t env S).bind fun k S => if k then evTs C r env S else .ok false S) := by first | (rw [evTs]; done) | (rw [evTs]; rfl) | rfl
@[simp] theorem qS_0 (C : Ctx) : evS C (.pass) (env) (S) = (.ok (.nx env) S) := by first | (rw [evS]; done) | (rw [evS]; rfl) | rfl
@[simp] theorem qS_1 (C : Ctx) : evS C (.ex e) (env) (S) = ((evE C e env S).st env fun _ S => .ok (.nx env) S) := by first | (rw [evS]; done) | (rw [evS]; rfl) | rfl
@[simp] theorem qS_2 (C : Ctx) : evS C (.set t e) (env) (S) = ((evE C e env S).st env fun x S => (match bind1 t x env with
    | some env => .ok (.nx env) S
    | none => .bad)) := by first | (rw [evS]; done) | (rw [evS]; rfl) | rfl
@[simp] theorem qS_3 (C : Ctx) : evS C (.setIx o i e) (env) (S) = ((evE C e env S).st env fun x S => (evE C o env S).st env fun y S => (evE C i env S).st env fun z S => (match setIxD y z x S with
    | some S => .ok (.nx env) S
    | none => .bad)) := by first | (rw [evS]; done) | (rw [evS]; rfl) | rfl
@[simp] theorem qS_4 (C : Ctx) : evS C (.ite t a b) (env) (S) = iteK C a b env (evT C t env S) := by rw [evS]; first | done | rfl
@[simp] theorem qS_5 (C : Ctx) : evS C (.forS t l body ks) (env) (S) = forS C t body ks env (evL C l env S) := by rw [evS]; first | done | rfl
@[simp] theorem qS_6 (C : Ctx) : evS C (.whl t body ks) (env) (S) = whlK C t body ks env S := by rw [evS]; first | done | rfl
@[simp] theorem qS_7 (C : Ctx) : evS C (.ret e) (env) (S) = ((evE C e env S).st env fun x S => .ok (.rt x) S) := by first | (rw [evS]; done) | (rw [evS]; rfl) | rfl
@[simp] theorem qS_8 (C : Ctx) : evS C (.brk) (env) (S) = (.ok (.bk env) S) := by first | (rw [evS]; done) | (rw [evS]; rfl) | rfl
@[simp] theorem qS_9 (C : Ctx) : evS C (.cont) (env) (S) = (.ok (.ct env) S) := by first | (rw [evS]; done) | (rw [evS]; rfl) | rfl
@[simp] theorem qS_10 (C : Ctx) : evS C (.rais c es) (env) (S) = ((evEs C es env S).st env fun ds S => .ok (.ex c ds env) S) := by first | (rw [evS]; done) | (rw [evS]; rfl) | rfl
@[simp] theorem qS_11 (C : Ctx) : evS C (.tryS body hs) (env) (S) = tryK C hs (evSs C body env S) := by rw [evS]; first | done | rfl
@[simp] theorem qS_12 (C : Ctx) : evS C (.kill ks) (env) (S) = (.ok (.nx (kill ks env)) S) := by first | (rw [evS]; done) | (rw [evS]; rfl) | rfl
@[simp] theorem qSs_0 (C : Ctx) : evSs C ([]) (env) (S) = (.ok (.nx env) S) := by first | (rw [evSs]; done) | (rw [evSs]; rfl) | rfl
@[simp] theorem qSs_1 (C : Ctx) : evSs C (s :: r) (env) (S) = seqK C r (evS C s env S) := by rw [evSs]; first | done | rfl
@[simp] theorem qH_0 (C : Ctx) : evH C ([]) (c) (fs) (env) (S) = (.ok (.ex c fs env) S) := by first | (rw [evH]; done) | (rw [evH]; rfl) | rfl
@[simp] theorem qH_1 (C : Ctx) : evH C ((cs, sl, suite) :: r) (c) (fs) (env) (S) = (if catches C.Cl c cs then
      (match sl with
      | some i => if i < env.length then (evSs { C with exn := some (c, fs) } suite (env.set i none) S).bind fun fl S => (match fl with
        | .nx env => .ok (.nx (env.set i none)) S
        | .rt d => .ok (.rt d) S
        | _ => .bad) else .bad
      | none => (evSs { C with exn := some (c, fs) } suite env S).bind fun fl S => (match fl with
        | .nx env => .ok (.nx env) S
        | .rt d => .ok (.rt d) S
        | _ => .bad)) else evH C r c fs env S) := by first | (rw [evH]; done) | (rw [evH]; rfl) | rfl
/-! what a run leaves -/
inductive wp {α : Type} : Res α → (α → Store → Prop) → Prop where
  | ok (a : α) (S : Store) (Q : α → Store → Prop) (h : Q a S) : wp (.ok a S) Q
@[simp] theorem wp_ok {α : Type} (a : α) (S : Store) (Q : α → Store → Prop) : wp (.ok a S) Q = Q a S := propext ⟨fun h => by cases h; assumption, fun h => .ok _ _ _ h⟩
theorem wp_no {α : Type} {c : Nat} {fs : List D} {S : Store} {Q : α → Store → Prop} : ¬ wp (.exc c fs S) Q := fun h => nomatch h
theorem wp_nb {α : Type} {Q : α → Store → Prop} : ¬ wp .bad Q := fun h => nomatch h
theorem wp_bind {α β : Type} {r : Res α} {f : α → Store → Res β} {Q : β → Store → Prop} (h : wp r fun a S => wp (f a S) Q) : wp (r.bind f) Q := by
  cases r with
  | ok a S => rw [wp_ok] at h; exact h
  | exc => exact (wp_no h).elim
  | bad => exact (wp_nb h).elim
theorem wp_st {α : Type} {r : Res α} {env : Env} {f : α → Store → Res Flow} {Q : Flow → Store → Prop} (h : wp r fun a S => wp (f a S) Q) : wp (r.st env f) Q := by
  cases r with
  | ok a S => rw [wp_ok] at h; exact h
  | exc => exact (wp_no h).elim
  | bad => exact (wp_nb h).elim
theorem wp_mono {α : Type} {r : Res α} {Q Q' : α → Store → Prop} (h : wp r Q) (hq : ∀ a S, Q a S → Q' a S) : wp r Q' := by
  cases r with
  | ok a S => rw [wp_ok] at h ⊢; exact hq _ _ h
  | exc => exact (wp_no h).elim
  | bad => exact (wp_nb h).elim
/-- what a round of a loop leaves -/
def rnd (Q : Flow → Store → Prop) (ks : List Nat) (S : Store) (N : Env → Store → Prop) (fl : Flow) (S' : Store) : Prop := match fl with
  | .nx env => N (kill ks env) (trim S S' (kill ks env))
  | .ct env => N (kill ks env) (trim S S' (kill ks env))
  | .bk env => Q (.nx (kill ks env)) S'
  | .rt d => Q (.rt d) S'
  | .ex c fs env => Q (.ex c fs env) S'
@[simp] theorem rnd_nx (Q ks S N env S') : rnd Q ks S N (.nx env) S' = N (kill ks env) (trim S S' (kill ks env)) := Eq.trans rfl rfl
@[simp] theorem rnd_ct (Q ks S N env S') : rnd Q ks S N (.ct env) S' = N (kill ks env) (trim S S' (kill ks env)) := Eq.trans rfl rfl
@[simp] theorem rnd_bk (Q ks S N env S') : rnd Q ks S N (.bk env) S' = Q (.nx (kill ks env)) S' := Eq.trans rfl rfl
@[simp] theorem rnd_rt (Q ks S N d S') : rnd Q ks S N (.rt d) S' = Q (.rt d) S' := Eq.trans rfl rfl
@[simp] theorem rnd_ex (Q ks S N c fs env S') : rnd Q ks S N (.ex c fs env) S' = Q (.ex c fs env) S' := Eq.trans rfl rfl
theorem wp_loop {f : D → Env → Store → Res Flow} {ks : List Nat} {g : Store → Bool} {Q : Flow → Store → Prop} {xs : List D} (I : Nat → Env → Store → Prop) {env : Env} {S : Store}
    (h0 : I 0 env S) (hg : ∀ i env S, I i env S → g S = true)
    (hs : ∀ i x env S, xs[i]? = some x → I i env S → wp (f x env S) (rnd Q ks S (I (i + 1))))
    (hq : ∀ env S, I xs.length env S → Q (.nx env) S) : wp (loopL f ks g xs env S) Q := by
  have key : ∀ (ys : List D) (k : Nat), (∀ i, ys[i]? = xs[k + i]?) → k + ys.length = xs.length → ∀ env S, I k env S → wp (loopL f ks g ys env S) Q := by
    intro ys
    induction ys with
    | nil => intro k _ hl env S h
             simp only [List.length_nil, Nat.add_zero] at hl
             simp only [loopL, hg _ _ _ h, if_true]
             exact .ok _ _ _ (hq _ _ (hl ▸ h))
    | cons y r ih => intro k hy hl env S h
                     simp only [loopL, hg _ _ _ h, if_true]
                     have := hs k y env S (by simpa using (hy 0).symm) h
                     revert this
                     cases f y env S with
                     | exc => exact fun h => nomatch h
                     | bad => exact fun h => nomatch h
                     | ok fl S' =>
                       have step : ∀ env S, I (k + 1) env S → wp (loopL f ks g r env S) Q := ih (k + 1) (fun i => by have := hy (i + 1); simp only [List.getElem?_cons_succ] at this; rw [this]; congr 1; omega) (by simp only [List.length_cons] at hl; omega)
                       intro this
                       rw [wp_ok] at this
                       cases fl with
                       | nx e => exact step _ _ this
                       | ct e => exact step _ _ this
                       | bk e => exact .ok _ _ _ this
                       | rt d => exact .ok _ _ _ this
                       | ex c fs e => exact .ok _ _ _ this
  exact key xs 0 (fun i => by rw [Nat.zero_add]) (Nat.zero_add _) env S h0
/-- a while loop: a measure that falls -/
theorem wp_whl {t : Env → Store → Res Bool} {f : Env → Store → Res Flow} {ks : List Nat} {Q : Flow → Store → Prop} (I : Nat → Env → Store → Prop) {n m : Nat} {env : Env} {S : Store}
    (h0 : I m env S) (hm : m < n)
    (hs : ∀ k env S, I k env S → k ≤ m → wp (t env S) fun c S1 => if c = true then wp (f env S1) (rnd Q ks S fun env S => ∃ j, j < k ∧ I j env S) else Q (.nx env) S1) : wp (whlL t f ks n env S) Q := by
  suffices H : ∀ n k env S, I k env S → k ≤ m → k < n → wp (whlL t f ks n env S) Q from H n m env S h0 (Nat.le_refl _) hm
  intro n
  induction n with
  | zero => intro k _ _ _ _ h; omega
  | succ n ih =>
    intro k env S h hk hkn
    have := hs k env S h hk
    simp only [whlL]
    revert this
    cases t env S with
    | exc => exact fun h => nomatch h
    | bad => exact fun h => nomatch h
    | ok c S1 =>
      simp only [wp_ok, st_ok]
      cases c with
      | false => simp only [Bool.false_eq_true, if_false]; exact fun h => .ok _ _ _ h
      | true =>
        simp only [if_true]
        cases f env S1 with
        | exc => exact fun h => nomatch h
        | bad => exact fun h => nomatch h
        | ok fl S' =>
          intro this
          rw [wp_ok] at this
          cases fl with
          | nx e => obtain ⟨j, hj, hi⟩ := this; exact ih j _ _ hi (by omega) (by omega)
          | ct e => obtain ⟨j, hj, hi⟩ := this; exact ih j _ _ hi (by omega) (by omega)
          | bk e => exact .ok _ _ _ this
          | rt d => exact .ok _ _ _ this
          | ex c fs e => exact .ok _ _ _ this
/-- a comprehension that lays nothing -/
theorem compL_map {f : D → Store → Res (Option D)} {g : Store → Bool} (o : D → Option D) {xs : List D} {S : Store} (hg : g S = true)
    (h : ∀ x ∈ xs, f x S = .ok (o x) S) : compL f g xs S = .ok (xs.filterMap o) S := by
  induction xs with
  | nil => simp [compL, hg]
  | cons x r ih =>
    simp only [compL, hg, if_true, h x (by simp), ih fun y hy => h y (by simp [hy]), bind_ok, List.filterMap_cons]
    cases o x <;> rfl
theorem compL_map1 {f : D → Store → Res (Option D)} {g : Store → Bool} (o : D → D) {xs : List D} {S : Store} (hg : g S = true)
    (h : ∀ x ∈ xs, f x S = .ok (some (o x)) S) : compL f g xs S = .ok (xs.map o) S := by
  rw [compL_map (fun x => some (o x)) hg h]; simp
/-! store -/
@[simp] theorem get_self (o : SO) (S : Store) : get (o :: S) S.length = some o := by simp [get]
theorem getLt {S : Store} : ∀ {n : Nat} {o : SO}, get S n = some o → n < S.length := by
  induction S with
  | nil => intro n o h; simp [get] at h
  | cons a r ih => intro n o h; simp only [get] at h; split at h
                   · simp only [List.length_cons]; omega
                   · have := ih h; simp only [List.length_cons]; omega
theorem getOld {S : Store} {n : Nat} {o x : SO} (h : get S n = some o) : get (x :: S) n = some o := by
  have := getLt h
  simp only [get]; rw [if_neg (by omega)]; exact h
theorem get_app {n : Nat} {o : SO} {S : Store} (h : get S n = some o) : ∀ pre : Store, get (pre ++ S) n = some o
  | [] => h
  | x :: r => getOld (get_app h r)
@[simp] theorem okOld_refl (n : Nat) : ∀ S : Store, okOld n S S = true
  | [] => rfl
  | a :: r => by simp [okOld, okOld_refl n r]
theorem trim_app {S S' pre : Store} {env : Env} (h : S' = pre ++ S) (he : envBel S.length env = true) : trim S S' env = S := by
  subst h
  unfold trim
  split
  · rename_i h
    have : pre = [] := List.eq_nil_of_length_eq_zero (by simp only [List.length_append] at h; omega)
    rw [this]; rfl
  · have : (pre ++ S).drop ((pre ++ S).length - S.length) = S := by simp
    rw [this, he, okOld_refl]; rfl
@[simp] theorem trim_self (S : Store) (env : Env) : trim S S env = S := by simp [trim]
theorem trim_same {S S' : Store} {env : Env} (h : S'.length = S.length) : trim S S' env = S' := by simp [trim, h]
/-- trim, where the old part was changed -/
theorem trim_chg {S S' pre T : Store} {env : Env} (h : S' = pre ++ T) (hl : T.length = S.length) (he : envBel S.length env = true) (ho : okOld S.length S T = true) : trim S S' env = T := by
  subst h
  unfold trim
  split
  · rename_i h
    have : pre = [] := List.eq_nil_of_length_eq_zero (by simp only [List.length_append] at h; omega)
    rw [this]; rfl
  · have : (pre ++ T).drop ((pre ++ T).length - S.length) = T := by simp [hl]
    rw [this, he, ho]; rfl
theorem fin_val {S S' pre : Store} {d : D} (h : S' = pre ++ S) (hd : D.bel S.length d = true) : fin S S' d = .ok d S := by
  subst h
  unfold fin
  split
  · rename_i h
    have : pre = [] := List.eq_nil_of_length_eq_zero (by simp only [List.length_append] at h; omega)
    rw [this]; rfl
  · have : (pre ++ S).drop ((pre ++ S).length - S.length) = S := by simp
    rw [this, okOld_refl]; simp [hd]
theorem fin_obj {S S' pre : Store} {m : Nat} {o : SO} (h : S' = pre ++ S) (hm : S.length ≤ m) (hg : get S' m = some o) (ho : SO.bel S.length o = true) : fin S S' (.obj m) = .ok (.obj S.length) (o :: S) := by
  subst h
  unfold fin
  split
  · rename_i h
    have : pre = [] := List.eq_nil_of_length_eq_zero (by simp only [List.length_append] at h; omega)
    subst this
    have := getLt hg
    simp only [List.nil_append] at this
    omega
  · have : (pre ++ S).drop ((pre ++ S).length - S.length) = S := by simp
    rw [this, okOld_refl]
    have hb : D.bel S.length (.obj m) = false := by
      rw [D.bel]
      exact Bool.eq_false_iff.mpr fun h => by have := Nat.le_of_ble_eq_true h; omega
    simp only [hb, hg, ho, if_true, Bool.false_eq_true, if_false]
theorem finX_nil {S S' pre : Store} (h : S' = pre ++ S) : finX S S' [] = S := by
  subst h
  unfold finX
  split
  · rename_i h
    have : pre = [] := List.eq_nil_of_length_eq_zero (by simp only [List.length_append] at h; omega)
    rw [this]; rfl
  · have : (pre ++ S).drop ((pre ++ S).length - S.length) = S := by simp
    rw [this, okOld_refl]; simp [D.bels]
/-- what a call gives -/
def outF (S : Store) (fl : Flow) (S' : Store) : Res D := match fl with
  | .rt d => fin S S' d
  | .nx _ => fin S S' .non
  | .ex c fs _ => .exc c fs (finX S S' fs)
  | _ => .bad
@[simp] theorem outF_rt (S S' d) : outF S (.rt d) S' = fin S S' d := Eq.trans rfl rfl
@[simp] theorem outF_nx (S S' e) : outF S (.nx e) S' = fin S S' .non := Eq.trans rfl rfl
@[simp] theorem outF_ex (S S' c fs e) : outF S (.ex c fs e) S' = .exc c fs (finX S S' fs) := Eq.trans rfl rfl
theorem den_wp {p : Prg} {n i : Nat} {f : Fn} {ds : List D} {S : Store} {R : Res D} (hf : p.fns[i]? = some f) (hl : ds.length = f.np)
    (h : wp (evSs ⟨den p n, p.G, p.Cl, none⟩ f.body (ds.map some ++ List.replicate (f.nl - f.np) none) S) fun fl S' => outF S fl S' = R) : den p (n + 1) none i ds S = R := by
  simp only [den, hf, evFn, Option.isSome_none, Bool.false_eq_true, false_or, hl, if_true, if_false]
  revert h
  cases evSs ⟨den p n, p.G, p.Cl, none⟩ f.body (ds.map some ++ List.replicate (f.nl - f.np) none) S with
  | exc => exact fun h => nomatch h
  | bad => exact fun h => nomatch h
  | ok fl S' => intro h; rw [wp_ok] at h; cases fl <;> exact h
theorem den_hot {p : Prg} {n i : Nat} {f : Fn} {e : Nat × List D} {S : Store} {R : Res D} (hf : p.fns[i]? = some f)
    (h : wp (evSs ⟨den p n, p.G, p.Cl, some e⟩ f.body (List.replicate f.nl none) S) fun fl S' => outF S fl S' = R) : den p (n + 1) (some e) i [] S = R := by
  simp only [den, hf, evFn, Option.isSome_some, true_or, if_true]
  revert h
  cases evSs ⟨den p n, p.G, p.Cl, some e⟩ f.body (List.replicate f.nl none) S with
  | exc => exact fun h => nomatch h
  | bad => exact fun h => nomatch h
  | ok fl S' => intro h; rw [wp_ok] at h; cases fl <;> exact h

theorem wp_seq {C : Ctx} {r : List Stm} {x : Res Flow} {Q : Flow → Store → Prop} (h : wp x fun fl S => wp (seqK C r (.ok fl S)) Q) : wp (seqK C r x) Q := wp_bind (by
  refine wp_mono h fun fl S h => ?_
  cases fl <;> exact h)
theorem wp_for {C : Ctx} {t : Tg} {body : List Stm} {ks : List Nat} {o : Option Nat} {Q : Flow → Store → Prop} {xs : List D} (I : Nat → Env → Store → Prop) {env : Env} {S : Store}
    (h0 : I 0 env S) (hg : ∀ i env S', I i env S' → stands o (obAt o S) S' = true)
    (hs : ∀ i x env S, xs[i]? = some x → I i env S → wp (match bind1 t x env with | some env => evSs C body env S | none => .bad) (rnd Q ks S (I (i + 1))))
    (hq : ∀ env S, I xs.length env S → Q (.nx env) S) : wp (forK C t body ks o xs env S) Q := wp_loop I h0 hg hs hq
theorem wp_while {C : Ctx} {t : Tst} {body : List Stm} {ks : List Nat} {Q : Flow → Store → Prop} (I : Nat → Env → Store → Prop) {m : Nat} {env : Env} {S : Store}
    (h0 : I m env S) (hm : m < turns)
    (hs : ∀ k env S, I k env S → k ≤ m → wp (evT C t env S) fun c S1 => if c = true then wp (evSs C body env S1) (rnd Q ks S fun env S => ∃ j, j < k ∧ I j env S) else Q (.nx env) S1) : wp (whlK C t body ks env S) Q := wp_whl I h0 hm hs
theorem compK_map {C : Ctx} {e : Exp} {t : Tg} {ifs : List Tst} {env : Env} {o : Option Nat} {xs : List D} {S : Store} (f : D → D) (hl : xs.length ≤ line)
    (h : ∀ x ∈ xs, ∃ env', bind1 t x (kill t.ix env) = some env' ∧ evTs C ifs env' S = .ok true S ∧ evE C e env' S = .ok (f x) S) : compK C e t ifs env o xs S = .ok (xs.map f) S := by
  unfold compK
  rw [if_pos hl]
  refine compL_map1 f (by cases o <;> simp [stands, obAt]) fun x hx => ?_
  obtain ⟨env', h1, h2, h3⟩ := h x hx
  simp only [h1, h2, h3]
theorem compK_fm {C : Ctx} {e : Exp} {t : Tg} {ifs : List Tst} {env : Env} {o : Option Nat} {xs : List D} {S : Store} (f : D → Option D) (hl : xs.length ≤ line)
    (h : ∀ x ∈ xs, ∃ env' b, bind1 t x (kill t.ix env) = some env' ∧ evTs C ifs env' S = .ok b S ∧ (if b = true then ∃ y, evE C e env' S = .ok y S ∧ f x = some y else f x = none)) : compK C e t ifs env o xs S = .ok (xs.filterMap f) S := by
  unfold compK
  rw [if_pos hl]
  refine compL_map f (by cases o <;> simp [stands, obAt]) fun x hx => ?_
  obtain ⟨env', b, h1, h2, h3⟩ := h x hx
  cases b with
  | true => obtain ⟨y, h4, h5⟩ := h3; simp only [h1, h2, h4, h5]
  | false => simp only [h1, h2]; rw [if_neg (by decide)] at h3; rw [h3]
end Pw
end
section
set_option linter.all false
/-! Pw26: the operators by simp -/
namespace Pw
@[simp] theorem lineN : line = 16777216 := Eq.trans rfl rfl
@[simp] theorem truth_bl (S b) : truth S (.bl b) = some b := Eq.trans rfl rfl
@[simp] theorem truth_non (S) : truth S .non = some false := Eq.trans rfl rfl
@[simp] theorem truth_int (S i) : truth S (.int i) = some (decide (i ≠ 0)) := Eq.trans rfl rfl
@[simp] theorem truth_tup (S xs) : truth S (.tup xs) = some (!xs.isEmpty) := Eq.trans rfl rfl
@[simp] theorem isKds_nil (Cl S d) : isKds Cl S d [] = some false := Eq.trans rfl rfl
@[simp] theorem isKds_cons (Cl S d k r) : isKds Cl S d (k :: r) = (isKd Cl S d k).bind fun b => if b then some true else isKds Cl S d r := Eq.trans rfl rfl
@[simp] theorem isKd_int (Cl S d) : isKd Cl S d .int = (match d with | .int _ => some true | .bl _ => some true | .exc _ _ => none | _ => some false) := Eq.trans rfl rfl
@[simp] theorem isKd_bool (Cl S d) : isKd Cl S d .bool = (match d with | .bl _ => some true | .exc _ _ => none | _ => some false) := Eq.trans rfl rfl
@[simp] theorem isKd_str (Cl S d) : isKd Cl S d .str = (match d with | .str _ => some true | .exc _ _ => none | _ => some false) := Eq.trans rfl rfl
@[simp] theorem isKd_tuple (Cl S d) : isKd Cl S d .tuple = (match d with | .tup _ => some true | .exc _ _ => none | _ => some false) := Eq.trans rfl rfl
@[simp] theorem lenD_str {S : Store} {s : List Nat} (h : s.length ≤ 16777216) : lenD S (.str s) = some (s.length : Int) := by simp [lenD, h]
@[simp] theorem lenD_tup (S xs) : lenD S (.tup xs) = some (List.length xs : Int) := Eq.trans rfl rfl
theorem lenD_obj {S n xs} (h : get S n = some (.lst xs)) : lenD S (.obj n) = some (List.length xs : Int) := by simp [lenD, h]
@[simp] theorem lenD_self (S : Store) (xs : List D) : lenD (.lst xs :: S) (.obj S.length) = some (xs.length : Int) := lenD_obj (get_self _ _)
@[simp] theorem f1_len (S d) : f1D .len d S = (Res.of (lenD S d) S).bind fun n S => .ok (.int n) S := Eq.trans rfl rfl
@[simp] theorem f1_int (S i) : f1D .int (.int i) S = .ok (.int i) S := Eq.trans rfl rfl
@[simp] theorem f1_intb (S b) : f1D .int (.bl b) S = .ok (.int (b2i b)) S := Eq.trans rfl rfl
@[simp] theorem f1_abs (S i) : f1D .abs (.int i) S = .ok (.int (if i < 0 then -i else i)) S := Eq.trans rfl rfl
@[simp] theorem f2_min (S i j) : f2D .min (.int i) (.int j) S = .ok (.int (if j < i then j else i)) S := Eq.trans rfl rfl
@[simp] theorem f2_max (S i j) : f2D .max (.int i) (.int j) S = .ok (.int (if j > i then j else i)) S := Eq.trans rfl rfl
@[simp] theorem cmp_lt (S a b) : cmpD S .lt (.int a) (.int b) = some (decide (a < b)) := Eq.trans rfl rfl
@[simp] theorem cmp_le (S a b) : cmpD S .le (.int a) (.int b) = some (decide (a ≤ b)) := Eq.trans rfl rfl
@[simp] theorem cmp_gt (S a b) : cmpD S .gt (.int a) (.int b) = some (decide (b < a)) := Eq.trans rfl rfl
@[simp] theorem cmp_ge (S a b) : cmpD S .ge (.int a) (.int b) = some (decide (b ≤ a)) := Eq.trans rfl rfl
@[simp] theorem cmps_lt (S a b) : cmpD S .lt (.str a) (.str b) = some (decide (a < b)) := Eq.trans rfl rfl
@[simp] theorem cmps_le (S a b) : cmpD S .le (.str a) (.str b) = some (!decide (b < a)) := Eq.trans rfl rfl
@[simp] theorem cmps_gt (S a b) : cmpD S .gt (.str a) (.str b) = some (decide (b < a)) := Eq.trans rfl rfl
@[simp] theorem cmps_ge (S a b) : cmpD S .ge (.str a) (.str b) = some (!decide (a < b)) := Eq.trans rfl rfl
@[simp] theorem cmp_eq (S a b) : cmpD S .eq (.int a) (.int b) = some (decide (a = b)) := Eq.trans rfl rfl
@[simp] theorem cmp_ne (S a b) : cmpD S .ne (.int a) (.int b) = some (!decide (a = b)) := Eq.trans rfl rfl
@[simp] theorem cmps_eq (S a b) : cmpD S .eq (.str a) (.str b) = some (decide (a = b)) := Eq.trans rfl rfl
@[simp] theorem cmps_ne (S a b) : cmpD S .ne (.str a) (.str b) = some (!decide (a = b)) := Eq.trans rfl rfl
@[simp] theorem cmpb_eq (S a b) : cmpD S .eq (.bl a) (.bl b) = some (decide (a = b)) := Eq.trans rfl rfl
@[simp] theorem cmpb_ne (S a b) : cmpD S .ne (.bl a) (.bl b) = some (!decide (a = b)) := Eq.trans rfl rfl
@[simp] theorem cmp_in (S a b) : cmpD S .inn a b = din S a b := Eq.trans rfl rfl
@[simp] theorem cmp_nin (S a b) : cmpD S .nin a b = (din S a b).map (!·) := Eq.trans rfl rfl
@[simp] theorem din_s (S c t) : din S (.str [c]) (.str t) = some (decide (c ∈ t)) := Eq.trans rfl rfl
@[simp] theorem din_t (S x t) : din S x (.tup t) = inD x t := Eq.trans rfl rfl
theorem din_l {S x n t} (h : get S n = some (.lst t)) : din S x (.obj n) = inD x t := by simp [din, h]
@[simp] theorem cmp_is (S a b) : cmpD S .is a b = dis a b := Eq.trans rfl rfl
@[simp] theorem cmp_isn (S a b) : cmpD S .isn a b = (dis a b).map (!·) := Eq.trans rfl rfl
@[simp] theorem dis_non (a) : dis a .non = some (decide (a = .non)) := Eq.trans rfl rfl
@[simp] theorem dis_bl (a b) : dis (.bl a) (.bl b) = some (decide (a = b)) := Eq.trans rfl rfl
@[simp] theorem add_i (S i j) : binD .add (.int i) (.int j) S = .ok (.int (i + j)) S := Eq.trans rfl rfl
@[simp] theorem sub_i (S i j) : binD .sub (.int i) (.int j) S = .ok (.int (i - j)) S := Eq.trans rfl rfl
@[simp] theorem add_s {S : Store} {i j : List Nat} (h : i.length + j.length ≤ 16777216) : binD .add (.str i) (.str j) S = .ok (.str (i ++ j)) S := by simp [binD, h]
@[simp] theorem add_t {S : Store} {i j : List D} (h : i.length + j.length ≤ 16777216) : binD .add (.tup i) (.tup j) S = .ok (.tup (i ++ j)) S := by simp [binD, h]
theorem add_l {S : Store} {a b : Nat} {x y : List D} (ha : get S a = some (.lst x)) (hb : get S b = some (.lst y)) (h : x.length + y.length ≤ 16777216) : binD .add (.obj a) (.obj b) S = .ok (.obj S.length) (.lst (x ++ y) :: S) := by simp [binD, h, ha, hb]
theorem mul_i {S : Store} {i j : Int} (h : i.natAbs.log2 + j.natAbs.log2 < 1000000) : binD .mul (.int i) (.int j) S = .ok (.int (i * j)) S := by simp [binD, mulOk, h]
theorem mul_s {S : Store} {c : Nat} {j : Int} (h : j ≤ 16777216) (h' : -(2 ^ 62) ≤ j) : binD .mul (.str [c]) (.int j) S = .ok (.str (List.replicate j.toNat c)) S := by
  have : j ≤ line ∧ -(2 ^ 62) ≤ j := ⟨by simpa using h, h'⟩
  simp only [binD]; rw [if_pos this]
theorem fdiv_i {S : Store} {i j : Int} (h : 0 < j) (h' : j.natAbs.log2 < 9000) : binD .fdiv (.int i) (.int j) S = .ok (.int (i / j)) S := by simp [binD, h, h']
theorem fdiv_n {S : Store} {i : Int} {k : Nat} (h0 : 0 < k) (h' : Nat.log2 k < 9000) : binD .fdiv (.int i) (.int (no_index (OfNat.ofNat k))) S = .ok (.int (i / (OfNat.ofNat k))) S :=
  fdiv_i (show (0 : Int) < (k : Int) by omega) h'
@[simp] theorem mod_i {S : Store} {i j : Int} (h : 0 < j) : binD .mod (.int i) (.int j) S = .ok (.int (i % j)) S := by simp [binD, h]
theorem pow_i {S : Store} {i j : Int} (h : 0 ≤ j ∧ j ≤ 1000000 ∧ i.natAbs < 2 ^ 64) : binD .pow (.int i) (.int j) S = .ok (.int (i ^ j.toNat)) S := by simp only [binD]; rw [if_pos h]
@[simp] theorem place_nat (n i : Nat) : place n (i : Int) = if i < n then some i else none := by
  unfold place
  rw [if_pos (Int.natCast_nonneg i)]
  by_cases h : i < n
  · rw [if_pos h, if_pos (by omega)]; simp
  · rw [if_neg h, if_neg (by omega)]
theorem place_q {α : Type} (xs : List α) (i : Nat) : ((place xs.length (i : Int)).bind fun j => xs[j]?) = xs[i]? := by
  rw [place_nat]
  by_cases h : i < xs.length
  · rw [if_pos h]; rfl
  · rw [if_neg h, List.getElem?_eq_none (by omega)]; rfl
@[simp] theorem idx_t (xs : List D) (i : Nat) (S : Store) : idxD (.tup xs) (.int (i : Int)) S = Res.of xs[i]? S := by simp only [idxD]; rw [place_q]
@[simp] theorem idx_t0 (xs : List D) (S : Store) : idxD (.tup xs) (.int 0) S = Res.of xs[0]? S := idx_t xs 0 S
@[simp] theorem idx_t1 (xs : List D) (S : Store) : idxD (.tup xs) (.int 1) S = Res.of xs[1]? S := idx_t xs 1 S
theorem idx_l {n : Nat} {xs : List D} {S : Store} (h : get S n = some (.lst xs)) (i : Nat) : idxD (.obj n) (.int (i : Int)) S = Res.of xs[i]? S := by simp only [idxD, h]; rw [place_q]
theorem idx_l0 {n : Nat} {xs : List D} {S : Store} (h : get S n = some (.lst xs)) : idxD (.obj n) (.int 0) S = Res.of xs[0]? S := idx_l h 0
theorem idx_ln {n : Nat} {xs : List D} {S : Store} (k : Nat) (h : get S n = some (.lst xs)) : idxD (.obj n) (.int (no_index (OfNat.ofNat k))) S = Res.of xs[k]? S := idx_l h k
@[simp] theorem idx_s {s : List Nat} {S : Store} (h : s.length ≤ 16777216) (i : Nat) : idxD (.str s) (.int (i : Int)) S = Res.of (s[i]?.map fun c => .str [c]) S := by simp only [idxD, lineN, h, if_true]; rw [place_q]
@[simp] theorem idx_s0 {s : List Nat} {S : Store} (h : s.length ≤ 16777216) : idxD (.str s) (.int 0) S = Res.of (s[0]?.map fun c => .str [c]) S := idx_s h 0
/-- a place given by a whole number that is not negative -/
theorem idx_sz {s : List Nat} {S : Store} {i : Int} (h : s.length ≤ 16777216) (h0 : 0 ≤ i) : idxD (.str s) (.int i) S = Res.of (s[i.toNat]?.map fun c => .str [c]) S := by
  have := idx_s (S := S) h i.toNat
  rwa [Int.toNat_of_nonneg h0] at this
theorem idx_tz {s : List D} {S : Store} {i : Int} (h0 : 0 ≤ i) : idxD (.tup s) (.int i) S = Res.of s[i.toNat]? S := by
  have := idx_t s i.toNat S
  rwa [Int.toNat_of_nonneg h0] at this
@[simp] theorem items_s (s S) : items (.str s) S = some (List.map (fun c => D.str [c]) s, none) := Eq.trans rfl rfl
@[simp] theorem items_t (s S) : items (.tup s) S = some (s, none) := Eq.trans rfl rfl
theorem items_l {S n xs} (h : get S n = some (.lst xs)) : items (.obj n) S = some (xs, some n) := by simp [items, h]
@[simp] theorem seqD_t (s S) : seqD (.tup s) S = some s := Eq.trans rfl rfl
theorem seqD_l {S n xs} (h : get S n = some (.lst xs)) : seqD (.obj n) S = some xs := by simp [seqD, h]
@[simp] theorem isLs_o (n S) : isLs (.obj n) S = true := Eq.trans rfl rfl
theorem isL_l {S n xs} (h : get S n = some (.lst xs)) : isL (.obj n) S = true := by simp [isL, h]
@[simp] theorem isS_s (s) : isS (.str s) = true := Eq.trans rfl rfl
@[simp] theorem rngL_nat (n : Nat) : rngL 0 (n : Int) = (List.range n).map fun i => .int (i : Int) := by simp [rngL]
theorem rngL_z (n : Int) : rngL 0 n = (List.range n.toNat).map fun i => .int (i : Int) := by simp [rngL]
@[simp] theorem rngL_ofNat (n : Nat) : rngL 0 (no_index (OfNat.ofNat n)) = (List.range n).map fun i => .int (i : Int) := rngL_nat n
@[simp] theorem bind_v (i d env) : bind1 (.v i) d env = some (env.set i (some d)) := Eq.trans rfl rfl
@[simp] theorem bind_2 (i j a b env) : bind1 (.tup [i, j]) (.tup [a, b]) env = some ((env.set i (some a)).set j (some b)) := Eq.trans rfl rfl
@[simp] theorem ix_v (i) : Tg.ix (.v i) = [i] := Eq.trans rfl rfl
@[simp] theorem ix_t (is) : Tg.ix (.tup is) = is := Eq.trans rfl rfl
@[simp] theorem kill_nil (env) : kill [] env = env := Eq.trans rfl rfl
@[simp] theorem kill_cons (k ks env) : kill (k :: ks) env = kill ks (env.set k none) := Eq.trans rfl rfl
@[simp] theorem bls_map {α : Type} (f : α → Bool) (xs : List α) : bls (xs.map fun x => .bl (f x)) = some (xs.map f) := by
  induction xs with
  | nil => rfl
  | cons x r ih => simp [bls, ih]
@[simp] theorem intsD_map {α : Type} (f : α → Int) (xs : List α) : intsD (xs.map fun x => .int (f x)) = some (xs.map f) := by
  induction xs with
  | nil => rfl
  | cons x r ih => simp [intsD, ih]
@[simp] theorem strsD_map {α : Type} (f : α → List Nat) (xs : List α) : strsD (xs.map fun x => .str (f x)) = some (xs.map f) := by
  induction xs with
  | nil => rfl
  | cons x r ih => simp [strsD, ih]
theorem small_nat (n : Nat) : small (n : Int) = decide (n < 2 ^ 62) := by
  unfold small
  rw [Bool.eq_iff_iff]; simp only [Bool.and_eq_true, decide_eq_true_eq]; omega
theorem app_l {S : Store} {n : Nat} {xs : List D} {v : D} (h : get S n = some (.lst xs)) (hl : xs.length < 16777216) : appD (.obj n) v S = .ok .non (put S n (.lst (xs ++ [v]))) := by simp [appD, h, hl]
@[simp] theorem put_self (o x : SO) (S : Store) : put (o :: S) S.length x = x :: S := by simp [put]
theorem put_old {S : Store} {n : Nat} {o x : SO} (h : n < S.length) : put (o :: S) n x = o :: put S n x := by simp only [put]; rw [if_neg (by omega)]
@[simp] theorem put_len (S : Store) (n : Nat) (x : SO) : (put S n x).length = S.length := by
  induction S with
  | nil => rfl
  | cons o r ih => simp only [put]; split <;> simp [ih]
@[simp] theorem bel_non (n) : D.bel n .non = true := by rw [D.bel]; all_goals simp
@[simp] theorem bel_bl (n b) : D.bel n (.bl b) = true := by rw [D.bel]; all_goals simp
@[simp] theorem bel_int (n b) : D.bel n (.int b) = true := by rw [D.bel]; all_goals simp
@[simp] theorem bel_str (n b) : D.bel n (.str b) = true := by rw [D.bel]; all_goals simp
@[simp] theorem bel_tup (n b) : D.bel n (.tup b) = D.bels n b := by rw [D.bel]
@[simp] theorem bel_obj (n b) : D.bel n (.obj b) = decide (b < n) := by
  rw [D.bel, Bool.eq_iff_iff]; simp [Nat.blt_eq]
@[simp] theorem bels_nil (n) : D.bels n [] = true := by rw [D.bels]
@[simp] theorem bels_cons (n x r) : D.bels n (x :: r) = (D.bel n x && D.bels n r) := by rw [D.bels]
theorem belsA (n : Nat) (xs : List D) : D.bels n xs = xs.all (D.bel n) := by
  induction xs with
  | nil => simp
  | cons x r ih => simp [ih]
@[simp] theorem bels_app (n : Nat) (xs ys : List D) : D.bels n (xs ++ ys) = (D.bels n xs && D.bels n ys) := by simp [belsA]
theorem belsM {α : Type} {n : Nat} {f : α → D} {xs : List α} (h : ∀ x ∈ xs, D.bel n (f x) = true) : D.bels n (xs.map f) = true := by
  rw [belsA]; simpa using h
@[simp] theorem bels_str {α : Type} (n : Nat) (f : α → List Nat) (xs : List α) : D.bels n (xs.map fun x => .str (f x)) = true := belsM fun x _ => bel_str _ _
@[simp] theorem bels_int {α : Type} (n : Nat) (f : α → Int) (xs : List α) : D.bels n (xs.map fun x => .int (f x)) = true := belsM fun x _ => bel_int _ _
@[simp] theorem bels_str' (n : Nat) (xs : List (List Nat)) : D.bels n (xs.map D.str) = true := belsM fun x _ => bel_str _ _
@[simp] theorem bels_int' (n : Nat) (xs : List Int) : D.bels n (xs.map D.int) = true := belsM fun x _ => bel_int _ _
@[simp] theorem obel_lst (n xs) : SO.bel n (.lst xs) = D.bels n xs := Eq.trans rfl rfl
@[simp] theorem envBel_nil (n) : envBel n [] = true := Eq.trans rfl rfl
@[simp] theorem envBel_some (n d r) : envBel n (some d :: r) = (D.bel n d && envBel n r) := Eq.trans rfl rfl
@[simp] theorem envBel_none (n r) : envBel n (none :: r) = envBel n r := by simp [envBel]
/-- handles below a smaller number -/
theorem bel_mono {n m : Nat} (h : n ≤ m) : ∀ d : D, D.bel n d = true → D.bel m d = true
  | .obj b, hb => by simp at hb ⊢; omega
  | .tup xs, hb => by
    simp only [bel_tup, belsA, List.all_eq_true] at hb ⊢
    exact fun x hx => bel_mono h x (hb x hx)
  | .exc c xs, hb => by
    rw [D.bel, belsA, List.all_eq_true] at hb ⊢
    exact fun x hx => bel_mono h x (hb x hx)
  | .non, _ => bel_non _
  | .bl _, _ => bel_bl _ _
  | .int _, _ => bel_int _ _
  | .str _, _ => bel_str _ _
theorem bels_mono {n m : Nat} (h : n ≤ m) {xs : List D} (hb : D.bels n xs = true) : D.bels m xs = true := by
  rw [belsA, List.all_eq_true] at hb ⊢
  exact fun x hx => bel_mono h x (hb x hx)
end Pw
namespace Pw
@[simp] theorem bls_nil : bls [] = some [] := Eq.trans rfl rfl
@[simp] theorem bls_cons (b r) : bls (.bl b :: r) = (bls r).map (b :: ·) := Eq.trans rfl rfl
@[simp] theorem intsD_nil : intsD [] = some [] := Eq.trans rfl rfl
@[simp] theorem intsD_cons (b r) : intsD (.int b :: r) = (intsD r).map (b :: ·) := Eq.trans rfl rfl
@[simp] theorem strsD_nil : strsD [] = some [] := Eq.trans rfl rfl
@[simp] theorem strsD_cons (b r) : strsD (.str b :: r) = (strsD r).map (b :: ·) := Eq.trans rfl rfl
mutual
/-- a value that the looks at kinds can take: no exception in it, texts and tuples of a bearable length -/
def okE : D → Bool
  | .str s => decide (s.length ≤ 16777216)
  | .tup xs => decide (xs.length ≤ 16777216) && okEs xs
  | .exc _ _ => false
  | _ => true
def okEs : List D → Bool
  | [] => true
  | x :: r => okE x && okEs r
end
@[simp] theorem okE_non : okE .non = true := by rw [okE] <;> simp
@[simp] theorem okE_bl (b) : okE (.bl b) = true := by rw [okE] <;> simp
@[simp] theorem okE_int (b) : okE (.int b) = true := by rw [okE] <;> simp
@[simp] theorem okE_obj (b) : okE (.obj b) = true := by rw [okE] <;> simp
@[simp] theorem okE_str (s) : okE (.str s) = decide (List.length s ≤ 16777216) := by rw [okE]
@[simp] theorem okE_tup (s) : okE (.tup s) = (decide (List.length s ≤ 16777216) && okEs s) := by rw [okE]
@[simp] theorem okE_exc (c s) : okE (.exc c s) = false := by rw [okE]
@[simp] theorem okEs_nil : okEs [] = true := by rw [okEs]
@[simp] theorem okEs_cons (x r) : okEs (x :: r) = (okE x && okEs r) := by rw [okEs]
theorem okEs_all (xs : List D) : okEs xs = xs.all okE := by
  induction xs with
  | nil => simp
  | cons x r ih => simp [ih]
@[simp] theorem okEs_app (xs ys : List D) : okEs (xs ++ ys) = (okEs xs && okEs ys) := by simp [okEs_all]
theorem okEs_at {xs : List D} (h : okEs xs = true) {i : Nat} {x : D} (hx : xs[i]? = some x) : okE x = true := by
  rw [okEs_all, List.all_eq_true] at h
  exact h x (List.mem_of_getElem? hx)
end Pw
namespace Pw
@[simp] theorem fin_0 {S : Store} {d : D} (h : D.bel S.length d = true) : fin S S d = .ok d S := fin_val (pre := []) rfl h
@[simp] theorem fin_1 {S : Store} {d : D} {a : SO} (h : D.bel S.length d = true) : fin S (a :: S) d = .ok d S := fin_val (pre := [a]) rfl h
@[simp] theorem fin_2 {S : Store} {d : D} {a b : SO} (h : D.bel S.length d = true) : fin S (a :: b :: S) d = .ok d S := fin_val (pre := [a, b]) rfl h
@[simp] theorem fin_3 {S : Store} {d : D} {a b c : SO} (h : D.bel S.length d = true) : fin S (a :: b :: c :: S) d = .ok d S := fin_val (pre := [a, b, c]) rfl h
@[simp] theorem fin_4 {S : Store} {d : D} {a b c e : SO} (h : D.bel S.length d = true) : fin S (a :: b :: c :: e :: S) d = .ok d S := fin_val (pre := [a, b, c, e]) rfl h
@[simp] theorem fin_o (S : Store) (o : SO) : fin S (o :: S) (.obj S.length) = .ok (.obj S.length) (o :: S) := by
  unfold fin
  simp
@[simp] theorem idx_tp (xs : List D) (i : Nat) (S : Store) : idxD (.tup xs) (.int ((i : Int) + 1)) S = Res.of xs[i + 1]? S := idx_t xs (i + 1) S
theorem idx_lp {n : Nat} {xs : List D} {S : Store} (h : get S n = some (.lst xs)) (i : Nat) : idxD (.obj n) (.int ((i : Int) + 1)) S = Res.of xs[i + 1]? S := idx_l h (i + 1)
@[simp] theorem idx_sp {s : List Nat} {S : Store} (h : s.length ≤ 16777216) (i : Nat) : idxD (.str s) (.int ((i : Int) + 1)) S = Res.of (s[i + 1]?.map fun c => .str [c]) S := idx_s h (i + 1)
end Pw
namespace Pw
theorem log2_lt {n k : Nat} (h : n < 2 ^ k) (hk : 0 < k) : n.log2 < k := by
  by_cases h0 : n = 0
  · subst h0; simpa using hk
  · exact (Nat.log2_lt h0).mpr h
/-- two factors below 2^64 -/
@[simp] theorem mul_sm {S : Store} {i j : Int} (h : -18446744073709551616 < i ∧ i < 18446744073709551616) (h' : -18446744073709551616 < j ∧ j < 18446744073709551616) : binD .mul (.int i) (.int j) S = .ok (.int (i * j)) S := by
  have a : i.natAbs.log2 < 64 := log2_lt (by omega) (by omega)
  have b : j.natAbs.log2 < 64 := log2_lt (by omega) (by omega)
  exact mul_i (by omega)
@[simp] theorem fdiv_sm {S : Store} {i j : Int} (h : 0 < j ∧ j < 18446744073709551616) : binD .fdiv (.int i) (.int j) S = .ok (.int (i / j)) S := by
  have b : j.natAbs.log2 < 64 := log2_lt (by omega) (by omega)
  exact fdiv_i h.1 (by omega)
@[simp] theorem rngL_neg (n : Int) (h : n ≤ 0) : rngL 0 n = [] := by simp [rngL]; omega
@[simp] theorem bels_tup {α : Type} (n : Nat) (f : α → List D) (xs : List α) : D.bels n (xs.map fun x => .tup (f x)) = xs.all fun x => D.bels n (f x) := by
  rw [belsA]; simp [Function.comp_def]
/-- the store's newest object changed -/
@[simp] theorem okOld_cons (n a r b t) : okOld n (a :: r) (b :: t) = ((decide (a = b) || SO.bel n b) && okOld n r t) := Eq.trans rfl rfl
theorem trim_new {S pre : Store} {a b : SO} {env : Env} (he : envBel (S.length + 1) env = true) (ho : SO.bel (S.length + 1) b = true) : trim (a :: S) (pre ++ b :: S) env = b :: S := trim_chg rfl rfl he (by simp [ho])
end Pw
namespace Pw
theorem range_at {f : Nat → D} {m i : Nat} {x : D} (h : ((List.range m).map f)[i]? = some x) : i < m ∧ x = f i := by
  rw [List.getElem?_map] at h
  have hi : i < m := by
    have := (List.getElem?_eq_some_iff.mp (Option.map_eq_some_iff.mp h).choose_spec.1).1
    simpa using this
  rw [List.getElem?_range hi] at h
  exact ⟨hi, by simpa using h.symm⟩
@[simp] theorem isL_self (xs : List D) (S : Store) : isL (.obj S.length) (.lst xs :: S) = true := isL_l (get_self _ _)
@[simp] theorem app_self {xs : List D} {S : Store} {v : D} (h : xs.length < 16777216) : appD (.obj S.length) v (.lst xs :: S) = .ok .non (.lst (xs ++ [v]) :: S) := by rw [app_l (get_self _ _) h, put_self]
@[simp] theorem idx_self (xs : List D) (S : Store) (i : Nat) : idxD (.obj S.length) (.int (i : Int)) (.lst xs :: S) = Res.of xs[i]? (.lst xs :: S) := idx_l (get_self _ _) i
@[simp] theorem get_under (a b : SO) (S : Store) : get (a :: b :: S) S.length = some b := getOld (get_self _ _)
@[simp] theorem get_under2 (a b c : SO) (S : Store) : get (a :: b :: c :: S) S.length = some c := getOld (getOld (get_self _ _))
@[simp] theorem get_over (a b : SO) (S : Store) : get (a :: b :: S) (S.length + 1) = some a := get_self a (b :: S)
@[simp] theorem get_over2 (a b c : SO) (S : Store) : get (a :: b :: c :: S) (S.length + 1) = some b := getOld (get_self b (c :: S))
@[simp] theorem get_over3 (a b c : SO) (S : Store) : get (a :: b :: c :: S) (S.length + 2) = some a := get_self a (b :: c :: S)
theorem den_post {p : Prg} {n i : Nat} {f : Fn} {ds : List D} {S : Store} {α : Type} (A : α → Prop) (R : α → Res D) (hf : p.fns[i]? = some f) (hl : ds.length = f.np)
    (h : wp (evSs ⟨den p n, p.G, p.Cl, none⟩ f.body (ds.map some ++ List.replicate (f.nl - f.np) none) S) fun fl S' => ∃ a, A a ∧ outF S fl S' = R a) : ∃ a, A a ∧ den p (n + 1) none i ds S = R a := by
  revert h
  have H : ∀ a, wp (evSs ⟨den p n, p.G, p.Cl, none⟩ f.body (ds.map some ++ List.replicate (f.nl - f.np) none) S) (fun fl S' => outF S fl S' = R a) → den p (n + 1) none i ds S = R a := fun a => den_wp hf hl
  revert H
  cases evSs ⟨den p n, p.G, p.Cl, none⟩ f.body (ds.map some ++ List.replicate (f.nl - f.np) none) S with
  | exc => exact fun _ h => nomatch h
  | bad => exact fun _ h => nomatch h
  | ok fl S' => intro H h; rw [wp_ok] at h; obtain ⟨a, h1, h2⟩ := h; exact ⟨a, h1, H a (.ok _ _ _ h2)⟩
end Pw
namespace Pw
theorem pick_s {l : List Nat} {z : Int} (hl : l.length ≤ 16777216) (h : 0 ≤ z ∧ z < l.length) : ∃ c, c ∈ l ∧ ∀ S, idxD (.str l) (.int z) S = .ok (.str [c]) S := by
  have hz : z.toNat < l.length := by omega
  exact ⟨l[z.toNat], List.getElem_mem hz, fun S => by rw [idx_sz hl h.1, List.getElem?_eq_getElem hz]; rfl⟩
theorem clip_some {n d : Nat} {i : Int} (h : 0 ≤ i) : clip n d (some i) = min i.toNat n := if_neg (by omega)
theorem cut_to {α : Type} (xs : List α) {i : Int} (h : 0 ≤ i) : cut xs none (some i) = xs.take i.toNat := by
  show (xs.drop 0).take (clip _ _ (some i) - 0) = _
  rw [clip_some h]
  by_cases h' : i.toNat ≤ xs.length
  · rw [Nat.min_eq_left h']; simp
  · rw [Nat.min_eq_right (by omega)]; simp [List.take_of_length_le (show xs.length ≤ i.toNat by omega)]
theorem cut_from {α : Type} (xs : List α) {i : Int} (h : 0 ≤ i) : cut xs (some i) none = xs.drop i.toNat := by
  show (xs.drop (clip _ _ (some i))).take (xs.length - clip _ _ (some i)) = _
  rw [clip_some h]
  by_cases h' : i.toNat ≤ xs.length
  · rw [Nat.min_eq_left h', List.take_of_length_le (by simp)]
  · rw [Nat.min_eq_right (by omega)]; simp [List.drop_of_length_le (show xs.length ≤ i.toNat by omega)]
theorem cut_mid {α : Type} (xs : List α) {i j : Int} (h : 0 ≤ i) (hj : 0 ≤ j) : cut xs (some i) (some j) = (xs.drop i.toNat).take (j.toNat - i.toNat) := by
  show (xs.drop (clip _ _ (some i))).take (clip _ _ (some j) - clip _ _ (some i)) = _
  rw [clip_some h, clip_some hj]
  by_cases h' : i.toNat ≤ xs.length
  · rw [Nat.min_eq_left h']
    by_cases h2 : j.toNat ≤ xs.length
    · rw [Nat.min_eq_left h2]
    · rw [Nat.min_eq_right (by omega), List.take_of_length_le (by simp), List.take_of_length_le (by simp; omega)]
  · rw [Nat.min_eq_right (by omega : xs.length ≤ i.toNat), List.drop_of_length_le (by omega), List.drop_of_length_le (by omega)]; simp
@[simp] theorem sl_sto {s : List Nat} {S : Store} {i : Int} (h : s.length ≤ 16777216) (hi : 0 ≤ i) : slD (.str s) none (some (.int i)) S = .ok (.str (s.take i.toNat)) S := by simp [slD, intO, h, cut_to _ hi]
@[simp] theorem sl_sfr {s : List Nat} {S : Store} {i : Int} (h : s.length ≤ 16777216) (hi : 0 ≤ i) : slD (.str s) (some (.int i)) none S = .ok (.str (s.drop i.toNat)) S := by simp [slD, intO, h, cut_from _ hi]
@[simp] theorem sl_smi {s : List Nat} {S : Store} {i j : Int} (h : s.length ≤ 16777216) (hi : 0 ≤ i) (hj : 0 ≤ j) : slD (.str s) (some (.int i)) (some (.int j)) S = .ok (.str ((s.drop i.toNat).take (j.toNat - i.toNat))) S := by simp [slD, intO, h, cut_mid _ hi hj]
@[simp] theorem sl_tto {s : List D} {S : Store} {i : Int} (hi : 0 ≤ i) : slD (.tup s) none (some (.int i)) S = .ok (.tup (s.take i.toNat)) S := by simp [slD, intO, cut_to _ hi]
@[simp] theorem sl_tfr {s : List D} {S : Store} {i : Int} (hi : 0 ≤ i) : slD (.tup s) (some (.int i)) none S = .ok (.tup (s.drop i.toNat)) S := by simp [slD, intO, cut_from _ hi]
@[simp] theorem sl_tmi {s : List D} {S : Store} {i j : Int} (hi : 0 ≤ i) (hj : 0 ≤ j) : slD (.tup s) (some (.int i)) (some (.int j)) S = .ok (.tup ((s.drop i.toNat).take (j.toNat - i.toNat))) S := by simp [slD, intO, cut_mid _ hi hj]
theorem sl_lto {n : Nat} {s : List D} {S : Store} {i : Int} (h : get S n = some (.lst s)) (hi : 0 ≤ i) : slD (.obj n) none (some (.int i)) S = .ok (.obj S.length) (.lst (s.take i.toNat) :: S) := by simp [slD, intO, h, cut_to _ hi]
theorem sl_lmi {n : Nat} {s : List D} {S : Store} {i j : Int} (h : get S n = some (.lst s)) (hi : 0 ≤ i) (hj : 0 ≤ j) : slD (.obj n) (some (.int i)) (some (.int j)) S = .ok (.obj S.length) (.lst ((s.drop i.toNat).take (j.toNat - i.toNat)) :: S) := by simp [slD, intO, h, cut_mid _ hi hj]
end Pw
namespace Pw
/-- what holds between the rounds of a loop: the names and the store by what changes -/
def Inv {α : Type} (E : α → Env) (T : α → Store) (A : Nat → α → Prop) (i : Nat) (env : Env) (S : Store) : Prop := ∃ a, A i a ∧ env = E a ∧ S = T a
theorem inv_cg {α : Type} {E : α → Env} {T : α → Store} {A : Nat → α → Prop} {i : Nat} {env env' : Env} {S S' : Store} (he : env = env') (hS : S = S') : Inv E T A i env S = Inv E T A i env' S' := by rw [he, hS]
theorem wp_forI {C : Ctx} {t : Tg} {body : List Stm} {ks : List Nat} {o : Option Nat} {Q : Flow → Store → Prop} {xs : List D} {α : Type} (E : α → Env) (T : α → Store) (A : Nat → α → Prop) (a0 : α) {env : Env} {S : Store}
    (h0 : A 0 a0) (he : env = E a0) (hS : S = T a0) (hg : ∀ a, stands o (obAt o S) (T a) = true)
    (hs : ∀ i x a, xs[i]? = some x → A i a → wp (match bind1 t x (E a) with | some env => evSs C body env (T a) | none => .bad) (rnd Q ks (T a) (Inv E T A (i + 1))))
    (hq : ∀ a, A xs.length a → Q (.nx (E a)) (T a)) : wp (forK C t body ks o xs env S) Q :=
  wp_for (fun i env S => Inv E T A i env S) ⟨a0, h0, he, hS⟩ (by rintro i env S' ⟨a, _, _, rfl⟩; exact hg a) (by rintro i x env S' hx ⟨a, ha, rfl, rfl⟩; exact hs i x a hx ha) (by rintro env S' ⟨a, ha, rfl, rfl⟩; exact hq a ha)
/-- the same for a row of n turns -/
theorem wp_forR {C : Ctx} {j : Nat} {body : List Stm} {ks : List Nat} {Q : Flow → Store → Prop} {α : Type} (n : Nat) (E : α → Env) (T : α → Store) (A : Nat → α → Prop) (a0 : α) {env : Env} {S : Store}
    (h0 : A 0 a0) (he : env = E a0) (hS : S = T a0)
    (hs : ∀ i a, i < n → A i a → wp (evSs C body ((E a).set j (some (.int i))) (T a)) (rnd Q ks (T a) (Inv E T A (i + 1))))
    (hq : ∀ a, A n a → Q (.nx (E a)) (T a)) : wp (forK C (.v j) body ks none ((List.range n).map fun i : Nat => D.int (i : Int)) env S) Q :=
  wp_forI E T A a0 h0 he hS (fun _ => rfl) (fun i x a hx ha => by obtain ⟨hi, rfl⟩ := range_at hx; exact hs i a hi ha) (fun a ha => hq a (by simpa using ha))
theorem wp_forRz {C : Ctx} {j : Nat} {body : List Stm} {ks : List Nat} {Q : Flow → Store → Prop} {α : Type} {z : Int} (n : Nat) (hz : z.toNat = n) (E : α → Env) (T : α → Store) (A : Nat → α → Prop) (a0 : α) {env : Env} {S : Store}
    (h0 : A 0 a0) (he : env = E a0) (hS : S = T a0)
    (hs : ∀ i a, i < n → A i a → wp (evSs C body ((E a).set j (some (.int i))) (T a)) (rnd Q ks (T a) (Inv E T A (i + 1))))
    (hq : ∀ a, A n a → Q (.nx (E a)) (T a)) : wp (forK C (.v j) body ks none (rngL 0 z) env S) Q := by
  rw [rngL_z, hz]; exact wp_forR n E T A a0 h0 he hS hs hq
end Pw
namespace Pw
@[simp] theorem fin_o2 {S : Store} {o a : SO} (ho : SO.bel S.length o = true) : fin S (o :: a :: S) (.obj (S.length + 1)) = .ok (.obj S.length) (o :: S) := fin_obj (pre := [o, a]) rfl (by omega) (get_self o (a :: S)) ho
@[simp] theorem fin_o3 {S : Store} {o a b : SO} (ho : SO.bel S.length o = true) : fin S (o :: a :: b :: S) (.obj (S.length + 1 + 1)) = .ok (.obj S.length) (o :: S) := fin_obj (pre := [o, a, b]) rfl (by omega) (get_self o (a :: b :: S)) ho
@[simp] theorem fin_u {S : Store} {o a : SO} (ho : SO.bel S.length o = true) : fin S (a :: o :: S) (.obj S.length) = .ok (.obj S.length) (o :: S) := fin_obj (pre := [a, o]) rfl (by omega) (get_under a o S) ho
@[simp] theorem fin_u2 {S : Store} {o a b : SO} (ho : SO.bel S.length o = true) : fin S (a :: b :: o :: S) (.obj S.length) = .ok (.obj S.length) (o :: S) := fin_obj (pre := [a, b, o]) rfl (by omega) (get_under2 a b o S) ho
@[simp] theorem fin_u1 {S : Store} {o a b : SO} (ho : SO.bel S.length o = true) : fin S (a :: o :: b :: S) (.obj (S.length + 1)) = .ok (.obj S.length) (o :: S) := fin_obj (pre := [a, o, b]) rfl (by omega) (get_over2 a o b S) ho
theorem setIx_d {S : Store} {n : Nat} {kvs : List (D × D)} {k v : D} (h : get S n = some (.dct kvs)) (hk : isKey k = true) (hl : kvs.length < 100000) : setIxD (.obj n) k v S = some (put S n (.dct (putD k v kvs))) := by simp [setIxD, h, hk, hl]
theorem setIx_l {S : Store} {n : Nat} {xs : List D} {i : Nat} {v : D} (h : get S n = some (.lst xs)) (hi : i < xs.length) : setIxD (.obj n) (.int (i : Int)) v S = some (put S n (.lst (xs.set i v))) := by simp [setIxD, h, hi]
@[simp] theorem isKey_s (s) : isKey (.str s) = true := rfl
/-- the keys of a dict that holds names -/
def nmD (ks : List (List Nat)) : List (D × D) := ks.map fun s => (.str s, .bl true)
@[simp] theorem nmD_len (ks : List (List Nat)) : (nmD ks).length = ks.length := by simp [nmD]
@[simp] theorem nmD_keys (ks : List (List Nat)) : (nmD ks).map (·.1) = ks.map .str := by simp [nmD, Function.comp_def]
theorem putD_nm (s : List Nat) : ∀ ks : List (List Nat), putD (.str s) (.bl true) (nmD ks) = nmD (if s ∈ ks then ks else ks ++ [s])
  | [] => rfl
  | k :: r => by
    show (if D.str k = D.str s then _ else _) = _
    by_cases h : k = s
    · subst h; simp [nmD]
    · have ih := putD_nm s r
      have hs : s ≠ k := fun e => h e.symm
      simp only [nmD] at ih
      simp only [D.str.injEq, h, if_false, List.mem_cons, hs, false_or, ih]
      split <;> simp [nmD]
theorem keysD_nm {S : Store} {n : Nat} {ks : List (List Nat)} (h : get S n = some (.dct (nmD ks))) (hl : ks.length < 64) : keysD (.obj n) S = some (ks.map .str) := by simp [keysD, h, hl, Function.comp_def, nmD]
theorem sortD_s {ts : List (List Nat)} (h : ts.length < 64) : sortD (ts.map .str) = some ((ts.mergeSort leL).map .str) := by
  cases ts with
  | nil => simp [sortD, intsD]
  | cons t r =>
    have e : strsD ((t :: r).map D.str) = some (t :: r) := by simpa using strsD_map (fun x => x) (t :: r)
    have i : intsD ((t :: r).map D.str) = none := rfl
    simp only [sortD, i, e, h, if_true]
theorem leL_trans (a b c : List Nat) (h1 : leL a b = true) (h2 : leL b c = true) : leL a c = true := by
  simp only [leL, Bool.not_eq_true', decide_eq_false_iff_not, List.not_lt] at *
  exact List.le_trans h1 h2
theorem leL_total (a b : List Nat) : (leL a b || leL b a) = true := by
  simp only [leL, Bool.or_eq_true, Bool.not_eq_true', decide_eq_false_iff_not, List.not_lt]
  exact List.le_total a b
theorem sort_asc {ts : List (List Nat)} (hn : ts.Nodup) : (ts.mergeSort leL).Pairwise (· < ·) := by
  have h1 := List.pairwise_mergeSort leL_trans leL_total ts
  have h2 : (ts.mergeSort leL).Nodup := (List.mergeSort_perm ts leL).nodup_iff.mpr hn
  refine (h1.and h2).imp fun {a b} h => ?_
  obtain ⟨h, hne⟩ := h
  simp only [leL, Bool.not_eq_true', decide_eq_false_iff_not, List.not_lt] at h
  rcases Decidable.em (a < b) with h' | h'
  · exact h'
  · exact absurd (List.le_antisymm h (List.not_lt.mp h')) hne
end Pw
namespace Pw
@[simp] theorem idx_un (a : SO) (xs : List D) (S : Store) (i : Nat) : idxD (.obj S.length) (.int (i : Int)) (a :: .lst xs :: S) = Res.of xs[i]? (a :: .lst xs :: S) := idx_l (get_under _ _ _) i
@[simp] theorem idx_un2 (a b : SO) (xs : List D) (S : Store) (i : Nat) : idxD (.obj S.length) (.int (i : Int)) (a :: b :: .lst xs :: S) = Res.of xs[i]? (a :: b :: .lst xs :: S) := idx_l (get_under2 _ _ _ _) i
end Pw
namespace Pw
@[simp] theorem pairsD_nil : pairsD [] = some [] := Eq.trans rfl rfl
@[simp] theorem pairsD_cons (k v r) : pairsD (k :: v :: r) = if isKey k then (pairsD r).map ((k, v) :: ·) else none := Eq.trans rfl rfl
@[simp] theorem nmD_nil : nmD [] = [] := Eq.trans rfl rfl
end Pw
namespace Pw
@[simp] theorem put_over (a b x : SO) (S : Store) : put (a :: b :: S) (S.length + 1) x = x :: b :: S := put_self a x (b :: S)
@[simp] theorem put_under (a b x : SO) (S : Store) : put (a :: b :: S) S.length x = a :: x :: S := by simp [put]
@[simp] theorem put_under2 (a b c x : SO) (S : Store) : put (a :: b :: c :: S) S.length x = a :: b :: x :: S := by simp [put]; omega
@[simp] theorem put_over2 (a b c x : SO) (S : Store) : put (a :: b :: c :: S) (S.length + 1) x = a :: x :: c :: S := by simp [put]
@[simp] theorem put_over3 (a b c x : SO) (S : Store) : put (a :: b :: c :: S) (S.length + 2) x = x :: b :: c :: S := by simp [put]
end Pw
namespace Pw
@[simp high] theorem setIx_n0 {S : Store} {ks : List (List Nat)} {s : List Nat} (h : ks.length < 100000) : setIxD (.obj S.length) (.str s) (.bl true) (.dct (nmD ks) :: S) = some (.dct (nmD (if s ∈ ks then ks else ks ++ [s])) :: S) := by
  rw [setIx_d (get_self _ _) rfl (by simpa using h), put_self, putD_nm]
@[simp high] theorem setIx_n1 {S : Store} {b : SO} {ks : List (List Nat)} {s : List Nat} (h : ks.length < 100000) : setIxD (.obj (S.length + 1)) (.str s) (.bl true) (.dct (nmD ks) :: b :: S) = some (.dct (nmD (if s ∈ ks then ks else ks ++ [s])) :: b :: S) := by
  rw [setIx_d (get_over _ _ _) rfl (by simpa using h), put_over, putD_nm]
end Pw
end
section
set_option linter.all false
/-! Pw27: what stands in the store, by simp -/
namespace Pw
@[simp] theorem get_cons (o : SO) (r : Store) (n : Nat) : get (o :: r) n = if n = r.length then some o else get r n := Eq.trans rfl rfl
@[simp] theorem put_cons (o : SO) (r : Store) (n : Nat) (x : SO) : put (o :: r) n x = if n = r.length then x :: r else o :: put r n x := Eq.trans rfl rfl
def idxG (g : Option SO) (i : Int) (S : Store) : Res D := match g with
  | some (.lst xs) => Res.of ((place xs.length i).bind fun j => xs[j]?) S
  | some (.ro xs) => Res.of ((place xs.length i).bind fun j => xs[j]?) S
  | _ => .bad
@[simp] theorem idx_G (n : Nat) (i : Int) (S : Store) : idxD (.obj n) (.int i) S = idxG (get S n) i S := by
  unfold idxG idxD
  rcases h : get S n with _ | o
  · simp [h]
  · cases o <;> simp [h]
@[simp] theorem idxG_n (xs : List D) (i : Nat) (S : Store) : idxG (some (.lst xs)) (i : Int) S = Res.of xs[i]? S := by simp only [idxG]; rw [place_q]
@[simp] theorem idxG_n1 (xs : List D) (i : Nat) (S : Store) : idxG (some (.lst xs)) ((i : Int) + 1) S = Res.of xs[i + 1]? S := idxG_n xs (i + 1) S
@[simp] theorem idxG_0 (xs : List D) (S : Store) : idxG (some (.lst xs)) 0 S = Res.of xs[0]? S := idxG_n xs 0 S
@[simp] theorem idxG_1 (xs : List D) (S : Store) : idxG (some (.lst xs)) 1 S = Res.of xs[1]? S := idxG_n xs 1 S
@[simp] theorem idxG_o (xs : List D) (k : Nat) (S : Store) : idxG (some (.lst xs)) (no_index (OfNat.ofNat k)) S = Res.of xs[k]? S := idxG_n xs k S
theorem idxG_z (xs : List D) {i : Int} (h : 0 ≤ i) (S : Store) : idxG (some (.lst xs)) i S = Res.of xs[i.toNat]? S := by
  have := idxG_n xs i.toNat S
  rwa [Int.toNat_of_nonneg h] at this
def lenG (g : Option SO) : Option Int := match g with
  | some (.lst xs) => some (xs.length : Int)
  | some (.ro xs) => some (xs.length : Int)
  | some (.dct xs) => some (xs.length : Int)
  | _ => none
@[simp] theorem len_G (S n) : lenD S (.obj n) = lenG (get S n) := by
  unfold lenG lenD
  rcases h : get S n with _ | o
  · simp [h]
  · cases o <;> simp [h]
@[simp] theorem lenG_l (xs) : lenG (some (.lst xs)) = some (List.length xs : Int) := Eq.trans rfl rfl
@[simp] theorem lenG_r (xs) : lenG (some (.ro xs)) = some (List.length xs : Int) := Eq.trans rfl rfl
@[simp] theorem lenG_d (xs) : lenG (some (.dct xs)) = some (List.length xs : Int) := Eq.trans rfl rfl
def truthG (g : Option SO) : Option Bool := match g with
  | some (.lst xs) => some (!xs.isEmpty)
  | some (.ro xs) => some (!xs.isEmpty)
  | some (.dct xs) => some (!xs.isEmpty)
  | _ => none
@[simp] theorem truth_G (S n) : truth S (.obj n) = truthG (get S n) := by
  unfold truthG truth
  rcases h : get S n with _ | o
  · simp [h]
  · cases o <;> simp [h]
@[simp] theorem truthG_l (xs) : truthG (some (.lst xs)) = some (!xs.isEmpty) := Eq.trans rfl rfl
def itemsG (n : Nat) (g : Option SO) : Option (List D × Option Nat) := match g with
  | some (.lst xs) => some (xs, some n)
  | some (.ro xs) => some (xs, some n)
  | _ => none
@[simp] theorem items_G (n S) : items (.obj n) S = itemsG n (get S n) := by
  unfold itemsG items
  rcases h : get S n with _ | o
  · simp [h]
  · cases o <;> simp [h]
@[simp] theorem itemsG_l (n xs) : itemsG n (some (.lst xs)) = some (xs, some n) := Eq.trans rfl rfl
def seqG (g : Option SO) : Option (List D) := match g with
  | some (.lst xs) => some xs
  | some (.ro xs) => some xs
  | _ => none
@[simp] theorem seq_G (n S) : seqD (.obj n) S = seqG (get S n) := by
  unfold seqG seqD
  rcases h : get S n with _ | o
  · simp [h]
  · cases o <;> simp [h]
@[simp] theorem seqG_l (xs) : seqG (some (.lst xs)) = some xs := Eq.trans rfl rfl
def isLG (g : Option SO) : Bool := match g with
  | some (.lst xs) => true
  | _ => false
@[simp] theorem isL_G (n S) : isL (.obj n) S = isLG (get S n) := by
  unfold isLG isL
  rcases h : get S n with _ | o
  · simp [h]
  · cases o <;> simp [h]
@[simp] theorem isLG_l (xs) : isLG (some (.lst xs)) = true := Eq.trans rfl rfl
def appG (n : Nat) (v : D) (g : Option SO) (S : Store) : Res D := match g with
  | some (.lst xs) => if xs.length < line then .ok .non (put S n (.lst (xs ++ [v]))) else .bad
  | _ => .bad
@[simp] theorem app_G (n v S) : appD (.obj n) v S = appG n v (get S n) S := by
  unfold appG appD
  rcases h : get S n with _ | o
  · simp [h]
  · cases o <;> simp [h]
@[simp] theorem appG_l {n v xs S} (h : List.length xs < 16777216) : appG n v (some (.lst xs)) S = .ok .non (put S n (.lst (xs ++ [v]))) := by unfold appG; simp only [lineN, h, if_true]
def setG (n : Nat) (i v : D) (g : Option SO) (S : Store) : Option Store := match g with
  | some (.lst xs) => (match i with
      | .int i => (place xs.length i).map fun j => put S n (.lst (xs.set j v))
      | _ => none)
  | some (.dct kvs) => if isKey i && decide (kvs.length < 100000) then some (put S n (.dct (putD i v kvs))) else none
  | _ => none
@[simp] theorem set_G (n i v S) : setIxD (.obj n) i v S = setG n i v (get S n) S := by
  unfold setG setIxD
  rcases h : get S n with _ | o
  · simp [h]
  · cases o <;> cases i <;> simp [h]
@[simp] theorem setG_l {n : Nat} {i : Nat} {v xs S} (h : i < List.length xs) : setG n (.int (i : Int)) v (some (.lst xs)) S = some (put S n (.lst (xs.set i v))) := by unfold setG; simp [h]
@[simp] theorem setG_d {n k v kvs S} (hk : isKey k = true) (h : List.length kvs < 100000) : setG n k v (some (.dct kvs)) S = some (put S n (.dct (putD k v kvs))) := by unfold setG; simp [h, hk]
def slG (g : Option SO) (l h : Option D) (S : Store) : Res D := match intO l, intO h with
  | some l, some h => (match g with
      | some (.lst xs) => .ok (.obj S.length) (.lst (cut xs l h) :: S)
      | _ => .bad)
  | _, _ => .bad
@[simp] theorem sl_G (n l h S) : slD (.obj n) l h S = slG (get S n) l h S := by
  unfold slG slD
  rcases h' : get S n with _ | o
  · cases intO l <;> cases intO h <;> simp [h']
  · cases o <;> cases intO l <;> cases intO h <;> simp [h']
@[simp] theorem slG_to {s : List D} {S : Store} {i : Int} (hi : 0 ≤ i) : slG (some (.lst s)) none (some (.int i)) S = .ok (.obj S.length) (.lst (s.take i.toNat) :: S) := by simp [slG, intO, cut_to _ hi]
@[simp] theorem slG_fr {s : List D} {S : Store} {i : Int} (hi : 0 ≤ i) : slG (some (.lst s)) (some (.int i)) none S = .ok (.obj S.length) (.lst (s.drop i.toNat) :: S) := by simp [slG, intO, cut_from _ hi]
@[simp] theorem slG_mi {s : List D} {S : Store} {i j : Int} (hi : 0 ≤ i) (hj : 0 ≤ j) : slG (some (.lst s)) (some (.int i)) (some (.int j)) S = .ok (.obj S.length) (.lst ((s.drop i.toNat).take (j.toNat - i.toNat)) :: S) := by simp [slG, intO, cut_mid _ hi hj]
def addG (a b : Option SO) (S : Store) : Res D := match a, b with
  | some (.lst x), some (.lst y) => if x.length + y.length ≤ line then .ok (.obj S.length) (.lst (x ++ y) :: S) else .bad
  | _, _ => .bad
@[simp] theorem add_G (a b S) : binD .add (.obj a) (.obj b) S = addG (get S a) (get S b) S := by
  unfold addG binD
  rcases h : get S a with _ | o
  · simp [h]
  · rcases h' : get S b with _ | o'
    · cases o <;> simp [h, h']
    · cases o <;> cases o' <;> simp [h, h']
@[simp] theorem addG_l {x y : List D} {S : Store} (h : x.length + y.length ≤ 16777216) : addG (some (.lst x)) (some (.lst y)) S = .ok (.obj S.length) (.lst (x ++ y) :: S) := by unfold addG; simp only [lineN, h, if_true]
def dinG (x : D) (g : Option SO) : Option Bool := match g with
  | some (.lst xs) => inD x xs
  | some (.ro xs) => inD x xs
  | _ => none
@[simp] theorem din_G (S x n) : din S x (.obj n) = dinG x (get S n) := by
  unfold dinG din
  rcases h : get S n with _ | o
  · simp [h]
  · cases o <;> simp [h]
@[simp] theorem dinG_l (x xs) : dinG x (some (.lst xs)) = inD x xs := Eq.trans rfl rfl
@[simp] theorem stands_none (S T) : stands none (obAt none S) T = true := rfl
@[simp] theorem stands_some (n S T) : stands (some n) (obAt (some n) S) T = decide (get T n = get S n) := Eq.trans rfl rfl
/-- a fresh object over anything that points below -/
theorem fin_any {S S' : Store} (pre : Store) {m : Nat} {o : SO} (h : S' = pre ++ S) (hm : S.length ≤ m) (hg : get S' m = some o) (ho : SO.bel S.length o = true) : fin S S' (.obj m) = .ok (.obj S.length) (o :: S) := fin_obj h hm hg ho
end Pw
namespace Pw
@[simp] theorem trim_g0 (a b : SO) (R : Store) (env : Env) : trim (a :: R) (b :: R) env = b :: R := trim_same (by simp)
@[simp] theorem trim_g1 {a b g : SO} {R : Store} {env : Env} (he : envBel (R.length + 1) env = true) (ho : SO.bel (R.length + 1) b = true) : trim (a :: R) (g :: b :: R) env = b :: R := trim_new (pre := [g]) he ho
@[simp] theorem trim_g2 {a b g h : SO} {R : Store} {env : Env} (he : envBel (R.length + 1) env = true) (ho : SO.bel (R.length + 1) b = true) : trim (a :: R) (g :: h :: b :: R) env = b :: R := trim_new (pre := [g, h]) he ho
@[simp] theorem trim_g3 {a b g h i : SO} {R : Store} {env : Env} (he : envBel (R.length + 1) env = true) (ho : SO.bel (R.length + 1) b = true) : trim (a :: R) (g :: h :: i :: b :: R) env = b :: R := trim_new (pre := [g, h, i]) he ho
end Pw
namespace Pw
@[simp] theorem bels_take {n k : Nat} {xs : List D} (h : D.bels n xs = true) : D.bels n (xs.take k) = true := by
  rw [belsA, List.all_eq_true] at *; exact fun x hx => h x (List.mem_of_mem_take hx)
@[simp] theorem bels_drop {n k : Nat} {xs : List D} (h : D.bels n xs = true) : D.bels n (xs.drop k) = true := by
  rw [belsA, List.all_eq_true] at *; exact fun x hx => h x (List.mem_of_mem_drop hx)
end Pw
namespace Pw
theorem place_r (xs : List D) (i : Nat) (S : Store) : idxG (some (.ro xs)) (i : Int) S = Res.of xs[i]? S := by simp only [idxG]; rw [place_q]
@[simp] theorem idxG_rn (xs : List D) (i : Nat) (S : Store) : idxG (some (.ro xs)) (i : Int) S = Res.of xs[i]? S := place_r xs i S
@[simp] theorem idxG_ro (xs : List D) (k : Nat) (S : Store) : idxG (some (.ro xs)) (no_index (OfNat.ofNat k)) S = Res.of xs[k]? S := place_r xs k S
end Pw
namespace Pw
@[simp high] theorem setG_nm {n : Nat} {ks : List (List Nat)} {s : List Nat} {S : Store} (h : ks.length < 100000) : setG n (.str s) (.bl true) (some (.dct (nmD ks))) S = some (put S n (.dct (nmD (if s ∈ ks then ks else ks ++ [s])))) := by
  rw [setG_d rfl (by simpa using h), putD_nm]
end Pw
end
section
set_option Elab.async false
set_option linter.all false
set_option maxRecDepth 100000
set_option maxHeartbeats 0
namespace HT
open PySem PySem.Spec PyProof.Rows L2 Pw
abbrev R : PySem.W.OpenRow := PySem.W.OpenLaw.row PySem.Challenge.rw_pullwire_k27_contests
def top (i : Nat) : Stmt := R.prog.main.body.getD i (.Pass ⟨0, 0, 0, 0⟩)
def gtab : List D := [.str [97, 98, 99, 100, 101, 102, 103, 104, 105, 106, 107, 108, 109, 110, 111, 112, 113, 114, 115, 116, 117, 118, 119, 120, 121, 122], .str [97, 98, 99, 100, 101, 102, 103, 104, 105, 106, 107, 108, 109, 110, 111, 112, 113, 114, 115, 116, 117, 118, 119, 120, 121, 122, 48, 49, 50, 51, 52, 53, 54, 55, 56, 57], .int 8, .int 24, .int 12, .int 6, .int 8]
def ctab : Classes := [[0, 15], [1, 0, 15], [2, 0, 15], [3, 0, 15], [4, 0, 15], [5, 0, 15], [6, 0, 15], [7, 0, 15], [8, 0, 15], [9, 0, 15], [10, 0, 15], [11, 0, 15], [12, 0, 15], [13, 0, 15], [14, 0, 15], [15]]
/-- is_name, 0:value 1:sign -/
def b0 : List Stm :=
  [.ite (.or (.not (.val (.isI (.v 0) [.str]))) (.not (.val (.chn .le .le (.c (.int 1)) (.f1 .len (.v 0)) (.g 2))))) [.ret (.c (.bl false))] [],
  .ite (.val (.cmp .nin (.idx (.v 0) (.c (.int 0))) (.g 0))) [.ret (.c (.bl false))] [],
  .ret (.allOf (.comp (.cmp .inn (.v 1) (.g 1)) (.v 1) (.val (.v 0)) []))]
def d0 : Dd := ⟨"is_name", ["value"], ["value", "sign"], defArgs (top 20), defBody (top 20), defScope (top 20), ⟨1, 2, b0⟩⟩
/-- is_ascending, 0:values 1:k -/
def b1 : List Stm :=
  [.ret (.allOf (.comp (.cmp .lt (.idx (.v 0) (.v 1)) (.idx (.v 0) (.bin .add (.v 1) (.c (.int 1))))) (.v 1) (.rng (.bin .sub (.f1 .len (.v 0)) (.c (.int 1)))) []))]
def d1 : Dd := ⟨"is_ascending", ["values"], ["values", "k"], defArgs (top 21), defBody (top 21), defScope (top 21), ⟨1, 2, b1⟩⟩
/-- is_named_pairs, 0:value 1:low 2:high 3:pair -/
def b2 : List Stm :=
  [.ite (.or (.not (.val (.isI (.v 0) [.tuple]))) (.not (.val (.chn .le .le (.v 1) (.f1 .len (.v 0)) (.v 2))))) [.ret (.c (.bl false))] [],
  .forS (.v 3) (.val (.v 0)) [.ite (.or (.not (.val (.isI (.v 3) [.tuple]))) (.or (.val (.cmp .ne (.f1 .len (.v 3)) (.c (.int 2)))) (.not (.val (.call 0 [.idx (.v 3) (.c (.int 0))]))))) [.ret (.c (.bl false))] []] [],
  .ret (.call 1 [.ls (.comp (.idx (.v 3) (.c (.int 0))) (.v 3) (.val (.v 0)) [])])]
def d2 : Dd := ⟨"is_named_pairs", ["value", "low", "high"], ["value", "low", "high", "pair"], defArgs (top 22), defBody (top 22), defScope (top 22), ⟨3, 4, b2⟩⟩
/-- is_signs, 0:value 1:sign -/
def b3 : List Stm :=
  [.ret (.andV (.isI (.v 0) [.str]) (.allOf (.comp (.cmp .inn (.v 1) (.c (.str [48, 49]))) (.v 1) (.val (.v 0)) [])))]
def d3 : Dd := ⟨"is_signs", ["value"], ["value", "sign"], defArgs (top 25), defBody (top 25), defScope (top 25), ⟨1, 2, b3⟩⟩
/-- is_word, 0:value -/
def b4 : List Stm :=
  [.ret (.andV (.isI (.v 0) [.str]) (.andV (.chn .le .le (.c (.int 1)) (.f1 .len (.v 0)) (.g 3)) (.call 3 [.v 0])))]
def d4 : Dd := ⟨"is_word", ["value"], ["value"], defArgs (top 26), defBody (top 26), defScope (top 26), ⟨1, 1, b4⟩⟩
/-- is_wishes, 0:value 1:wish -/
def b5 : List Stm :=
  [.ite (.not (.val (.call 2 [.v 0, .c (.int 0), .g 4]))) [.ret (.c (.bl false))] [],
  .ret (.allOf (.comp (.call 4 [.idx (.v 1) (.c (.int 1))]) (.v 1) (.val (.v 0)) []))]
def d5 : Dd := ⟨"is_wishes", ["value"], ["value", "wish"], defArgs (top 29), defBody (top 29), defScope (top 29), ⟨1, 2, b5⟩⟩
/-- run_contest, 0:frames 1:frame 2:k 3:level 4:levels 5:lost 6:t 7:talking -/
def b6 : List Stm :=
  [.set (.v 5) (.ls (.comp (.neg (.c (.int 1))) (.v 1) (.val (.v 0)) [])),
  .set (.v 4) (.c (.str [])),
  .whl (.val (.c (.bl true))) [.set (.v 6) (.f1 .len (.v 4)),
    .set (.v 7) (.ls (.comp (.v 2) (.v 2) (.rng (.f1 .len (.v 0))) [.and (.val (.cmp .lt (.idx (.v 5) (.v 2)) (.c (.int 0)))) (.val (.cmp .lt (.v 6) (.f1 .len (.idx (.v 0) (.v 2)))))])),
    .ite (.val (.cmp .eq (.f1 .len (.v 7)) (.c (.int 0)))) [.ret (.tup [.v 4, .v 5])] [],
    .set (.v 3) (.c (.str [49])),
    .ite (.val (.anyOf (.comp (.cmp .eq (.idx (.idx (.v 0) (.v 2)) (.v 6)) (.c (.str [48]))) (.v 2) (.val (.v 7)) []))) [.set (.v 3) (.c (.str [48]))] [],
    .forS (.v 2) (.val (.v 7)) [.ite (.val (.cmp .ne (.idx (.idx (.v 0) (.v 2)) (.v 6)) (.v 3))) [.setIx (.v 5) (.v 2) (.v 6)] []] [],
    .set (.v 4) (.bin .add (.v 4) (.v 3))] [3, 6, 7]]
def d6 : Dd := ⟨"run_contest", ["frames"], ["frames", "frame", "k", "level", "levels", "lost", "t", "talking"], defArgs (top 30), defBody (top 30), defScope (top 30), ⟨1, 8, b6⟩⟩
/-- contest, 0:wishes 1:chip 2:ends 3:frame 4:k 5:levels 6:lost 7:wish -/
def b7 : List Stm :=
  [.ite (.not (.val (.call 5 [.v 0]))) [.rais 8 []] [],
  .set (.tup [5, 6]) (.call 6 [.ls (.comp (.idx (.v 7) (.c (.int 1))) (.v 7) (.val (.v 0)) [])]),
  .set (.v 2) (.ls (.disp [])),
  .forS (.v 4) (.rng (.f1 .len (.v 0))) [.set (.tup [1, 3]) (.idx (.v 0) (.v 4)),
    .ite (.val (.cmp .lt (.idx (.v 6) (.v 4)) (.c (.int 0)))) [.ex (.app (.v 2) (.tup [.v 1, .c (.str [119, 111, 110]), .f1 .len (.v 3)]))] [.ex (.app (.v 2) (.tup [.v 1, .c (.str [108, 111, 115, 116]), .idx (.v 6) (.v 4)]))]] [1, 3, 4],
  .ret (.tup [.v 5, .tupOf (.seq (.v 2))])]
def d7 : Dd := ⟨"contest", ["wishes"], ["wishes", "chip", "ends", "frame", "k", "levels", "lost", "wish"], defArgs (top 31), defBody (top 31), defScope (top 31), ⟨1, 8, b7⟩⟩
/-- is_frames, 0:value 1:frame -/
def b8 : List Stm :=
  [.ite (.or (.not (.val (.isI (.v 0) [.tuple]))) (.not (.val (.chn .le .le (.c (.int 1)) (.f1 .len (.v 0)) (.g 6))))) [.ret (.c (.bl false))] [],
  .ret (.andV (.allOf (.comp (.call 4 [.v 1]) (.v 1) (.val (.v 0)) [])) (.call 1 [.v 0]))]
def d8 : Dd := ⟨"is_frames", ["value"], ["value", "frame"], defArgs (top 35), defBody (top 35), defScope (top 35), ⟨1, 2, b8⟩⟩
/-- is_books, 0:value 1:book -/
def b9 : List Stm :=
  [.ite (.not (.val (.call 2 [.v 0, .c (.int 0), .g 5]))) [.ret (.c (.bl false))] [],
  .ret (.allOf (.comp (.call 8 [.idx (.v 1) (.c (.int 1))]) (.v 1) (.val (.v 0)) []))]
def d9 : Dd := ⟨"is_books", ["value"], ["value", "book"], defArgs (top 36), defBody (top 36), defScope (top 36), ⟨1, 2, b9⟩⟩
/-- check_books, 0:books -/
def b10 : List Stm :=
  [.ite (.not (.val (.call 9 [.v 0]))) [.rais 8 []] []]
def d10 : Dd := ⟨"check_books", ["books"], ["books"], defArgs (top 37), defBody (top 37), defScope (top 37), ⟨1, 1, b10⟩⟩
/-- all_entries, 0:books 1:chip 2:frame 3:frames -/
def b11 : List Stm :=
  [.ret (.ls (.comp2 (.tup [.v 1, .v 2]) (.tup [1, 3]) (.val (.v 0)) [] (.v 2) (.val (.v 3)) []))]
def d11 : Dd := ⟨"all_entries", ["books"], ["books", "chip", "frame", "frames"], defArgs (top 38), defBody (top 38), defScope (top 38), ⟨1, 4, b11⟩⟩
/-- overlap, 0:books 1:chip 2:entries 3:frame 4:longer 5:other -/
def b12 : List Stm :=
  [.ex (.call 10 [.v 0]),
  .set (.v 2) (.call 11 [.v 0]),
  .forS (.tup [1, 3]) (.val (.v 2)) [.forS (.tup [5, 4]) (.val (.v 2)) [.ite (.and (.val (.cmp .ne (.v 1) (.v 5))) (.and (.val (.cmp .lt (.f1 .len (.v 3)) (.f1 .len (.v 4)))) (.val (.sw (.v 4) (.v 3))))) [.ret (.tup [.tup [.v 1, .v 3], .tup [.v 5, .v 4]])] []] [4, 5]] [1, 3, 4, 5],
  .ret (.c (.non))]
def d12 : Dd := ⟨"overlap", ["books"], ["books", "chip", "entries", "frame", "longer", "other"], defArgs (top 39), defBody (top 39), defScope (top 39), ⟨1, 6, b12⟩⟩
/-- twin, 0:books 1:chip 2:entries 3:frame 4:other 5:same -/
def b13 : List Stm :=
  [.ex (.call 10 [.v 0]),
  .set (.v 2) (.call 11 [.v 0]),
  .forS (.tup [1, 3]) (.val (.v 2)) [.forS (.tup [4, 5]) (.val (.v 2)) [.ite (.and (.val (.cmp .lt (.v 1) (.v 4))) (.val (.cmp .eq (.v 3) (.v 5)))) [.ret (.tup [.tup [.v 1, .v 3], .tup [.v 4, .v 5]])] []] [4, 5]] [1, 3, 4, 5],
  .ret (.c (.non))]
def d13 : Dd := ⟨"twin", ["books"], ["books", "chip", "entries", "frame", "other", "same"], defArgs (top 40), defBody (top 40), defScope (top 40), ⟨1, 6, b13⟩⟩
/-- _law_cell, 0:script 1:k -/
def b14 : List Stm :=
  [.ite (.val (.cmp .lt (.v 1) (.f1 .len (.v 0)))) [.ret (.f1 .int (.idx (.v 0) (.v 1)))] [],
  .ite (.val (.cmp .gt (.f1 .len (.v 0)) (.c (.int 0)))) [.ret (.bin .add (.bin .add (.bin .mul (.bin .mod (.f1 .int (.idx (.v 0) (.c (.int 0)))) (.c (.int 1000003))) (.bin .add (.v 1) (.c (.int 3)))) (.bin .mul (.c (.int 11)) (.v 1))) (.f1 .len (.v 0)))] [],
  .ret (.bin .add (.bin .mul (.c (.int 9)) (.v 1)) (.c (.int 4)))]
def d14 : Dd := ⟨"_law_cell", ["script", "k"], ["script", "k"], defArgs (top 42), defBody (top 42), defScope (top 42), ⟨2, 2, b14⟩⟩
/-- _law_numbers, 0:cell 1:base 2:count 3:by_digits 4:k 5:numbers 6:rest 7:seed -/
def b15 : List Stm :=
  [.set (.v 5) (.ls (.disp [])),
  .set (.v 6) (.f1 .int (.v 0)),
  .set (.v 7) (.bin .mod (.f1 .int (.v 0)) (.c (.int 2305843009213693951))),
  .set (.v 3) (.cmp .ge (.v 6) (.bin .pow (.c (.int 10)) (.c (.int 18)))),
  .forS (.v 4) (.rng (.v 2)) [.ite (.val (.v 3)) [.ex (.app (.v 5) (.bin .mod (.f1 .int (.v 6)) (.v 1))),
      .set (.v 6) (.bin .fdiv (.v 6) (.v 1))] [.set (.v 7) (.bin .mod (.f1 .int (.bin .add (.bin .add (.bin .mul (.v 7) (.c (.int 48271))) (.bin .mul (.c (.int 40692)) (.v 4))) (.c (.int 11)))) (.c (.int 2305843009213693951))),
      .set (.v 7) (.bin .mod (.f1 .int (.bin .add (.bin .mul (.v 7) (.c (.int 69621))) (.c (.int 7)))) (.c (.int 2305843009213693951))),
      .ex (.app (.v 5) (.bin .mod (.f1 .int (.bin .fdiv (.v 7) (.c (.int 4096)))) (.v 1)))]] [4],
  .ret (.v 5)]
def d15 : Dd := ⟨"_law_numbers", ["cell", "base", "count"], ["cell", "base", "count", "by_digits", "k", "numbers", "rest", "seed"], defArgs (top 43), defBody (top 43), defScope (top 43), ⟨3, 8, b15⟩⟩
/-- _law_name, 0:number 1:size 2:k 3:letters 4:name 5:rest 6:signs -/
def b16 : List Stm :=
  [.set (.v 3) (.c (.str [97, 98, 99, 100, 101, 102, 103, 104, 105, 106, 107, 108, 109, 110, 111, 112, 113, 114, 115, 116, 117, 118, 119, 120, 121, 122])),
  .set (.v 6) (.bin .add (.v 3) (.c (.str [48, 49, 50, 51, 52, 53, 54, 55, 56, 57]))),
  .set (.v 4) (.idx (.v 3) (.bin .mod (.f1 .int (.v 0)) (.c (.int 26)))),
  .set (.v 5) (.bin .fdiv (.f1 .int (.v 0)) (.c (.int 26))),
  .forS (.v 2) (.rng (.bin .sub (.v 1) (.c (.int 1)))) [.set (.v 4) (.bin .add (.v 4) (.idx (.v 6) (.bin .mod (.f1 .int (.v 5)) (.c (.int 36))))),
    .set (.v 5) (.bin .fdiv (.v 5) (.c (.int 36)))] [2],
  .ret (.v 4)]
def d16 : Dd := ⟨"_law_name", ["number", "size"], ["number", "size", "k", "letters", "name", "rest", "signs"], defArgs (top 44), defBody (top 44), defScope (top 44), ⟨2, 7, b16⟩⟩
/-- _law_names, 0:cell 1:count 2:k 3:met 4:name 5:numbers 6:place 7:signs 8:size 9:stem -/
def b17 : List Stm :=
  [.set (.v 7) (.c (.str [48, 49, 50, 51, 52, 53, 54, 55, 56, 57, 97, 98, 99, 100, 101, 102, 103, 104, 105, 106, 107, 108, 109, 110, 111, 112, 113, 114, 115, 116, 117, 118, 119, 120, 121, 122])),
  .set (.v 5) (.call 15 [.v 0, .bin .mul (.c (.int 2)) (.bin .pow (.c (.int 10)) (.c (.int 13))), .c (.int 13)]),
  .set (.v 8) (.bin .add (.c (.int 2)) (.bin .mod (.f1 .int (.bin .fdiv (.idx (.v 5) (.c (.int 12))) (.c (.int 2)))) (.c (.int 7)))),
  .set (.v 6) (.bin .add (.c (.int 1)) (.bin .mod (.f1 .int (.bin .fdiv (.idx (.v 5) (.c (.int 12))) (.c (.int 14)))) (.bin .sub (.v 8) (.c (.int 1))))),
  .set (.v 9) (.call 16 [.bin .fdiv (.idx (.v 5) (.c (.int 12))) (.c (.int 84)), .v 8]),
  .set (.v 3) (.dct []),
  .forS (.v 2) (.rng (.v 1)) [.set (.v 4) (.call 16 [.bin .fdiv (.idx (.v 5) (.v 2)) (.c (.int 8)), .bin .add (.c (.int 1)) (.bin .mod (.f1 .int (.idx (.v 5) (.v 2))) (.c (.int 8)))]),
    .ite (.val (.cmp .eq (.bin .mod (.f1 .int (.idx (.v 5) (.c (.int 12)))) (.c (.int 2))) (.c (.int 1)))) [.set (.v 4) (.bin .add (.bin .add (.sl (.v 9) none (some (.v 6))) (.idx (.v 7) (.bin .add (.bin .mul (.c (.int 3)) (.v 2)) (.bin .mod (.f1 .int (.idx (.v 5) (.v 2))) (.c (.int 3)))))) (.sl (.v 9) (some (.bin .add (.v 6) (.c (.int 1)))) none))] [],
    .setIx (.v 3) (.v 4) (.c (.bl true))] [2, 4],
  .ret (.sorted (.keys (.v 3)))]
def d17 : Dd := ⟨"_law_names", ["cell", "count"], ["cell", "count", "k", "met", "name", "numbers", "place", "signs", "size", "stem"], defArgs (top 45), defBody (top 45), defScope (top 45), ⟨2, 10, b17⟩⟩
/-- _law_bits, 0:number 1:size 2:k 3:rest 4:word -/
def b18 : List Stm :=
  [.set (.v 4) (.c (.str [])),
  .set (.v 3) (.f1 .int (.v 0)),
  .forS (.v 2) (.rng (.v 1)) [.set (.v 4) (.bin .add (.v 4) (.idx (.c (.str [48, 49])) (.bin .mod (.f1 .int (.v 3)) (.c (.int 2))))),
    .set (.v 3) (.bin .fdiv (.v 3) (.c (.int 2)))] [2],
  .ret (.v 4)]
def d18 : Dd := ⟨"_law_bits", ["number", "size"], ["number", "size", "k", "rest", "word"], defArgs (top 46), defBody (top 46), defScope (top 46), ⟨2, 5, b18⟩⟩
/-- _law_frames, 0:cell 1:count 2:before 3:frame 4:frames 5:kind 6:number 7:size -/
def b19 : List Stm :=
  [.set (.v 4) (.ls (.disp [])),
  .set (.v 2) (.c (.str [49])),
  .forS (.v 6) (.val (.call 15 [.v 0, .bin .mul (.c (.int 96)) (.bin .pow (.c (.int 2)) (.c (.int 24))), .v 1])) [.set (.v 5) (.bin .mod (.f1 .int (.v 6)) (.c (.int 4))),
    .set (.v 7) (.bin .add (.c (.int 1)) (.bin .mod (.f1 .int (.bin .fdiv (.v 6) (.c (.int 4)))) (.c (.int 24)))),
    .set (.v 3) (.call 18 [.bin .fdiv (.v 6) (.c (.int 96)), .v 7]),
    .ite (.val (.cmp .eq (.v 5) (.c (.int 1)))) [.set (.v 3) (.sl (.v 3) none (some (.bin .add (.c (.int 1)) (.bin .mod (.f1 .int (.v 7)) (.c (.int 3))))))] [],
    .ite (.val (.cmp .eq (.v 5) (.c (.int 2)))) [.set (.v 3) (.sl (.v 2) none (some (.v 7)))] [],
    .ite (.val (.cmp .eq (.v 5) (.c (.int 3)))) [.set (.v 3) (.sl (.bin .add (.v 2) (.v 3)) none (some (.c (.int 24))))] [],
    .ex (.app (.v 4) (.v 3)),
    .set (.v 2) (.v 3)] [3, 5, 6, 7],
  .ret (.v 4)]
def d19 : Dd := ⟨"_law_frames", ["cell", "count"], ["cell", "count", "before", "frame", "frames", "kind", "number", "size"], defArgs (top 47), defBody (top 47), defScope (top 47), ⟨2, 8, b19⟩⟩
/-- _law_same, 0:actual 1:due 2:k -/
def b20 : List Stm :=
  [.ite (.val (.cmp .is (.v 1) (.c (.non)))) [.ret (.cmp .is (.v 0) (.c (.non)))] [],
  .ite (.val (.isI (.v 1) [.tuple])) [.ite (.or (.not (.val (.isI (.v 0) [.tuple]))) (.val (.cmp .ne (.f1 .len (.v 0)) (.f1 .len (.v 1))))) [.ret (.c (.bl false))] [],
    .ret (.allOf (.comp (.call 20 [.idx (.v 0) (.v 2), .idx (.v 1) (.v 2)]) (.v 2) (.rng (.f1 .len (.v 1))) []))] [],
  .ite (.val (.isI (.v 1) [.bool])) [.ret (.andV (.isI (.v 0) [.bool]) (.cmp .eq (.v 0) (.v 1)))] [],
  .ite (.val (.isI (.v 1) [.int])) [.ret (.andV (.isI (.v 0) [.int]) (.andV (.notV (.isI (.v 0) [.bool])) (.cmp .eq (.v 0) (.v 1))))] [],
  .ret (.andV (.isI (.v 0) [.str]) (.cmp .eq (.v 0) (.v 1)))]
def d20 : Dd := ⟨"_law_same", ["actual", "due"], ["actual", "due", "k"], defArgs (top 48), defBody (top 48), defScope (top 48), ⟨2, 3, b20⟩⟩
/-- _law_contest, 0:wishes 1:chip 2:ends 3:frame 4:least 5:padded 6:t 7:tick 8:ticks 9:word -/
def b21 : List Stm :=
  [.set (.v 4) (.c (.str [])),
  .forS (.tup [1, 3]) (.val (.v 0)) [.set (.v 5) (.bin .add (.v 3) (.bin .mul (.c (.str [49])) (.bin .sub (.c (.int 24)) (.f1 .len (.v 3))))),
    .ite (.or (.val (.cmp .eq (.v 4) (.c (.str [])))) (.val (.cmp .lt (.v 5) (.v 4)))) [.set (.v 4) (.v 5)] []] [1, 3, 5],
  .set (.v 2) (.ls (.disp [])),
  .set (.v 8) (.c (.int 0)),
  .forS (.tup [1, 3]) (.val (.v 0)) [.set (.v 9) (.c (.str [119, 111, 110])),
    .set (.v 7) (.f1 .len (.v 3)),
    .forS (.v 6) (.rng (.f1 .len (.v 3))) [.ite (.and (.val (.cmp .eq (.v 9) (.c (.str [119, 111, 110])))) (.and (.val (.cmp .eq (.idx (.v 3) (.v 6)) (.c (.str [49])))) (.val (.cmp .eq (.idx (.v 4) (.v 6)) (.c (.str [48])))))) [.set (.v 9) (.c (.str [108, 111, 115, 116])),
        .set (.v 7) (.v 6)] []] [6],
    .ex (.app (.v 2) (.tup [.v 1, .v 9, .v 7])),
    .set (.v 8) (.f2 .max (.v 8) (.bin .add (.v 7) (.f1 .int (.cmp .eq (.v 9) (.c (.str [108, 111, 115, 116]))))))] [1, 3, 6, 7, 9],
  .ret (.tup [.sl (.v 4) none (some (.v 8)), .tupOf (.seq (.v 2))])]
def d21 : Dd := ⟨"_law_contest", ["wishes"], ["wishes", "chip", "ends", "frame", "least", "padded", "t", "tick", "ticks", "word"], defArgs (top 49), defBody (top 49), defScope (top 49), ⟨1, 10, b21⟩⟩
/-- _law_books, 0:script 1:names 2:books 3:counts 4:frames 5:j 6:k 7:met -/
def b22 : List Stm :=
  [.set (.v 3) (.call 15 [.call 14 [.v 0, .c (.int 4)], .c (.int 8), .c (.int 6)]),
  .set (.v 4) (.call 19 [.call 14 [.v 0, .c (.int 5)], .c (.int 48)]),
  .set (.v 2) (.ls (.disp [])),
  .forS (.v 6) (.rng (.f2 .min (.f1 .len (.v 1)) (.c (.int 6)))) [.set (.v 7) (.dct []),
    .forS (.v 5) (.rng (.bin .add (.c (.int 1)) (.idx (.v 3) (.v 6)))) [.setIx (.v 7) (.idx (.v 4) (.bin .add (.bin .mul (.c (.int 8)) (.v 6)) (.v 5))) (.c (.bl true))] [5],
    .ex (.app (.v 2) (.tup [.idx (.v 1) (.v 6), .tupOf (.seq (.sorted (.keys (.v 7))))]))] [5, 6, 7],
  .ret (.tupOf (.seq (.v 2)))]
def d22 : Dd := ⟨"_law_books", ["script", "names"], ["script", "names", "books", "counts", "frames", "j", "k", "met"], defArgs (top 50), defBody (top 50), defScope (top 50), ⟨2, 8, b22⟩⟩
/-- _law_overlap, 0:books 1:chip 2:found 3:frame 4:frames 5:longer 6:other 7:others -/
def b23 : List Stm :=
  [.set (.v 2) (.ls (.disp [])),
  .forS (.tup [1, 4]) (.val (.v 0)) [.forS (.v 3) (.val (.v 4)) [.forS (.tup [6, 7]) (.val (.v 0)) [.forS (.v 5) (.val (.v 7)) [.ite (.and (.val (.cmp .ne (.v 6) (.v 1))) (.and (.val (.cmp .gt (.f1 .len (.v 5)) (.f1 .len (.v 3)))) (.val (.cmp .eq (.sl (.v 5) none (some (.f1 .len (.v 3)))) (.v 3))))) [.ex (.app (.v 2) (.tup [.tup [.v 1, .v 3], .tup [.v 6, .v 5]]))] []] [5]] [5, 6, 7]] [3, 5, 6, 7]] [1, 3, 4, 5, 6, 7],
  .ite (.val (.cmp .eq (.f1 .len (.v 2)) (.c (.int 0)))) [.ret (.c (.non))] [],
  .ret (.minOf (.lis (.v 2)))]
def d23 : Dd := ⟨"_law_overlap", ["books"], ["books", "chip", "found", "frame", "frames", "longer", "other", "others"], defArgs (top 51), defBody (top 51), defScope (top 51), ⟨1, 8, b23⟩⟩
/-- _law_twin, 0:books 1:chip 2:found 3:frame 4:frames 5:other 6:others -/
def b24 : List Stm :=
  [.set (.v 2) (.ls (.disp [])),
  .forS (.tup [1, 4]) (.val (.v 0)) [.forS (.tup [5, 6]) (.val (.v 0)) [.forS (.v 3) (.val (.v 6)) [.ite (.and (.val (.cmp .lt (.v 1) (.v 5))) (.val (.cmp .inn (.v 3) (.v 4)))) [.ex (.app (.v 2) (.tup [.tup [.v 1, .v 3], .tup [.v 5, .v 3]]))] []] [3]] [3, 5, 6]] [1, 3, 4, 5, 6],
  .ite (.val (.cmp .eq (.f1 .len (.v 2)) (.c (.int 0)))) [.ret (.c (.non))] [],
  .ret (.minOf (.lis (.v 2)))]
def d24 : Dd := ⟨"_law_twin", ["books"], ["books", "chip", "found", "frame", "frames", "other", "others"], defArgs (top 52), defBody (top 52), defScope (top 52), ⟨1, 7, b24⟩⟩
/-- _law_many_wishes, 0:count 1:frames 2:k -/
def b25 : List Stm :=
  [.ret (.tupOf (.comp (.tup [.bin .add (.c (.str [110])) (.idx (.c (.str [48, 49, 50, 51, 52, 53, 54, 55, 56, 57, 97, 98, 99])) (.v 2)), .idx (.v 1) (.bin .mod (.f1 .int (.v 2)) (.f1 .len (.v 1)))]) (.v 2) (.rng (.v 0)) []))]
def d25 : Dd := ⟨"_law_many_wishes", ["count", "frames"], ["count", "frames", "k"], defArgs (top 53), defBody (top 53), defScope (top 53), ⟨2, 3, b25⟩⟩
/-- _law_spoilt_wishes, 0:wishes 1:place 2:frames 3:begin 4:chip 5:end 6:first 7:frame 8:last 9:name 10:pair 11:values 12:wrong -/
def b26 : List Stm :=
  [.set (.v 6) (.idx (.v 0) (.c (.int 0))),
  .set (.v 8) (.idx (.v 0) (.bin .sub (.f1 .len (.v 0)) (.c (.int 1)))),
  .set (.v 3) (.sl (.v 0) none (some (.bin .sub (.f1 .len (.v 0)) (.c (.int 1))))),
  .set (.v 5) (.sl (.v 0) (some (.c (.int 1))) none),
  .set (.v 11) (.ls (.disp [.c (.non), .c (.bl true), .c (.int 0), .c (.str []), .idx (.v 6) (.c (.int 1)), .ls (.disp []), .dct [], .dct [.idx (.v 6) (.c (.int 0)), .idx (.v 6) (.c (.int 1))], .ls (.seq (.v 0)), .v 6, .bin .add (.v 0) (.tup [.c (.non)]), .bin .add (.v 0) (.tup [.tup []])])),
  .forS (.v 9) (.val (.ls (.disp [.c (.str []), .bin .add (.c (.str [48])) (.sl (.idx (.v 6) (.c (.int 0))) (some (.c (.int 1))) none), .bin .add (.c (.str [65])) (.sl (.idx (.v 6) (.c (.int 0))) (some (.c (.int 1))) none), .bin .add (.c (.str [95])) (.sl (.idx (.v 6) (.c (.int 0))) (some (.c (.int 1))) none)]))) [.ex (.app (.v 11) (.bin .add (.tup [.tup [.v 9, .idx (.v 6) (.c (.int 1))]]) (.v 5)))] [9],
  .forS (.v 9) (.val (.ls (.disp [.sl (.bin .add (.idx (.v 8) (.c (.int 0))) (.c (.str [48, 48, 48, 48, 48, 48, 48, 48]))) none (some (.c (.int 9))), .bin .add (.sl (.idx (.v 8) (.c (.int 0))) none (some (.c (.int 7)))) (.c (.str [126])), .c (.non), .c (.int 7), .c (.bl true), .ls (.disp [.idx (.v 8) (.c (.int 0))]), .tup [.idx (.v 8) (.c (.int 0))]]))) [.ex (.app (.v 11) (.bin .add (.v 3) (.tup [.tup [.v 9, .idx (.v 8) (.c (.int 1))]])))] [9],
  .set (.v 11) (.bin .add (.v 11) (.ls (.disp [.bin .add (.v 3) (.tup [.v 8, .v 8]), .call 25 [.c (.int 13), .v 2]]))),
  .ite (.val (.cmp .gt (.f1 .len (.v 0)) (.c (.int 1)))) [.ex (.app (.v 11) (.rev (.v 0)))] [],
  .set (.v 4) (.idx (.idx (.v 0) (.v 1)) (.c (.int 0))),
  .set (.v 7) (.idx (.idx (.v 0) (.v 1)) (.c (.int 1))),
  .forS (.v 10) (.val (.ls (.disp [.ls (.disp [.v 4, .v 7]), .tup [.v 4], .tup [.v 4, .v 7, .v 7], .tup [.v 7, .v 4], .bin .add (.v 4) (.v 7)]))) [.ex (.app (.v 11) (.bin .add (.bin .add (.sl (.v 0) none (some (.v 1))) (.tup [.v 10])) (.sl (.v 0) (some (.bin .add (.v 1) (.c (.int 1)))) none)))] [10],
  .forS (.v 12) (.val (.ls (.disp [.c (.str []), .bin .add (.v 7) (.bin .mul (.c (.str [49])) (.bin .sub (.c (.int 25)) (.f1 .len (.v 7)))), .bin .add (.sl (.v 7) none (some (.c (.int 23)))) (.c (.str [50])), .bin .add (.sl (.v 7) none (some (.c (.int 23)))) (.c (.str [120])), .bin .add (.sl (.v 7) none (some (.c (.int 23)))) (.c (.str [10])), .bin .add (.c (.str [32])) (.sl (.v 7) none (some (.c (.int 23))))]))) [.ex (.app (.v 11) (.bin .add (.bin .add (.sl (.v 0) none (some (.v 1))) (.tup [.tup [.v 4, .v 12]])) (.sl (.v 0) (some (.bin .add (.v 1) (.c (.int 1)))) none)))] [12],
  .forS (.v 12) (.val (.ls (.disp [.c (.non), .c (.int 1), .c (.bl false), .ls (.disp [.v 7]), .tup [.v 7], .dct []]))) [.ex (.app (.v 11) (.bin .add (.bin .add (.sl (.v 0) none (some (.v 1))) (.tup [.tup [.v 4, .v 12]])) (.sl (.v 0) (some (.bin .add (.v 1) (.c (.int 1)))) none)))] [12],
  .ret (.v 11)]
def d26 : Dd := ⟨"_law_spoilt_wishes", ["wishes", "place", "frames"], ["wishes", "place", "frames", "begin", "chip", "end", "first", "frame", "last", "name", "pair", "values", "wrong"], defArgs (top 54), defBody (top 54), defScope (top 54), ⟨3, 13, b26⟩⟩
/-- _law_many_books, 0:count 1:frames 2:k -/
def b27 : List Stm :=
  [.ret (.tupOf (.comp (.tup [.bin .add (.c (.str [110])) (.idx (.c (.str [48, 49, 50, 51, 52, 53, 54])) (.v 2)), .v 1]) (.v 2) (.rng (.v 0)) []))]
def d27 : Dd := ⟨"_law_many_books", ["count", "frames"], ["count", "frames", "k"], defArgs (top 55), defBody (top 55), defScope (top 55), ⟨2, 3, b27⟩⟩
/-- _law_spoilt_books, 0:books 1:place 2:chip 3:frames 4:k 5:nine 6:pair 7:values 8:word 9:wrong -/
def b28 : List Stm :=
  [.set (.v 2) (.idx (.idx (.v 0) (.v 1)) (.c (.int 0))),
  .set (.v 3) (.idx (.idx (.v 0) (.v 1)) (.c (.int 1))),
  .set (.v 5) (.tupOf (.comp (.bin .mul (.c (.str [48])) (.v 4)) (.v 4) (.rng2 (.c (.int 1)) (.c (.int 10))) [])),
  .set (.v 7) (.ls (.disp [.c (.non), .c (.bl false), .c (.int 1), .c (.str [48, 49]), .ls (.disp []), .dct [], .dct [.v 2, .v 3], .ls (.seq (.v 0)), .idx (.v 0) (.v 1), .bin .add (.v 0) (.tup [.c (.non)]), .call 27 [.c (.int 7), .sl (.v 5) none (some (.c (.int 1)))]])),
  .set (.v 7) (.bin .add (.v 7) (.ls (.disp [.bin .add (.v 0) (.tup [.idx (.v 0) (.bin .sub (.f1 .len (.v 0)) (.c (.int 1)))]), .bin .add (.tup [.tup [.bin .add (.c (.str [49])) (.sl (.idx (.idx (.v 0) (.c (.int 0))) (.c (.int 0))) (some (.c (.int 1))) none), .idx (.idx (.v 0) (.c (.int 0))) (.c (.int 1))]]) (.sl (.v 0) (some (.c (.int 1))) none)]))),
  .ite (.val (.cmp .gt (.f1 .len (.v 0)) (.c (.int 1)))) [.ex (.app (.v 7) (.rev (.v 0)))] [],
  .forS (.v 9) (.val (.ls (.disp [.tup [], .ls (.seq (.v 3)), .idx (.v 3) (.c (.int 0)), .c (.non), .bin .add (.v 3) (.tup [.idx (.v 3) (.bin .sub (.f1 .len (.v 3)) (.c (.int 1)))]), .tup [.c (.str [49]), .c (.str [48])], .v 5, .bin .add (.tup [.c (.str [])]) (.sl (.v 3) none (some (.c (.int 7))))]))) [.ex (.app (.v 7) (.bin .add (.bin .add (.sl (.v 0) none (some (.v 1))) (.tup [.tup [.v 2, .v 9]])) (.sl (.v 0) (some (.bin .add (.v 1) (.c (.int 1)))) none)))] [9],
  .forS (.v 8) (.val (.ls (.disp [.bin .mul (.c (.str [49])) (.c (.int 25)), .c (.str [49, 50]), .c (.str [49, 120]), .bin .add (.bin .mul (.c (.str [49])) (.c (.int 24))) (.c (.str [10])), .c (.str [49, 10]), .c (.int 1), .c (.non), .c (.bl true), .ls (.disp [.c (.str [49])])]))) [.ex (.app (.v 7) (.bin .add (.bin .add (.sl (.v 0) none (some (.v 1))) (.tup [.tup [.v 2, .bin .add (.sl (.v 3) none (some (.bin .mod (.f1 .int (.f1 .len (.v 3))) (.c (.int 8))))) (.tup [.v 8])]])) (.sl (.v 0) (some (.bin .add (.v 1) (.c (.int 1)))) none)))] [8],
  .forS (.v 6) (.val (.ls (.disp [.ls (.disp [.v 2, .v 3]), .tup [.v 2], .tup [.v 2, .v 3, .v 3], .tup [.c (.int 7), .v 3], .tup [.c (.non), .v 3]]))) [.ex (.app (.v 7) (.bin .add (.bin .add (.sl (.v 0) none (some (.v 1))) (.tup [.v 6])) (.sl (.v 0) (some (.bin .add (.v 1) (.c (.int 1)))) none)))] [6],
  .ret (.v 7)]
def d28 : Dd := ⟨"_law_spoilt_books", ["books", "place"], ["books", "place", "chip", "frames", "k", "nine", "pair", "values", "word", "wrong"], defArgs (top 56), defBody (top 56), defScope (top 56), ⟨2, 10, b28⟩⟩
/-- _law_refuses, 0:which 1:value 2:e -/
def b29 : List Stm :=
  [.tryS [.ite (.val (.cmp .eq (.v 0) (.c (.int 0)))) [.ex (.call 7 [.v 1])] [],
    .ite (.val (.cmp .eq (.v 0) (.c (.int 1)))) [.ex (.call 12 [.v 1])] [],
    .ite (.val (.cmp .eq (.v 0) (.c (.int 2)))) [.ex (.call 13 [.v 1])] []] [([0], some 2, [.ret (.hot 32)])],
  .ret (.c (.bl false))]
def d29 : Dd := ⟨"_law_refuses", ["which", "value"], ["which", "value", "e"], defArgs (top 58), defBody (top 58), defScope (top 58), ⟨2, 3, b29⟩⟩
/-- _law_books_hold, 0:script 1:start 2:base 3:books 4:eight 5:k 6:most 7:names 8:place 9:value 10:values -/
def b30 : List Stm :=
  [.set (.v 7) (.call 17 [.call 14 [.v 0, .c (.int 3)], .bin .mod (.f1 .int (.bin .fdiv (.v 1) (.c (.int 13)))) (.c (.int 7))]),
  .set (.v 3) (.call 22 [.v 0, .v 7]),
  .ite (.val (.cmp .isn (.call 9 [.v 3]) (.c (.bl true)))) [.ret (.c (.bl false))] [],
  .ite (.or (.not (.val (.call 20 [.call 12 [.v 3], .call 23 [.v 3]]))) (.not (.val (.call 20 [.call 13 [.v 3], .call 24 [.v 3]])))) [.ret (.c (.bl false))] [],
  .set (.v 2) (.v 3),
  .ite (.val (.cmp .eq (.f1 .len (.v 2)) (.c (.int 0)))) [.set (.v 2) (.tup [.tup [.c (.str [97]), .tup [.c (.str [48]), .c (.str [48, 49])]]])] [],
  .set (.v 8) (.bin .mod (.f1 .int (.bin .fdiv (.v 1) (.c (.int 91)))) (.f1 .len (.v 2))),
  .set (.v 10) (.call 28 [.v 2, .v 8]),
  .forS (.v 9) (.val (.v 10)) [.ite (.or (.val (.cmp .isn (.call 9 [.v 9]) (.c (.bl false)))) (.or (.not (.val (.call 29 [.c (.int 1), .v 9]))) (.not (.val (.call 29 [.c (.int 2), .v 9]))))) [.ret (.c (.bl false))] []] [9],
  .ite (.val (.cmp .ne (.v 10) (.call 28 [.v 2, .v 8]))) [.ret (.c (.bl false))] [],
  .set (.v 4) (.bin .add (.tupOf (.comp (.bin .mul (.c (.str [48])) (.v 5)) (.v 5) (.rng2 (.c (.int 1)) (.c (.int 8))) [])) (.tup [.bin .mul (.c (.str [49])) (.c (.int 24))])),
  .set (.v 6) (.call 27 [.c (.int 6), .v 4]),
  .ite (.or (.val (.cmp .isn (.call 9 [.v 6]) (.c (.bl true)))) (.val (.cmp .isn (.call 9 [.tup [.tup [.idx (.idx (.v 2) (.v 8)) (.c (.int 0)), .v 4]]]) (.c (.bl true))))) [.ret (.c (.bl false))] [],
  .ite (.or (.not (.val (.call 20 [.call 12 [.v 6], .tup [.tup [.c (.str [110, 48]), .c (.str [48])], .tup [.c (.str [110, 49]), .c (.str [48, 48])]]]))) (.not (.val (.call 20 [.call 13 [.v 6], .tup [.tup [.c (.str [110, 48]), .c (.str [48])], .tup [.c (.str [110, 49]), .c (.str [48])]]])))) [.ret (.c (.bl false))] [],
  .ret (.andV (.call 20 [.call 12 [.v 3], .call 23 [.v 3]]) (.call 20 [.call 13 [.v 3], .call 24 [.v 3]]))]
def d30 : Dd := ⟨"_law_books_hold", ["script", "start"], ["script", "start", "base", "books", "eight", "k", "most", "names", "place", "value", "values"], defArgs (top 59), defBody (top 59), defScope (top 59), ⟨2, 11, b30⟩⟩
/-- law, 0:script 1:base 2:count 3:due 4:frame 5:frames 6:k 7:most 8:names 9:place 10:start 11:value 12:values 13:wishes -/
def b31 : List Stm :=
  [.set (.v 10) (.call 14 [.v 0, .c (.int 0)]),
  .set (.v 2) (.bin .mod (.f1 .int (.v 10)) (.c (.int 13))),
  .ite (.val (.cmp .eq (.bin .mod (.f1 .int (.bin .fdiv (.v 10) (.c (.int 13)))) (.c (.int 4))) (.c (.int 1)))) [.set (.v 2) (.c (.int 12))] [],
  .set (.v 8) (.call 17 [.call 14 [.v 0, .c (.int 1)], .v 2]),
  .set (.v 5) (.call 19 [.call 14 [.v 0, .c (.int 2)], .c (.int 12)]),
  .set (.v 13) (.tupOf (.comp (.tup [.idx (.v 8) (.v 6), .idx (.v 5) (.v 6)]) (.v 6) (.rng (.f1 .len (.v 8))) [])),
  .set (.v 3) (.call 21 [.v 13]),
  .ite (.or (.val (.cmp .isn (.call 5 [.v 13]) (.c (.bl true)))) (.not (.val (.call 20 [.call 7 [.v 13], .v 3])))) [.ret (.c (.bl false))] [],
  .set (.v 1) (.v 13),
  .ite (.val (.cmp .eq (.f1 .len (.v 1)) (.c (.int 0)))) [.set (.v 1) (.tup [.tup [.c (.str [97]), .idx (.v 5) (.c (.int 0))]])] [],
  .set (.v 9) (.bin .mod (.f1 .int (.bin .fdiv (.v 10) (.c (.int 52)))) (.f1 .len (.v 1))),
  .set (.v 12) (.call 26 [.v 1, .v 9, .v 5]),
  .forS (.v 11) (.val (.v 12)) [.ite (.or (.val (.cmp .isn (.call 5 [.v 11]) (.c (.bl false)))) (.not (.val (.call 29 [.c (.int 0), .v 11])))) [.ret (.c (.bl false))] []] [11],
  .ite (.val (.cmp .ne (.v 12) (.call 26 [.v 1, .v 9, .v 5]))) [.ret (.c (.bl false))] [],
  .set (.v 4) (.bin .add (.idx (.idx (.v 1) (.v 9)) (.c (.int 1))) (.bin .mul (.c (.str [49])) (.bin .sub (.c (.int 24)) (.f1 .len (.idx (.idx (.v 1) (.v 9)) (.c (.int 1))))))),
  .forS (.v 7) (.val (.ls (.disp [.call 25 [.c (.int 12), .v 5], .bin .add (.bin .add (.sl (.v 1) none (some (.v 9))) (.tup [.tup [.idx (.idx (.v 1) (.v 9)) (.c (.int 0)), .v 4]])) (.sl (.v 1) (some (.bin .add (.v 9) (.c (.int 1)))) none), .tup []]))) [.ite (.or (.val (.cmp .isn (.call 5 [.v 7]) (.c (.bl true)))) (.not (.val (.call 20 [.call 7 [.v 7], .call 21 [.v 7]])))) [.ret (.c (.bl false))] []] [7],
  .ite (.not (.val (.call 30 [.v 0, .v 10]))) [.ret (.c (.bl false))] [],
  .ret (.call 20 [.call 7 [.v 13], .v 3])]
def d31 : Dd := ⟨"law", ["script"], ["script", "base", "count", "due", "frame", "frames", "k", "most", "names", "place", "start", "value", "values", "wishes"], defArgs (top 60), defBody (top 60), defScope (top 60), ⟨1, 14, b31⟩⟩
/-- _law_is_book_error, 0:e 1:others -/
def b32 : List Stm :=
  [.set (.v 1) (.ls (.disp [.isX [7], .isX [6], .isX [4], .isX [1]])),
  .set (.v 1) (.bin .add (.v 1) (.ls (.disp [.isX [5], .isX [3], .isX [9], .isX [14]]))),
  .set (.v 1) (.bin .add (.v 1) (.ls (.disp [.isX [2], .isX [10], .isX [12], .isX [11]]))),
  .set (.v 1) (.bin .add (.v 1) (.ls (.disp [.isX [13]]))),
  .ret (.andV (.isX [8]) (.andV (.isX [15]) (.notV (.anyH (.v 1)))))]
def d32 : Dd := ⟨"_law_is_book_error", ["e"], ["e", "others"], defArgs (top 57), defBody (top 57), defScope (top 57), ⟨1, 2, b32⟩⟩
def txt : Txt := ⟨[d0, d1, d2, d3, d4, d5, d6, d7, d8, d9, d10, d11, d12, d13, d14, d15, d16, d17, d18, d19, d20, d21, d22, d23, d24, d25, d26, d27, d28, d29, d30, d31, d32], 32, ["LETTERS", "NAME_SIGNS", "NAME_MOST", "WORD_MOST", "WISHES_MOST", "BOOKS_MOST", "FRAMES_MOST"], gtab, ["WireError", "BadNumber", "BadWord", "BadRecord", "BadKind", "BadPlan", "BadHouse", "BadClaim", "BadBook", "BadRoll", "NoAccount", "NotSound", "NoDeed"], ["WireError", "BadNumber", "BadWord", "BadRecord", "BadKind", "BadPlan", "BadHouse", "BadClaim", "BadBook", "BadRoll", "NoAccount", "NotSound", "NoDeed", "TooMany", "BadText", "ValueError"], ctab⟩
def names0 : List PySem.Str := ["WireError", "BadNumber", "BadWord", "BadRecord", "BadKind", "BadPlan", "BadHouse", "BadClaim", "BadBook", "BadRoll", "NoAccount", "NotSound", "NoDeed", "TooMany", "BadText", "LETTERS", "NAME_SIGNS", "NAME_MOST", "is_name", "is_ascending", "is_named_pairs", "WORD_MOST", "is_signs", "is_word", "WISHES_MOST", "is_wishes", "run_contest", "contest", "BOOKS_MOST", "FRAMES_MOST"]
def names1 : List PySem.Str := ["is_frames", "is_books", "check_books", "all_entries", "overlap", "twin", "_law_cell", "_law_numbers", "_law_name", "_law_names", "_law_bits", "_law_frames", "_law_same", "_law_contest", "_law_books", "_law_overlap", "_law_twin", "_law_many_wishes", "_law_spoilt_wishes", "_law_many_books", "_law_spoilt_books", "_law_is_book_error", "_law_refuses", "_law_books_hold"]
def names : List PySem.Str := names0 ++ names1
theorem look : txt.look = true := by decide +kernel
theorem bn0 : BindP d0 := fun _ _ _ _ _ _ us hl => match us, hl with | [_], _ => rfl
theorem bn1 : BindP d1 := fun _ _ _ _ _ _ us hl => match us, hl with | [_], _ => rfl
theorem bn2 : BindP d2 := fun _ _ _ _ _ _ us hl => match us, hl with | [_, _, _], _ => rfl
theorem bn3 : BindP d3 := fun _ _ _ _ _ _ us hl => match us, hl with | [_], _ => rfl
theorem bn4 : BindP d4 := fun _ _ _ _ _ _ us hl => match us, hl with | [_], _ => rfl
theorem bn5 : BindP d5 := fun _ _ _ _ _ _ us hl => match us, hl with | [_], _ => rfl
theorem bn6 : BindP d6 := fun _ _ _ _ _ _ us hl => match us, hl with | [_], _ => rfl
theorem bn7 : BindP d7 := fun _ _ _ _ _ _ us hl => match us, hl with | [_], _ => rfl
theorem bn8 : BindP d8 := fun _ _ _ _ _ _ us hl => match us, hl with | [_], _ => rfl
theorem bn9 : BindP d9 := fun _ _ _ _ _ _ us hl => match us, hl with | [_], _ => rfl
theorem bn10 : BindP d10 := fun _ _ _ _ _ _ us hl => match us, hl with | [_], _ => rfl
theorem bn11 : BindP d11 := fun _ _ _ _ _ _ us hl => match us, hl with | [_], _ => rfl
theorem bn12 : BindP d12 := fun _ _ _ _ _ _ us hl => match us, hl with | [_], _ => rfl
theorem bn13 : BindP d13 := fun _ _ _ _ _ _ us hl => match us, hl with | [_], _ => rfl
theorem bn14 : BindP d14 := fun _ _ _ _ _ _ us hl => match us, hl with | [_, _], _ => rfl
theorem bn15 : BindP d15 := fun _ _ _ _ _ _ us hl => match us, hl with | [_, _, _], _ => rfl
theorem bn16 : BindP d16 := fun _ _ _ _ _ _ us hl => match us, hl with | [_, _], _ => rfl
theorem bn17 : BindP d17 := fun _ _ _ _ _ _ us hl => match us, hl with | [_, _], _ => rfl
theorem bn18 : BindP d18 := fun _ _ _ _ _ _ us hl => match us, hl with | [_, _], _ => rfl
theorem bn19 : BindP d19 := fun _ _ _ _ _ _ us hl => match us, hl with | [_, _], _ => rfl
theorem bn20 : BindP d20 := fun _ _ _ _ _ _ us hl => match us, hl with | [_, _], _ => rfl
theorem bn21 : BindP d21 := fun _ _ _ _ _ _ us hl => match us, hl with | [_], _ => rfl
theorem bn22 : BindP d22 := fun _ _ _ _ _ _ us hl => match us, hl with | [_, _], _ => rfl
theorem bn23 : BindP d23 := fun _ _ _ _ _ _ us hl => match us, hl with | [_], _ => rfl
theorem bn24 : BindP d24 := fun _ _ _ _ _ _ us hl => match us, hl with | [_], _ => rfl
theorem bn25 : BindP d25 := fun _ _ _ _ _ _ us hl => match us, hl with | [_, _], _ => rfl
theorem bn26 : BindP d26 := fun _ _ _ _ _ _ us hl => match us, hl with | [_, _, _], _ => rfl
theorem bn27 : BindP d27 := fun _ _ _ _ _ _ us hl => match us, hl with | [_, _], _ => rfl
theorem bn28 : BindP d28 := fun _ _ _ _ _ _ us hl => match us, hl with | [_, _], _ => rfl
theorem bn29 : BindP d29 := fun _ _ _ _ _ _ us hl => match us, hl with | [_, _], _ => rfl
theorem bn30 : BindP d30 := fun _ _ _ _ _ _ us hl => match us, hl with | [_, _], _ => rfl
theorem bn31 : BindP d31 := fun _ _ _ _ _ _ us hl => match us, hl with | [_], _ => rfl
theorem bn32 : BindP d32 := fun _ _ _ _ _ _ us hl => match us, hl with | [_], _ => rfl
theorem bnd : ∀ (i : Nat) (a : Dd), txt.ds[i]? = some a → BindP a
  | 0, _, h => by cases h; exact bn0
  | 1, _, h => by cases h; exact bn1
  | 2, _, h => by cases h; exact bn2
  | 3, _, h => by cases h; exact bn3
  | 4, _, h => by cases h; exact bn4
  | 5, _, h => by cases h; exact bn5
  | 6, _, h => by cases h; exact bn6
  | 7, _, h => by cases h; exact bn7
  | 8, _, h => by cases h; exact bn8
  | 9, _, h => by cases h; exact bn9
  | 10, _, h => by cases h; exact bn10
  | 11, _, h => by cases h; exact bn11
  | 12, _, h => by cases h; exact bn12
  | 13, _, h => by cases h; exact bn13
  | 14, _, h => by cases h; exact bn14
  | 15, _, h => by cases h; exact bn15
  | 16, _, h => by cases h; exact bn16
  | 17, _, h => by cases h; exact bn17
  | 18, _, h => by cases h; exact bn18
  | 19, _, h => by cases h; exact bn19
  | 20, _, h => by cases h; exact bn20
  | 21, _, h => by cases h; exact bn21
  | 22, _, h => by cases h; exact bn22
  | 23, _, h => by cases h; exact bn23
  | 24, _, h => by cases h; exact bn24
  | 25, _, h => by cases h; exact bn25
  | 26, _, h => by cases h; exact bn26
  | 27, _, h => by cases h; exact bn27
  | 28, _, h => by cases h; exact bn28
  | 29, _, h => by cases h; exact bn29
  | 30, _, h => by cases h; exact bn30
  | 31, _, h => by cases h; exact bn31
  | 32, _, h => by cases h; exact bn32
  | _ + 33, _, h => by cases h
theorem run (w : World) : HandSHeadRun.RunEq R (PySem.W.view R.prog [60]) txt.hook txt.ob 20000 names w := by
  intro os
  kernel_rfl
end HT
end
section
namespace HT
open Pw
def P : Prg := HT.txt.prg
end HT
end
section
set_option maxHeartbeats 0
set_option linter.all false
set_option maxRecDepth 100000
namespace HT
open Pw
def LET : List Nat := [97, 98, 99, 100, 101, 102, 103, 104, 105, 106, 107, 108, 109, 110, 111, 112, 113, 114, 115, 116, 117, 118, 119, 120, 121, 122]
def SIG : List Nat := LET ++ [48, 49, 50, 51, 52, 53, 54, 55, 56, 57]
@[simp] theorem PG0 : P.G[0]? = some (.str LET) := rfl
@[simp] theorem PG1 : P.G[1]? = some (.str SIG) := rfl
@[simp] theorem PG2 : P.G[2]? = some (.int 8) := rfl
@[simp] theorem PG3 : P.G[3]? = some (.int 24) := rfl
@[simp] theorem PG4 : P.G[4]? = some (.int 12) := rfl
@[simp] theorem PG5 : P.G[5]? = some (.int 6) := rfl
@[simp] theorem PG6 : P.G[6]? = some (.int 8) := rfl
def isNameL (s : List Nat) : Bool := decide (1 ≤ s.length) && decide (s.length ≤ 8) && (match s with | c :: _ => decide (c ∈ LET) | [] => false) && s.all fun c => decide (c ∈ SIG)
def isNameD : D → Bool
  | .str s => isNameL s
  | _ => false
theorem sp_is_name (n : Nat) (d : D) (S : Store) (h : okE d = true) : den P (n + 1) none 0 [d] S = .ok (.bl (isNameD d)) S := by
  refine den_wp (f := ⟨1, 2, b0⟩) rfl rfl ?_
  cases d with
  | str s =>
    simp only [okE_str, decide_eq_true_eq] at h
    simp (disch := first | omega | (simp; done) | (simp; omega)) [if_pos, if_neg, b0]
    by_cases h1 : 1 ≤ s.length
    · by_cases h8 : s.length ≤ 8
      · cases s with
        | nil => simp at h1
        | cons c r =>
          have hr : r.length ≤ 7 := by simp at h8; omega
          simp (disch := first | omega | (simp; done) | (simp; omega)) [if_pos, if_neg, id]
          by_cases hc : c ∈ LET
          · simp (disch := first | omega | (simp; done) | (simp; omega)) [if_pos, if_neg, hc]
            rw [compK_map (fun x => .bl (match x with | .str [c] => decide (c ∈ SIG) | _ => false))]
            · simp (disch := first | omega | (simp; done) | (simp; omega)) [if_pos, if_neg, isNameD, isNameL, hc, hr]
              simp [Function.comp_def]
            · simp; omega
            · intro x hx
              rw [← List.map_cons (f := fun c => D.str [c]), List.mem_map] at hx
              obtain ⟨a, _, rfl⟩ := hx
              exact ⟨_, rfl, by simp, by simp⟩
          · simp (disch := first | omega | (simp; done) | (simp; omega)) [if_pos, if_neg, hc, fin, isNameD, isNameL]
      · simp (disch := first | omega | (simp; done) | (simp; omega)) [if_pos, if_neg, h1, h8, fin, isNameD, isNameL]
    · simp (disch := first | omega | (simp; done) | (simp; omega)) [if_pos, if_neg, h1, fin, isNameD, isNameL]
  | exc => simp at h
  | _ => simp [b0, isNameD, fin]
def asc (ns : List (List Nat)) : Bool := (List.range (ns.length - 1)).all fun k => decide ((ns[k]?.getD []) < (ns[k + 1]?.getD []))
theorem sp_is_ascending (n : Nat) (a : Nat) (ns : List (List Nat)) (S : Store) (h : get S a = some (.lst (ns.map .str))) (hl : ns.length ≤ 1000) :
    den P (n + 1) none 1 [.obj a] S = .ok (.bl (asc ns)) S := by
  refine den_wp (f := ⟨1, 2, b1⟩) rfl rfl ?_
  simp (disch := first | omega | (simp; done) | (simp; omega)) [if_pos, if_neg, b1, h, rngL_z]
  rw [compK_map (fun x => .bl (match x with | .int k => decide ((ns[k.toNat]?.getD []) < (ns[k.toNat + 1]?.getD [])) | _ => false))]
  · have e : ((ns.length : Int) - 1).toNat = ns.length - 1 := by omega
    simp [Function.comp_def, asc, e]
  · simp; omega
  · intro x hx
    rw [List.mem_map] at hx
    obtain ⟨k, hk, rfl⟩ := hx
    rw [List.mem_range] at hk
    have h1 : k < ns.length := by omega
    have h2 : k + 1 < ns.length := by omega
    refine ⟨_, rfl, by simp, ?_⟩
    simp (disch := first | omega | (simp; done) | (simp; omega)) [if_pos, if_neg, h, h1, h2]
end HT
end
section
set_option maxHeartbeats 0
set_option linter.all false
set_option maxRecDepth 100000
namespace HT
open Pw
def isPair : D → Bool
  | .tup [a, _] => isNameD a
  | _ => false
def nameOf : D → List Nat
  | .tup (.str s :: _) => s
  | _ => []
theorem isPair_name {d : D} (h : isPair d = true) : ∃ s y, d = .tup [.str s, y] ∧ isNameL s = true := by
  cases d with
  | tup xs =>
    match xs, h with
    | [a, y], h =>
      cases a with
      | str s => exact ⟨s, y, rfl, h⟩
      | _ => simp [isPair, isNameD] at h
  | _ => simp [isPair] at h
def namedD (lo hi : Int) : D → Bool
  | .tup xs => decide (lo ≤ xs.length) && decide (xs.length ≤ hi) && xs.all isPair && asc (xs.map nameOf)
  | _ => false
theorem sp_is_named_pairs (n : Nat) (d : D) (lo hi : Int) (S : Store) (h : okE d = true) (hh : hi ≤ 1000) : den P (n + 2) none 2 [d, .int lo, .int hi] S = .ok (.bl (namedD lo hi d)) S := by
  refine den_wp (f := ⟨3, 4, b2⟩) rfl rfl ?_
  cases d with
  | exc => simp at h
  | tup xs =>
    simp only [okE_tup, Bool.and_eq_true, decide_eq_true_eq] at h
    obtain ⟨hl, he⟩ := h
    simp (disch := first | omega | (simp; done) | (simp; omega)) [if_pos, if_neg, b2]
    by_cases h1 : lo ≤ xs.length
    · by_cases h2 : xs.length ≤ hi
      · simp (disch := first | omega | (simp; done) | (simp; omega)) [if_pos, if_neg, id]
        refine wp_seq (wp_for (fun i env S' => S' = S ∧ (xs.take i).all isPair = true ∧ ∃ v, env = [some (.tup xs), some (.int lo), some (.int hi), v]) ⟨rfl, rfl, _, rfl⟩ (fun i env S' hi => by simp [stands]) ?_ ?_)
        · rintro i x env S' hx ⟨rfl, ha, v, rfl⟩
          have hk := okEs_at he hx
          have htk : (xs.take (i + 1)).all isPair = ((xs.take i).all isPair && isPair x) := by
            rw [List.take_add_one, List.all_append, hx]; simp
          have hf : isPair x = false → namedD lo hi (.tup xs) = false := fun hp => by
            simp only [namedD, Bool.and_eq_false_iff]
            exact Or.inl (Or.inr (by rw [List.all_eq_false]; exact ⟨x, List.mem_of_getElem? hx, by simp [hp]⟩))
          cases x with
          | tup ys =>
            simp only [okE_tup, Bool.and_eq_true, decide_eq_true_eq] at hk
            match ys, hk, hf, hx, htk with
            | [], _, hf, hx, htk => simp (disch := first | omega | (simp; done) | (simp; omega)) [if_pos, if_neg, hf rfl]
            | [a], _, hf, hx, htk => simp (disch := first | omega | (simp; done) | (simp; omega)) [if_pos, if_neg, hf rfl]
            | a :: b :: c :: r, _, hf, hx, htk => simp (disch := first | omega | (simp; done) | (simp; omega)) [if_pos, if_neg, hf rfl]
            | [a, b], hk, hf, hx, htk =>
              have hka : okE a = true := by simp at hk; exact hk.1
              simp (disch := first | omega | (simp; done) | (simp; omega)) [if_pos, if_neg, sp_is_name n a S' hka]
              cases hp : isNameD a with
              | true => simp (disch := first | omega | (simp; done) | (simp; omega)) [if_pos, if_neg, id]; rw [← List.all_eq_true, htk, ha]; simp [isPair, hp]
              | false => simp [hf hp]
          | exc => simp at hk
          | _ => simp [hf rfl]
        · rintro env S' ⟨rfl, ha, v, rfl⟩
          rw [List.take_length] at ha
          have hp : ∀ x ∈ xs, ∃ s y, x = .tup [.str s, y] ∧ isNameL s = true := fun x hx => isPair_name (List.all_eq_true.mp ha x hx)
          simp (disch := first | omega | (simp; done) | (simp; omega)) [if_pos, if_neg, id]
          rw [compK_map (fun x => .str (nameOf x))]
          · have e : xs.map (fun x => D.str (nameOf x)) = (xs.map nameOf).map .str := by simp
            rw [e]
            simp (disch := first | omega | (simp; done) | (simp; omega)) [if_pos, if_neg, id]
            rw [sp_is_ascending n S'.length (xs.map nameOf) _ (by simp) (by simp; omega)]
            simp [namedD, ha, h1, h2]
          · simp; omega
          · intro x hx
            obtain ⟨s, y, rfl, _⟩ := hp x hx
            exact ⟨_, rfl, by simp, by simp [nameOf]⟩
      · simp (disch := first | omega | (simp; done) | (simp; omega)) [if_pos, if_neg, namedD, h2]
    · simp (disch := first | omega | (simp; done) | (simp; omega)) [if_pos, if_neg, namedD, h1]
  | _ => simp [b2, namedD]
def isWordL (s : List Nat) : Bool := decide (1 ≤ s.length) && decide (s.length ≤ 24) && s.all fun c => decide (c ∈ [48, 49])
def isWordD : D → Bool
  | .str s => isWordL s
  | _ => false
theorem sp_is_signs (n : Nat) (s : List Nat) (S : Store) (h : s.length ≤ 16777216) : den P (n + 1) none 3 [.str s] S = .ok (.bl (s.all fun c => decide (c ∈ [48, 49]))) S := by
  refine den_wp (f := ⟨1, 2, b3⟩) rfl rfl ?_
  simp (disch := first | omega | (simp; done) | (simp; omega)) [if_pos, if_neg, b3]
  rw [compK_map (fun x => .bl (match x with | .str [c] => decide (c ∈ [48, 49]) | _ => false))]
  · simp [Function.comp_def]
  · simpa using h
  · intro x hx
    rw [List.mem_map] at hx
    obtain ⟨a, _, rfl⟩ := hx
    exact ⟨_, rfl, by simp, by simp⟩
theorem sp_is_word (n : Nat) (d : D) (S : Store) (h : okE d = true) : den P (n + 2) none 4 [d] S = .ok (.bl (isWordD d)) S := by
  refine den_wp (f := ⟨1, 1, b4⟩) rfl rfl ?_
  cases d with
  | exc => simp at h
  | str s =>
    simp only [okE_str, decide_eq_true_eq] at h
    simp (disch := first | omega | (simp; done) | (simp; omega)) [if_pos, if_neg, b4]
    by_cases h1 : 1 ≤ s.length
    · by_cases h8 : s.length ≤ 24
      · have : (s.length : Int) ≤ 24 := by omega
        simp (disch := first | omega | (simp; done) | (simp; omega)) [if_pos, if_neg, sp_is_signs n s S h, isWordD, isWordL, h1, h8, this]
      · have : ¬ (s.length : Int) ≤ 24 := by omega
        simp (disch := first | omega | (simp; done) | (simp; omega)) [if_pos, if_neg, isWordD, isWordL, h1, h8, this]
    · simp (disch := first | omega | (simp; done) | (simp; omega)) [if_pos, if_neg, isWordD, isWordL, h1]
  | _ => simp [b4, isWordD]
end HT
end
section
set_option maxHeartbeats 0
set_option linter.all false
set_option maxRecDepth 100000
namespace HT
open Pw
theorem sp_cell (n : Nat) (S : Store) (zs : List Int) (k : Nat) (h : get S 0 = some (.ro (zs.map .int))) (hk : k < 100) (hl : zs.length ≤ 63) : ∃ i : Int, den P (n + 1) none 14 [.obj 0, .int k] S = .ok (.int i) S := by
  have hle : lenD S (.obj 0) = some (zs.length : Int) := by simp [lenD, h]
  have hix : ∀ j : Nat, idxD (.obj 0) (.int (j : Int)) S = Res.of ((zs[j]?).map .int) S := fun j => by simp only [idxD, h]; rw [place_q]; simp
  have hix0 : idxD (.obj 0) (.int 0) S = Res.of ((zs[0]?).map .int) S := hix 0
  by_cases h1 : k < zs.length
  · refine ⟨zs[k], den_wp (f := ⟨2, 2, b14⟩) rfl rfl ?_⟩
    simp (disch := first | omega | (simp; done) | (simp; omega)) [if_pos, if_neg, b14, h]
  · cases zs with
    | nil => exact ⟨9 * k + 4, den_wp (f := ⟨2, 2, b14⟩) rfl rfl (by simp (disch := first | omega | (simp; done) | (simp; omega)) [if_pos, if_neg, b14, h, mul_sm])⟩
    | cons z r =>
      refine ⟨z % 1000003 * (k + 3) + 11 * k + (r.length + 1), den_wp (f := ⟨2, 2, b14⟩) rfl rfl ?_⟩
      simp only [List.length_cons] at h1
      have hm : 0 ≤ z % 1000003 ∧ z % 1000003 < 1000003 := ⟨Int.emod_nonneg _ (by decide), Int.emod_lt_of_pos _ (by decide)⟩
      simp (disch := first | omega | (simp; done) | (simp; omega)) [if_pos, if_neg, b14, h, mul_sm]
def inB (b : Int) (z : Int) : Prop := 0 ≤ z ∧ z < b
theorem sp_numbers (n : Nat) (S : Store) (c b : Int) (m : Nat) (hb : 0 < b ∧ b < 18446744073709551616) (hm : m < 1000) :
    ∃ ns : List Int, (ns.length = m ∧ (∀ z ∈ ns, 0 ≤ z ∧ z < b)) ∧ den P (n + 1) none 15 [.int c, .int b, .int m] S = .ok (.obj S.length) (.lst (ns.map .int) :: S) := by
  refine den_post (f := ⟨3, 8, b15⟩) (fun ns : List Int => ns.length = m ∧ (∀ z ∈ ns, 0 ≤ z ∧ z < b)) (fun ns => .ok (.obj S.length) (.lst (ns.map .int) :: S)) rfl rfl ?_
  have hp : binD .pow (.int 10) (.int 18) (.lst [] :: S) = .ok (.int (10 ^ 18)) (.lst [] :: S) := pow_i ⟨by omega, by omega, by decide⟩
  simp (disch := first | omega | (simp; done) | (simp; omega)) [if_pos, if_neg, b15, hp]
  generalize decide (1000000000000000000 ≤ c) = bd
  refine wp_seq (wp_for (fun i env S' => ∃ (ns : List Int) (rest seed : Int), S' = .lst (ns.map .int) :: S ∧ ns.length = i ∧ (∀ z ∈ ns, 0 ≤ z ∧ z < b) ∧ 0 ≤ seed ∧ seed < 2305843009213693951 ∧
    env = [some (.int c), some (.int b), some (.int m), some (.bl bd), none, some (.obj S.length), some (.int rest), some (.int seed)]) ⟨[], c, c % 2305843009213693951, rfl, rfl, by simp, by omega, by omega, rfl⟩ (fun i env S' hi => by simp [stands]) ?_ ?_)
  · rintro i x env S' hx ⟨ns, rest, seed, rfl, hl, hall, hs0, hs1, rfl⟩
    obtain ⟨hi, rfl⟩ := range_at hx
    have hall' : ∀ w : Int, ∀ z ∈ ns ++ [w % b], 0 ≤ z ∧ z < b := fun w z hz => by
      rw [List.mem_append, List.mem_singleton] at hz
      rcases hz with hz | rfl
      · exact hall z hz
      · exact ⟨Int.emod_nonneg _ (by omega), Int.emod_lt_of_pos _ (by omega)⟩
    cases bd with
    | true =>
      simp (disch := first | omega | (simp; done) | (simp; omega)) [if_pos, if_neg, fdiv_sm]
      refine ⟨ns ++ [rest % b], ?_, by simp [hl], hall' _, _, seed, hs0, hs1, rfl, rfl⟩
      simp
    | false =>
      simp (disch := first | omega | (simp; done) | (simp; omega)) [if_pos, if_neg, fdiv_sm, mul_sm]
      have q : 0 ≤ ((seed * 48271 + 40692 * (i : Int) + 11) % 2305843009213693951 * 69621 + 7) % 2305843009213693951 ∧ ((seed * 48271 + 40692 * (i : Int) + 11) % 2305843009213693951 * 69621 + 7) % 2305843009213693951 < 2305843009213693951 := by omega
      refine ⟨ns ++ [((seed * 48271 + 40692 * (i : Int) + 11) % 2305843009213693951 * 69621 + 7) % 2305843009213693951 / 4096 % b], ?_, by simp [hl], hall' _, rest, _, q.1, q.2, rfl, rfl⟩
      simp
  · rintro env S' ⟨ns, rest, seed, rfl, hl, hall, hs0, hs1, rfl⟩
    simp (disch := first | omega | (simp; done) | (simp; omega)) [if_pos, if_neg, id]
    exact ⟨ns, ⟨by simpa using hl, hall⟩, rfl⟩
end HT
end
section
set_option maxHeartbeats 0
set_option linter.all false
set_option maxRecDepth 100000
namespace HT
open Pw
theorem sp_name (n : Nat) (S : Store) (z : Int) (m : Nat) (hm : 1 ≤ m ∧ m < 1000) :
    ∃ s : List Nat, (s.length = m ∧ (∃ c r, s = c :: r ∧ c ∈ LET) ∧ ∀ c ∈ s, c ∈ SIG) ∧ den P (n + 1) none 16 [.int z, .int m] S = .ok (.str s) S := by
  refine den_post (f := ⟨2, 7, b16⟩) (fun s : List Nat => s.length = m ∧ (∃ c r, s = c :: r ∧ c ∈ LET) ∧ ∀ c ∈ s, c ∈ SIG) (fun s => .ok (.str s) S) rfl rfl ?_
  obtain ⟨c0, hc0, he0⟩ := pick_s (l := LET) (z := z % 26) (by decide) ⟨by omega, by have : LET.length = 26 := rfl; omega⟩
  have hs0 : c0 ∈ SIG := by unfold SIG; exact List.mem_append_left _ hc0
  unfold LET at he0
  simp (disch := first | omega | (simp; done) | (simp; omega)) [if_pos, if_neg, b16, he0]
  refine wp_seq (wp_forRz (m - 1) (by omega) (fun a : List Nat × Int => [some (.int z), some (.int m), none, some (.str LET), some (.str (c0 :: a.1)), some (.int a.2), some (.str SIG)]) (fun _ => S)
    (fun i a => a.1.length = i ∧ ∀ c ∈ a.1, c ∈ SIG) ([], _) ⟨rfl, by simp⟩ rfl rfl ?_ ?_)
  · rintro i ⟨r, rest⟩ hi ⟨hl, hall⟩
    simp only at hl hall
    obtain ⟨c, hc, he⟩ := pick_s (l := SIG) (z := rest % 36) (by decide) ⟨by omega, by have : SIG.length = 36 := rfl; omega⟩
    simp (disch := first | omega | (simp; done) | (simp; omega)) [if_pos, if_neg, he]
    refine ⟨(r ++ [c], _), ⟨by simp [hl], ?_⟩, rfl, rfl⟩
    intro a ha
    rw [List.mem_append, List.mem_singleton] at ha
    rcases ha with ha | rfl
    · exact hall a ha
    · exact hc
  · rintro ⟨r, rest⟩ ⟨hl, hall⟩
    simp only at hl hall
    simp (disch := first | omega | (simp; done) | (simp; omega)) [if_pos, if_neg, id]
    exact ⟨by omega, hc0, hs0, hall⟩
theorem sp_bits (n : Nat) (S : Store) (z : Int) (m : Nat) (hm : m < 1000) :
    ∃ s : List Nat, (s.length = m ∧ ∀ c ∈ s, c ∈ [48, 49]) ∧ den P (n + 1) none 18 [.int z, .int m] S = .ok (.str s) S := by
  refine den_post (f := ⟨2, 5, b18⟩) (fun s : List Nat => s.length = m ∧ ∀ c ∈ s, c ∈ [48, 49]) (fun s => .ok (.str s) S) rfl rfl ?_
  simp (disch := first | omega | (simp; done) | (simp; omega)) [if_pos, if_neg, b18]
  refine wp_seq (wp_forR m (fun a : List Nat × Int => [some (.int z), some (.int m), none, some (.int a.2), some (.str a.1)]) (fun _ => S)
    (fun i a => a.1.length = i ∧ ∀ c ∈ a.1, c ∈ [48, 49]) ([], _) ⟨rfl, by simp⟩ rfl rfl ?_ ?_)
  · rintro i ⟨r, rest⟩ hi ⟨hl, hall⟩
    simp only at hl hall
    obtain ⟨c, hc, he⟩ := pick_s (l := [48, 49]) (z := rest % 2) (by decide) ⟨by omega, by simp; omega⟩
    simp (disch := first | omega | (simp; done) | (simp; omega)) [if_pos, if_neg, he]
    refine ⟨(r ++ [c], _), ⟨by simp [hl], ?_⟩, rfl, rfl⟩
    intro a ha
    rw [List.mem_append, List.mem_singleton] at ha
    rcases ha with ha | rfl
    · simpa using hall a ha
    · simpa using hc
  · rintro ⟨r, rest⟩ ⟨hl, hall⟩
    simp only at hl hall
    simp (disch := first | omega | (simp; done) | (simp; omega)) [if_pos, if_neg, id]
    exact ⟨hl, by simpa using hall⟩
end HT
end
section
set_option maxHeartbeats 0
set_option linter.all false
set_option maxRecDepth 100000
namespace HT
open Pw
theorem asc_of {ns : List (List Nat)} (h : ns.Pairwise (· < ·)) : asc ns = true := by
  unfold asc
  rw [List.all_eq_true]
  intro k hk
  rw [List.mem_range] at hk
  have h1 : k < ns.length := by omega
  have h2 : k + 1 < ns.length := by omega
  simp only [List.getElem?_eq_getElem h1, List.getElem?_eq_getElem h2, Option.getD_some, decide_eq_true_eq]
  exact List.pairwise_iff_getElem.mp h k (k + 1) h1 h2 (by omega)
theorem isNameL_of {s : List Nat} (h : s.length ≤ 8) (h1 : ∃ c r, s = c :: r ∧ c ∈ LET) (h2 : ∀ c ∈ s, c ∈ SIG) : isNameL s = true := by
  obtain ⟨c, r, rfl, hc⟩ := h1
  simp only [isNameL, hc, Bool.and_eq_true, decide_eq_true_eq, List.all_eq_true]
  exact ⟨⟨⟨by simp, h⟩, trivial⟩, h2⟩
theorem sp_names (n : Nat) (S : Store) (z : Int) (m : Nat) (hm : m ≤ 12) :
    ∃ ns : List (List Nat), (ns.length ≤ m ∧ ns.Pairwise (· < ·) ∧ ∀ s ∈ ns, isNameL s = true) ∧ den P (n + 2) none 17 [.int z, .int m] S = .ok (.obj S.length) (.lst (ns.map .str) :: S) := by
  refine den_post (f := ⟨2, 10, b17⟩) (fun ns : List (List Nat) => ns.length ≤ m ∧ ns.Pairwise (· < ·) ∧ ∀ s ∈ ns, isNameL s = true) (fun ns => .ok (.obj S.length) (.lst (ns.map .str) :: S)) rfl rfl ?_
  have hp : binD .pow (.int 10) (.int 13) S = .ok (.int (10 ^ 13)) S := pow_i ⟨by omega, by omega, by decide⟩
  obtain ⟨nb, ⟨hnl, hnb⟩, hden⟩ := sp_numbers n S z 20000000000000 13 (by omega) (by omega)
  have hden' : den P (n + 1) none 15 [.int z, .int 20000000000000, .int 13] S = .ok (.obj S.length) (.lst (nb.map .int) :: S) := hden
  have hget : ∀ i : Nat, i < 13 → ∃ w : Int, nb[i]? = some w ∧ 0 ≤ w := fun i hi => ⟨nb[i]'(by omega), by simp, (hnb _ (List.getElem_mem _)).1⟩
  obtain ⟨w, hw, hw0⟩ := hget 12 (by omega)
  have e12 : idxD (.obj S.length) (.int 12) (.lst (nb.map .int) :: S) = .ok (.int w) (.lst (nb.map .int) :: S) := by
    have := idx_self (nb.map .int) S 12; rw [show ((12 : Nat) : Int) = 12 from rfl] at this; rw [this]; simp [hw]
  have f12 : ∀ o : SO, idxD (.obj S.length) (.int 12) (o :: .lst (nb.map .int) :: S) = .ok (.int w) (o :: .lst (nb.map .int) :: S) := fun o => by
    have := idx_un o (nb.map .int) S 12; rw [show ((12 : Nat) : Int) = 12 from rfl] at this; rw [this]; simp [hw]
  obtain ⟨sz, hsz, h2, h8⟩ : ∃ sz : Nat, (2 + w / 2 % 7 : Int) = sz ∧ 2 ≤ sz ∧ sz ≤ 8 := ⟨(2 + w / 2 % 7).toNat, by omega, by omega, by omega⟩
  have hpl := Int.emod_nonneg (w / 14) (show ((sz : Int) - 1) ≠ 0 by omega)
  have hpl2 := Int.emod_lt_of_pos (w / 14) (show 0 < ((sz : Int) - 1) by omega)
  obtain ⟨pl, hpl0, h1, hps⟩ : ∃ pl : Nat, (1 + w / 14 % ((sz : Int) - 1) : Int) = pl ∧ 1 ≤ pl ∧ pl < sz := ⟨(1 + w / 14 % ((sz : Int) - 1)).toNat, by omega, by omega, by omega⟩
  obtain ⟨st, ⟨hst1, hst2, hst3⟩, hst⟩ := sp_name n (.lst (nb.map .int) :: S) (w / 84) sz (by omega)
  have hw12 := (List.getElem?_eq_some_iff.mp hw).2
  simp (disch := first | omega | (simp; done) | (simp; omega)) [if_pos, if_neg, b17, hp, hden', hw12, hsz, hpl0, hst]
  refine wp_seq (wp_forR m (fun a : List (List Nat) => [some (.int z), some (.int m), none, some (.obj (S.length + 1)), none, some (.obj S.length), some (.int pl), some (.str [48, 49, 50, 51, 52, 53, 54, 55, 56, 57, 97, 98, 99, 100, 101, 102, 103, 104, 105, 106, 107, 108, 109, 110, 111, 112, 113, 114, 115, 116, 117, 118, 119, 120, 121, 122]), some (.int sz), some (.str st)]) (fun a => .dct (nmD a) :: .lst (nb.map .int) :: S)
    (fun i a => a.length ≤ i ∧ a.Nodup ∧ ∀ s ∈ a, isNameL s = true) [] ⟨by simp, by simp, by simp⟩ rfl rfl ?_ ?_)
  · rintro i ks hi ⟨hl, hnd, hall⟩
    obtain ⟨v, hv, hv0⟩ := hget i (by omega)
    obtain ⟨q, hq, hq1, hq8⟩ : ∃ q : Nat, (1 + v % 8 : Int) = q ∧ 1 ≤ q ∧ q ≤ 8 := ⟨(1 + v % 8).toNat, by omega, by omega, by omega⟩
    obtain ⟨nm, ⟨hm1, hm2, hm3⟩, hnm⟩ := sp_name n (.dct (nmD ks) :: .lst (nb.map .int) :: S) (v / 8) q (by omega)
    have hok : isNameL nm = true := isNameL_of (by omega) hm2 hm3
    have fin : ∀ s : List Nat, isNameL s = true → Inv (fun a : List (List Nat) => [some (.int z), some (.int m), none, some (.obj (S.length + 1)), none, some (.obj S.length), some (.int pl), some (.str [48, 49, 50, 51, 52, 53, 54, 55, 56, 57, 97, 98, 99, 100, 101, 102, 103, 104, 105, 106, 107, 108, 109, 110, 111, 112, 113, 114, 115, 116, 117, 118, 119, 120, 121, 122]), some (.int sz), some (.str st)]) (fun a => .dct (nmD a) :: .lst (nb.map .int) :: S)
      (fun i a => a.length ≤ i ∧ a.Nodup ∧ ∀ s ∈ a, isNameL s = true) (i + 1) [some (.int z), some (.int m), none, some (.obj (S.length + 1)), none, some (.obj S.length), some (.int pl), some (.str [48, 49, 50, 51, 52, 53, 54, 55, 56, 57, 97, 98, 99, 100, 101, 102, 103, 104, 105, 106, 107, 108, 109, 110, 111, 112, 113, 114, 115, 116, 117, 118, 119, 120, 121, 122]), some (.int sz), some (.str st)] (.dct (nmD (if s ∈ ks then ks else ks ++ [s])) :: .lst (nb.map .int) :: S) := fun s hs => by
      refine ⟨if s ∈ ks then ks else ks ++ [s], ?_, rfl, rfl⟩
      split
      · exact ⟨by omega, hnd, hall⟩
      · rename_i hns
        refine ⟨by simp; omega, ?_, ?_⟩
        · rw [List.nodup_append]; exact ⟨hnd, by simp, by intro a ha b hb; simp at hb; subst hb; rintro rfl; exact hns ha⟩
        · intro t ht
          rw [List.mem_append, List.mem_singleton] at ht
          rcases ht with ht | rfl
          · exact hall t ht
          · exact hs
    have hv' := (List.getElem?_eq_some_iff.mp hv).2
    simp (disch := first | omega | (simp; done) | (simp; omega)) [if_pos, if_neg, hv', hq, hnm, hw12]
    by_cases hw1 : w % 2 = 1
    · obtain ⟨c, hc, he⟩ := pick_s (l := [48, 49, 50, 51, 52, 53, 54, 55, 56, 57, 97, 98, 99, 100, 101, 102, 103, 104, 105, 106, 107, 108, 109, 110, 111, 112, 113, 114, 115, 116, 117, 118, 119, 120, 121, 122]) (z := 3 * (i : Int) + v % 3) (by decide) ⟨by omega, by simp; omega⟩
      have ht := fin (st.take pl ++ [c] ++ st.drop (pl + 1)) (isNameL_of (by simp; omega) (by
        obtain ⟨a, r, rfl, ha⟩ := hst2
        refine ⟨a, r.take (pl - 1) ++ [c] ++ (a :: r).drop (pl + 1), ?_, ha⟩
        cases pl with
        | zero => omega
        | succ p => simp) (by
        intro x hx
        simp only [List.mem_append, List.mem_singleton] at hx
        rcases hx with (hx | rfl) | hx
        · exact hst3 x (List.mem_of_mem_take hx)
        · revert hc; generalize x = y; intro hc; revert y; decide
        · exact hst3 x (List.mem_of_mem_drop hx)))
      simp (disch := first | omega | (simp; done) | (simp; omega)) [if_pos, if_neg, hw1, he]
      simpa using ht
    · have ht := fin nm hok
      simp (disch := first | omega | (simp; done) | (simp; omega)) [if_pos, if_neg, hw1]
      exact ht
  · rintro ks ⟨hl, hnd, hall⟩
    simp (disch := first | omega | (simp; done) | (simp; omega)) [if_pos, if_neg, keysD_nm (get_over _ _ _), sortD_s]
    exact ⟨ks.mergeSort leL, ⟨by simpa using hl, sort_asc hnd, fun s hs => hall s (by simpa using hs)⟩, rfl⟩
end HT
end
section
set_option maxHeartbeats 0
set_option linter.all false
set_option maxRecDepth 100000
namespace HT
open Pw
@[simp] theorem app_under {xs : List D} {S : Store} {a : SO} {v : D} (h : xs.length < 16777216) : appD (.obj S.length) v (a :: .lst xs :: S) = .ok .non (a :: .lst (xs ++ [v]) :: S) := by rw [app_l (get_under _ _ _) h, put_under]
@[simp] theorem isL_under (xs : List D) (a : SO) (S : Store) : isL (.obj S.length) (a :: .lst xs :: S) = true := isL_l (get_under _ _ _)
theorem isWordL_iff (s : List Nat) : isWordL s = true ↔ 1 ≤ s.length ∧ s.length ≤ 24 ∧ ∀ c ∈ s, c = 48 ∨ c = 49 := by
  simp [isWordL, and_assoc]
theorem isWordL_take {s : List Nat} {k : Nat} (h : isWordL s = true) (hk : 1 ≤ k) : isWordL (s.take k) = true := by
  rw [isWordL_iff] at *
  exact ⟨by simp; omega, by simp; omega, fun c hc => h.2.2 c (List.mem_of_mem_take hc)⟩
theorem isWordL_app {s t : List Nat} (h : isWordL s = true) (h' : isWordL t = true) : isWordL ((s ++ t).take 24) = true := by
  rw [isWordL_iff] at *
  refine ⟨by simp; omega, by simp; omega, fun c hc => ?_⟩
  have := List.mem_of_mem_take hc
  rw [List.mem_append] at this
  rcases this with h1 | h1
  · exact h.2.2 c h1
  · exact h'.2.2 c h1
theorem sp_frames (n : Nat) (S : Store) (z : Int) (m : Nat) (hm : m ≤ 60) :
    ∃ fs : List (List Nat), (fs.length = m ∧ ∀ f ∈ fs, isWordL f = true) ∧ den P (n + 2) none 19 [.int z, .int m] S = .ok (.obj S.length) (.lst (fs.map .str) :: S) := by
  have h0 := sp_numbers n (.lst [] :: S) z 1610612736 m ⟨by omega, by omega⟩ (by omega)
  obtain ⟨nb, ⟨hnl, hnb⟩, hden⟩ := h0
  refine den_post (f := ⟨2, 8, b19⟩) (fun fs : List (List Nat) => fs.length = m ∧ ∀ f ∈ fs, isWordL f = true) (fun fs => .ok (.obj S.length) (.lst (fs.map .str) :: S)) rfl rfl ?_
  have hp : binD .pow (.int 2) (.int 24) (.lst [] :: S) = .ok (.int (2 ^ 24)) (.lst [] :: S) := pow_i ⟨by omega, by omega, by decide⟩
  simp (disch := first | omega | (simp; done) | (simp; omega)) [if_pos, if_neg, b19, hp, hden, items_l (get_over _ _ _)]
  refine wp_seq (wp_forI (fun a : List (List Nat) × List Nat => [some (.int z), some (.int m), some (.str a.2), none, some (.obj S.length), none, none, none]) (fun a => .lst (nb.map .int) :: .lst (a.1.map .str) :: S)
    (fun i a => a.1.length = i ∧ isWordL a.2 = true ∧ ∀ f ∈ a.1, isWordL f = true) ([], [49]) ⟨rfl, by decide, by simp⟩ rfl rfl (fun a => by simp [stands, obAt]) ?_ ?_)
  · rintro i x ⟨fs, bf⟩ hx ⟨hl, hb, hall⟩
    simp only at hl hb hall
    have hi : i < m := by have := (List.getElem?_eq_some_iff.mp hx).1; simpa [hnl] using this
    obtain ⟨v, rfl, hv0⟩ : ∃ v : Int, x = .int v ∧ 0 ≤ v := by
      rw [List.getElem?_map] at hx
      obtain ⟨v, hv, rfl⟩ := Option.map_eq_some_iff.mp hx
      exact ⟨v, rfl, (hnb v (List.mem_of_getElem? hv)).1⟩
    obtain ⟨q, hq, hq1, hq2⟩ : ∃ q : Nat, (1 + v / 4 % 24 : Int) = q ∧ 1 ≤ q ∧ q ≤ 24 := ⟨(1 + v / 4 % 24).toNat, by omega, by omega, by omega⟩
    obtain ⟨w, ⟨hw1, hw2⟩, hw⟩ := sp_bits n (.lst (nb.map .int) :: .lst (fs.map .str) :: S) (v / 96) q (by omega)
    have hok : isWordL w = true := (isWordL_iff w).mpr ⟨by omega, by omega, fun c hc => by simpa using hw2 c hc⟩
    have hbl := (isWordL_iff bf).mp hb
    have fin : ∀ s : List Nat, isWordL s = true → Inv (fun a : List (List Nat) × List Nat => [some (.int z), some (.int m), some (.str a.2), none, some (.obj S.length), none, none, none]) (fun a => .lst (nb.map .int) :: .lst (a.1.map .str) :: S)
      (fun i a => a.1.length = i ∧ isWordL a.2 = true ∧ ∀ f ∈ a.1, isWordL f = true) (i + 1) [some (.int z), some (.int m), some (.str s), none, some (.obj S.length), none, none, none] (.lst (nb.map .int) :: .lst (fs.map .str ++ [.str s]) :: S) := fun s hs =>
      ⟨(fs ++ [s], s), ⟨by simp [hl], hs, fun f hf => by
        rw [List.mem_append, List.mem_singleton] at hf
        rcases hf with hf | rfl
        · exact hall f hf
        · exact hs⟩, rfl, by simp⟩
    simp (disch := first | omega | (simp; done) | (simp; omega)) [if_pos, if_neg, hq, hw]
    by_cases k1 : v % 4 = 1
    · have ht := fin (w.take (1 + q % 3)) (isWordL_take hok (by omega))
      simp (disch := first | omega | (simp; done) | (simp; omega)) [if_pos, if_neg, k1]
      rw [trim_same (by simp), show (1 + (q : Int) % 3).toNat = 1 + q % 3 by omega]
      exact ht
    · by_cases k2 : v % 4 = 2
      · have ht := fin (bf.take q) (isWordL_take hb (by omega))
        simp (disch := first | omega | (simp; done) | (simp; omega)) [if_pos, if_neg, k2]
        rw [trim_same (by simp)]
        exact ht
      · by_cases k3 : v % 4 = 3
        · have ht := fin ((bf ++ w).take 24) (isWordL_app hb hok)
          simp (disch := first | omega | (simp; done) | (simp; omega)) [if_pos, if_neg, k3]
          rw [trim_same (by simp)]
          exact ht
        · have ht := fin w hok
          simp (disch := first | omega | (simp; done) | (simp; omega)) [if_pos, if_neg, k1, k2, k3]
          rw [trim_same (by simp)]
          exact ht
  · rintro ⟨fs, bf⟩ ⟨hl, hb, hall⟩
    simp only at hl hb hall
    simp (disch := first | omega | (simp; done) | (simp; omega)) [if_pos, if_neg, id]
    exact ⟨fs, ⟨by simpa [hnl] using hl, hall⟩, rfl⟩
end HT
end
section
set_option maxHeartbeats 0
set_option linter.all false
set_option maxRecDepth 100000
namespace HT
open Pw
/-! the plain law of a contest -/
theorem lex_take : ∀ (a b : List Nat), ¬ a < b → a.length = b.length → ∀ t, (∀ j, j < t → ∀ x y, a[j]? = some x → b[j]? = some y → ¬ y < x) → a.take t = b.take t
  | [], [], _, _, t, _ => rfl
  | x :: a, y :: b, h, hl, 0, _ => rfl
  | x :: a, y :: b, h, hl, t + 1, hj => by
    rw [List.cons_lt_cons_iff] at h
    have h0 := hj 0 (by omega) x y rfl rfl
    have e : x = y := by
      by_cases hx : x < y
      · exact absurd (Or.inl hx) h
      · omega
    subst e
    simp only [List.take_succ_cons]
    rw [lex_take a b (fun hab => h (Or.inr ⟨rfl, hab⟩)) (by simpa using hl) t fun j hjt x y hx hy => hj (j + 1) (by omega) x y (by simpa using hx) (by simpa using hy)]
theorem lex_at : ∀ (a b : List Nat) (t : Nat), ¬ a < b → a.take t = b.take t → ∀ x y, a[t]? = some x → b[t]? = some y → ¬ x < y
  | x :: a, y :: b, 0, h, _, x', y', hx, hy => by
    simp at hx hy; subst hx; subst hy
    rw [List.cons_lt_cons_iff] at h
    exact fun hx => h (Or.inl hx)
  | x :: a, y :: b, t + 1, h, ht, x', y', hx, hy => by
    simp only [List.take_succ_cons, List.cons.injEq] at ht
    obtain ⟨rfl, ht⟩ := ht
    rw [List.cons_lt_cons_iff] at h
    exact lex_at a b t (fun hab => h (Or.inr ⟨rfl, hab⟩)) ht x' y' (by simpa using hx) (by simpa using hy)
  | [], _, _, _, _, _, _, hx, _ => by simp at hx
  | _ :: _, [], _, _, _, _, _, _, hy => by simp at hy
def pad (f : List Nat) : List Nat := f ++ List.replicate (24 - f.length) 49
/-- the tick at which a frame loses before t, or -1 -/
def lostT (le f : List Nat) : Nat → Int
  | 0 => -1
  | t + 1 => if 0 ≤ lostT le f t then lostT le f t else if f[t]? = some 49 ∧ le[t]? = some 48 then t else -1
theorem lostT_lt (le f : List Nat) : ∀ t, lostT le f t < t
  | 0 => by simp [lostT]
  | t + 1 => by
    have := lostT_lt le f t
    unfold lostT
    split
    · omega
    · split <;> omega
theorem lostT_ge (le f : List Nat) : ∀ t, -1 ≤ lostT le f t
  | 0 => by simp [lostT]
  | t + 1 => by
    have := lostT_ge le f t
    unfold lostT
    split
    · omega
    · split <;> omega
theorem lostT_keep (le f : List Nat) {t : Nat} (h : 0 ≤ lostT le f t) : ∀ k, lostT le f (t + k) = lostT le f t
  | 0 => rfl
  | k + 1 => by
    have ih := lostT_keep le f h k
    show lostT le f ((t + k) + 1) = _
    rw [lostT, ih, if_pos h]
theorem lostT_end (le f : List Nat) : ∀ k, lostT le f (f.length + k) = lostT le f f.length
  | 0 => rfl
  | k + 1 => by
    have ih := lostT_end le f k
    have hg := lostT_ge le f f.length
    show lostT le f ((f.length + k) + 1) = _
    rw [lostT, ih, List.getElem?_eq_none (by omega)]
    split
    · rfl
    · simp; omega
/-- still in the contest at t: nothing lost before -/
theorem alive (le f : List Nat) : ∀ t, lostT le f t < 0 → ∀ j, j < t → ¬ (f[j]? = some 49 ∧ le[j]? = some 48)
  | 0, _, j, hj => by omega
  | t + 1, h, j, hj => by
    rw [lostT] at h
    split at h
    · omega
    · rename_i h0
      split at h
      · omega
      · rename_i h1
        by_cases e : j = t
        · subst e; exact h1
        · exact alive le f t (by omega) j (by omega)
def bit (c : Nat) : Prop := c = 48 ∨ c = 49
structure Least (le : List Nat) (fs : List (List Nat)) : Prop where
  mem : ∃ m ∈ fs, le = pad m
  low : ∀ f ∈ fs, ¬ pad f < le
theorem pad_len {f : List Nat} (h : isWordL f = true) : (pad f).length = 24 := by
  have := (isWordL_iff f).mp h
  simp [pad]; omega
theorem pad_bit {f : List Nat} (h : isWordL f = true) : ∀ c ∈ pad f, bit c := by
  have := (isWordL_iff f).mp h
  intro c hc
  simp only [pad, List.mem_append, List.mem_replicate] at hc
  rcases hc with hc | hc
  · exact this.2.2 c hc
  · exact Or.inr hc.2
theorem pad_at {f : List Nat} {t : Nat} (h : t < f.length) : (pad f)[t]? = f[t]? := by
  unfold pad; rw [List.getElem?_append_left h]
/-- who talks at t has sent what is the least so far -/
theorem talk_take {le : List Nat} {fs : List (List Nat)} (hw : ∀ f ∈ fs, isWordL f = true) (L : Least le fs) {f : List Nat} (hf : f ∈ fs) {t : Nat} (ht : t < f.length) (ha : lostT le f t < 0) : (pad f).take t = le.take t := by
  obtain ⟨m, hm, rfl⟩ := L.mem
  refine lex_take _ _ (L.low f hf) (by rw [pad_len (hw f hf), pad_len (hw m hm)]) t fun j hj x y hx hy hyx => ?_
  have hxb := pad_bit (hw f hf) x (List.mem_of_getElem? hx)
  have hyb := pad_bit (hw m hm) y (List.mem_of_getElem? hy)
  rw [pad_at (by omega)] at hx
  refine alive (pad m) f t ha j hj ⟨?_, ?_⟩
  · rw [hx]; rcases hxb with rfl | rfl <;> rcases hyb with rfl | rfl <;> first | omega | rfl
  · rw [hy]; rcases hxb with rfl | rfl <;> rcases hyb with rfl | rfl <;> first | omega | rfl
theorem talk_at {le : List Nat} {fs : List (List Nat)} (hw : ∀ f ∈ fs, isWordL f = true) (L : Least le fs) {f : List Nat} (hf : f ∈ fs) {t : Nat} (ht : t < f.length) (ha : lostT le f t < 0) {x y : Nat} (hx : f[t]? = some x) (hy : le[t]? = some y) : y ≤ x := by
  have := lex_at _ _ t (L.low f hf) (talk_take hw L hf ht ha) x y (by rw [pad_at ht]; exact hx) hy
  omega
/-- the least one never loses -/
theorem least_alive {m : List Nat} : ∀ t, lostT (pad m) m t < 0
  | 0 => by simp [lostT]
  | t + 1 => by
    have := least_alive (m := m) t
    rw [lostT, if_neg (by omega)]
    by_cases ht : t < m.length
    · rw [pad_at ht]
      rw [if_neg (by rintro ⟨h1, h2⟩; rw [h1] at h2; simp at h2)]; decide
    · rw [List.getElem?_eq_none (show m.length ≤ t by omega)]
      simp
def talks (le f : List Nat) (t : Nat) : Bool := decide (lostT le f t < 0) && decide (t < f.length)
/-- the level of a tick -/
theorem level_ok {le : List Nat} {fs : List (List Nat)} (hw : ∀ f ∈ fs, isWordL f = true) (L : Least le fs) {t : Nat} (h : ∃ f ∈ fs, talks le f t = true) :
    le[t]? = some (if (fs.any fun f => talks le f t && decide (f[t]? = some 48)) = true then 48 else 49) := by
  obtain ⟨m, hm, rfl⟩ := L.mem
  obtain ⟨f, hf, hft⟩ := h
  simp only [talks, Bool.and_eq_true, decide_eq_true_eq] at hft
  have h24 := pad_len (hw m hm)
  have hf24 := ((isWordL_iff f).mp (hw f hf)).2.1
  have hlt : t < (pad m).length := by omega
  obtain ⟨y, hy⟩ : ∃ y, (pad m)[t]? = some y := ⟨_, List.getElem?_eq_getElem hlt⟩
  have hyb := pad_bit (hw m hm) y (List.mem_of_getElem? hy)
  rw [hy]
  split
  · rename_i ha
    rw [List.any_eq_true] at ha
    obtain ⟨g, hg, hgt⟩ := ha
    simp only [talks, Bool.and_eq_true, decide_eq_true_eq] at hgt
    have := talk_at hw L hg hgt.1.2 hgt.1.1 hgt.2 hy
    rcases hyb with rfl | rfl
    · rfl
    · omega
  · rename_i ha
    rw [Bool.not_eq_true, List.any_eq_false] at ha
    by_cases hml : t < m.length
    · have := ha m hm
      have hal := least_alive (m := m) t
      simp only [talks, hal, hml, decide_true, Bool.true_and, decide_eq_true_eq] at this
      rw [pad_at hml] at hy
      rw [hy] at this
      rcases hyb with rfl | rfl
      · simp at this
      · rfl
    · unfold pad at hy
      rw [List.getElem?_append_right (by omega)] at hy
      have := List.mem_of_getElem? hy
      rw [List.mem_replicate] at this
      rw [this.2]
/-- a talking frame's step -/
theorem step_ok {le : List Nat} {fs : List (List Nat)} (hw : ∀ f ∈ fs, isWordL f = true) (L : Least le fs) {f : List Nat} (hf : f ∈ fs) {t : Nat} {y : Nat} (hy : le[t]? = some y) :
    lostT le f (t + 1) = if talks le f t = true ∧ f[t]? ≠ some y then (t : Int) else lostT le f t := by
  have hg := lostT_ge le f t
  rw [lostT]
  by_cases ha : 0 ≤ lostT le f t
  · rw [if_pos ha, if_neg]
    simp only [talks, Bool.and_eq_true, decide_eq_true_eq]; omega
  · rw [if_neg ha]
    by_cases ht : t < f.length
    · obtain ⟨x, hx⟩ : ∃ x, f[t]? = some x := ⟨_, List.getElem?_eq_getElem ht⟩
      have hle := talk_at hw L hf ht (by omega) hx hy
      have hxb := ((isWordL_iff f).mp (hw f hf)).2.2 x (List.mem_of_getElem? hx)
      have hta : talks le f t = true := by simp [talks, ht]; omega
      have hyb : bit y := by obtain ⟨m, hm, rfl⟩ := L.mem; exact pad_bit (hw m hm) y (List.mem_of_getElem? hy)
      rw [hx, hy, hta]
      rcases hxb with rfl | rfl <;> rcases hyb with rfl | rfl <;> first | omega | (simp; try omega)
    · rw [List.getElem?_eq_none (by omega)]
      have hta : talks le f t = false := by simp [talks]; omega
      simp [hta]; omega
/-- the end of a frame -/
def tickF (le f : List Nat) : Nat := if lostT le f f.length < 0 then f.length else (lostT le f f.length).toNat + 1
def ticks (le : List Nat) (fs : List (List Nat)) : Nat := (fs.map (tickF le)).foldl max 0
theorem foldl_max : ∀ (l : List Nat) (a b : Nat), l.foldl max a ≤ b ↔ a ≤ b ∧ ∀ x ∈ l, x ≤ b
  | [], a, b => by simp
  | x :: r, a, b => by
    rw [List.foldl_cons, foldl_max r, List.forall_mem_cons, Nat.max_le, and_assoc]
theorem ticks_le {le : List Nat} {fs : List (List Nat)} {b : Nat} : ticks le fs ≤ b ↔ ∀ f ∈ fs, tickF le f ≤ b := by
  unfold ticks; rw [foldl_max]; simp
theorem le_ticks {le : List Nat} {fs : List (List Nat)} {f : List Nat} (hf : f ∈ fs) : tickF le f ≤ ticks le fs := (ticks_le.mp (Nat.le_refl _)) f hf
theorem talk_tick {le f : List Nat} {t : Nat} (h : talks le f t = true) : t + 1 ≤ tickF le f := by
  simp only [talks, Bool.and_eq_true, decide_eq_true_eq] at h
  unfold tickF
  split
  · omega
  · rename_i hn
    have : ¬ (lostT le f f.length).toNat < t := fun hlt => by
      have hge : 0 ≤ lostT le f f.length := by omega
      obtain ⟨j, hj⟩ : ∃ j : Nat, (lostT le f f.length) = j := ⟨_, (Int.toNat_of_nonneg hge).symm⟩
      -- lost at j < t: then it is lost at t
      have key : ∀ k, 0 ≤ lostT le f k → ∀ s : Nat, lostT le f k < s → 0 ≤ lostT le f s := by
        intro k
        induction k with
        | zero => intro h; simp [lostT] at h
        | succ k ih =>
          intro hk s hs
          by_cases h0 : 0 ≤ lostT le f k
          · exact ih h0 s (by have := lostT_keep le f h0 1; rw [this] at hs; exact hs)
          · have e : lostT le f (k + 1) = k := by
              rw [lostT, if_neg h0] at hk ⊢
              split at hk
              · rename_i hc; rw [if_pos hc]
              · omega
            obtain ⟨d, hd⟩ : ∃ d : Nat, s = (k + 1) + d := ⟨s - (k + 1), by omega⟩
            subst hd
            rw [lostT_keep le f hk d]; exact hk
      have := key f.length hge t (by omega)
      omega
    omega
theorem done_tick {le f : List Nat} {t : Nat} (h : talks le f t = false) : tickF le f ≤ t ∧ lostT le f t = lostT le f f.length := by
  simp only [talks, Bool.and_eq_false_iff, decide_eq_false_iff_not] at h
  by_cases hl : t < f.length
  · have h0 : 0 ≤ lostT le f t := by omega
    obtain ⟨d, hd⟩ : ∃ d : Nat, f.length = t + d := ⟨f.length - t, by omega⟩
    have e := lostT_keep le f h0 d
    rw [← hd] at e
    have := lostT_lt le f t
    refine ⟨?_, e.symm⟩
    unfold tickF
    rw [e, if_neg (by omega)]; omega
  · obtain ⟨d, rfl⟩ : ∃ d : Nat, t = f.length + d := ⟨t - f.length, by omega⟩
    refine ⟨?_, lostT_end le f d⟩
    have := lostT_lt le f f.length
    unfold tickF
    split <;> omega
end HT
end
section
set_option maxHeartbeats 0
set_option linter.all false
set_option maxRecDepth 100000
namespace Pw
/-- a comprehension over a range: who passes, what it gives -/
theorem compK_rg {C : Ctx} {e : Exp} {j : Nat} {ifs : List Tst} {env : Env} {S : Store} (n : Nat) (p : Nat → Bool) (v : Nat → D) (hl : n ≤ 16777216)
    (h : ∀ k, k < n → evTs C ifs ((env.set j none).set j (some (.int (k : Int)))) S = .ok (p k) S ∧ (p k = true → evE C e ((env.set j none).set j (some (.int (k : Int)))) S = .ok (v k) S)) :
    compK C e (.v j) ifs env none ((List.range n).map fun i : Nat => .int (i : Int)) S = .ok (((List.range n).filter p).map v) S := by
  rw [compK_fm (fun x => match x with | .int k => if p k.toNat = true then some (v k.toNat) else none | _ => none) (by simpa using hl)]
  · congr 1
    rw [List.filterMap_map]
    induction List.range n with
    | nil => rfl
    | cons a r ih =>
      simp only [List.filterMap_cons, List.filter_cons, Function.comp_apply, Int.toNat_natCast, ih]
      cases p a <;> simp
  · intro x hx
    rw [List.mem_map] at hx
    obtain ⟨k, hk, rfl⟩ := hx
    obtain ⟨h1, h2⟩ := h k (List.mem_range.mp hk)
    refine ⟨_, p k, rfl, h1, ?_⟩
    cases hp : p k with
    | true => exact ⟨v k, h2 hp, by simp [hp]⟩
    | false => simp [hp]
theorem compL_on {β : Type} {f : D → Store → Res (Option D)} {g : Store → Bool} (l : List β) (c : β → D) (v : β → D) {S : Store} (hg : g S = true)
    (h : ∀ b ∈ l, f (c b) S = .ok (some (v b)) S) : compL f g (l.map c) S = .ok (l.map v) S := by
  induction l with
  | nil => simp [compL, hg]
  | cons x r ih => simp only [List.map_cons, compL, hg, if_true, h x (by simp), ih fun y hy => h y (by simp [hy]), bind_ok]
theorem compK_on {β : Type} {C : Ctx} {e : Exp} {t : Tg} {ifs : List Tst} {env : Env} {o : Option Nat} {S : Store} (l : List β) (c : β → D) (v : β → D) (hl : l.length ≤ 16777216)
    (h : ∀ b ∈ l, ∃ env', bind1 t (c b) (kill t.ix env) = some env' ∧ evTs C ifs env' S = .ok true S ∧ evE C e env' S = .ok (v b) S) : compK C e t ifs env o (l.map c) S = .ok (l.map v) S := by
  unfold compK
  rw [if_pos (by simpa using hl)]
  refine compL_on l c v (by cases o <;> simp [stands, obAt]) fun x hx => ?_
  obtain ⟨env', h1, h2, h3⟩ := h x hx
  simp only [h1, h2, h3]
@[simp] theorem envBel_oi (n : Nat) (o : Option Int) (r : Env) : envBel n (o.map D.int :: r) = envBel n r := by cases o <;> simp
end Pw
namespace HT
open Pw
theorem ticks_24 {le : List Nat} {fs : List (List Nat)} (hw : ∀ f ∈ fs, isWordL f = true) : ticks le fs ≤ 24 := ticks_le.mpr fun f hf => by
  have h1 := ((isWordL_iff f).mp (hw f hf)).2.1
  have h2 := lostT_lt le f f.length
  unfold tickF
  split <;> omega
theorem sp_run (n : Nat) (S : Store) (a : Nat) (le : List Nat) (fs : List (List Nat)) (h : get S a = some (.lst (fs.map .str))) (hn : fs.length ≤ 100) (hw : ∀ f ∈ fs, isWordL f = true) (L : Least le fs) :
    den P (n + 1) none 6 [.obj a] S = .ok (.tup [.str (le.take (ticks le fs)), .obj S.length]) (.lst [] :: .lst (fs.map fun f => .int (lostT le f f.length)) :: S) := by
  have hS := getLt h
  have hle24 : le.length = 24 := by obtain ⟨m, hm, rfl⟩ := L.mem; exact pad_len (hw m hm)
  refine den_wp (f := ⟨1, 8, b6⟩) rfl rfl ?_
  simp (disch := first | omega | (simp; done) | (simp; omega)) [if_pos, if_neg, b6, h]
  rw [compK_map (fun _ => .int (-1)) (by simp; omega) (fun x hx => ⟨_, rfl, by simp, by simp⟩)]
  simp (disch := first | omega | (simp; done) | (simp; omega)) [if_pos, if_neg, id]
  have h24 := ticks_24 (le := le) hw
  refine wp_seq (wp_while (m := 25) (fun k env S' => ∃ (t : Nat) (v2 : Option Int), k + t = 25 ∧ t ≤ ticks le fs ∧ env = [some (.obj a), none, v2.map .int, none, some (.str (le.take t)), some (.obj S.length), none, none] ∧ S' = .lst (fs.map fun f => .int (lostT le f t)) :: S)
    ⟨0, none, rfl, by omega, by simp, by simp [lostT]⟩ (by decide) ?_)
  rintro k env S' ⟨t, v2, hkt, htk, rfl, rfl⟩ hk
  have htl : (le.take t).length = t := by simp; omega
  simp (disch := first | omega | (simp; done) | (simp; omega)) [if_pos, if_neg, h, htl]
  rw [compK_rg fs.length (fun k => talks le (fs[k]?.getD []) t) (fun k => .int k) (by omega) (fun k hk => by
    have hwk := ((isWordL_iff fs[k]).mp (hw _ (List.getElem_mem hk))).2.1
    constructor
    · simp (disch := first | omega | (simp; done) | (simp; omega)) [if_pos, if_neg, h, hk, talks]
      by_cases h0 : lostT le fs[k] t < 0
      · simp (disch := first | omega | (simp; done) | (simp; omega)) [if_pos, if_neg, h, hk, h0]
        by_cases h1 : t < fs[k].length <;> simp [h1]
      · simp (disch := first | omega | (simp; done) | (simp; omega)) [if_pos, if_neg, h, hk, h0]
    · simp (disch := first | omega | (simp; done) | (simp; omega)) [if_pos, if_neg, id])]
  generalize htk' : (List.range fs.length).filter (fun k => talks le (fs[k]?.getD []) t) = tk
  have htkm : ∀ k, k ∈ tk ↔ k < fs.length ∧ talks le (fs[k]?.getD []) t = true := fun k => by rw [← htk']; simp
  have htkl : tk.length ≤ fs.length := by rw [← htk']; exact Nat.le_trans (List.length_filter_le _ _) (by simp)
  by_cases h0 : tk.length = 0
  · have e : tk = [] := List.eq_nil_of_length_eq_zero h0
    subst e
    have hd : ∀ f ∈ fs, talks le f t = false := fun f hf => by
      obtain ⟨i, hi, rfl⟩ := List.getElem_of_mem hf
      have := htkm i
      simp [hi] at this
      exact this
    have et : t = ticks le fs := by
      have : ticks le fs ≤ t := ticks_le.mpr fun f hf => (done_tick (hd f hf)).1
      omega
    have el : fs.map (fun f => D.int (lostT le f t)) = fs.map (fun f => D.int (lostT le f f.length)) := List.map_congr_left fun f hf => by rw [(done_tick (hd f hf)).2]
    simp (disch := first | omega | (simp; done) | (simp; omega)) [if_pos, if_neg, h]
    rw [el, ← et]
    unfold fin
    simp
  · have hfst : ∃ f ∈ fs, talks le f t = true := by
      cases tk with
      | nil => simp at h0
      | cons k0 r => have := (htkm k0).mp (by simp); exact ⟨fs[k0]'this.1, List.getElem_mem _, by simpa [this.1] using this.2⟩
    have ht24 : t < 24 := by
      obtain ⟨f, hf, hft⟩ := hfst
      have := ((isWordL_iff f).mp (hw f hf)).2.1
      simp [talks] at hft; omega
    have htt : t + 1 ≤ ticks le fs := by
      obtain ⟨f, hf, hft⟩ := hfst
      exact Nat.le_trans (talk_tick hft) (le_ticks hf)
    have htr : ∀ k ∈ tk, ∃ hk : k < fs.length, fs[k].length ≤ 24 ∧ t < fs[k].length := fun k hk => by
      have := (htkm k).mp hk
      refine ⟨this.1, ((isWordL_iff fs[k]).mp (hw _ (List.getElem_mem this.1))).2.1, ?_⟩
      have h2 := this.2
      simp [this.1, talks] at h2; exact h2.2
    simp (disch := first | omega | (simp; done) | (simp; omega)) [if_pos, if_neg, h, h0]
    rw [compK_on tk (fun k => .int k) (fun k => .bl (decide ((fs[k]?.getD [])[t]? = some 48))) (by omega) (fun k hk => by
      obtain ⟨hk1, hk2, hk3⟩ := htr k hk
      refine ⟨_, rfl, by simp, ?_⟩
      simp (disch := first | omega | (simp; done) | (simp; omega)) [if_pos, if_neg, h, hk1, hk3])]
    generalize hany : (tk.any fun k => decide ((fs[k]?.getD [])[t]? = some 48)) = an
    have hlv : le[t]? = some (if an = true then 48 else 49) := by
      rw [level_ok hw L hfst]
      congr 1
      have : (fs.any fun f => talks le f t && decide (f[t]? = some 48)) = an := by
        rw [← hany, Bool.eq_iff_iff, List.any_eq_true, List.any_eq_true]
        constructor
        · rintro ⟨f, hf, hft⟩
          obtain ⟨i, hi, rfl⟩ := List.getElem_of_mem hf
          rw [Bool.and_eq_true] at hft
          exact ⟨i, (htkm i).mpr ⟨hi, by simpa [hi] using hft.1⟩, by simpa [hi] using hft.2⟩
        · rintro ⟨i, hi, hit⟩
          obtain ⟨hi1, hi2⟩ := (htkm i).mp hi
          exact ⟨fs[i], List.getElem_mem _, by rw [Bool.and_eq_true]; exact ⟨by simpa [hi1] using hi2, by simpa [hi1] using hit⟩⟩
      rw [this]
    simp (disch := first | omega | (simp; done) | (simp; omega)) [if_pos, if_neg, h, h0, hany]
    obtain ⟨lv, hlvv⟩ : ∃ lv : Nat, lv = (if an = true then 48 else 49) := ⟨_, rfl⟩
    rw [← hlvv] at hlv
    rw [show ∀ (S1 : Store) (o1 o2 o3 : Option D) (o4 o5 : Option D), (if an = true then Res.ok (Flow.nx [some (D.obj a), none, o1, some (D.str [48]), o2, o3, o4, o5]) S1 else Res.ok (Flow.nx [some (D.obj a), none, o1, some (D.str [49]), o2, o3, o4, o5]) S1) = Res.ok (Flow.nx [some (D.obj a), none, o1, some (D.str [lv]), o2, o3, o4, o5]) S1 from fun S1 o1 o2 o3 o4 o5 => by rw [hlvv]; cases an <;> rfl]
    clear hlvv hany
    simp (disch := first | omega | (simp; done) | (simp; omega)) [if_pos, if_neg, id]
    refine wp_seq (wp_forI (fun a' : List Int × Option Int => [some (.obj a), none, a'.2.map .int, some (.str [lv]), some (.str (le.take t)), some (.obj S.length), some (.int t), some (.obj (S.length + 1))]) (fun a' => .lst (tk.map fun k : Nat => .int (k : Int)) :: .lst (a'.1.map .int) :: S)
      (fun i a' => a'.1.length = fs.length ∧ ∀ k, (hk : k < fs.length) → a'.1[k]? = some (if k ∈ tk.take i ∧ fs[k][t]? ≠ some lv then (t : Int) else lostT le fs[k] t)) (fs.map (fun f => lostT le f t), v2) ⟨by simp, fun k hk => by simp [hk]⟩ rfl (by simp [Function.comp_def]) (fun a' => by simp) ?_ ?_)
    · rintro i x ⟨l, v⟩ hx ⟨hl1, hl2⟩
      simp only at hl1 hl2
      obtain ⟨k, hk, rfl⟩ : ∃ k, tk[i]? = some k ∧ x = .int (k : Int) := by
        rw [List.getElem?_map] at hx
        obtain ⟨k, hk, rfl⟩ := Option.map_eq_some_iff.mp hx
        exact ⟨k, hk, rfl⟩
      obtain ⟨hk1, hk2, hk3⟩ := htr k (List.mem_of_getElem? hk)
      have htake : tk.take (i + 1) = tk.take i ++ [k] := by rw [List.take_add_one, hk]; rfl
      simp (disch := first | omega | (simp; done) | (simp; omega)) [if_pos, if_neg, h, hk1, hk3]
      by_cases hc : fs[k][t] = lv
      · simp (disch := first | omega | (simp; done) | (simp; omega)) [if_pos, if_neg, hc]
        refine ⟨(l, some (k : Int)), ⟨hl1, fun j hj => ?_⟩, rfl, rfl⟩
        rw [hl2 j hj, htake]
        by_cases e : j = k
        · subst e; simp [hk3, hc]
        · simp [e]
      · simp (disch := first | omega | (simp; done) | (simp; omega)) [if_pos, if_neg, hc, hl1]
        refine ⟨(l.set k t, some (k : Int)), ⟨by simpa using hl1, fun j hj => ?_⟩, rfl, by rw [trim_same (by simp)]; simp [List.map_set]⟩
        rw [htake, List.getElem?_set]
        by_cases e : j = k
        · subst e; simp [hk3, hc, hl1, hj]
        · rw [if_neg (fun e' => e e'.symm), hl2 j hj]; simp [e]
    · rintro ⟨l, v⟩ ⟨hl1, hl2⟩
      simp only at hl1 hl2
      have el : l = fs.map (fun f => lostT le f (t + 1)) := by
        apply List.ext_getElem?
        intro k
        by_cases hk : k < fs.length
        · rw [hl2 k hk, List.getElem?_map, List.getElem?_eq_getElem hk]
          simp only [Option.map_some, List.length_map, List.take_length]
          have hki : k ∈ tk ↔ talks le fs[k] t = true := by rw [htkm]; simp [hk]
          rw [step_ok hw L (List.getElem_mem hk) hlv]
          simp only [hki]
        · rw [List.getElem?_eq_none (by omega), List.getElem?_eq_none (by simp; omega)]
      subst el
      simp (disch := first | omega | (simp; done) | (simp; omega)) [if_pos, if_neg, id]
      refine ⟨k - 1, by omega, t + 1, by omega, htt, ⟨⟨v, rfl⟩, by rw [List.take_add_one, hlv]; rfl⟩, ?_⟩
      simp only [Function.comp_def]
      rw [trim_g1 (by simp; omega) (by simp)]
end HT
end
section
set_option maxHeartbeats 0
set_option linter.all false
set_option maxRecDepth 100000
namespace HT
open Pw
def leastOf (fs : List (List Nat)) : List Nat := fs.foldl (fun le f => if le = [] ∨ pad f < le then pad f else le) []
theorem nlt_trans {a b c : List Nat} (h1 : ¬ b < a) (h2 : ¬ c < b) : ¬ c < a := List.not_lt.mpr (List.le_trans (List.not_lt.mp h1) (List.not_lt.mp h2))
theorem least_fold : ∀ (fs ps : List (List Nat)) (le : List Nat), Least le ps → (∀ f ∈ ps, isWordL f = true) → (∀ f ∈ fs, isWordL f = true) → Least (fs.foldl (fun le f => if le = [] ∨ pad f < le then pad f else le) le) (ps ++ fs)
  | [], ps, le, L, _, _ => by simpa using L
  | f :: r, ps, le, L, hw, hf => by
    have hle : le ≠ [] := by
      obtain ⟨m, hm, rfl⟩ := L.mem
      intro e
      have := pad_len (hw m hm)
      rw [e] at this; simp at this
    have e : ps ++ f :: r = (ps ++ [f]) ++ r := by simp
    rw [List.foldl_cons, e]
    refine least_fold r (ps ++ [f]) _ ?_ ?_ (fun g hg => hf g (by simp [hg]))
    · by_cases hlt : pad f < le
      · rw [if_pos (Or.inr hlt)]
        refine ⟨⟨f, by simp, rfl⟩, fun g hg => ?_⟩
        rw [List.mem_append, List.mem_singleton] at hg
        rcases hg with hg | rfl
        · exact nlt_trans (List.not_lt.mpr (List.le_of_lt hlt)) (L.low g hg)
        · exact List.lt_irrefl _
      · rw [if_neg (by rintro (h | h); exact hle h; exact hlt h)]
        obtain ⟨m, hm, hme⟩ := L.mem
        refine ⟨⟨m, by simp [hm], hme⟩, fun g hg => ?_⟩
        rw [List.mem_append, List.mem_singleton] at hg
        rcases hg with hg | rfl
        · exact L.low g hg
        · exact hlt
    · intro g hg
      rw [List.mem_append, List.mem_singleton] at hg
      rcases hg with hg | rfl
      · exact hw g hg
      · exact hf _ (by simp)
theorem least_of {fs : List (List Nat)} (hw : ∀ f ∈ fs, isWordL f = true) (hn : fs ≠ []) : Least (leastOf fs) fs := by
  cases fs with
  | nil => exact absurd rfl hn
  | cons f r =>
    unfold leastOf
    rw [List.foldl_cons, if_pos (Or.inl rfl)]
    exact least_fold r [f] (pad f) ⟨⟨f, by simp, rfl⟩, fun g hg => by rw [List.mem_singleton] at hg; subst hg; exact List.lt_irrefl _⟩ (fun g hg => by rw [List.mem_singleton] at hg; subst hg; exact hw _ (by simp)) (fun g hg => hw g (by simp [hg]))
def toW (w : List Nat × List Nat) : D := .tup [.str w.1, .str w.2]
def wonS : List Nat := [119, 111, 110]
def lostS : List Nat := [108, 111, 115, 116]
def endOf (le : List Nat) (w : List Nat × List Nat) : D :=
  .tup [.str w.1, .str (if lostT le w.2 w.2.length < 0 then wonS else lostS), .int (if lostT le w.2 w.2.length < 0 then (w.2.length : Int) else lostT le w.2 w.2.length)]
@[simp] theorem bels_endOf (n : Nat) (le) (ws : List (List Nat × List Nat)) : D.bels n (ws.map (endOf le)) = true := belsM fun x _ => by simp [endOf]
theorem sp_law_contest (n : Nat) (S : Store) (a : Nat) (ws : List (List Nat × List Nat)) (h : get S a = some (.lst (ws.map toW))) (hn : ws.length ≤ 100) (hn0 : ws ≠ []) (hw : ∀ f ∈ ws.map (·.2), isWordL f = true) :
    den P (n + 1) none 21 [.obj a] S = .ok (.tup [.str ((leastOf (ws.map (·.2))).take (ticks (leastOf (ws.map (·.2))) (ws.map (·.2)))), .tup (ws.map (endOf (leastOf (ws.map (·.2)))))]) S := by
  have hS := getLt h
  have L := least_of hw (by simpa using hn0)
  have hle24 : (leastOf (ws.map (·.2))).length = 24 := by obtain ⟨m, hm, e⟩ := L.mem; rw [e]; exact pad_len (hw m hm)
  have hat : ∀ (i : Nat) (x : D), (ws.map toW)[i]? = some x → ∃ w, ws[i]? = some w ∧ x = toW w ∧ isWordL w.2 = true := fun i x hx => by
    rw [List.getElem?_map] at hx
    obtain ⟨w, hw', rfl⟩ := Option.map_eq_some_iff.mp hx
    exact ⟨w, hw', rfl, hw _ (List.mem_map.mpr ⟨w, List.mem_of_getElem? hw', rfl⟩)⟩
  refine den_wp (f := ⟨1, 10, b21⟩) rfl rfl ?_
  simp (disch := first | omega | (simp; done) | (simp; omega)) [if_pos, if_neg, b21, h]
  refine wp_seq (wp_forI (fun le : List Nat => [some (.obj a), none, none, none, some (.str le), none, none, none, none, none]) (fun _ => S)
    (fun i le => le = ((ws.map (·.2)).take i).foldl (fun le f => if le = [] ∨ pad f < le then pad f else le) []) [] (by simp) rfl rfl (fun _ => by simp) ?_ ?_)
  · rintro i x le hx hle
    obtain ⟨w, hwi, rfl, hok⟩ := hat i x hx
    have hl := ((isWordL_iff w.2).mp hok)
    have hnx : ((ws.map (·.2)).take (i + 1)).foldl (fun le f => if le = [] ∨ pad f < le then pad f else le) [] = if le = [] ∨ pad w.2 < le then pad w.2 else le := by
      rw [List.take_add_one, List.getElem?_map, hwi, List.foldl_append, ← hle]; rfl
    have hm : ∀ S, binD .mul (.str [49]) (.int (24 - (w.2.length : Int))) S = .ok (.str (List.replicate (24 - w.2.length) 49)) S := fun S => by
      rw [mul_s (by omega) (by omega)]; congr 3; omega
    have hp : ∀ S, binD .add (.str w.2) (.str (List.replicate (24 - w.2.length) 49)) S = .ok (.str (pad w.2)) S := fun S => by
      rw [add_s (by simp; omega)]; rfl
    simp (disch := first | omega | (simp; done) | (simp; omega)) [if_pos, if_neg, toW, hm, hp]
    by_cases h1 : le = []
    · simp (disch := first | omega | (simp; done) | (simp; omega)) [if_pos, if_neg, h1]
      exact ⟨pad w.2, (hnx.trans (if_pos (Or.inl h1))).symm, rfl, rfl⟩
    · by_cases h2 : pad w.2 < le
      · simp (disch := first | omega | (simp; done) | (simp; omega)) [if_pos, if_neg, h1, h2]
        exact ⟨pad w.2, (hnx.trans (if_pos (Or.inr h2))).symm, rfl, rfl⟩
      · simp (disch := first | omega | (simp; done) | (simp; omega)) [if_pos, if_neg, h1, h2]
        exact ⟨le, (hnx.trans (if_neg (by rintro (h | h); exact h1 h; exact h2 h))).symm, rfl, rfl⟩
  · rintro le hle
    rw [List.take_of_length_le (by simp)] at hle
    have hle' : le = leastOf (ws.map (·.2)) := hle
    subst hle'
    generalize leastOf (ws.map (·.2)) = le at L hle24
    simp (disch := first | omega | (simp; done) | (simp; omega)) [if_pos, if_neg, h]
    refine wp_seq (wp_forI (fun a' : Nat × List D => [some (.obj a), none, some (.obj S.length), none, some (.str le), none, none, none, some (.int (a'.1 : Int)), none]) (fun a' => .lst a'.2 :: S)
      (fun i a' => a'.2 = (ws.take i).map (endOf le) ∧ a'.1 = (((ws.take i).map (·.2)).map (tickF le)).foldl max 0) (0, []) ⟨by simp, by simp⟩ rfl rfl (fun _ => by simp (disch := first | omega | (simp; done) | (simp; omega)) [if_pos, if_neg, id]) ?_ ?_)
    · rintro i x ⟨tk, es⟩ hx ⟨hes, htk⟩
      simp only at hes htk
      obtain ⟨w, hwi, rfl, hok⟩ := hat i x hx
      have hl := ((isWordL_iff w.2).mp hok)
      have hi : i < ws.length := (List.getElem?_eq_some_iff.mp hwi).1
      have hesl : es.length ≤ 100 := by rw [hes]; simp; omega
      have hes' : es ++ [endOf le w] = (ws.take (i + 1)).map (endOf le) := by rw [List.take_add_one, hwi, hes]; simp
      have htk' : max tk (tickF le w.2) = (((ws.take (i + 1)).map (·.2)).map (tickF le)).foldl max 0 := by rw [List.take_add_one, hwi, htk]; simp
      simp (disch := first | omega | (simp; done) | (simp; omega)) [if_pos, if_neg, toW]
      refine wp_seq (wp_forR w.2.length (fun v : Int => [some (.obj a), some (.str w.1), some (.obj S.length), some (.str w.2), some (.str le), none, none, some (.int (if v < 0 then (w.2.length : Int) else v)), some (.int (tk : Int)), some (.str (if v < 0 then [119, 111, 110] else [108, 111, 115, 116]))]) (fun _ => .lst es :: S)
        (fun i v => v = lostT le w.2 i) (-1) rfl rfl rfl ?_ ?_)
      · rintro t v ht rfl
        have ht' : t < le.length := by omega
        have hnx : lostT le w.2 (t + 1) = if 0 ≤ lostT le w.2 t then lostT le w.2 t else if w.2[t]? = some 49 ∧ le[t]? = some 48 then t else -1 := by rw [lostT]
        by_cases h0 : lostT le w.2 t < 0
        · rw [if_neg (by omega)] at hnx
          by_cases h1 : w.2[t] = 49
          · by_cases h2 : le[t] = 48
            · simp (disch := first | omega | (simp; done) | (simp; omega)) [if_pos, if_neg, h0, h1, h2]
              exact ⟨(t : Int), (hnx.trans (if_pos (by simp [ht, ht', h1, h2]))).symm, by simp; omega, rfl⟩
            · simp (disch := first | omega | (simp; done) | (simp; omega)) [if_pos, if_neg, h0, h1, h2]
              exact ⟨-1, (hnx.trans (if_neg (by simp [ht, ht', h1, h2]))).symm, by simp, rfl⟩
          · simp (disch := first | omega | (simp; done) | (simp; omega)) [if_pos, if_neg, h0, h1]
            exact ⟨-1, (hnx.trans (if_neg (by simp [ht, ht', h1]))).symm, by simp, rfl⟩
        · rw [if_pos (by omega)] at hnx
          simp (disch := first | omega | (simp; done) | (simp; omega)) [if_pos, if_neg, h0]
          exact ⟨lostT le w.2 t, hnx.symm, by simp [h0], rfl⟩
      · rintro v rfl
        by_cases h0 : lostT le w.2 w.2.length < 0
        · have et : tickF le w.2 = w.2.length := by unfold tickF; rw [if_pos h0]
          have e8 : (if tk < w.2.length then (w.2.length : Int) else (tk : Int)) = ((max tk (tickF le w.2) : Nat) : Int) := by rw [et]; split <;> omega
          have ee : endOf le w = .tup [.str w.1, .str [119, 111, 110], .int w.2.length] := by simp [endOf, h0, wonS]
          simp (disch := first | omega | (simp; done) | (simp; omega)) [if_pos, if_neg, h0, b2i]
          exact ⟨(max tk (tickF le w.2), es ++ [endOf le w]), ⟨by simpa using hes', by simpa using htk'⟩, by rw [e8], by rw [ee]⟩
        · have hge : 0 ≤ lostT le w.2 w.2.length := by omega
          obtain ⟨q, hq⟩ : ∃ q : Nat, lostT le w.2 w.2.length = q := ⟨_, (Int.toNat_of_nonneg hge).symm⟩
          have et : tickF le w.2 = q + 1 := by unfold tickF; rw [if_neg h0, hq]; simp
          have e8 : (if (tk : Int) < (q : Int) + 1 then (q : Int) + 1 else (tk : Int)) = ((max tk (tickF le w.2) : Nat) : Int) := by rw [et]; split <;> omega
          have ee : endOf le w = .tup [.str w.1, .str [108, 111, 115, 116], .int q] := by
            have hq' : ¬ ((q : Int) < 0) := by omega
            simp only [endOf, lostS, hq, hq', if_false]
          simp (disch := first | omega | (simp; done) | (simp; omega)) [if_pos, if_neg, h0, b2i, hq]
          exact ⟨(max tk (tickF le w.2), es ++ [endOf le w]), ⟨by simpa using hes', by simpa using htk'⟩, by rw [e8], by rw [ee]⟩
    · rintro ⟨tk, es⟩ ⟨hes, htk⟩
      simp only [List.length_map, List.take_length] at hes htk
      subst hes
      have htk' : tk = ticks le (ws.map (·.2)) := htk
      rw [← htk']
      simp (disch := first | omega | (simp; done) | (simp; omega)) [if_pos, if_neg, id]
end HT
end
section
set_option maxHeartbeats 0
set_option linter.all false
set_option maxRecDepth 100000
namespace Pw
/-- a comprehension with a test over a known row -/
theorem compK_fon {β : Type} {C : Ctx} {e : Exp} {t : Tg} {ifs : List Tst} {env : Env} {o : Option Nat} {S : Store} (l : List β) (c : β → D) (p : β → Bool) (v : β → D) (hl : l.length ≤ 16777216)
    (h : ∀ b ∈ l, ∃ env', bind1 t (c b) (kill t.ix env) = some env' ∧ evTs C ifs env' S = .ok (p b) S ∧ (p b = true → evE C e env' S = .ok (v b) S)) : compK C e t ifs env o (l.map c) S = .ok ((l.filter p).map v) S := by
  unfold compK
  rw [if_pos (by simpa using hl)]
  have hg : stands o (obAt o S) S = true := by cases o <;> simp [stands, obAt]
  clear hl
  induction l with
  | nil => simp [compL, hg]
  | cons x r ih =>
    obtain ⟨env', h1, h2, h3⟩ := h x (by simp)
    have e := ih fun y hy => h y (by simp [hy])
    cases hp : p x with
    | true =>
      rw [hp] at h2
      simp only [List.map_cons, compL, hg, if_true, h1, h2, h3 hp]
      rw [e, bind_ok, List.filter_cons, hp]; rfl
    | false =>
      rw [hp] at h2
      simp only [List.map_cons, compL, hg, if_true, h1, h2]
      rw [e, bind_ok, List.filter_cons, hp]; rfl
theorem inD_str {α : Type} (s : List Nat) (l : List α) (f : α → List Nat) : inD (.str s) (l.map fun k => .str (f k)) = some (l.any fun k => f k == s) := by
  simp [inD, flatD, feq, List.any_map, Function.comp_def]
end Pw
namespace Pw
theorem seqK_cg {C : Ctx} {r : List Stm} {x x' : Res Flow} (h : x = x') : seqK C r x = seqK C r x' := by rw [h]
theorem forK_cg {C : Ctx} {t : Tg} {body : List Stm} {ks : List Nat} {o o' : Option Nat} {xs xs' : List D} {env env' : Env} {S S' : Store} (ho : o = o') (hx : xs = xs') (he : env = env') (hS : S = S') : forK C t body ks o xs env S = forK C t body ks o' xs' env' S' := by rw [ho, hx, he, hS]
@[simp] theorem putD_nil (k v) : putD k v [] = [(k, v)] := Eq.trans rfl rfl
theorem wp_app2 {C : Ctx} {Q : Flow → Store → Prop} : ∀ (xs ys : List Stm) (env : Env) (S : Store), wp (evSs C xs env S) (fun fl S' => ∃ e, fl = .nx e ∧ wp (evSs C ys e S') Q) → wp (evSs C (xs ++ ys) env S) Q
  | [], ys, env, S, h => by
    simp at h; exact h
  | x :: r, ys, env, S, h => by
    rw [List.cons_append, qSs_1] at *
    unfold seqK at *
    revert h
    cases evS C x env S with
    | exc => exact fun h => nomatch h
    | bad => exact fun h => nomatch h
    | ok fl S1 =>
      simp only [bind_ok]
      cases fl with
      | nx e => exact wp_app2 r ys e S1
      | _ => simp
theorem wp_split {C : Ctx} {Q : Flow → Store → Prop} {b : List Stm} {env : Env} {S : Store} (k : Nat) (E1 : Env) (T1 : Store) (h1 : wp (evSs C (b.take k) env S) fun fl S' => fl = .nx E1 ∧ S' = T1) (h2 : wp (evSs C (b.drop k) E1 T1) Q) : wp (evSs C b env S) Q := by
  rw [← List.take_append_drop k b]
  exact wp_app2 _ _ _ _ (wp_mono h1 fun fl S' h => ⟨E1, h.1, by rw [h.2]; exact h2⟩)
theorem fin_keep {S S' pre : Store} {m : Nat} {o : SO} (h : S' = pre ++ S) (hm : S.length ≤ m) (hg : get S' m = some o) (ho : SO.bel S.length o = false) : fin S S' (.obj m) = .ok (.obj m) S' := by
  subst h
  unfold fin
  split
  · rfl
  · have : (pre ++ S).drop ((pre ++ S).length - S.length) = S := by simp
    rw [this, okOld_refl]
    have hb : D.bel S.length (.obj m) = false := by simp; omega
    simp only [hb, hg, ho, if_true, Bool.false_eq_true, if_false]
/-- a loop that puts one value behind another -/
theorem wp_forapp {C : Ctx} {t : Tg} {body : List Stm} {ks : List Nat} {o : Option Nat} {Q : Flow → Store → Prop} {L : List D} {env : Env} {S : Store} (g : D → D) (acc0 : List D) (T : List D → Store)
    (hS : S = T acc0) (hg : ∀ acc, stands o (obAt o S) (T acc) = true)
    (hs : ∀ x ∈ L, ∀ acc, acc.length ≤ acc0.length + L.length → wp (match bind1 t x env with | some env => evSs C body env (T acc) | none => .bad) (rnd Q ks (T acc) fun e S' => e = env ∧ S' = T (acc ++ [g x])))
    (hq : Q (.nx env) (T (acc0 ++ L.map g))) : wp (forK C t body ks o L env S) Q := by
  refine wp_for (fun i e S' => i ≤ L.length ∧ e = env ∧ S' = T (acc0 ++ (L.take i).map g)) ⟨by omega, rfl, by simpa using hS⟩ (by rintro i e S' ⟨_, _, rfl⟩; exact hg _) ?_ ?_
  · rintro i x e S' hx ⟨hi, rfl, rfl⟩
    have hil : i < L.length := (List.getElem?_eq_some_iff.mp hx).1
    refine wp_mono (hs x (List.mem_of_getElem? hx) _ (by simp; omega)) fun fl S' h => ?_
    have e : acc0 ++ (L.take (i + 1)).map g = acc0 ++ (L.take i).map g ++ [g x] := by rw [List.take_add_one, hx]; simp
    cases fl <;> simp only [rnd] at h ⊢ <;> first | exact ⟨by omega, h.1, by rw [h.2, e]⟩ | exact h
  · rintro e S' ⟨_, rfl, rfl⟩
    rw [List.take_length]; exact hq
end Pw
namespace Pw
theorem okEs_take {xs : List D} (h : okEs xs = true) (k : Nat) : okEs (xs.take k) = true := by
  rw [okEs_all, List.all_eq_true] at *; exact fun x hx => h x (List.mem_of_mem_take hx)
theorem okEs_drop {xs : List D} (h : okEs xs = true) (k : Nat) : okEs (xs.drop k) = true := by
  rw [okEs_all, List.all_eq_true] at *; exact fun x hx => h x (List.mem_of_mem_drop hx)
theorem alls_app {f : D → D → Option Bool} : ∀ {xs ys xs' ys' : List D}, alls f xs ys = some true → alls f xs' ys' = some true → alls f (xs ++ xs') (ys ++ ys') = some true
  | [], [], _, _, _, h => h
  | x :: r, y :: t, _, _, h1, h2 => by
    simp only [alls, List.cons_append] at *
    cases hc : f x y with
    | none => rw [hc] at h1; simp at h1
    | some c =>
      rw [hc] at h1
      simp only [Option.bind_some] at *
      cases hk : alls f r t with
      | none => rw [hk] at h1; simp at h1
      | some k =>
        rw [hk] at h1
        simp at h1
        obtain ⟨rfl, rfl⟩ := h1
        rw [alls_app hk h2]; simp
  | [], _ :: _, _, _, h, _ => by simp [alls] at h
  | _ :: _, [], _, _, h, _ => by simp [alls] at h
theorem alls_refl {f : D → D → Option Bool} : ∀ {xs : List D}, (∀ x ∈ xs, f x x = some true) → alls f xs xs = some true
  | [], _ => rfl
  | x :: r, h => by
    have := alls_refl (f := f) (xs := r) (fun y hy => h y (by simp [hy]))
    simp [alls, h x (by simp), this]
theorem alls_cons {f : D → D → Option Bool} {x y : D} {r t : List D} (h1 : f x y = some true) (h2 : alls f r t = some true) : alls f (x :: r) (y :: t) = some true := by simp [alls, h1, h2]
theorem alls_map {f : D → D → Option Bool} {g : D → D} {xs ys : List D} (h : alls f xs ys = some true) {f' : D → D → Option Bool} (hg : ∀ x y, f x y = some true → f' (g x) (g y) = some true) : alls f' (xs.map g) (ys.map g) = some true := by
  induction xs generalizing ys with
  | nil => cases ys with
    | nil => rfl
    | cons => simp [alls] at h
  | cons x r ih => cases ys with
    | nil => simp [alls] at h
    | cons y t =>
      simp only [alls] at h
      cases hc : f x y with
      | none => rw [hc] at h; simp at h
      | some c =>
        rw [hc] at h
        simp only [Option.bind_some] at h
        cases hk : alls f r t with
        | none => rw [hk] at h; simp at h
        | some k =>
          rw [hk] at h
          simp at h
          obtain ⟨rfl, rfl⟩ := h
          exact alls_cons (hg x y hc) (ih hk)
theorem deq_tup {S : Store} {n : Nat} {xs ys : List D} (h : alls (deq S n) xs ys = some true) (hl : xs.length = ys.length) : deq S (n + 1) (.tup xs) (.tup ys) = some true := by
  simp only [deq, hl, if_true, h]
end Pw
namespace HT
open Pw
/-- plain values of bounded depth -/
def plD : Nat → D → Bool
  | _, .non => true
  | _, .bl _ => true
  | _, .int _ => true
  | _, .str _ => true
  | k + 1, .tup xs => decide (xs.length ≤ 16777216) && xs.all (plD k)
  | _, _ => false
theorem sp_same : ∀ (k : Nat) (d : D), plD k d = true → ∀ (n : Nat) (S : Store), den P (n + k + 1) none 20 [d, d] S = .ok (.bl true) S := by
  intro k
  induction k with
  | zero =>
    intro d hd n S
    refine den_wp (f := ⟨2, 3, b20⟩) rfl rfl ?_
    cases d <;> simp [plD] at hd <;> simp (disch := first | omega | (simp; done) | (simp; omega)) [if_pos, if_neg, b20]
  | succ k ih =>
    intro d hd n S
    refine den_wp (f := ⟨2, 3, b20⟩) rfl rfl ?_
    cases d with
    | tup xs =>
      simp only [plD, Bool.and_eq_true, decide_eq_true_eq, List.all_eq_true] at hd
      simp (disch := first | omega | (simp; done) | (simp; omega)) [if_pos, if_neg, b20]
      rw [compK_rg xs.length (fun _ => true) (fun _ => .bl true) (by omega) (fun j hj => by
        constructor
        · simp (disch := first | omega | (simp; done) | (simp; omega)) [if_pos, if_neg, id]
        · intro _
          have := ih xs[j] (hd.2 _ (List.getElem_mem hj)) n S
          simp (disch := first | omega | (simp; done) | (simp; omega)) [if_pos, if_neg, hj]
          exact this)]
      simp (disch := first | omega | (simp; done) | (simp; omega)) [if_pos, if_neg, id]
    | obj => simp [plD] at hd
    | exc => simp [plD] at hd
    | _ => simp (disch := first | omega | (simp; done) | (simp; omega)) [if_pos, if_neg, b20]
theorem sp_book (n : Nat) (S : Store) : den P (n + 1) (some (8, [])) 32 [] S = .ok (.bl true) S := by
  refine den_hot (f := ⟨1, 2, b32⟩) rfl ?_
  have hcl : P.Cl[8]? = some [8, 0, 15] := rfl
  simp (disch := first | omega | (simp; done) | (simp; omega)) [if_pos, if_neg, b32, hcl, lbls]
  exact fin_val (pre := [_, _, _, _, _, _, _]) rfl (by simp)
theorem deq_refl (S : Store) : ∀ (k : Nat) (d : D), plD k d = true → ∀ n, k < n → deq S n d d = some true
  | k, .non, _, n + 1, _ => by simp [deq]
  | k, .bl _, _, n + 1, _ => by simp [deq]
  | k, .int _, _, n + 1, _ => by simp [deq]
  | k, .str _, _, n + 1, _ => by simp [deq]
  | k + 1, .tup xs, h, n + 1, hn => by
    simp only [plD, Bool.and_eq_true, List.all_eq_true] at h
    exact deq_tup (alls_refl fun x hx => deq_refl S k x (h.2 x hx) n (by omega)) rfl
  | 0, .tup xs, h, _, _ => by simp [plD] at h
  | _, .obj _, h, _, _ => by simp [plD] at h
  | _, .exc _ _, h, _, _ => by simp [plD] at h
theorem asc_no {ns : List (List Nat)} {k : Nat} {x y : List Nat} (hx : ns[k]? = some x) (hy : ns[k + 1]? = some y) (h : ¬ x < y) : asc ns = false := by
  unfold asc
  rw [List.all_eq_false]
  have := (List.getElem?_eq_some_iff.mp hy).1
  exact ⟨k, by simp; omega, by simp [hx, hy, h]⟩
theorem pl_mono : ∀ (k : Nat) (d : D), plD k d = true → plD (k + 1) d = true
  | 0, .tup _, h => by simp [plD] at h
  | k + 1, .tup xs, h => by
    simp only [plD, Bool.and_eq_true, List.all_eq_true] at h
    have h2 : ∀ x ∈ xs, plD (k + 1) x = true := fun x hx => pl_mono k x (h.2 x hx)
    rw [plD, Bool.and_eq_true, List.all_eq_true]
    exact ⟨h.1, h2⟩
  | _, .non, _ => by simp [plD]
  | _, .bl _, _ => by simp [plD]
  | _, .int _, _ => by simp [plD]
  | _, .str _, _ => by simp [plD]
  | k, .obj _, h => by cases k <;> simp [plD] at h
  | k, .exc _ _, h => by cases k <;> simp [plD] at h
theorem isNameL_len {s : List Nat} (h : isNameL s = true) : s.length ≤ 8 := by simp only [isNameL, Bool.and_eq_true, decide_eq_true_eq] at h; exact h.1.1.2
end HT
end
section
set_option maxHeartbeats 0
set_option linter.all false
set_option maxRecDepth 100000
namespace HT
open Pw
def secOf : D → D
  | .tup [_, y] => y
  | _ => .non
def isWishesD : D → Bool
  | .tup xs => namedD 0 12 (.tup xs) && xs.all fun x => isWordD (secOf x)
  | _ => false
theorem pairs_sec {xs : List D} {lo hi : Int} (h : namedD lo hi (.tup xs) = true) : ∀ x ∈ xs, ∃ s y, x = .tup [.str s, y] ∧ isNameL s = true := by
  simp only [namedD, Bool.and_eq_true] at h
  exact fun x hx => isPair_name (List.all_eq_true.mp h.1.2 x hx)
theorem sec_ok {xs : List D} (he : okEs xs = true) {s : List Nat} {y : D} (hx : D.tup [.str s, y] ∈ xs) : okE y = true := by
  rw [okEs_all, List.all_eq_true] at he
  have := he _ hx
  simp at this
  exact this.2
theorem sp_is_wishes (n : Nat) (d : D) (S : Store) (h : okE d = true) : den P (n + 3) none 5 [d] S = .ok (.bl (isWishesD d)) S := by
  refine den_wp (f := ⟨1, 2, b5⟩) rfl rfl ?_
  simp (disch := first | omega | (simp; done) | (simp; omega)) [if_pos, if_neg, b5]
  rw [sp_is_named_pairs n d 0 12 S h (by omega)]
  cases hn : namedD 0 12 d with
  | false =>
    have : isWishesD d = false := by cases d <;> simp [isWishesD, hn]
    simp (disch := first | omega | (simp; done) | (simp; omega)) [if_pos, if_neg, this]
  | true =>
    cases d with
    | tup xs =>
      simp only [okE_tup, Bool.and_eq_true, decide_eq_true_eq] at h
      obtain ⟨hl, he⟩ := h
      have hp := pairs_sec hn
      simp (disch := first | omega | (simp; done) | (simp; omega)) [if_pos, if_neg, id]
      rw [compK_map (fun x => .bl (isWordD (secOf x)))]
      · simp (disch := first | omega | (simp; done) | (simp; omega)) [if_pos, if_neg, isWishesD, hn]
      · simp; omega
      · intro x hx
        obtain ⟨s, y, rfl, _⟩ := hp x hx
        refine ⟨_, rfl, by simp, ?_⟩
        have := sec_ok he hx
        simp (disch := first | omega | (simp; done) | (simp; omega)) [if_pos, if_neg, sp_is_word n y S this, secOf]
    | _ => simp [namedD] at hn
theorem sp_asc_t (n : Nat) (ns : List (List Nat)) (S : Store) (hl : ns.length ≤ 1000) :
    den P (n + 1) none 1 [.tup (ns.map .str)] S = .ok (.bl (asc ns)) S := by
  refine den_wp (f := ⟨1, 2, b1⟩) rfl rfl ?_
  simp (disch := first | omega | (simp; done) | (simp; omega)) [if_pos, if_neg, b1, rngL_z]
  rw [compK_map (fun x => .bl (match x with | .int k => decide ((ns[k.toNat]?.getD []) < (ns[k.toNat + 1]?.getD [])) | _ => false))]
  · have e : ((ns.length : Int) - 1).toNat = ns.length - 1 := by omega
    simp [Function.comp_def, asc, e]
  · simp; omega
  · intro x hx
    rw [List.mem_map] at hx
    obtain ⟨k, hk, rfl⟩ := hx
    rw [List.mem_range] at hk
    have h1 : k < ns.length := by omega
    have h2 : k + 1 < ns.length := by omega
    refine ⟨_, rfl, by simp, ?_⟩
    simp (disch := first | omega | (simp; done) | (simp; omega)) [if_pos, if_neg, h1, h2]
def strOf : D → List Nat
  | .str s => s
  | _ => []
def isFramesD : D → Bool
  | .tup xs => decide (1 ≤ xs.length) && decide (xs.length ≤ 8) && xs.all isWordD && asc (xs.map strOf)
  | _ => false
theorem words_str {xs : List D} (h : xs.all isWordD = true) : xs = (xs.map strOf).map .str := by
  rw [List.map_map]
  symm
  rw [List.map_congr_left (g := id)]
  · simp
  · intro x hx
    have := List.all_eq_true.mp h x hx
    cases x <;> first | (simp [isWordD] at this; done) | rfl
theorem sp_is_frames (n : Nat) (d : D) (S : Store) (h : okE d = true) : den P (n + 3) none 8 [d] S = .ok (.bl (isFramesD d)) S := by
  refine den_wp (f := ⟨1, 2, b8⟩) rfl rfl ?_
  cases d with
  | exc => simp at h
  | tup xs =>
    simp only [okE_tup, Bool.and_eq_true, decide_eq_true_eq] at h
    obtain ⟨hl, he⟩ := h
    simp (disch := first | omega | (simp; done) | (simp; omega)) [if_pos, if_neg, b8]
    by_cases h1 : 1 ≤ xs.length
    · by_cases h8 : xs.length ≤ 8
      · have i1 : (1 : Int) ≤ xs.length := by omega
        have i8 : (xs.length : Int) ≤ 8 := by omega
        simp (disch := first | omega | (simp; done) | (simp; omega)) [if_pos, if_neg, i1, i8]
        rw [compK_map (fun x => .bl (isWordD x))]
        · cases hw : xs.all isWordD with
          | false => simp (disch := first | omega | (simp; done) | (simp; omega)) [if_pos, if_neg, hw, isFramesD]
          | true =>
            have e := words_str hw
            have hasc := sp_asc_t (n + 1) (xs.map strOf) S (by simp; omega)
            rw [← e] at hasc
            simp (disch := first | omega | (simp; done) | (simp; omega)) [if_pos, if_neg, hw, hasc, isFramesD, h1, h8]
        · simp; omega
        · intro x hx
          refine ⟨_, rfl, by simp, ?_⟩
          have := List.all_eq_true.mp ((okEs_all xs) ▸ he) x hx
          simp (disch := first | omega | (simp; done) | (simp; omega)) [if_pos, if_neg, sp_is_word n x S this]
      · have i8 : ¬ (xs.length : Int) ≤ 8 := by omega
        simp (disch := first | omega | (simp; done) | (simp; omega)) [if_pos, if_neg, i8, isFramesD, h8]
    · simp (disch := first | omega | (simp; done) | (simp; omega)) [if_pos, if_neg, isFramesD, h1]
  | _ => simp [b8, isFramesD]
def isBooksD : D → Bool
  | .tup xs => namedD 0 6 (.tup xs) && xs.all fun x => isFramesD (secOf x)
  | _ => false
theorem sp_is_books (n : Nat) (d : D) (S : Store) (h : okE d = true) : den P (n + 4) none 9 [d] S = .ok (.bl (isBooksD d)) S := by
  refine den_wp (f := ⟨1, 2, b9⟩) rfl rfl ?_
  simp (disch := first | omega | (simp; done) | (simp; omega)) [if_pos, if_neg, b9]
  rw [sp_is_named_pairs (n + 1) d 0 6 S h (by omega)]
  cases hn : namedD 0 6 d with
  | false =>
    have : isBooksD d = false := by cases d <;> simp [isBooksD, hn]
    simp (disch := first | omega | (simp; done) | (simp; omega)) [if_pos, if_neg, this]
  | true =>
    cases d with
    | tup xs =>
      simp only [okE_tup, Bool.and_eq_true, decide_eq_true_eq] at h
      obtain ⟨hl, he⟩ := h
      have hp := pairs_sec hn
      simp (disch := first | omega | (simp; done) | (simp; omega)) [if_pos, if_neg, id]
      rw [compK_map (fun x => .bl (isFramesD (secOf x)))]
      · simp (disch := first | omega | (simp; done) | (simp; omega)) [if_pos, if_neg, isBooksD, hn]
      · simp; omega
      · intro x hx
        obtain ⟨s, y, rfl, _⟩ := hp x hx
        refine ⟨_, rfl, by simp, ?_⟩
        have := sec_ok he hx
        simp (disch := first | omega | (simp; done) | (simp; omega)) [if_pos, if_neg, sp_is_frames n y S this, secOf]
    | _ => simp [namedD] at hn
theorem sp_check_ok (n : Nat) (d : D) (S : Store) (h : okE d = true) (hb : isBooksD d = true) : den P (n + 5) none 10 [d] S = .ok .non S := by
  refine den_wp (f := ⟨1, 1, b10⟩) rfl rfl ?_
  simp (disch := first | omega | (simp; done) | (simp; omega)) [if_pos, if_neg, b10, sp_is_books n d S h, hb]
theorem sp_check_bad (n : Nat) (d : D) (S : Store) (h : okE d = true) (hb : isBooksD d = false) : den P (n + 5) none 10 [d] S = .exc 8 [] S := by
  refine den_wp (f := ⟨1, 1, b10⟩) rfl rfl ?_
  simp (disch := first | omega | (simp; done) | (simp; omega)) [if_pos, if_neg, b10, sp_is_books n d S h, hb]
  exact finX_nil (pre := []) rfl
end HT
end
section
set_option maxHeartbeats 0
set_option linter.all false
set_option maxRecDepth 100000
namespace HT
open Pw
abbrev Ws := List (List Nat × List Nat)
structure OkW (ws : Ws) : Prop where
  len : ws.length ≤ 12
  asc : (ws.map (·.1)).Pairwise (· < ·)
  ok : ∀ w ∈ ws, isNameL w.1 = true ∧ isWordL w.2 = true
theorem OkW.words {ws : Ws} (h : OkW ws) : ∀ f ∈ ws.map (·.2), isWordL f = true := fun f hf => by
  obtain ⟨w, hw, rfl⟩ := List.mem_map.mp hf
  exact (h.ok w hw).2
def toWs (ws : Ws) : D := .tup (ws.map toW)
@[simp] theorem len_toWs (S : Store) (ws : Ws) : lenD S (toWs ws) = some (ws.length : Int) := by simp [toWs]

theorem isWishes_ok {ws : Ws} (h : OkW ws) : isWishesD (toWs ws) = true := by
  have e1 : (ws.map toW).map nameOf = ws.map (·.1) := by simp [toW, nameOf]
  have hl := h.len
  simp only [isWishesD, toWs, namedD, e1, asc_of h.asc, List.length_map, Bool.and_true, Bool.and_eq_true, decide_eq_true_eq, List.all_map, List.all_eq_true]
  exact ⟨⟨⟨by omega, by omega⟩, fun w hw => (h.ok w hw).1⟩, fun w hw => (h.ok w hw).2⟩
theorem okE_toWs {ws : Ws} (h : OkW ws) : okE (toWs ws) = true := by
  have hl := h.len
  simp only [toWs, okE_tup, okEs_all, List.length_map, List.all_map, Bool.and_eq_true, decide_eq_true_eq, List.all_eq_true]
  refine ⟨by omega, fun w hw => ?_⟩
  have h1 := isNameL_len (h.ok w hw).1
  have h2 := ((isWordL_iff w.2).mp (h.ok w hw).2).2.1
  simp [toW]; omega
/-- what a contest gives -/
def contD (ws : Ws) : D := .tup [.str ((leastOf (ws.map (·.2))).take (ticks (leastOf (ws.map (·.2))) (ws.map (·.2)))), .tup (ws.map (endOf (leastOf (ws.map (·.2)))))]
theorem sp_run_nil (n : Nat) (S : Store) (a : Nat) (h : get S a = some (.lst [])) : den P (n + 1) none 6 [.obj a] S = .ok (.tup [.str [], .obj S.length]) (.lst [] :: .lst [] :: S) := by
  have hS := getLt h
  refine den_wp (f := ⟨1, 8, b6⟩) rfl rfl ?_
  simp (disch := first | omega | (simp; done) | (simp; omega)) [if_pos, if_neg, b6, h]
  rw [show ([] : List D) = ([] : List Nat).map (fun _ => D.non) from rfl, compK_on ([] : List Nat) (fun _ => .non) (fun _ => .non) (by simp) (fun k hk => by simp at hk)]
  simp (disch := first | omega | (simp; done) | (simp; omega)) [if_pos, if_neg, id]
  refine wp_seq (wp_while (m := 0) (fun k env S' => k = 0 ∧ env = [some (.obj a), none, none, none, some (.str []), some (.obj S.length), none, none] ∧ S' = .lst [] :: S) ⟨rfl, rfl, rfl⟩ (by decide) ?_)
  rintro k env S' ⟨rfl, rfl, rfl⟩ hk
  simp (disch := first | omega | (simp; done) | (simp; omega)) [if_pos, if_neg, h]
  rw [show ([] : List D) = (List.range 0).map (fun i : Nat => D.int (i : Int)) from rfl, compK_rg 0 (fun _ => true) (fun k => .int k) (by omega) (fun k hk => by omega)]
  simp (disch := first | omega | (simp; done) | (simp; omega)) [if_pos, if_neg, h]
  unfold fin
  simp
theorem sp_lc_nil (n : Nat) (S : Store) (a : Nat) (h : get S a = some (.lst [])) : den P (n + 1) none 21 [.obj a] S = .ok (.tup [.str [], .tup []]) S := by
  have hS := getLt h
  refine den_wp (f := ⟨1, 10, b21⟩) rfl rfl ?_
  simp (disch := first | omega | (simp; done) | (simp; omega)) [if_pos, if_neg, b21, h]
  refine wp_seq (wp_forI (fun _ : Unit => [some (.obj a), none, none, none, some (.str []), none, none, none, none, none]) (fun _ => S) (fun _ _ => True) () trivial rfl rfl (fun _ => by simp) (fun i x _ hx => by simp at hx) ?_)
  rintro ⟨⟩ _
  simp (disch := first | omega | (simp; done) | (simp; omega)) [if_pos, if_neg, h]
  refine wp_seq (wp_forI (fun _ : Unit => [some (.obj a), none, some (.obj S.length), none, some (.str []), none, none, none, some (.int 0), none]) (fun _ => .lst [] :: S) (fun _ _ => True) () trivial rfl rfl (fun _ => by simp) (fun i x _ hx => by simp at hx) ?_)
  rintro ⟨⟩ _
  simp (disch := first | omega | (simp; done) | (simp; omega)) [if_pos, if_neg, h]
theorem contD_nil : contD [] = .tup [.str [], .tup []] := by simp [contD, leastOf, ticks]
theorem sp_lcont (n : Nat) (S : Store) (a : Nat) (ws : Ws) (h : OkW ws) (hg : get S a = some (.lst (ws.map toW))) : den P (n + 1) none 21 [.obj a] S = .ok (contD ws) S := by
  by_cases h0 : ws = []
  · subst h0
    rw [contD_nil]; exact sp_lc_nil n S a hg
  · exact sp_law_contest n S a ws hg (by have := h.len; omega) h0 h.words
theorem sp_contest (n : Nat) (S : Store) (ws : Ws) (h : OkW ws) : den P (n + 4) none 7 [toWs ws] S = .ok (contD ws) S := by
  refine den_wp (f := ⟨1, 8, b7⟩) rfl rfl ?_
  have hlen := h.len
  simp (disch := first | omega | (simp; done) | (simp; omega)) [if_pos, if_neg, b7, sp_is_wishes n (toWs ws) S (okE_toWs h), isWishes_ok h]
  rw [show toWs ws = .tup (ws.map toW) from rfl]
  simp (disch := first | omega | (simp; done) | (simp; omega)) [if_pos, if_neg, id]
  rw [compK_on ws toW (fun w => .str w.2) (by omega) (fun w hw => ⟨_, rfl, by simp, by simp [toW]⟩)]
  have hrun : den P (n + 3) none 6 [.obj S.length] (.lst (ws.map fun w => .str w.2) :: S) = .ok (.tup [.str ((leastOf (ws.map (·.2))).take (ticks (leastOf (ws.map (·.2))) (ws.map (·.2)))), .obj (S.length + 1)]) (.lst [] :: .lst (ws.map fun w => .int (lostT (leastOf (ws.map (·.2))) w.2 w.2.length)) :: .lst (ws.map fun w => .str w.2) :: S) := by
    by_cases h0 : ws = []
    · subst h0
      have := sp_run_nil (n + 2) (.lst [] :: S) S.length (by simp)
      simpa [leastOf, ticks] using this
    · have := sp_run (n + 2) (.lst (ws.map fun w => .str w.2) :: S) S.length (leastOf (ws.map (·.2))) (ws.map (·.2)) (by simp [Function.comp_def]) (by simp; omega) h.words (least_of h.words (by simpa using h0))
      rw [this]
      simp [Function.comp_def]
  simp (disch := first | omega | (simp; done) | (simp; omega)) [if_pos, if_neg, hrun]
  generalize hle : leastOf (ws.map (·.2)) = le
  have hl24 : ∀ w ∈ ws, w.2.length ≤ 24 := fun w hw => ((isWordL_iff w.2).mp (h.ok w hw).2).2.1
  generalize (SO.lst (List.map (fun w => D.str w.2) ws)) = o1
  refine wp_seq (wp_forR ws.length (fun a : List D => [some (.tup (ws.map toW)), none, some (.obj (S.length + 1 + 1 + 1)), none, none, some (.str (le.take (ticks le (ws.map (·.2))))), some (.obj (S.length + 1)), none])
    (fun a => .lst a :: .lst [] :: .lst (ws.map fun w => .int (lostT le w.2 w.2.length)) :: o1 :: S) (fun i a => a = (ws.map (endOf le)).take i) [] (by simp) rfl rfl ?_ ?_)
  · rintro i es hi hes
    have hesl : es.length ≤ 100 := by rw [hes]; simp; omega
    have hnx : (ws.map (endOf le)).take (i + 1) = es ++ [endOf le ws[i]] := by
      rw [List.take_add_one, List.getElem?_map, List.getElem?_eq_getElem hi, hes]; rfl
    have hwl := hl24 _ (List.getElem_mem hi)
    by_cases h0 : lostT le ws[i].2 ws[i].2.length < 0
    · have ee : endOf le ws[i] = .tup [.str ws[i].1, .str [119, 111, 110], .int ws[i].2.length] := by simp [endOf, h0, wonS]
      simp (disch := first | omega | (simp; done) | (simp; omega)) [if_pos, if_neg, hi, toW, h0]
      exact ⟨es ++ [endOf le ws[i]], hnx.symm, rfl, by rw [ee]⟩
    · have ee : endOf le ws[i] = .tup [.str ws[i].1, .str [108, 111, 115, 116], .int (lostT le ws[i].2 ws[i].2.length)] := by simp only [endOf, h0, lostS, if_false]
      simp (disch := first | omega | (simp; done) | (simp; omega)) [if_pos, if_neg, hi, toW, h0]
      exact ⟨es ++ [endOf le ws[i]], hnx.symm, rfl, by rw [ee]⟩
  · rintro es hes
    rw [List.take_of_length_le (by simp)] at hes
    subst hes
    simp (disch := first | omega | (simp; done) | (simp; omega)) [if_pos, if_neg, id]
    rw [contD, hle]
end HT
end
section
set_option maxHeartbeats 0
set_option linter.all false
set_option maxRecDepth 100000
namespace Pw
theorem compL2_on {β γ : Type} {f : D → Store → Res (List D)} {g : Store → Bool} (l : List β) (c : β → D) (m : β → List γ) (v : β → γ → D) {S : Store} (hg : g S = true)
    (h : ∀ b ∈ l, f (c b) S = .ok ((m b).map (v b)) S) : compL2 f g (l.map c) S = .ok (l.flatMap fun b => (m b).map (v b)) S := by
  induction l with
  | nil => simp [compL2, hg]
  | cons x r ih =>
    simp only [List.map_cons, compL2, hg, if_true, h x (by simp), ih fun y hy => h y (by simp [hy]), bind_ok, List.flatMap_cons]
/-- a comprehension of two clauses without tests -/
theorem compK2_on {β γ : Type} {C : Ctx} {e : Exp} {t t1 : Tg} {l1 : Src} {env : Env} {o : Option Nat} {S : Store} (l : List β) (c : β → D) (m : β → List γ) (d : γ → D) (v : β → γ → D) (hl : l.length ≤ 16777216) (hl2 : (l.flatMap fun b => (m b).map (v b)).length ≤ 16777216)
    (h : ∀ b ∈ l, ∃ env1 o1, bind1 t (c b) (kill (t.ix ++ t1.ix) env) = some env1 ∧ evL C l1 env1 S = .ok ((m b).map d, o1) S ∧ (m b).length ≤ 16777216 ∧
      ∀ g ∈ m b, ∃ env2, bind1 t1 (d g) (kill t1.ix env1) = some env2 ∧ evE C e env2 S = .ok (v b g) S) : compK2 C e t [] t1 l1 [] env o (l.map c) S = .ok (l.flatMap fun b => (m b).map (v b)) S := by
  unfold compK2
  rw [if_pos (by simpa using hl)]
  rw [compL2_on l c m v (by cases o <;> simp [stands, obAt]) fun b hb => ?_]
  · rw [bind_ok, if_pos (by simpa using hl2)]
  · obtain ⟨env1, o1, h1, h2, h3, h4⟩ := h b hb
    unfold compF2K
    simp only [h1, qTs_0, h2, List.length_map]
    rw [if_pos (by simpa using h3)]
    refine compL_on (m b) d (v b) (by cases o1 <;> simp [stands, obAt]) fun g hg => ?_
    obtain ⟨env2, h5, h6⟩ := h4 g hg
    simp only [h5, qTs_0, h6]
/-- a loop that puts a row behind another -/
theorem wp_forrow {C : Ctx} {t : Tg} {body : List Stm} {ks : List Nat} {o : Option Nat} {Q : Flow → Store → Prop} {L : List D} {env : Env} {S : Store} (G : D → List D) (acc0 : List D) (T : List D → Store)
    (hS : S = T acc0) (hg : ∀ acc, stands o (obAt o S) (T acc) = true)
    (hs : ∀ x ∈ L, ∀ acc, acc.length + (G x).length ≤ acc0.length + (L.flatMap G).length → wp (match bind1 t x env with | some env => evSs C body env (T acc) | none => .bad) (rnd Q ks (T acc) fun e S' => e = env ∧ S' = T (acc ++ G x)))
    (hq : Q (.nx env) (T (acc0 ++ L.flatMap G))) : wp (forK C t body ks o L env S) Q := by
  refine wp_for (fun i e S' => i ≤ L.length ∧ e = env ∧ S' = T (acc0 ++ (L.take i).flatMap G)) ⟨by omega, rfl, by simpa using hS⟩ (by rintro i e S' ⟨_, _, rfl⟩; exact hg _) ?_ ?_
  · rintro i x e S' hx ⟨hi, rfl, rfl⟩
    have hil : i < L.length := (List.getElem?_eq_some_iff.mp hx).1
    have hb : ((L.take i).flatMap G).length + (G x).length ≤ (L.flatMap G).length := by
      have e1 : (L.take (i + 1)).flatMap G = (L.take i).flatMap G ++ G x := by rw [List.take_add_one, hx]; simp
      have e2 : L.flatMap G = (L.take (i + 1)).flatMap G ++ (L.drop (i + 1)).flatMap G := by rw [← List.flatMap_append, List.take_append_drop]
      rw [e2, e1]; simp only [List.length_append]; omega
    refine wp_mono (hs x (List.mem_of_getElem? hx) _ (by rw [List.length_append]; omega)) fun fl S' h => ?_
    have e : acc0 ++ (L.take (i + 1)).flatMap G = acc0 ++ (L.take i).flatMap G ++ G x := by rw [List.take_add_one, hx]; simp
    cases fl <;> simp only [rnd] at h ⊢ <;> first | exact ⟨by omega, h.1, by rw [h.2, e]⟩ | exact h
  · rintro e S' ⟨_, rfl, rfl⟩
    rw [List.take_length]; exact hq
end Pw
namespace HT
open Pw
abbrev Bs := List (List Nat × List (List Nat))
def toB1 (q : List Nat × List (List Nat)) : D := .tup [.str q.1, .tup (q.2.map .str)]
def toB (bs : Bs) : D := .tup (bs.map toB1)
structure OkB (bs : Bs) : Prop where
  len : bs.length ≤ 6
  asc : (bs.map (·.1)).Pairwise (· < ·)
  ok : ∀ b ∈ bs, isNameL b.1 = true ∧ 1 ≤ b.2.length ∧ b.2.length ≤ 8 ∧ b.2.Pairwise (· < ·) ∧ ∀ f ∈ b.2, isWordL f = true
@[simp] theorem len_toB (S : Store) (bs : Bs) : lenD S (toB bs) = some (bs.length : Int) := by simp [toB]
theorem isBooks_ok {bs : Bs} (h : OkB bs) : isBooksD (toB bs) = true := by
  have e1 : (bs.map toB1).map nameOf = bs.map (·.1) := by simp [toB1, nameOf]
  have hl := h.len
  simp only [isBooksD, toB, namedD, e1, asc_of h.asc, List.length_map, Bool.and_true, Bool.and_eq_true, decide_eq_true_eq, List.all_map, List.all_eq_true]
  refine ⟨⟨⟨by omega, by omega⟩, fun w hw => (h.ok w hw).1⟩, fun w hw => ?_⟩
  obtain ⟨_, h1, h8, ha, hwd⟩ := h.ok w hw
  have e2 : (w.2.map D.str).map strOf = w.2 := by simp [strOf, Function.comp_def]
  simp only [Function.comp_apply, toB1, secOf, isFramesD, e2, asc_of ha, List.length_map, Bool.and_true, Bool.and_eq_true, decide_eq_true_eq, List.all_map, List.all_eq_true]
  exact ⟨⟨h1, h8⟩, fun f hf => hwd f hf⟩
theorem okE_toB {bs : Bs} (h : OkB bs) : okE (toB bs) = true := by
  have hl := h.len
  simp only [toB, okE_tup, okEs_all, List.length_map, List.all_map, Bool.and_eq_true, decide_eq_true_eq, List.all_eq_true]
  refine ⟨by omega, fun q hq => ?_⟩
  obtain ⟨h1, _, h2, _, hwd⟩ := h.ok q hq
  have h1 := isNameL_len h1
  have h3 : okEs (q.2.map D.str) = true := by
    rw [okEs_all, List.all_map, List.all_eq_true]
    intro f hf
    have := ((isWordL_iff f).mp (hwd f hf)).2.1
    simp; omega
  simp [toB1, h3]
  omega
def ents (bs : Bs) : Ws := bs.flatMap fun b => b.2.map fun f => (b.1, f)
theorem sum_bound : ∀ (bs : Bs), (∀ b ∈ bs, b.2.length ≤ 8) → (ents bs).length ≤ 8 * bs.length
  | [], _ => by simp [ents]
  | b :: r, h => by
    have := sum_bound r fun x hx => h x (by simp [hx])
    have := h b (by simp)
    simp only [ents, List.flatMap_cons, List.length_append, List.length_map, List.length_cons] at *
    omega
theorem ents_len {bs : Bs} (h : OkB bs) : (ents bs).length ≤ 48 := by
  have := sum_bound bs fun b hb => (h.ok b hb).2.2.1
  have := h.len
  omega
theorem sp_entries (n : Nat) (S : Store) (bs : Bs) (h : OkB bs) : den P (n + 1) none 11 [toB bs] S = .ok (.obj S.length) (.lst ((ents bs).map toW) :: S) := by
  refine den_wp (f := ⟨1, 4, b11⟩) rfl rfl ?_
  rw [show toB bs = .tup (bs.map toB1) from rfl]
  have hl := h.len
  have e : (bs.flatMap fun b => b.2.map fun f => D.tup [.str b.1, .str f]) = (ents bs).map toW := by
    simp only [ents, List.map_flatMap, List.map_map]; rfl
  simp (disch := first | omega | (simp; done) | (simp; omega)) [if_pos, if_neg, b11]
  rw [compK2_on bs toB1 (fun b => b.2) .str (fun b f => .tup [.str b.1, .str f]) (by omega) (by rw [e, List.length_map]; have := ents_len h; omega) (fun b hb => by
    obtain ⟨_, _, h2, _, _⟩ := h.ok b hb
    refine ⟨[some (.tup (bs.map toB1)), some (.str b.1), none, some (.tup (b.2.map .str))], none, by simp [toB1], by simp, by omega, fun g hg => ⟨[some (.tup (bs.map toB1)), some (.str b.1), some (.str g), some (.tup (b.2.map .str))], by simp, by simp⟩⟩), e]
  simp (disch := first | omega | (simp; done) | (simp; omega)) [if_pos, if_neg, id]
/-! first pairs -/
def pairsOf (c : List Nat × List Nat → List Nat × List Nat → Bool) (es : Ws) (fs : Ws) : List D := es.flatMap fun e => (fs.filter (c e)).map fun e' => .tup [toW e, toW e']
def headD (l : List D) : D := l.head?.getD .non
def cO (e e' : List Nat × List Nat) : Bool := decide (e.1 ≠ e'.1) && (decide (e.2.length < e'.2.length) && e.2.isPrefixOf e'.2)
def cT (e e' : List Nat × List Nat) : Bool := decide (e.1 < e'.1) && decide (e.2 = e'.2)
theorem filter_none {c : List Nat × List Nat → Bool} {fs : Ws} (h : ∀ i, (hi : i < fs.length) → c fs[i] = false) : fs.filter c = [] := by
  rw [List.filter_eq_nil_iff]
  intro x hx
  obtain ⟨i, hi, rfl⟩ := List.getElem_of_mem hx
  simp [h i hi]
theorem filter_first {c : List Nat × List Nat → Bool} : ∀ {fs : Ws} {j : Nat} (hj : j < fs.length), (∀ i, (hi : i < j) → c (fs[i]'(by omega)) = false) → c fs[j] = true → ∃ r, fs.filter c = fs[j] :: r
  | x :: r, 0, hj, _, h => by
    simp only [List.getElem_cons_zero] at h
    exact ⟨r.filter c, by simp [List.filter_cons, h]⟩
  | x :: r, j + 1, hj, h0, h => by
    have hx := h0 0 (by omega)
    simp only [List.getElem_cons_zero] at hx
    obtain ⟨t, ht⟩ := filter_first (fs := r) (j := j) (by simpa using hj) (fun i hi => by have := h0 (i + 1) (by omega); simpa using this) (by simpa using h)
    exact ⟨t, by simp [List.filter_cons, hx, ht]⟩
theorem flat_first {G : List Nat × List Nat → List D} {d : D} : ∀ {es : Ws} {i : Nat} (hi : i < es.length), (∀ k, (hk : k < i) → G (es[k]'(by omega)) = []) → (∃ r, G es[i] = d :: r) → ∃ r, es.flatMap G = d :: r
  | x :: r, 0, hi, _, ⟨t, h⟩ => by
    simp only [List.getElem_cons_zero] at h
    exact ⟨t ++ r.flatMap G, by simp [h]⟩
  | x :: r, i + 1, hi, h0, h => by
    have hx := h0 0 (by omega)
    simp only [List.getElem_cons_zero] at hx
    obtain ⟨t, ht⟩ := flat_first (es := r) (i := i) (by simpa using hi) (fun k hk => by have := h0 (k + 1) (by omega); simpa using this) (by simpa using h)
    exact ⟨t, by simp [hx, ht]⟩
theorem pairs_first {c} {es fs : Ws} {i j : Nat} (hi : i < es.length) (hj : j < fs.length) (h1 : ∀ k, (hk : k < i) → fs.filter (c (es[k]'(by omega))) = []) (h2 : ∀ k, (hk : k < j) → c es[i] (fs[k]'(by omega)) = false) (h3 : c es[i] fs[j] = true) : headD (pairsOf c es fs) = .tup [toW es[i], toW fs[j]] := by
  obtain ⟨r, hr⟩ := filter_first (c := c es[i]) hj h2 h3
  obtain ⟨t, ht⟩ := flat_first (G := fun e => (fs.filter (c e)).map fun e' => D.tup [toW e, toW e']) (d := .tup [toW es[i], toW fs[j]]) hi (fun k hk => by rw [h1 k hk]; rfl) ⟨_, by rw [hr]; rfl⟩
  unfold headD pairsOf
  rw [ht]; rfl
theorem pairs_none {c} {es fs : Ws} (h : ∀ k, (hk : k < es.length) → fs.filter (c es[k]) = []) : pairsOf c es fs = [] := by
  unfold pairsOf
  rw [List.flatMap_eq_nil_iff]
  intro x hx
  obtain ⟨i, hi, rfl⟩ := List.getElem_of_mem hx
  rw [h i hi]; rfl
end HT
end
section
set_option maxHeartbeats 0
set_option linter.all false
set_option maxRecDepth 100000
namespace HT
open Pw
theorem sp_overlap (n : Nat) (S : Store) (bs : Bs) (h : OkB bs) : den P (n + 6) none 12 [toB bs] S = .ok (headD (pairsOf cO (ents bs) (ents bs))) S := by
  refine den_wp (f := ⟨1, 6, b12⟩) rfl rfl ?_
  have hl := ents_len h
  have hw : ∀ e ∈ ents bs, e.1.length ≤ 8 ∧ e.2.length ≤ 24 := fun e he => by
    simp only [ents, List.mem_flatMap, List.mem_map] at he
    obtain ⟨b, hb, f, hf, rfl⟩ := he
    exact ⟨isNameL_len (h.ok b hb).1, ((isWordL_iff f).mp ((h.ok b hb).2.2.2.2 f hf)).2.1⟩
  simp (disch := first | omega | (simp; done) | (simp; omega)) [if_pos, if_neg, b12, sp_check_ok n (toB bs) S (okE_toB h) (isBooks_ok h), sp_entries (n + 4) S bs h]
  generalize hes : ents bs = es at hl hw
  refine wp_seq (wp_for (fun i env S' => S' = .lst (es.map toW) :: S ∧ env = [some (toB bs), none, some (.obj S.length), none, none, none] ∧ ∀ k, (hk : k < es.length) → k < i → es.filter (cO es[k]) = [])
    ⟨rfl, rfl, fun k hk hi => by omega⟩ (by rintro i env S' ⟨rfl, _, _⟩; simp) ?_ ?_)
  · rintro i x env S' hx ⟨rfl, rfl, hno⟩
    rw [List.getElem?_map] at hx
    obtain ⟨e, he, rfl⟩ := Option.map_eq_some_iff.mp hx
    obtain ⟨hi, hei⟩ := List.getElem?_eq_some_iff.mp he
    obtain ⟨hw1, hw2⟩ := hw e (List.mem_of_getElem? he)
    simp (disch := first | omega | (simp; done) | (simp; omega)) [if_pos, if_neg, toW]
    refine wp_seq (wp_for (fun j env S' => S' = .lst (es.map toW) :: S ∧ env = [some (toB bs), some (.str e.1), some (.obj S.length), some (.str e.2), none, none] ∧ ∀ k, (hk : k < es.length) → k < j → cO e es[k] = false)
      ⟨rfl, rfl, fun k hk hi => by omega⟩ (by rintro i env S' ⟨rfl, _, _⟩; simp) ?_ ?_)
    · rintro j x env S' hx2 ⟨rfl, rfl, hno2⟩
      rw [List.getElem?_map] at hx2
      obtain ⟨e2, he2, rfl⟩ := Option.map_eq_some_iff.mp hx2
      obtain ⟨hj, hej⟩ := List.getElem?_eq_some_iff.mp he2
      obtain ⟨hv1, hv2⟩ := hw e2 (List.mem_of_getElem? he2)
      have hnx : cO e e2 = false → ∀ k, (hk : k < es.length) → k < j + 1 → cO e es[k] = false := fun hc k hk hkj => by
        by_cases z : k = j
        · subst z; rw [hej]; exact hc
        · exact hno2 k hk (by omega)
      simp (disch := first | omega | (simp; done) | (simp; omega)) [if_pos, if_neg, toW]
      by_cases h1 : e.1 = e2.1
      · simp (disch := first | omega | (simp; done) | (simp; omega)) [if_pos, if_neg, h1]
        exact hnx (by simp [cO, h1])
      · by_cases h2 : e.2.length < e2.2.length
        · cases h3 : e.2.isPrefixOf e2.2 with
          | false =>
            simp (disch := first | omega | (simp; done) | (simp; omega)) [if_pos, if_neg, h1, h2, swD, h3]
            exact hnx (by simp [cO, h3])
          | true =>
            have hr := pairs_first (c := cO) (es := es) (fs := es) hi hj (fun k hk => hno k (by omega) hk) (fun k hk => by rw [hei]; exact hno2 k (by omega) hk) (by rw [hei, hej]; simp [cO, h1, h2, h3])
            rw [hei, hej] at hr
            simp (disch := first | omega | (simp; done) | (simp; omega)) [if_pos, if_neg, h1, h2, swD, h3, hr, toW]
        · simp (disch := first | omega | (simp; done) | (simp; omega)) [if_pos, if_neg, h1, h2]
          exact hnx (by simp [cO, h2])
    · rintro env S' ⟨rfl, rfl, hno2⟩
      simp (disch := first | omega | (simp; done) | (simp; omega)) [if_pos, if_neg, id]
      intro k hk hki
      by_cases z : k = i
      · subst z
        rw [hei]
        simpa using filter_none fun j hj => hno2 j hj (by simpa using hj)
      · simpa using hno k hk (by omega)
  · rintro env S' ⟨rfl, rfl, hno⟩
    have : pairsOf cO es es = [] := pairs_none fun k hk => hno k hk (by simpa using hk)
    simp (disch := first | omega | (simp; done) | (simp; omega)) [if_pos, if_neg, this, headD]
theorem sp_twin (n : Nat) (S : Store) (bs : Bs) (h : OkB bs) : den P (n + 6) none 13 [toB bs] S = .ok (headD (pairsOf cT (ents bs) (ents bs))) S := by
  refine den_wp (f := ⟨1, 6, b13⟩) rfl rfl ?_
  have hl := ents_len h
  simp (disch := first | omega | (simp; done) | (simp; omega)) [if_pos, if_neg, b13, sp_check_ok n (toB bs) S (okE_toB h) (isBooks_ok h), sp_entries (n + 4) S bs h]
  generalize hes : ents bs = es at hl
  refine wp_seq (wp_for (fun i env S' => S' = .lst (es.map toW) :: S ∧ env = [some (toB bs), none, some (.obj S.length), none, none, none] ∧ ∀ k, (hk : k < es.length) → k < i → es.filter (cT es[k]) = [])
    ⟨rfl, rfl, fun k hk hi => by omega⟩ (by rintro i env S' ⟨rfl, _, _⟩; simp) ?_ ?_)
  · rintro i x env S' hx ⟨rfl, rfl, hno⟩
    rw [List.getElem?_map] at hx
    obtain ⟨e, he, rfl⟩ := Option.map_eq_some_iff.mp hx
    obtain ⟨hi, hei⟩ := List.getElem?_eq_some_iff.mp he
    simp (disch := first | omega | (simp; done) | (simp; omega)) [if_pos, if_neg, toW]
    refine wp_seq (wp_for (fun j env S' => S' = .lst (es.map toW) :: S ∧ env = [some (toB bs), some (.str e.1), some (.obj S.length), some (.str e.2), none, none] ∧ ∀ k, (hk : k < es.length) → k < j → cT e es[k] = false)
      ⟨rfl, rfl, fun k hk hi => by omega⟩ (by rintro i env S' ⟨rfl, _, _⟩; simp) ?_ ?_)
    · rintro j x env S' hx2 ⟨rfl, rfl, hno2⟩
      rw [List.getElem?_map] at hx2
      obtain ⟨e2, he2, rfl⟩ := Option.map_eq_some_iff.mp hx2
      obtain ⟨hj, hej⟩ := List.getElem?_eq_some_iff.mp he2
      have hnx : cT e e2 = false → ∀ k, (hk : k < es.length) → k < j + 1 → cT e es[k] = false := fun hc k hk hkj => by
        by_cases z : k = j
        · subst z; rw [hej]; exact hc
        · exact hno2 k hk (by omega)
      simp (disch := first | omega | (simp; done) | (simp; omega)) [if_pos, if_neg, toW]
      by_cases h1 : e.1 < e2.1
      · by_cases h2 : e.2 = e2.2
        · have hr := pairs_first (c := cT) (es := es) (fs := es) hi hj (fun k hk => hno k (by omega) hk) (fun k hk => by rw [hei]; exact hno2 k (by omega) hk) (by rw [hei, hej]; simp [cT, h1, h2])
          rw [hei, hej] at hr
          simp (disch := first | omega | (simp; done) | (simp; omega)) [if_pos, if_neg, h1, h2, hr, toW]
        · simp (disch := first | omega | (simp; done) | (simp; omega)) [if_pos, if_neg, h1, h2]
          exact hnx (by simp [cT, h2])
      · simp (disch := first | omega | (simp; done) | (simp; omega)) [if_pos, if_neg, h1]
        exact hnx (by simp [cT, h1])
    · rintro env S' ⟨rfl, rfl, hno2⟩
      simp (disch := first | omega | (simp; done) | (simp; omega)) [if_pos, if_neg, id]
      intro k hk hki
      by_cases z : k = i
      · subst z
        rw [hei]
        simpa using filter_none fun j hj => hno2 j hj (by simpa using hj)
      · simpa using hno k hk (by omega)
  · rintro env S' ⟨rfl, rfl, hno⟩
    have : pairsOf cT es es = [] := pairs_none fun k hk => hno k hk (by simpa using hk)
    simp (disch := first | omega | (simp; done) | (simp; omega)) [if_pos, if_neg, this, headD]
end HT
end
section
set_option maxHeartbeats 0
set_option linter.all false
set_option maxRecDepth 100000
namespace HT
open Pw
/-! the least pair -/
def pairD (e e' : List Nat × List Nat) : D := .tup [toW e, toW e']
def ltP (x y : (List Nat × List Nat) × (List Nat × List Nat)) : Bool :=
  decide (x.1.1 < y.1.1) || (!decide (y.1.1 < x.1.1) && (decide (x.1.2 < y.1.2) || (!decide (y.1.2 < x.1.2) && (decide (x.2.1 < y.2.1) || (!decide (y.2.1 < x.2.1) && decide (x.2.2 < y.2.2))))))
theorem ltT_pair (x y : (List Nat × List Nat) × (List Nat × List Nat)) : ltT (pairD x.1 x.2) (pairD y.1 y.2) = ltP x y := by
  obtain ⟨⟨a, b⟩, ⟨c, d⟩⟩ := x
  obtain ⟨⟨a', b'⟩, ⟨c', d'⟩⟩ := y
  simp [ltT, pairD, toW, toksD, toksDs, lexT, itLt, ltP]
theorem nlt_eq {a b : List Nat} (h1 : ¬ a < b) (h2 : ¬ b < a) : a = b := List.le_antisymm (List.not_lt.mp h2) (List.not_lt.mp h1)
theorem ltP_irrefl (x) : ltP x x = false := by
  simp [ltP, List.lt_irrefl]
theorem ltP_asymm {x y} (h : ltP x y = true) : ltP y x = false := by
  simp only [ltP, Bool.or_eq_true, Bool.and_eq_true, Bool.not_eq_true', decide_eq_true_eq, decide_eq_false_iff_not, Bool.or_eq_false_iff, Bool.and_eq_false_iff, Bool.not_eq_false'] at *
  have as : ∀ {a b : List Nat}, a < b → ¬ b < a := fun h => List.lt_asymm h
  rcases h with h | ⟨h1, h | ⟨h2, h | ⟨h3, h⟩⟩⟩
  · exact ⟨as h, Or.inl h⟩
  · refine ⟨h1, ?_⟩
    by_cases z : x.1.1 < y.1.1
    · exact Or.inl z
    · exact Or.inr ⟨as h, Or.inl h⟩
  · refine ⟨h1, ?_⟩
    by_cases z : x.1.1 < y.1.1
    · exact Or.inl z
    · refine Or.inr ⟨h2, ?_⟩
      by_cases z : x.1.2 < y.1.2
      · exact Or.inl z
      · exact Or.inr ⟨as h, Or.inl h⟩
  · refine ⟨h1, ?_⟩
    by_cases z : x.1.1 < y.1.1
    · exact Or.inl z
    · refine Or.inr ⟨h2, ?_⟩
      by_cases z : x.1.2 < y.1.2
      · exact Or.inl z
      · refine Or.inr ⟨h3, ?_⟩
        by_cases z : x.2.1 < y.2.1
        · exact Or.inl z
        · exact Or.inr (as h)
theorem minT_is {h : D} : ∀ (xs : List D) (a : D), h ∈ a :: xs → (∀ y ∈ a :: xs, y = h ∨ ltT h y = true) → ltT h h = false → (∀ y ∈ a :: xs, ltT h y = true → ltT y h = false) → minT a xs = h
  | [], a, hm, _, _, _ => by simp at hm; simp [minT, hm]
  | y :: r, a, hm, hall, hi, has => by
    have step : ∀ a', a' = a ∨ a' = y → (h ∈ a' :: r) → minT a' r = h := fun a' ha' hm' => minT_is r a' hm' (fun z hz => by
      rw [List.mem_cons] at hz
      rcases hz with rfl | hz
      · rcases ha' with rfl | rfl
        · exact hall _ (by simp)
        · exact hall _ (by simp)
      · exact hall z (by simp [hz])) hi (fun z hz => by
      rw [List.mem_cons] at hz
      rcases hz with rfl | hz
      · rcases ha' with rfl | rfl
        · exact has _ (by simp)
        · exact has _ (by simp)
      · exact has z (by simp [hz]))
    have e : minT a (y :: r) = minT (if ltT y a = true then y else a) r := by simp [minT]
    rw [e]
    split
    · rename_i hlt
      refine step y (Or.inr rfl) ?_
      rw [List.mem_cons] at hm
      rcases hm with rfl | hm
      · rcases hall y (by simp) with rfl | hy
        · simp
        · rw [has y (by simp) hy] at hlt; cases hlt
      · exact hm
    · rename_i hlt
      refine step a (Or.inl rfl) ?_
      rw [List.mem_cons, List.mem_cons] at hm
      rcases hm with rfl | rfl | hm
      · simp
      · rcases hall a (by simp) with rfl | ha
        · simp
        · exact absurd ha hlt
      · simp [hm]
/-- the head of the pairs is the least -/
def eLt (e e' : List Nat × List Nat) : Prop := e.1 < e'.1 ∨ (e.1 = e'.1 ∧ e.2 < e'.2)
theorem ents_asc {bs : Bs} (h : OkB bs) : (ents bs).Pairwise eLt := by
  have key : ∀ bs : Bs, (bs.map (·.1)).Pairwise (· < ·) → (∀ b ∈ bs, b.2.Pairwise (· < ·)) → (ents bs).Pairwise eLt := by
    intro bs
    induction bs with
    | nil => intro _ _; simp [ents]
    | cons b r ih =>
      intro h1 h2
      rw [List.map_cons, List.pairwise_cons] at h1
      show (b.2.map (fun f => (b.1, f)) ++ ents r).Pairwise eLt
      rw [List.pairwise_append]
      refine ⟨List.pairwise_map.mpr ((h2 b (by simp)).imp fun h => Or.inr ⟨rfl, h⟩), ih h1.2 fun x hx => h2 x (by simp [hx]), ?_⟩
      intro x hx y hy
      simp only [ents, List.mem_map, List.mem_flatMap] at hx hy
      obtain ⟨f, _, rfl⟩ := hx
      obtain ⟨b', hb', f', _, rfl⟩ := hy
      exact Or.inl (h1.1 _ (List.mem_map.mpr ⟨b', hb', rfl⟩))
  exact key bs h.asc fun b hb => (h.ok b hb).2.2.2.1
theorem mem_pairs {c} {es fs : Ws} {d : D} : d ∈ pairsOf c es fs ↔ ∃ e ∈ es, ∃ e' ∈ fs, c e e' = true ∧ d = pairD e e' := by
  simp only [pairsOf, List.mem_flatMap, List.mem_map, List.mem_filter]
  constructor
  · rintro ⟨e, he, e', ⟨he', hc⟩, rfl⟩; exact ⟨e, he, e', he', hc, rfl⟩
  · rintro ⟨e, he, e', he', hc, rfl⟩; exact ⟨e, he, e', ⟨he', hc⟩, rfl⟩
theorem eLt_ltP {e e2 x y} (h : eLt e e2) : ltP (e, x) (e2, y) = true := by
  rcases h with h | ⟨h1, h2⟩
  · simp [ltP, h]
  · simp [ltP, h1, h2, List.lt_irrefl]
theorem eLt_ltP2 {e x y} (h : eLt x y) : ltP (e, x) (e, y) = true := by
  rcases h with h | ⟨h1, h2⟩
  · simp [ltP, h, List.lt_irrefl]
  · simp [ltP, h1, h2, List.lt_irrefl]
theorem head_least {c} {fs : Ws} (hf : fs.Pairwise eLt) : ∀ (es : Ws), es.Pairwise eLt → ∀ {d r}, pairsOf c es fs = d :: r → ∃ e e', d = pairD e e' ∧ ∀ a ∈ es, ∀ b ∈ fs, c a b = true → pairD a b = d ∨ ltP (e, e') (a, b) = true
  | [], _, d, r, h => by simp [pairsOf] at h
  | x :: t, he, d, r, h => by
    rw [List.pairwise_cons] at he
    have hd : pairsOf c (x :: t) fs = ((fs.filter (c x)).map fun e' => pairD x e') ++ pairsOf c t fs := rfl
    rw [hd] at h
    cases hfl : fs.filter (c x) with
    | nil =>
      rw [hfl] at h
      obtain ⟨e, e', h1, h2⟩ := head_least hf t he.2 h
      refine ⟨e, e', h1, fun a ha b hb hc => ?_⟩
      rw [List.mem_cons] at ha
      rcases ha with rfl | ha
      · have : b ∈ fs.filter (c a) := List.mem_filter.mpr ⟨hb, hc⟩
        rw [hfl] at this; simp at this
      · exact h2 a ha b hb hc
    | cons y s =>
      rw [hfl] at h
      have h1 : pairD x y = d := by simpa using (List.cons.inj h).1
      refine ⟨x, y, h1.symm, fun a ha b hb hc => ?_⟩
      rw [List.mem_cons] at ha
      rcases ha with rfl | ha
      · have hbf : b ∈ fs.filter (c a) := List.mem_filter.mpr ⟨hb, hc⟩
        have hp : (y :: s).Pairwise eLt := by rw [← hfl]; exact List.Pairwise.sublist List.filter_sublist hf
        rw [hfl, List.mem_cons] at hbf
        rcases hbf with rfl | hbf
        · exact Or.inl h1
        · exact Or.inr (eLt_ltP2 (List.rel_of_pairwise_cons hp hbf))
      · exact Or.inr (eLt_ltP (he.1 a ha))
/-- min() of the found pairs, in any order, is the first of them -/
theorem min_head {c} {es : Ws} (he : es.Pairwise eLt) {x : D} {xs : List D} (hm : ∀ d, d ∈ x :: xs ↔ d ∈ pairsOf c es es) : minT x xs = headD (pairsOf c es es) := by
  cases hp : pairsOf c es es with
  | nil => have := (hm x).mp (by simp); rw [hp] at this; simp at this
  | cons d r =>
    obtain ⟨e, e', rfl, h2⟩ := head_least he es he hp
    have hall : ∀ y ∈ x :: xs, ∃ a b, y = pairD a b ∧ (pairD a b = pairD e e' ∨ ltP (e, e') (a, b) = true) := fun y hy => by
      obtain ⟨a, ha, b, hb, hc, rfl⟩ := mem_pairs.mp ((hm y).mp hy)
      exact ⟨a, b, rfl, h2 a ha b hb hc⟩
    show minT x xs = pairD e e'
    refine minT_is xs x ((hm _).mpr (by rw [hp]; simp)) (fun y hy => ?_) ?_ (fun y hy hlt => ?_)
    · obtain ⟨a, b, rfl, h3⟩ := hall y hy
      rcases h3 with h3 | h3
      · exact Or.inl h3
      · right
        have := ltT_pair (e, e') (a, b)
        rw [h3] at this; exact this
    · have := ltT_pair (e, e') (e, e')
      rw [ltP_irrefl] at this; exact this
    · obtain ⟨a, b, rfl, h3⟩ := hall y hy
      have h4 := ltT_pair (e, e') (a, b)
      have h5 := ltT_pair (a, b) (e, e')
      simp only at h4 h5
      rw [h5]
      rw [h4] at hlt
      exact ltP_asymm hlt
theorem minLk_pairs {xs : List D} (h : ∀ d ∈ xs, ∃ a b, d = pairD a b) : minLk xs = true := by
  simp only [minLk, List.all_eq_true, Bool.and_eq_true]
  intro x hx
  obtain ⟨a, b, rfl⟩ := h x hx
  refine ⟨by simp [pairD, toW, flatQ], fun y hy => ?_⟩
  obtain ⟨a', b', rfl⟩ := h y hy
  simp [pairD, toW, likeD, likeDs]
end HT
end
section
set_option maxHeartbeats 0
set_option linter.all false
set_option maxRecDepth 100000
namespace Pw
theorem wp_forrowM {β : Type} {C : Ctx} {t : Tg} {body : List Stm} {ks : List Nat} {o : Option Nat} {Q : Flow → Store → Prop} {env : Env} {S : Store} (l : List β) (c : β → D) (G : β → List D) (acc0 : List D) (T : List D → Store)
    (hS : S = T acc0) (hg : ∀ acc, stands o (obAt o S) (T acc) = true)
    (hs : ∀ b ∈ l, ∀ acc, acc.length + (G b).length ≤ acc0.length + (l.flatMap G).length → wp (match bind1 t (c b) env with | some env => evSs C body env (T acc) | none => .bad) (rnd Q ks (T acc) fun e S' => e = env ∧ S' = T (acc ++ G b)))
    (hq : Q (.nx env) (T (acc0 ++ l.flatMap G))) : wp (forK C t body ks o (l.map c) env S) Q := by
  refine wp_for (fun i e S' => i ≤ l.length ∧ e = env ∧ S' = T (acc0 ++ (l.take i).flatMap G)) ⟨by omega, rfl, by simpa using hS⟩ (by rintro i e S' ⟨_, _, rfl⟩; exact hg _) ?_ ?_
  · rintro i x e S' hx ⟨hi, rfl, rfl⟩
    rw [List.getElem?_map] at hx
    obtain ⟨b, hb0, rfl⟩ := Option.map_eq_some_iff.mp hx
    have hil : i < l.length := (List.getElem?_eq_some_iff.mp hb0).1
    have hb : ((l.take i).flatMap G).length + (G b).length ≤ (l.flatMap G).length := by
      have e1 : (l.take (i + 1)).flatMap G = (l.take i).flatMap G ++ G b := by rw [List.take_add_one, hb0]; simp
      have e2 : l.flatMap G = (l.take (i + 1)).flatMap G ++ (l.drop (i + 1)).flatMap G := by rw [← List.flatMap_append, List.take_append_drop]
      rw [e2, e1]; simp only [List.length_append]; omega
    refine wp_mono (hs b (List.mem_of_getElem? hb0) _ (by rw [List.length_append]; omega)) fun fl S' h => ?_
    have e : acc0 ++ (l.take (i + 1)).flatMap G = acc0 ++ (l.take i).flatMap G ++ G b := by rw [List.take_add_one, hb0]; simp
    cases fl <;> simp only [rnd] at h ⊢ <;> first | exact ⟨by omega, h.1, by rw [h.2, e]⟩ | exact h
  · rintro e S' ⟨_, rfl, rfl⟩
    rw [List.length_map, List.take_length]; exact hq
theorem inD_strs (s : List Nat) (l : List (List Nat)) : inD (.str s) (l.map .str) = some (decide (s ∈ l)) := by
  have := inD_str s l id
  simp only [id] at this
  rw [show (l.map fun k => D.str k) = l.map .str from rfl] at this
  rw [this]; congr 1
  rw [Bool.eq_iff_iff]; simp
end Pw
namespace HT
open Pw
theorem filter_flat {α : Type} (p : α → Bool) (m : α → D) (l : List α) : (l.filter p).map m = l.flatMap fun x => if p x = true then [m x] else [] := by
  induction l with
  | nil => rfl
  | cons a r ih =>
    rw [List.filter_cons, List.flatMap_cons]
    by_cases h : p a = true
    · simp [h, ih]
    · simp [h, ih]
theorem pairs_len (c) (fs : Ws) : ∀ es : Ws, (pairsOf c es fs).length ≤ es.length * fs.length
  | [] => by simp [pairsOf]
  | e :: r => by
    have := pairs_len c fs r
    have h2 : (fs.filter (c e)).length ≤ fs.length := List.length_filter_le _ _
    have hd : pairsOf c (e :: r) fs = ((fs.filter (c e)).map fun e' => D.tup [toW e, toW e']) ++ pairsOf c r fs := rfl
    rw [hd, List.length_append, List.length_map, List.length_cons, Nat.succ_mul]
    omega
def rowO (b f b' f' : List Nat) : List D := if cO (b, f) (b', f') = true then [pairD (b, f) (b', f')] else []
theorem rows_O (bs : Bs) : (bs.flatMap fun b => b.2.flatMap fun f => bs.flatMap fun b' => b'.2.flatMap fun f' => rowO b.1 f b'.1 f') = pairsOf cO (ents bs) (ents bs) := by
  unfold pairsOf
  simp only [filter_flat]
  simp only [ents, List.flatMap_assoc, List.flatMap_map]
  rfl
theorem sp_law_overlap (n : Nat) (S : Store) (bs : Bs) (h : OkB bs) : den P (n + 1) none 23 [toB bs] S = .ok (headD (pairsOf cO (ents bs) (ents bs))) S := by
  refine den_wp (f := ⟨1, 8, b23⟩) rfl rfl ?_
  rw [show toB bs = .tup (bs.map toB1) from rfl]
  have hel := ents_len h
  have htot : (pairsOf cO (ents bs) (ents bs)).length ≤ 2304 := by
    refine Nat.le_trans (pairs_len cO (ents bs) (ents bs)) ?_
    exact Nat.le_trans (Nat.mul_le_mul hel hel) (by decide)
  rw [← rows_O] at htot
  have hfl : ∀ b ∈ bs, ∀ f ∈ b.2, f.length ≤ 24 := fun b hb f hf => ((isWordL_iff f).mp ((h.ok b hb).2.2.2.2 f hf)).2.1
  simp (disch := first | omega | (simp; done) | (simp; omega)) [if_pos, if_neg, b23]
  refine wp_seq (wp_forrowM bs toB1 (fun b => b.2.flatMap fun f => bs.flatMap fun b' => b'.2.flatMap fun f' => rowO b.1 f b'.1 f') [] (fun acc => .lst acc :: S) rfl (fun _ => rfl) ?_ ?_)
  · intro b hb acc1 hacc1
    simp (disch := first | omega | (simp; done) | (simp; omega)) [if_pos, if_neg, toB1]
    refine wp_seq (wp_forrowM b.2 .str (fun f => bs.flatMap fun b' => b'.2.flatMap fun f' => rowO b.1 f b'.1 f') acc1 (fun acc => .lst acc :: S) rfl (fun _ => rfl) ?_ ?_)
    · intro f hf acc2 hacc2
      have hfl1 := hfl b hb f hf
      simp (disch := first | omega | (simp; done) | (simp; omega)) [if_pos, if_neg, id]
      refine wp_seq (wp_forrowM bs toB1 (fun b' => b'.2.flatMap fun f' => rowO b.1 f b'.1 f') acc2 (fun acc => .lst acc :: S) rfl (fun _ => rfl) ?_ ?_)
      · intro b' hb' acc3 hacc3
        simp (disch := first | omega | (simp; done) | (simp; omega)) [if_pos, if_neg, toB1]
        refine wp_seq (wp_forrowM b'.2 .str (fun f' => rowO b.1 f b'.1 f') acc3 (fun acc => .lst acc :: S) rfl (fun _ => rfl) ?_ ?_)
        · intro f' hf' acc4 hacc4
          have hfl2 := hfl b' hb' f' hf'
          have hacc : acc4.length ≤ 2304 := by simp only [List.length_nil, Nat.zero_add] at *; omega
          simp (disch := first | omega | (simp; done) | (simp; omega)) [if_pos, if_neg, id]
          by_cases h1 : b'.1 = b.1
          · have this : rowO b.1 f b.1 f' = [] := by simp [rowO, cO]
            simp (disch := first | omega | (simp; done) | (simp; omega)) [if_pos, if_neg, h1, this]
          · by_cases h2 : f.length < f'.length
            · by_cases h3 : f'.take f.length = f
              · have h3' : f.isPrefixOf f' = true := by rw [List.isPrefixOf_iff_prefix, List.prefix_iff_eq_take]; exact h3.symm
                have : rowO b.1 f b'.1 f' = [pairD (b.1, f) (b'.1, f')] := by
                  have h1' : ¬ b.1 = b'.1 := fun e => h1 e.symm
                  simp [rowO, cO, h1', h2, h3']
                simp (disch := first | omega | (simp; done) | (simp; omega)) [if_pos, if_neg, h1, h2, h3, this, pairD, toW]
              · have h3' : f.isPrefixOf f' = false := by
                  rw [Bool.eq_false_iff]; intro z
                  rw [List.isPrefixOf_iff_prefix, List.prefix_iff_eq_take] at z
                  exact h3 z.symm
                have : rowO b.1 f b'.1 f' = [] := by simp [rowO, cO, h3']
                simp (disch := first | omega | (simp; done) | (simp; omega)) [if_pos, if_neg, h1, h2, h3, this]
            · have : rowO b.1 f b'.1 f' = [] := by simp [rowO, cO, h2]
              simp (disch := first | omega | (simp; done) | (simp; omega)) [if_pos, if_neg, h1, h2, this]
        · simp
      · simp
    · simp
  · rw [List.nil_append, rows_O]
    rw [rows_O] at htot
    cases hp : pairsOf cO (ents bs) (ents bs) with
    | nil => simp (disch := first | omega | (simp; done) | (simp; omega)) [if_pos, if_neg, headD]
    | cons x xs =>
      have hm := min_head (c := cO) (ents_asc h) (x := x) (xs := xs) (fun d => by rw [hp])
      have hpr : ∀ d ∈ x :: xs, ∃ a b, d = pairD a b := fun d hd => by
        rw [← hp] at hd
        obtain ⟨a, _, b, _, _, e⟩ := mem_pairs.mp hd
        exact ⟨a, b, e⟩
      have hlk := minLk_pairs hpr
      obtain ⟨a, b, rfl⟩ := hpr x (by simp)
      have hi : intsD (pairD a b :: xs) = none := rfl
      rw [hp] at hm htot
      have hb : ∀ n, D.bel n (headD (pairD a b :: xs)) = true := fun n => by simp [headD, pairD, toW]
      simp (disch := first | omega | (simp; done) | (simp; omega)) [if_pos, if_neg, hi, hlk, hm, hb]
      exact fin_val (pre := [_]) rfl (hb _)
def rowT (b : List Nat × List (List Nat)) (b' f : List Nat) : List D := if b.1 < b' ∧ f ∈ b.2 then [pairD (b.1, f) (b', f)] else []
def foundT (bs : Bs) : List D := bs.flatMap fun b => bs.flatMap fun b' => b'.2.flatMap fun f => rowT b b'.1 f
theorem mem_foundT {bs : Bs} {d : D} : d ∈ foundT bs ↔ d ∈ pairsOf cT (ents bs) (ents bs) := by
  rw [mem_pairs]
  simp only [foundT, ents, List.mem_flatMap, List.mem_map, rowT]
  constructor
  · rintro ⟨b, hb, b', hb', f, hf, hd⟩
    split at hd
    · rename_i hc
      rw [List.mem_singleton] at hd
      exact ⟨(b.1, f), ⟨b, hb, f, hc.2, rfl⟩, (b'.1, f), ⟨b', hb', f, hf, rfl⟩, by simp [cT, hc.1], hd⟩
    · simp at hd
  · rintro ⟨e, ⟨b, hb, f, hf, rfl⟩, e', ⟨b', hb', f', hf', rfl⟩, hc, hd⟩
    simp only [cT, Bool.and_eq_true, decide_eq_true_eq, beq_iff_eq] at hc
    obtain ⟨h1, h2⟩ := hc
    subst h2
    exact ⟨b, hb, b', hb', f, hf', by rw [if_pos ⟨h1, hf⟩]; simp [hd]⟩
theorem sp_law_twin (n : Nat) (S : Store) (bs : Bs) (h : OkB bs) : den P (n + 1) none 24 [toB bs] S = .ok (headD (pairsOf cT (ents bs) (ents bs))) S := by
  refine den_wp (f := ⟨1, 7, b24⟩) rfl rfl ?_
  rw [show toB bs = .tup (bs.map toB1) from rfl]
  have hel := ents_len h
  have hfo : (foundT bs).length ≤ 2304 := by
    have hl6 : bs.length ≤ 6 := h.len
    have hl8 : ∀ b ∈ bs, b.2.length ≤ 8 := fun b hb => (h.ok b hb).2.2.1
    have i1 : ∀ b b' : List Nat × List (List Nat), b' ∈ bs → (b'.2.flatMap fun f => rowT b b'.1 f).length ≤ 8 := fun b b' hb' => by
      have : ∀ l : List (List Nat), (l.flatMap fun f => rowT b b'.1 f).length ≤ l.length := fun l => by
        induction l with
        | nil => simp
        | cons a r ih =>
          rw [List.flatMap_cons, List.length_append, List.length_cons]
          have : (rowT b b'.1 a).length ≤ 1 := by unfold rowT; split <;> simp
          omega
      exact Nat.le_trans (this _) (hl8 _ hb')
    have i2 : ∀ (G : List Nat × List (List Nat) → List D) (m : Nat) (l : Bs), (∀ x ∈ l, (G x).length ≤ m) → (l.flatMap G).length ≤ l.length * m := fun G m l => by
      induction l with
      | nil => intro _; simp
      | cons a r ih =>
        intro hh
        rw [List.flatMap_cons, List.length_append, List.length_cons, Nat.succ_mul]
        have := ih fun x hx => hh x (by simp [hx])
        have := hh a (by simp)
        omega
    have i3 := i2 (fun b => bs.flatMap fun b' => b'.2.flatMap fun f => rowT b b'.1 f) (6 * 8) bs fun b hb => by
      refine Nat.le_trans (i2 _ 8 bs fun b' hb' => i1 b b' hb') (Nat.mul_le_mul hl6 (by omega))
    unfold foundT
    have i4 := Nat.mul_le_mul hl6 (Nat.le_refl (6 * 8))
    omega
  unfold foundT at hfo
  simp (disch := first | omega | (simp; done) | (simp; omega)) [if_pos, if_neg, b24]
  refine wp_seq (wp_forrowM bs toB1 (fun b => bs.flatMap fun b' => b'.2.flatMap fun f => rowT b b'.1 f) [] (fun acc => .lst acc :: S) rfl (fun _ => rfl) ?_ ?_)
  · intro b hb acc1 hacc1
    simp (disch := first | omega | (simp; done) | (simp; omega)) [if_pos, if_neg, toB1]
    refine wp_seq (wp_forrowM bs toB1 (fun b' => b'.2.flatMap fun f => rowT b b'.1 f) acc1 (fun acc => .lst acc :: S) rfl (fun _ => rfl) ?_ ?_)
    · intro b' hb' acc2 hacc2
      simp (disch := first | omega | (simp; done) | (simp; omega)) [if_pos, if_neg, toB1]
      refine wp_seq (wp_forrowM b'.2 .str (fun f => rowT b b'.1 f) acc2 (fun acc => .lst acc :: S) rfl (fun _ => rfl) ?_ ?_)
      · intro f hf acc3 hacc3
        have hacc : acc3.length ≤ 2304 := by simp only [List.length_nil, Nat.zero_add] at *; omega
        simp (disch := first | omega | (simp; done) | (simp; omega)) [if_pos, if_neg, id]
        by_cases h1 : b.1 < b'.1
        · by_cases h2 : f ∈ b.2
          · have : rowT b b'.1 f = [pairD (b.1, f) (b'.1, f)] := by simp [rowT, h1, h2]
            simp (disch := first | omega | (simp; done) | (simp; omega)) [if_pos, if_neg, h1, h2, inD_strs, this, pairD, toW]
          · have : rowT b b'.1 f = [] := by simp [rowT, h2]
            simp (disch := first | omega | (simp; done) | (simp; omega)) [if_pos, if_neg, h1, h2, inD_strs, this]
        · have : rowT b b'.1 f = [] := by simp [rowT, h1]
          simp (disch := first | omega | (simp; done) | (simp; omega)) [if_pos, if_neg, h1, this]
      · simp
    · simp
  · rw [List.nil_append]
    show wp _ _
    change (foundT bs).length ≤ 2304 at hfo
    cases hp : foundT bs with
    | nil =>
      have hz : pairsOf cT (ents bs) (ents bs) = [] := by
        rw [List.eq_nil_iff_forall_not_mem]; intro d hd
        rw [← mem_foundT, hp] at hd; simp at hd
      have hp' : (bs.flatMap fun b => bs.flatMap fun b' => b'.2.flatMap fun f => rowT b b'.1 f) = [] := hp
      simp (disch := first | omega | (simp; done) | (simp; omega)) [if_pos, if_neg, hp', hz, headD]
    | cons x xs =>
      have hm := min_head (c := cT) (ents_asc h) (x := x) (xs := xs) (fun d => by rw [← hp]; exact mem_foundT)
      have hpr : ∀ d ∈ x :: xs, ∃ a b, d = pairD a b := fun d hd => by
        rw [← hp, mem_foundT] at hd
        obtain ⟨a, _, b, _, _, e⟩ := mem_pairs.mp hd
        exact ⟨a, b, e⟩
      have hlk := minLk_pairs hpr
      have hp' : (bs.flatMap fun b => bs.flatMap fun b' => b'.2.flatMap fun f => rowT b b'.1 f) = x :: xs := hp
      obtain ⟨a, b, rfl⟩ := hpr x (by simp)
      have hi : intsD (pairD a b :: xs) = none := rfl
      rw [hp] at hfo
      have hb : ∀ n, D.bel n (headD (pairsOf cT (ents bs) (ents bs))) = true := fun n => by
        cases hq : pairsOf cT (ents bs) (ents bs) with
        | nil => rfl
        | cons d r =>
          have : d ∈ pairsOf cT (ents bs) (ents bs) := by rw [hq]; simp
          obtain ⟨a, _, b, _, _, rfl⟩ := mem_pairs.mp this
          simp [headD, pairD, toW]
      simp (disch := first | omega | (simp; done) | (simp; omega)) [if_pos, if_neg, hp', hi, hlk, hm, hb]
      exact fin_val (pre := [_]) rfl (hb _)
end HT
end
section
set_option maxHeartbeats 0
set_option linter.all false
set_option maxRecDepth 100000
namespace HT
open Pw
@[simp] theorem bel_toB1 (n : Nat) (b) : D.bel n (toB1 b) = true := by simp [toB1]
@[simp] theorem bels_toB (n : Nat) (bs : Bs) : D.bels n (bs.map toB1) = true := belsM fun x _ => bel_toB1 n x
@[simp] theorem bel_toB (n : Nat) (bs : Bs) : D.bel n (toB bs) = true := by simp [toB]
theorem sp_law_books (n : Nat) (S : Store) (zs : List Int) (a : Nat) (ns : List (List Nat)) (h : get S 0 = some (.ro (zs.map .int))) (hl : zs.length ≤ 63) (hg : get S a = some (.lst (ns.map .str)))
    (hn1 : ns.length ≤ 12) (hn2 : ns.Pairwise (· < ·)) (hn3 : ∀ s ∈ ns, isNameL s = true) :
    ∃ bs : Bs, OkB bs ∧ den P (n + 3) none 22 [.obj 0, .obj a] S = .ok (toB bs) S := by
  have hS := getLt h
  have hA := getLt hg
  obtain ⟨c1, hc1⟩ := sp_cell (n + 1) S zs 4 h (by omega) hl
  have hc1' : den P (n + 2) none 14 [.obj 0, .int 4] S = .ok (.int c1) S := hc1
  obtain ⟨nb, ⟨hb1, hb2⟩, hnb⟩ := sp_numbers (n + 1) S c1 8 6 ⟨by omega, by omega⟩ (by omega)
  have hnb' : den P (n + 2) none 15 [.int c1, .int 8, .int 6] S = .ok (.obj S.length) (.lst (nb.map .int) :: S) := hnb
  obtain ⟨c2, hc2⟩ := sp_cell (n + 1) (.lst (nb.map .int) :: S) zs 5 (getOld h) (by omega) hl
  have hc2' : den P (n + 2) none 14 [.obj 0, .int 5] (.lst (nb.map .int) :: S) = .ok (.int c2) (.lst (nb.map .int) :: S) := hc2
  obtain ⟨fs, ⟨hf1, hf2⟩, hfs⟩ := sp_frames n (.lst (nb.map .int) :: S) c2 48 (by omega)
  have hfs' : den P (n + 2) none 19 [.int c2, .int 48] (.lst (nb.map .int) :: S) = .ok (.obj (S.length + 1)) (.lst (fs.map .str) :: .lst (nb.map .int) :: S) := hfs
  refine den_post (f := ⟨2, 8, b22⟩) OkB (fun bs => .ok (toB bs) S) rfl rfl ?_
  simp (disch := first | omega | (simp; done) | (simp; omega)) [if_pos, if_neg, b22, hc1', hnb', hc2', hfs', hg]
  rw [show (if (6 : Int) < (ns.length : Int) then (6 : Int) else (ns.length : Int)) = ((min ns.length 6 : Nat) : Int) by split <;> omega, rngL_nat]
  refine wp_seq (wp_forR (min ns.length 6) (fun _ : Bs => [some (.obj 0), some (.obj a), some (.obj (S.length + 1 + 1)), some (.obj S.length), some (.obj (S.length + 1)), none, none, none]) (fun bs => .lst (bs.map toB1) :: .lst (fs.map .str) :: .lst (nb.map .int) :: S)
    (fun i bs => bs.length = i ∧ bs.map (·.1) = ns.take i ∧ ∀ b ∈ bs, isNameL b.1 = true ∧ 1 ≤ b.2.length ∧ b.2.length ≤ 8 ∧ b.2.Pairwise (· < ·) ∧ ∀ f ∈ b.2, isWordL f = true) [] ⟨rfl, by simp, by simp⟩ rfl rfl ?_ ?_)
  · rintro i bs hi ⟨hl1, hl2, hl3⟩
    have hin : i < ns.length := by omega
    have hib : i < nb.length := by omega
    obtain ⟨w, hw⟩ : ∃ w : Nat, nb[i] = (w : Int) := ⟨nb[i].toNat, by have := (hb2 _ (List.getElem_mem hib)).1; omega⟩
    have hw7 : w < 8 := by have := (hb2 _ (List.getElem_mem hib)).2; omega
    simp (disch := first | omega | (simp; done) | (simp; omega)) [if_pos, if_neg, hib, hw]
    rw [show (1 + (w : Int)) = ((w + 1 : Nat) : Int) by omega, rngL_nat]
    refine wp_seq (wp_forR (w + 1) (fun _ : List (List Nat) => [some (.obj 0), some (.obj a), some (.obj (S.length + 1 + 1)), some (.obj S.length), some (.obj (S.length + 1)), none, some (.int (i : Int)), some (.obj (S.length + 1 + 1 + 1))]) (fun ks => .dct (nmD ks) :: .lst (bs.map toB1) :: .lst (fs.map .str) :: .lst (nb.map .int) :: S)
      (fun j ks => ks.length ≤ j ∧ (j = 0 ∨ 1 ≤ ks.length) ∧ ks.Nodup ∧ ∀ f ∈ ks, isWordL f = true) [] ⟨by simp, by simp, by simp, by simp⟩ rfl rfl ?_ ?_)
    · rintro j ks hj ⟨k1, k2, k3, k4⟩
      have hfi : 8 * i + j < fs.length := by omega
      obtain ⟨p, hp⟩ : ∃ p, p = 8 * i + j := ⟨_, rfl⟩
      rw [← hp] at hfi
      have e : (8 * (i : Int) + (j : Int)) = (p : Int) := by omega
      have hfw := hf2 _ (List.getElem_mem hfi)
      simp (disch := first | omega | (simp; done) | (simp; omega)) [if_pos, if_neg, e, hfi]
      refine ⟨if fs[p] ∈ ks then ks else ks ++ [fs[p]], ?_, rfl, by simp⟩
      split
      · rename_i hin
        exact ⟨by omega, Or.inr (by have := List.length_pos_of_mem hin; omega), k3, k4⟩
      · rename_i hns
        refine ⟨by simp; omega, Or.inr (by simp), ?_, ?_⟩
        · rw [List.nodup_append]; exact ⟨k3, by simp, by intro a ha b hb; simp at hb; subst hb; rintro rfl; exact hns ha⟩
        · intro t ht
          rw [List.mem_append, List.mem_singleton] at ht
          rcases ht with ht | rfl
          · exact k4 t ht
          · exact hfw
    · rintro ks ⟨k1, k2, k3, k4⟩
      have hk : keysD (.obj (S.length + 1 + 1 + 1)) (.dct (nmD ks) :: .lst (bs.map toB1) :: .lst (fs.map .str) :: .lst (nb.map .int) :: S) = some (ks.map .str) := keysD_nm (get_self _ _) (by omega)
      simp (disch := first | omega | (simp; done) | (simp; omega)) [if_pos, if_neg, hk, sortD_s, hg, hin]
      refine ⟨bs ++ [(ns[i], ks.mergeSort leL)], ⟨by simp [hl1], ?_, ?_⟩, rfl, by simp [toB1]; try rw [trim_g2 (by simp; try omega) (by simp)]⟩
      · rw [List.map_append, hl2, List.take_add_one, List.getElem?_eq_getElem hin]; rfl
      · intro b b2 hb
        rw [List.mem_append, List.mem_singleton] at hb
        rcases hb with hb | hb
        · exact hl3 (b, b2) hb
        · cases hb
          exact ⟨hn3 _ (List.getElem_mem hin), by simp; omega, by simp; omega, sort_asc k3, fun f hf => k4 f (by simpa using hf)⟩
  · rintro bs ⟨hl1, hl2, hl3⟩
    simp (disch := first | omega | (simp; done) | (simp; omega)) [if_pos, if_neg, id]
    exact ⟨bs, ⟨by omega, by rw [hl2]; exact hn2.sublist (List.take_sublist _ _), hl3⟩, rfl⟩
end HT
end
section
set_option maxHeartbeats 0
set_option linter.all false
set_option maxRecDepth 100000
namespace HT
open Pw
def nd (k : Nat) : Nat := [48, 49, 50, 51, 52, 53, 54, 55, 56, 57, 97, 98, 99][k]?.getD 0
def mw (m : Nat) (fs : List (List Nat)) : Ws := (List.range m).map fun k => ([110, nd k], fs[k % fs.length]?.getD [])
theorem sp_manyw (n : Nat) (S : Store) (m fr : Nat) (fs : List (List Nat)) (hm : m ≤ 13) (hg : get S fr = some (.lst (fs.map .str))) (h0 : 0 < fs.length) (hl : fs.length ≤ 100) :
    den P (n + 1) none 25 [.int m, .obj fr] S = .ok (toWs (mw m fs)) S := by
  refine den_wp (f := ⟨2, 3, b25⟩) rfl rfl ?_
  have hS := getLt hg
  simp (disch := first | omega | (simp; done) | (simp; omega)) [if_pos, if_neg, b25]
  rw [compK_rg m (fun _ => true) (fun k => toW ([110, nd k], fs[k % fs.length]?.getD [])) (by omega) (fun j hj => by
    constructor
    · simp (disch := first | omega | (simp; done) | (simp; omega)) [if_pos, if_neg, id]
    · intro _
      have hj' : j < [48, 49, 50, 51, 52, 53, 54, 55, 56, 57, 97, 98, 99].length := by simp; omega
      obtain ⟨c, hc⟩ : ∃ c, [48, 49, 50, 51, 52, 53, 54, 55, 56, 57, 97, 98, 99][j]? = some c := ⟨_, List.getElem?_eq_getElem hj'⟩
      have hc2 : ∀ S : Store, idxD (.str [48, 49, 50, 51, 52, 53, 54, 55, 56, 57, 97, 98, 99]) (.int (j : Int)) S = .ok (.str [c]) S := fun S => by rw [idx_s (by simp), hc]; rfl
      have hi : j % fs.length < fs.length := Nat.mod_lt _ h0
      have he : ((j : Int) % (fs.length : Int)) = ((j % fs.length : Nat) : Int) := by simp
      generalize j % fs.length = i at hi he
      simp (disch := first | omega | (simp; done) | (simp; omega)) [if_pos, if_neg, hc2, hg, he, hi, toW]
      simp [nd, hc])]
  rw [show List.filter (fun _ => true) (List.range m) = List.range m from List.filter_eq_self.mpr (by simp)]
  have hb2 : ∀ l : List Nat, D.bels S.length (l.map fun k => toW ([110, nd k], fs[k % fs.length]?.getD [])) = true := fun l => belsM fun k _ => by simp [toW]
  simp (disch := first | omega | (simp; done) | (simp; omega)) [if_pos, if_neg, id]
  rw [show (toWs (mw m fs)) = .tup ((List.range m).map fun k => toW ([110, nd k], fs[k % fs.length]?.getD [])) by simp [toWs, mw]]
  first | done | exact fin_val (pre := []) rfl (by rw [bel_tup]; exact hb2 _)
def many (m : Nat) (d : D) : List D := (List.range m).map fun k => .tup [.str [110, nd k], d]
@[simp] theorem many_len (m : Nat) (d : D) : (many m d).length = m := by simp [many]
theorem nd7 : ∀ k, k < 7 → [48, 49, 50, 51, 52, 53, 54][k]?.getD 0 = nd k := by decide
theorem sp_manyb (n : Nat) (S : Store) (m : Nat) (d : D) (hm : m ≤ 7) (hb : D.bel S.length d = true) :
    den P (n + 1) none 27 [.int m, d] S = .ok (.tup (many m d)) S := by
  refine den_wp (f := ⟨2, 3, b27⟩) rfl rfl ?_
  simp (disch := first | omega | (simp; done) | (simp; omega)) [if_pos, if_neg, b27]
  rw [compK_rg m (fun _ => true) (fun k => .tup [.str [110, nd k], d]) (by omega) (fun j hj => by
    constructor
    · simp (disch := first | omega | (simp; done) | (simp; omega)) [if_pos, if_neg, id]
    · intro _
      have hj' : j < [48, 49, 50, 51, 52, 53, 54].length := by simp; omega
      obtain ⟨c, hc⟩ : ∃ c, [48, 49, 50, 51, 52, 53, 54][j]? = some c := ⟨_, List.getElem?_eq_getElem hj'⟩
      have hc2 : ∀ S : Store, idxD (.str [48, 49, 50, 51, 52, 53, 54]) (.int (j : Int)) S = .ok (.str [c]) S := fun S => by rw [idx_s (by simp), hc]; rfl
      have h7 := nd7 j (by omega)
      rw [hc] at h7
      simp only [Option.getD_some] at h7
      simp (disch := first | omega | (simp; done) | (simp; omega)) [if_pos, if_neg, hc2, h7])]
  rw [show List.filter (fun _ => true) (List.range m) = List.range m from List.filter_eq_self.mpr (by simp)]
  have hb2 : ∀ l : List Nat, D.bels S.length (l.map fun k => .tup [.str [110, nd k], d]) = true := fun l => belsM fun k _ => by simp [hb]
  simp (disch := first | omega | (simp; done) | (simp; omega)) [if_pos, if_neg, id]
  exact fin_val (pre := []) rfl (by rw [bel_tup]; exact hb2 _)
end HT
end
section
set_option maxHeartbeats 0
set_option linter.all false
set_option maxRecDepth 100000
namespace HT
open Pw
/-- what stands for the wishes here: the first, the drawn and the last -/
structure Sw where
  qd : List D
  n0 : List Nat
  f0 : List Nat
  np : List Nat
  fp : List Nat
  nl : List Nat
  fl : List Nat
  pl : Nat
  fr : Nat
  fs : List (List Nat)
structure SwOk (a : Sw) : Prop where
  len : 0 < a.qd.length ∧ a.qd.length ≤ 12
  pl : a.pl < a.qd.length
  h0 : a.qd[0]? = some (toW (a.n0, a.f0))
  hp : a.qd[a.pl]? = some (toW (a.np, a.fp))
  hl : a.qd[a.qd.length - 1]? = some (toW (a.nl, a.fl))
  n0 : a.n0.length ≤ 8
  np : a.np.length ≤ 8
  nl : a.nl.length ≤ 8
  f0 : a.f0.length ≤ 24
  fp : a.fp.length ≤ 24
  fl : a.fl.length ≤ 24
  bq : ∀ n, D.bels n a.qd = true
  fs : 0 < a.fs.length ∧ a.fs.length ≤ 100
def sw1 (a : Sw) (B : Nat) : List D := [.non, .bl true, .int 0, .str [], .str a.f0, .obj B, .obj (B + 1), .obj (B + 1 + 1), .obj (B + 1 + 1 + 1), toW (a.n0, a.f0), .tup (a.qd ++ [.non]), .tup (a.qd ++ [.tup []])]
def sg4 (a : Sw) (x : D) : D := .tup (.tup [x, .str a.f0] :: a.qd.tail)
def sL4 (a : Sw) : List D := [.str [], .str (48 :: a.n0.tail), .str (65 :: a.n0.tail), .str (95 :: a.n0.tail)]
def sg5 (a : Sw) (x : D) : D := .tup (a.qd.take (a.qd.length - 1) ++ [.tup [x, .str a.fl]])
def sL5 (a : Sw) (B : Nat) : List D := [.str ((a.nl ++ [48, 48, 48, 48, 48, 48, 48, 48]).take 9), .str (a.nl.take 7 ++ [126]), .non, .int 7, .bl true, .obj (B + 6), .tup [.str a.nl]]
def sw2 (a : Sw) : List D := [.tup (a.qd.take (a.qd.length - 1) ++ [toW (a.nl, a.fl), toW (a.nl, a.fl)]), toWs (mw 13 a.fs)]
def sw3 (a : Sw) : List D := if 1 < a.qd.length then [.tup a.qd.reverse] else []
def sg6 (a : Sw) (x : D) : D := .tup (a.qd.take a.pl ++ x :: a.qd.drop (a.pl + 1))
def sL6 (a : Sw) (B : Nat) : List D := [.obj (B + 10), .tup [.str a.np], .tup [.str a.np, .str a.fp, .str a.fp], .tup [.str a.fp, .str a.np], .str (a.np ++ a.fp)]
def sg7 (a : Sw) (x : D) : D := .tup (a.qd.take a.pl ++ .tup [.str a.np, x] :: a.qd.drop (a.pl + 1))
def sL7 (a : Sw) : List D := [.str [], .str (a.fp ++ List.replicate (25 - a.fp.length) 49), .str (a.fp.take 23 ++ [50]), .str (a.fp.take 23 ++ [120]), .str (a.fp.take 23 ++ [10]), .str (32 :: a.fp.take 23)]
def sL8 (a : Sw) (B : Nat) : List D := [.non, .int 1, .bl false, .obj (B + 13), .tup [.str a.fp], .obj (B + 14)]
def swO (a : Sw) (B : Nat) : List D := sw1 a B ++ (sL4 a).map (sg4 a) ++ (sL5 a B).map (sg5 a)
def swV (a : Sw) (B : Nat) : List D := swO a B ++ sw2 a ++ sw3 a ++ (sL6 a B).map (sg6 a) ++ (sL7 a).map (sg7 a) ++ (sL8 a B).map (sg7 a)
def swS (a : Sw) (B : Nat) : Store := [.lst (sL8 a B), .dct [], .lst [.str a.fp], .lst (sL7 a), .lst (sL6 a B), .lst [.str a.np, .str a.fp], .lst (swV a B), .lst (sw2 a), .lst (sL5 a B), .lst [.str a.nl], .lst (sL4 a), .lst (swO a B), .lst a.qd, .dct [(.str a.n0, .str a.f0)], .dct [], .lst []]
def sE (a : Sw) (v : Nat) (c f : Option D) : Env := [some (.tup a.qd), some (.int a.pl), some (.obj a.fr), some (.tup (a.qd.take (a.qd.length - 1))), c, some (.tup a.qd.tail), some (toW (a.n0, a.f0)), f, some (toW (a.nl, a.fl)), none, none, some (.obj v), none]
def sT (a : Sw) (S : Store) (acc : List D) : Store := .lst acc :: .lst a.qd :: .dct [(.str a.n0, .str a.f0)] :: .dct [] :: .lst [] :: S
def sU (a : Sw) (S : Store) (acc : List D) : Store := .lst acc :: .lst (sw2 a) :: .lst (sL5 a S.length) :: .lst [.str a.nl] :: .lst (sL4 a) :: sT a S (swO a S.length)
theorem sp_spoiltw (n : Nat) (S : Store) (a : Sw) (h : SwOk a) (hg : get S a.fr = some (.lst (a.fs.map .str))) : den P (n + 2) none 26 [.tup a.qd, .int a.pl, .obj a.fr] S = .ok (.obj (S.length + 9)) (swS a S.length ++ S) := by
  obtain ⟨hq0, hlen⟩ := h.len
  have hpl := h.pl
  have hn0 := h.n0
  have hnp := h.np
  have hnl := h.nl
  have hf0 := h.f0
  have hfp := h.fp
  have hfl := h.fl
  have bq := h.bq
  have hA := getLt hg
  have hlast : (a.qd.length : Int) - 1 = ((a.qd.length - 1 : Nat) : Int) := by omega
  have e0 := (List.getElem?_eq_some_iff.mp h.h0).2
  have ep := (List.getElem?_eq_some_iff.mp h.hp).2
  have el := (List.getElem?_eq_some_iff.mp h.hl).2
  have m13 : ∀ S, get S a.fr = some (.lst (a.fs.map .str)) → den P (n + 1) none 25 [.int 13, .obj a.fr] S = .ok (toWs (mw 13 a.fs)) S := fun S hg => sp_manyw n S 13 a.fr a.fs (by omega) hg h.fs.1 h.fs.2
  refine den_wp (f := ⟨3, 13, b26⟩) rfl rfl ?_
  refine wp_split 5 (sE a (S.length + 4) none none) (sT a S (sw1 a S.length)) ?_ ?_
  · simp only [b26, List.take_succ_cons, List.take_zero]
    simp (disch := first | omega | (simp; done) | (simp; omega)) [if_pos, if_neg, hlast, e0, el, sE, sT, sw1, toW]
  have w1l : (sw1 a S.length).length ≤ 12 := by simp [sw1]
  generalize hw1 : sw1 a S.length = w1 at w1l
  refine wp_split 1 (sE a (S.length + 4) none none) (.lst (sL4 a) :: sT a S (w1 ++ (sL4 a).map (sg4 a))) ?_ ?_
  · simp only [b26, List.take_succ_cons, List.take_zero, List.drop_succ_cons, List.drop_zero]
    simp (disch := first | omega | (simp; done) | (simp; omega)) [if_pos, if_neg, sE, sT, sU, e0, toW]
    refine wp_seq (wp_forapp (sg4 a) w1 (fun acc => .lst (sL4 a) :: sT a S acc) (by simp [sT, sU]; rfl) (fun acc => by simp [sT, sU]; rfl) ?_ ?_)
    · intro x hx acc hacc
      have hacc' : acc.length ≤ 100 := by simp at hacc; omega
      simp (disch := first | omega | (simp; done) | (simp; omega)) [if_pos, if_neg, sT, sU, e0, toW, sg4]
      rw [trim_same (by simp)]
    · simp [sT, sU, sE]; rfl
  have w2l : (w1 ++ (sL4 a).map (sg4 a)).length ≤ 16 := by simp [sL4]; omega
  generalize hw2 : w1 ++ (sL4 a).map (sg4 a) = w2 at w2l
  refine wp_split 1 (sE a (S.length + 4) none none) (.lst (sL5 a S.length) :: .lst [.str a.nl] :: .lst (sL4 a) :: sT a S (w2 ++ (sL5 a S.length).map (sg5 a))) ?_ ?_
  · simp only [b26, List.take_succ_cons, List.take_zero, List.drop_succ_cons, List.drop_zero]
    simp (disch := first | omega | (simp; done) | (simp; omega)) [if_pos, if_neg, sE, sT, sU, e0, toW]
    refine wp_seq (wp_forapp (sg5 a) w2 (fun acc => .lst (sL5 a S.length) :: .lst [.str a.nl] :: .lst (sL4 a) :: sT a S acc) (by simp [sT, sU]; rfl) (fun acc => by simp [sT, sU]; rfl) ?_ ?_)
    · intro x hx acc hacc
      have hacc' : acc.length ≤ 100 := by simp at hacc; omega
      simp (disch := first | omega | (simp; done) | (simp; omega)) [if_pos, if_neg, sT, sU, e0, toW, sg5]
      rw [trim_same (by simp)]
    · simp [sT, sU, sE]; rfl
  have w3l : (w2 ++ (sL5 a S.length).map (sg5 a)).length ≤ 23 := by simp [sL5]; omega
  generalize hw3 : w2 ++ (sL5 a S.length).map (sg5 a) = w3 at w3l
  have hO : w3 = swO a S.length := by rw [← hw3, ← hw2, ← hw1]; rfl
  have hOl : (swO a S.length).length ≤ 23 := by rw [← hO]; exact w3l
  subst hO
  refine wp_split 1 (sE a (S.length + 9) none none) (sU a S (swO a S.length ++ sw2 a)) ?_ ?_
  · simp only [b26, List.take_succ_cons, List.take_zero, List.drop_succ_cons, List.drop_zero]
    have m13' := m13 (.lst (sL5 a S.length) :: .lst [.str a.nl] :: .lst (sL4 a) :: .lst (swO a S.length) :: .lst a.qd :: .dct [(.str a.n0, .str a.f0)] :: .dct [] :: .lst [] :: S) (getOld (getOld (getOld (getOld (getOld (getOld (getOld (getOld hg))))))))
    simp (disch := first | omega | (simp; done) | (simp; omega)) [if_pos, if_neg, sE, sT, sU, toW, m13', sw2]
  refine wp_split 1 (sE a (S.length + 9) none none) (sU a S (swO a S.length ++ sw2 a ++ sw3 a)) ?_ ?_
  · simp only [b26, List.take_succ_cons, List.take_zero, List.drop_succ_cons, List.drop_zero]
    have hv : (swO a S.length ++ sw2 a).length ≤ 25 := by simp [sw2]; omega
    by_cases hN : 1 < a.qd.length
    · simp (disch := first | omega | (simp; done) | (simp; omega)) [if_pos, if_neg, sE, sT, sU, hN, revD, hv, sw3]
    · simp (disch := first | omega | (simp; done) | (simp; omega)) [if_pos, if_neg, sE, sT, sU, hN, sw3]
  have w4l : (swO a S.length ++ sw2 a ++ sw3 a).length ≤ 26 := by simp only [List.length_append, sw2, sw3]; split <;> simp <;> omega
  generalize hw4 : swO a S.length ++ sw2 a ++ sw3 a = w4 at w4l
  refine wp_split 2 (sE a (S.length + 9) (some (.str a.np)) (some (.str a.fp))) (sU a S w4) ?_ ?_
  · simp only [b26, List.take_succ_cons, List.take_zero, List.drop_succ_cons, List.drop_zero]
    simp (disch := first | omega | (simp; done) | (simp; omega)) [if_pos, if_neg, sE, ep, toW]
  have hm : ∀ S, binD .mul (.str [49]) (.int (25 - (a.fp.length : Int))) S = .ok (.str (List.replicate (25 - a.fp.length) 49)) S := fun S => by
    rw [mul_s (by omega) (by omega)]; congr 3; omega
  refine wp_split 1 (sE a (S.length + 9) (some (.str a.np)) (some (.str a.fp))) (.lst (sL6 a S.length) :: .lst [.str a.np, .str a.fp] :: sU a S (w4 ++ (sL6 a S.length).map (sg6 a))) ?_ ?_
  · simp only [b26, List.take_succ_cons, List.take_zero, List.drop_succ_cons, List.drop_zero]
    simp (disch := first | omega | (simp; done) | (simp; omega)) [if_pos, if_neg, sE, sT, sU, ep, toW]
    refine wp_seq (wp_forapp (sg6 a) w4 (fun acc => .lst (sL6 a S.length) :: .lst [.str a.np, .str a.fp] :: sU a S acc) (by simp [sT, sU]; rfl) (fun acc => by simp [sT, sU]; rfl) ?_ ?_)
    · intro x hx acc hacc
      have hacc' : acc.length ≤ 100 := by simp at hacc; omega
      simp (disch := first | omega | (simp; done) | (simp; omega)) [if_pos, if_neg, sT, sU, ep, toW, sg6]
      rw [trim_same (by simp)]
    · simp [sT, sU, sE]; rfl
  have w5l : (w4 ++ (sL6 a S.length).map (sg6 a)).length ≤ 40 := by simp [sL6]; omega
  generalize hw5 : w4 ++ (sL6 a S.length).map (sg6 a) = w5 at w5l
  refine wp_split 1 (sE a (S.length + 9) (some (.str a.np)) (some (.str a.fp))) (.lst (sL7 a) :: .lst (sL6 a S.length) :: .lst [.str a.np, .str a.fp] :: sU a S (w5 ++ (sL7 a).map (sg7 a))) ?_ ?_
  · simp only [b26, List.take_succ_cons, List.take_zero, List.drop_succ_cons, List.drop_zero]
    simp (disch := first | omega | (simp; done) | (simp; omega)) [if_pos, if_neg, sE, sT, sU, ep, hm, toW]
    refine wp_seq (wp_forapp (sg7 a) w5 (fun acc => .lst (sL7 a) :: .lst (sL6 a S.length) :: .lst [.str a.np, .str a.fp] :: sU a S acc) (by simp [sT, sU]; rfl) (fun acc => by simp [sT, sU]; rfl) ?_ ?_)
    · intro x hx acc hacc
      have hacc' : acc.length ≤ 100 := by simp at hacc; omega
      simp (disch := first | omega | (simp; done) | (simp; omega)) [if_pos, if_neg, sT, sU, ep, hm, toW, sg7]
      rw [trim_same (by simp)]
    · simp [sT, sU, sE]; rfl
  have w6l : (w5 ++ (sL7 a).map (sg7 a)).length ≤ 50 := by simp [sL7]; omega
  generalize hw6 : w5 ++ (sL7 a).map (sg7 a) = w6 at w6l
  refine wp_split 1 (sE a (S.length + 9) (some (.str a.np)) (some (.str a.fp))) (.lst (sL8 a S.length) :: .dct [] :: .lst [.str a.fp] :: .lst (sL7 a) :: .lst (sL6 a S.length) :: .lst [.str a.np, .str a.fp] :: sU a S (w6 ++ (sL8 a S.length).map (sg7 a))) ?_ ?_
  · simp only [b26, List.take_succ_cons, List.take_zero, List.drop_succ_cons, List.drop_zero]
    simp (disch := first | omega | (simp; done) | (simp; omega)) [if_pos, if_neg, sE, sT, sU, ep, toW]
    refine wp_seq (wp_forapp (sg7 a) w6 (fun acc => .lst (sL8 a S.length) :: .dct [] :: .lst [.str a.fp] :: .lst (sL7 a) :: .lst (sL6 a S.length) :: .lst [.str a.np, .str a.fp] :: sU a S acc) (by simp [sT, sU]; rfl) (fun acc => by simp [sT, sU]; rfl) ?_ ?_)
    · intro x hx acc hacc
      have hacc' : acc.length ≤ 100 := by simp at hacc; omega
      simp (disch := first | omega | (simp; done) | (simp; omega)) [if_pos, if_neg, sT, sU, ep, toW, sg7]
      rw [trim_same (by simp)]
    · simp [sT, sU, sE]; rfl
  have w7l : (w6 ++ (sL8 a S.length).map (sg7 a)).length ≤ 60 := by simp [sL8]; omega
  generalize hw7 : w6 ++ (sL8 a S.length).map (sg7 a) = w7 at w7l
  simp only [b26, List.take_succ_cons, List.take_zero, List.drop_succ_cons, List.drop_zero]
  simp (disch := first | omega | (simp; done) | (simp; omega)) [if_pos, if_neg, sE, sT, sU]
  have hw : w7 = swV a S.length := by rw [← hw7, ← hw6, ← hw5, ← hw4]; rfl
  rw [hw]
  refine fin_keep (pre := swS a S.length) rfl (by omega) (o := .lst (swV a S.length)) (by simp [swS]) ?_
  rw [obel_lst, belsA, List.all_eq_false]
  exact ⟨.obj S.length, by simp [swV, swO, sw1], by simp⟩
end HT
end
section
set_option maxHeartbeats 0
set_option linter.all false
set_option maxRecDepth 100000
namespace HT
open Pw
theorem sp_lawt_contest (n : Nat) (S : Store) (ws : List (List Nat × List Nat)) (hn : ws.length ≤ 100) (hn0 : ws ≠ []) (hw : ∀ f ∈ ws.map (·.2), isWordL f = true) :
    den P (n + 1) none 21 [D.tup (ws.map toW)] S = .ok (.tup [.str ((leastOf (ws.map (·.2))).take (ticks (leastOf (ws.map (·.2))) (ws.map (·.2)))), .tup (ws.map (endOf (leastOf (ws.map (·.2)))))]) S := by
  have L := least_of hw (by simpa using hn0)
  have hle24 : (leastOf (ws.map (·.2))).length = 24 := by obtain ⟨m, hm, e⟩ := L.mem; rw [e]; exact pad_len (hw m hm)
  have hat : ∀ (i : Nat) (x : D), (ws.map toW)[i]? = some x → ∃ w, ws[i]? = some w ∧ x = toW w ∧ isWordL w.2 = true := fun i x hx => by
    rw [List.getElem?_map] at hx
    obtain ⟨w, hw', rfl⟩ := Option.map_eq_some_iff.mp hx
    exact ⟨w, hw', rfl, hw _ (List.mem_map.mpr ⟨w, List.mem_of_getElem? hw', rfl⟩)⟩
  refine den_wp (f := ⟨1, 10, b21⟩) rfl rfl ?_
  simp (disch := first | omega | (simp; done) | (simp; omega)) [if_pos, if_neg, b21]
  refine wp_seq (wp_forI (fun le : List Nat => [some (D.tup (ws.map toW)), none, none, none, some (.str le), none, none, none, none, none]) (fun _ => S)
    (fun i le => le = ((ws.map (·.2)).take i).foldl (fun le f => if le = [] ∨ pad f < le then pad f else le) []) [] (by simp) rfl rfl (fun _ => rfl) ?_ ?_)
  · rintro i x le hx hle
    obtain ⟨w, hwi, rfl, hok⟩ := hat i x hx
    have hl := ((isWordL_iff w.2).mp hok)
    have hnx : ((ws.map (·.2)).take (i + 1)).foldl (fun le f => if le = [] ∨ pad f < le then pad f else le) [] = if le = [] ∨ pad w.2 < le then pad w.2 else le := by
      rw [List.take_add_one, List.getElem?_map, hwi, List.foldl_append, ← hle]; rfl
    have hm : ∀ S, binD .mul (.str [49]) (.int (24 - (w.2.length : Int))) S = .ok (.str (List.replicate (24 - w.2.length) 49)) S := fun S => by
      rw [mul_s (by omega) (by omega)]; congr 3; omega
    have hp : ∀ S, binD .add (.str w.2) (.str (List.replicate (24 - w.2.length) 49)) S = .ok (.str (pad w.2)) S := fun S => by
      rw [add_s (by simp; omega)]; rfl
    simp (disch := first | omega | (simp; done) | (simp; omega)) [if_pos, if_neg, toW, hm, hp]
    by_cases h1 : le = []
    · simp (disch := first | omega | (simp; done) | (simp; omega)) [if_pos, if_neg, h1]
      exact ⟨pad w.2, (hnx.trans (if_pos (Or.inl h1))).symm, rfl, rfl⟩
    · by_cases h2 : pad w.2 < le
      · simp (disch := first | omega | (simp; done) | (simp; omega)) [if_pos, if_neg, h1, h2]
        exact ⟨pad w.2, (hnx.trans (if_pos (Or.inr h2))).symm, rfl, rfl⟩
      · simp (disch := first | omega | (simp; done) | (simp; omega)) [if_pos, if_neg, h1, h2]
        exact ⟨le, (hnx.trans (if_neg (by rintro (h | h); exact h1 h; exact h2 h))).symm, rfl, rfl⟩
  · rintro le hle
    rw [List.take_of_length_le (by simp)] at hle
    have hle' : le = leastOf (ws.map (·.2)) := hle
    subst hle'
    generalize leastOf (ws.map (·.2)) = le at L hle24
    simp (disch := first | omega | (simp; done) | (simp; omega)) [if_pos, if_neg, id]
    refine wp_seq (wp_forI (fun a' : Nat × List D => [some (D.tup (ws.map toW)), none, some (.obj S.length), none, some (.str le), none, none, none, some (.int (a'.1 : Int)), none]) (fun a' => .lst a'.2 :: S)
      (fun i a' => a'.2 = (ws.take i).map (endOf le) ∧ a'.1 = (((ws.take i).map (·.2)).map (tickF le)).foldl max 0) (0, []) ⟨by simp, by simp⟩ rfl rfl (fun _ => rfl) ?_ ?_)
    · rintro i x ⟨tk, es⟩ hx ⟨hes, htk⟩
      simp only at hes htk
      obtain ⟨w, hwi, rfl, hok⟩ := hat i x hx
      have hl := ((isWordL_iff w.2).mp hok)
      have hi : i < ws.length := (List.getElem?_eq_some_iff.mp hwi).1
      have hesl : es.length ≤ 100 := by rw [hes]; simp; omega
      have hes' : es ++ [endOf le w] = (ws.take (i + 1)).map (endOf le) := by rw [List.take_add_one, hwi, hes]; simp
      have htk' : max tk (tickF le w.2) = (((ws.take (i + 1)).map (·.2)).map (tickF le)).foldl max 0 := by rw [List.take_add_one, hwi, htk]; simp
      simp (disch := first | omega | (simp; done) | (simp; omega)) [if_pos, if_neg, toW]
      refine wp_seq (wp_forR w.2.length (fun v : Int => [some (D.tup (ws.map toW)), some (.str w.1), some (.obj S.length), some (.str w.2), some (.str le), none, none, some (.int (if v < 0 then (w.2.length : Int) else v)), some (.int (tk : Int)), some (.str (if v < 0 then [119, 111, 110] else [108, 111, 115, 116]))]) (fun _ => .lst es :: S)
        (fun i v => v = lostT le w.2 i) (-1) rfl rfl rfl ?_ ?_)
      · rintro t v ht rfl
        have ht' : t < le.length := by omega
        have hnx : lostT le w.2 (t + 1) = if 0 ≤ lostT le w.2 t then lostT le w.2 t else if w.2[t]? = some 49 ∧ le[t]? = some 48 then t else -1 := by rw [lostT]
        by_cases h0 : lostT le w.2 t < 0
        · rw [if_neg (by omega)] at hnx
          by_cases h1 : w.2[t] = 49
          · by_cases h2 : le[t] = 48
            · simp (disch := first | omega | (simp; done) | (simp; omega)) [if_pos, if_neg, h0, h1, h2]
              exact ⟨(t : Int), (hnx.trans (if_pos (by simp [ht, ht', h1, h2]))).symm, by simp; omega, rfl⟩
            · simp (disch := first | omega | (simp; done) | (simp; omega)) [if_pos, if_neg, h0, h1, h2]
              exact ⟨-1, (hnx.trans (if_neg (by simp [ht, ht', h1, h2]))).symm, by simp, rfl⟩
          · simp (disch := first | omega | (simp; done) | (simp; omega)) [if_pos, if_neg, h0, h1]
            exact ⟨-1, (hnx.trans (if_neg (by simp [ht, ht', h1]))).symm, by simp, rfl⟩
        · rw [if_pos (by omega)] at hnx
          simp (disch := first | omega | (simp; done) | (simp; omega)) [if_pos, if_neg, h0]
          exact ⟨lostT le w.2 t, hnx.symm, by simp [h0], rfl⟩
      · rintro v rfl
        by_cases h0 : lostT le w.2 w.2.length < 0
        · have et : tickF le w.2 = w.2.length := by unfold tickF; rw [if_pos h0]
          have e8 : (if tk < w.2.length then (w.2.length : Int) else (tk : Int)) = ((max tk (tickF le w.2) : Nat) : Int) := by rw [et]; split <;> omega
          have ee : endOf le w = .tup [.str w.1, .str [119, 111, 110], .int w.2.length] := by simp [endOf, h0, wonS]
          simp (disch := first | omega | (simp; done) | (simp; omega)) [if_pos, if_neg, h0, b2i]
          exact ⟨(max tk (tickF le w.2), es ++ [endOf le w]), ⟨by simpa using hes', by simpa using htk'⟩, by rw [e8], by rw [ee]⟩
        · have hge : 0 ≤ lostT le w.2 w.2.length := by omega
          obtain ⟨q, hq⟩ : ∃ q : Nat, lostT le w.2 w.2.length = q := ⟨_, (Int.toNat_of_nonneg hge).symm⟩
          have et : tickF le w.2 = q + 1 := by unfold tickF; rw [if_neg h0, hq]; simp
          have e8 : (if (tk : Int) < (q : Int) + 1 then (q : Int) + 1 else (tk : Int)) = ((max tk (tickF le w.2) : Nat) : Int) := by rw [et]; split <;> omega
          have ee : endOf le w = .tup [.str w.1, .str [108, 111, 115, 116], .int q] := by
            have hq' : ¬ ((q : Int) < 0) := by omega
            simp only [endOf, lostS, hq, hq', if_false]
          simp (disch := first | omega | (simp; done) | (simp; omega)) [if_pos, if_neg, h0, b2i, hq]
          exact ⟨(max tk (tickF le w.2), es ++ [endOf le w]), ⟨by simpa using hes', by simpa using htk'⟩, by rw [e8], by rw [ee]⟩
    · rintro ⟨tk, es⟩ ⟨hes, htk⟩
      simp only [List.length_map, List.take_length] at hes htk
      subst hes
      have htk' : tk = ticks le (ws.map (·.2)) := htk
      rw [← htk']
      simp (disch := first | omega | (simp; done) | (simp; omega)) [if_pos, if_neg, id]
theorem sp_lct_nil (n : Nat) (S : Store) : den P (n + 1) none 21 [D.tup []] S = .ok (.tup [.str [], .tup []]) S := by
  refine den_wp (f := ⟨1, 10, b21⟩) rfl rfl ?_
  simp (disch := first | omega | (simp; done) | (simp; omega)) [if_pos, if_neg, b21]
  refine wp_seq (wp_forI (fun _ : Unit => [some (D.tup []), none, none, none, some (.str []), none, none, none, none, none]) (fun _ => S) (fun _ _ => True) () trivial rfl rfl (fun _ => rfl) (fun i x _ hx => by simp at hx) ?_)
  rintro ⟨⟩ _
  simp (disch := first | omega | (simp; done) | (simp; omega)) [if_pos, if_neg, id]
  refine wp_seq (wp_forI (fun _ : Unit => [some (D.tup []), none, some (.obj S.length), none, some (.str []), none, none, none, some (.int 0), none]) (fun _ => .lst [] :: S) (fun _ _ => True) () trivial rfl rfl (fun _ => rfl) (fun i x _ hx => by simp at hx) ?_)
  rintro ⟨⟩ _
  simp (disch := first | omega | (simp; done) | (simp; omega)) [if_pos, if_neg, id]
theorem sp_lcont_t (n : Nat) (S : Store) (ws : Ws) (h : OkW ws) : den P (n + 1) none 21 [toWs ws] S = .ok (contD ws) S := by
  by_cases h0 : ws = []
  · subst h0
    rw [contD_nil]; exact sp_lct_nil n S
  · exact sp_lawt_contest n S ws (by have := h.len; omega) h0 h.words
end HT
end
section
set_option maxHeartbeats 0
set_option linter.all false
set_option maxRecDepth 100000
namespace HT
open Pw
def wAt (ws : Ws) (k : Nat) : List Nat × List Nat := ws[k]?.getD ([], [])
theorem wAt_lt {ws : Ws} {k : Nat} (h : k < ws.length) : wAt ws k = ws[k] := by simp [wAt, h]
def swOf (ws : Ws) (pl fr : Nat) (fs : List (List Nat)) : Sw := ⟨ws.map toW, (wAt ws 0).1, (wAt ws 0).2, (wAt ws pl).1, (wAt ws pl).2, (wAt ws (ws.length - 1)).1, (wAt ws (ws.length - 1)).2, pl, fr, fs⟩
theorem isW_okE {f : List Nat} (h : isWordL f = true) : f.length ≤ 24 := ((isWordL_iff f).mp h).2.1
@[simp] theorem bels_toW (n : Nat) (ws : Ws) : D.bels n (ws.map toW) = true := belsM fun x _ => by simp [toW]
theorem swOf_ok {ws : Ws} {pl fr : Nat} {fs : List (List Nat)} (h : OkW ws) (hp : pl < ws.length) (hf : 0 < fs.length ∧ fs.length ≤ 100) : SwOk (swOf ws pl fr fs) := by
  have hlen := h.len
  have h0 : 0 < ws.length := by omega
  have h1 : ws.length - 1 < ws.length := by omega
  have ok0 := h.ok _ (List.getElem_mem h0)
  have okp := h.ok _ (List.getElem_mem hp)
  have okl := h.ok _ (List.getElem_mem h1)
  refine ⟨?_, ?_, ?_, ?_, ?_, ?_, ?_, ?_, ?_, ?_, ?_, ?_, ?_⟩ <;> simp only [swOf, wAt_lt h0, wAt_lt hp, wAt_lt h1, List.length_map]
  · exact ⟨h0, hlen⟩
  · exact hp
  · simp [h0]
  · simp [hp]
  · simp [h1]
  · exact isNameL_len ok0.1
  · exact isNameL_len okp.1
  · exact isNameL_len okl.1
  · exact isW_okE ok0.2
  · exact isW_okE okp.2
  · exact isW_okE okl.2
  · exact fun n => bels_toW n ws
  · exact hf
theorem isW_bad {xs : List D} {x : D} (hx : x ∈ xs) (h : isPair x = false ∨ isWordD (secOf x) = false) : isWishesD (.tup xs) = false := by
  simp only [isWishesD, namedD, Bool.and_eq_false_iff]
  rcases h with h | h
  · exact Or.inl (Or.inl (Or.inr (List.all_eq_false.mpr ⟨x, hx, by simp [h]⟩)))
  · exact Or.inr (List.all_eq_false.mpr ⟨x, hx, by simp [h]⟩)
theorem isW_asc {xs : List D} (h : asc (xs.map nameOf) = false) : isWishesD (.tup xs) = false := by simp [isWishesD, namedD, h]
def badW (d : D) : Prop := okE d = true ∧ isWishesD d = false
structure SwE (a : Sw) : Prop where
  q : okEs a.qd = true
  n1 : 1 ≤ a.nl.length
  nm : a.qd.map nameOf = (a.qd.map nameOf) ∧ (a.qd.map nameOf).Pairwise (· < ·)
  fp : isWordL a.fp = true
  fs : ∀ f ∈ a.fs, isWordL f = true
theorem swOf_e {ws : Ws} {pl fr : Nat} {fs : List (List Nat)} (h : OkW ws) (hp : pl < ws.length) (hf : ∀ f ∈ fs, isWordL f = true) : SwE (swOf ws pl fr fs) := by
  have h1 : ws.length - 1 < ws.length := by omega
  refine ⟨?_, ?_, ⟨rfl, ?_⟩, ?_, ?_⟩
  · have := okE_toWs h; simp only [toWs, okE_tup, Bool.and_eq_true] at this; exact this.2
  · simp only [swOf, wAt_lt h1]
    have := (h.ok _ (List.getElem_mem h1)).1
    simp only [isNameL, Bool.and_eq_true, decide_eq_true_eq] at this
    exact this.1.1.1
  · have : (ws.map toW).map nameOf = ws.map (·.1) := by simp [toW, nameOf]
    simp only [swOf, this]; exact h.asc
  · simp only [swOf, wAt_lt hp]; exact (h.ok _ (List.getElem_mem hp)).2
  · exact hf
theorem word_noname {f : List Nat} (h : isWordL f = true) : isNameL f = false := by
  rw [isWordL_iff] at h
  cases f with
  | nil => simp at h
  | cons c r =>
    have := h.2.2 c (by simp)
    simp only [isNameL, Bool.and_eq_false_iff]
    refine Or.inl (Or.inr ?_)
    rcases this with rfl | rfl <;> decide
theorem badW_1 {a : Sw} (h : SwOk a) (e : SwE a) (B : Nat) : ∀ v ∈ sw1 a B, badW v := by
  obtain ⟨hl1, hl2⟩ := h.len
  have hn0 := h.n0
  have hf0 := h.f0
  intro v hv
  simp only [sw1, List.mem_cons, List.not_mem_nil, or_false] at hv
  rcases hv with rfl | rfl | rfl | rfl | rfl | rfl | rfl | rfl | rfl | rfl | rfl | rfl
  · exact ⟨by simp, rfl⟩
  · exact ⟨by simp, rfl⟩
  · exact ⟨by simp, rfl⟩
  · exact ⟨by simp, rfl⟩
  · exact ⟨by simp; omega, rfl⟩
  · exact ⟨by simp, rfl⟩
  · exact ⟨by simp, rfl⟩
  · exact ⟨by simp, rfl⟩
  · exact ⟨by simp, rfl⟩
  · exact ⟨by simp [toW]; omega, isW_bad (x := .str a.n0) (by simp [toW]) (Or.inl rfl)⟩
  · exact ⟨by simp [e.q]; omega, isW_bad (x := .non) (by simp) (Or.inl rfl)⟩
  · exact ⟨by simp [e.q]; omega, isW_bad (x := .tup []) (by simp) (Or.inl rfl)⟩
theorem badW_4 {a : Sw} (h : SwOk a) (e : SwE a) : ∀ v ∈ (sL4 a).map (sg4 a), badW v := by
  obtain ⟨hl1, hl2⟩ := h.len
  have hn0 := h.n0
  have hf0 := h.f0
  have ht : okEs a.qd.tail = true := by have := okEs_drop e.q 1; simpa using this
  have key : ∀ x, okE x = true → isNameD x = false → badW (sg4 a x) := fun x hx hn => ⟨by simp [sg4, hx, ht]; omega, isW_bad (x := .tup [x, .str a.f0]) (by simp) (Or.inl hn)⟩
  intro v hv
  simp only [sL4, List.map_cons, List.map_nil, List.mem_cons, List.not_mem_nil, or_false] at hv
  rcases hv with rfl | rfl | rfl | rfl
  · exact key _ (by simp) (by simp [isNameD, isNameL])
  · exact key _ (by simp; omega) (by simp [isNameD, isNameL, LET])
  · exact key _ (by simp; omega) (by simp [isNameD, isNameL, LET])
  · exact key _ (by simp; omega) (by simp [isNameD, isNameL, LET])
theorem badW_5 {a : Sw} (h : SwOk a) (e : SwE a) (B : Nat) : ∀ v ∈ (sL5 a B).map (sg5 a), badW v := by
  obtain ⟨hl1, hl2⟩ := h.len
  have hnl := h.nl
  have hfl := h.fl
  have h1 := e.n1
  have ht := okEs_take e.q (a.qd.length - 1)
  have key : ∀ x, okE x = true → isNameD x = false → badW (sg5 a x) := fun x hx hn => ⟨by simp [sg5, hx, ht]; omega, isW_bad (x := .tup [x, .str a.fl]) (by simp) (Or.inl hn)⟩
  intro v hv
  simp only [sL5, List.map_cons, List.map_nil, List.mem_cons, List.not_mem_nil, or_false] at hv
  rcases hv with rfl | rfl | rfl | rfl | rfl | rfl | rfl
  · refine key _ (by simp; omega) ?_
    have : ((a.nl ++ [48, 48, 48, 48, 48, 48, 48, 48]).take 9).length = 9 := by simp; omega
    simp [isNameD, isNameL, this]
  · refine key _ (by simp; omega) ?_
    simp only [isNameD, isNameL, Bool.and_eq_false_iff]
    exact Or.inr (List.all_eq_false.mpr ⟨126, by simp, by decide⟩)
  · exact key _ (by simp) rfl
  · exact key _ (by simp) rfl
  · exact key _ (by simp) rfl
  · exact key _ (by simp) rfl
  · exact key _ (by simp; omega) rfl
theorem badW_2 {a : Sw} (h : SwOk a) (e : SwE a) : ∀ v ∈ sw2 a, badW v := by
  obtain ⟨hl1, hl2⟩ := h.len
  have hnl := h.nl
  have hfl := h.fl
  have ht := okEs_take e.q (a.qd.length - 1)
  intro v hv
  simp only [sw2, List.mem_cons, List.not_mem_nil, or_false] at hv
  rcases hv with rfl | rfl
  · refine ⟨by simp [ht, toW]; omega, isW_asc (asc_no (k := a.qd.length - 1) (x := a.nl) (y := a.nl) ?_ ?_ (List.lt_irrefl _))⟩
    · rw [List.map_append, List.getElem?_append_right (by simp)]; simp [toW, nameOf, Nat.min_eq_left (Nat.sub_le a.qd.length 1)]
    · rw [List.map_append, List.getElem?_append_right (by simp)]
      rw [List.length_map, List.length_take, show a.qd.length - 1 + 1 - min (a.qd.length - 1) a.qd.length = 1 by omega]
      simp [toW, nameOf]
  · refine ⟨?_, ?_⟩
    · have : okEs ((mw 13 a.fs).map toW) = true := by
        rw [okEs_all, List.all_eq_true]
        intro x hx
        simp only [mw, List.map_map, List.mem_map, List.mem_range] at hx
        obtain ⟨k, hk, rfl⟩ := hx
        have hi : k % a.fs.length < a.fs.length := Nat.mod_lt _ h.fs.1
        have := isW_okE (e.fs _ (List.getElem_mem hi))
        simp [toW, hi]; omega
      simp only [toWs, okE_tup, this, Bool.and_true, decide_eq_true_eq]; simp [mw]
    · simp [toWs, isWishesD, namedD, mw]
theorem asc_rev {ns : List (List Nat)} (h : ns.Pairwise (· < ·)) (hl : 2 ≤ ns.length) : asc ns.reverse = false := by
  have hlt := List.pairwise_iff_getElem.mp h (ns.length - 2) (ns.length - 1) (by omega) (by omega) (by omega)
  refine asc_no (k := 0) (x := ns[ns.length - 1]) (y := ns[ns.length - 2]) ?_ ?_ (fun hlt' => List.lt_irrefl _ (List.lt_trans hlt hlt'))
  · rw [List.getElem?_reverse (by omega)]
    simp [show ns.length - 1 < ns.length by omega]
  · rw [List.getElem?_reverse (by omega)]
    simp [show ns.length - 1 - 1 = ns.length - 2 by omega, show ns.length - 2 < ns.length by omega]
theorem badW_3 {a : Sw} (h : SwOk a) (e : SwE a) : ∀ v ∈ sw3 a, badW v := by
  obtain ⟨hl1, hl2⟩ := h.len
  intro v hv
  unfold sw3 at hv
  split at hv
  · rename_i hN
    rw [List.mem_singleton] at hv
    subst hv
    have hE' : okEs a.qd.reverse = true := by have := e.q; rw [okEs_all, List.all_eq_true] at *; intro x hx; exact this x (by simpa using hx)
    refine ⟨by simp only [okE_tup, hE', List.length_reverse, Bool.and_true, decide_eq_true_eq]; omega, isW_asc ?_⟩
    rw [List.map_reverse]
    exact asc_rev e.nm.2 (by simp; omega)
  · simp at hv
theorem badW_6 {a : Sw} (h : SwOk a) (e : SwE a) (B : Nat) : ∀ v ∈ (sL6 a B).map (sg6 a), badW v := by
  obtain ⟨hl1, hl2⟩ := h.len
  have hpl := h.pl
  have hnp := h.np
  have hfp := h.fp
  have ht := okEs_take e.q a.pl
  have hd := okEs_drop e.q (a.pl + 1)
  have key : ∀ x, okE x = true → isPair x = false → badW (sg6 a x) := fun x hx hn => ⟨by simp [sg6, hx, ht, hd]; omega, isW_bad (x := x) (by simp) (Or.inl hn)⟩
  intro v hv
  simp only [sL6, List.map_cons, List.map_nil, List.mem_cons, List.not_mem_nil, or_false] at hv
  rcases hv with rfl | rfl | rfl | rfl | rfl
  · exact key _ (by simp) rfl
  · exact key _ (by simp; omega) rfl
  · exact key _ (by simp; omega) rfl
  · exact key _ (by simp; omega) (by simp [isPair, isNameD, word_noname e.fp])
  · exact key _ (by simp; omega) rfl
theorem nosign {s t : List Nat} {c : Nat} (hc : c ∉ [48, 49]) : isWordD (.str (s ++ c :: t)) = false := by
  simp only [isWordD, isWordL, Bool.and_eq_false_iff]
  exact Or.inr (List.all_eq_false.mpr ⟨c, by simp, by simpa using hc⟩)
theorem badW_7 {a : Sw} (h : SwOk a) (e : SwE a) (B : Nat) : ∀ v ∈ (sL7 a ++ sL8 a B).map (sg7 a), badW v := by
  obtain ⟨hl1, hl2⟩ := h.len
  have hpl := h.pl
  have hnp := h.np
  have hfp := h.fp
  have ht := okEs_take e.q a.pl
  have hd := okEs_drop e.q (a.pl + 1)
  have key : ∀ x, okE x = true → isWordD x = false → badW (sg7 a x) := fun x hx hn => ⟨by simp [sg7, hx, ht, hd]; omega, isW_bad (x := .tup [.str a.np, x]) (by simp) (Or.inr hn)⟩
  intro v hv
  simp only [sL7, sL8, List.cons_append, List.nil_append, List.map_cons, List.map_nil, List.mem_cons, List.not_mem_nil, or_false] at hv
  rcases hv with rfl | rfl | rfl | rfl | rfl | rfl | rfl | rfl | rfl | rfl | rfl | rfl
  · exact key _ (by simp) rfl
  · refine key _ (by simp; omega) ?_
    have : (a.fp ++ List.replicate (25 - a.fp.length) 49).length = 25 := by simp; omega
    simp [isWordD, isWordL]; omega
  · exact key _ (by simp; omega) (nosign (by decide))
  · exact key _ (by simp; omega) (nosign (by decide))
  · exact key _ (by simp; omega) (nosign (by decide))
  · exact key _ (by simp; omega) (nosign (s := []) (by decide))
  · exact key _ (by simp) rfl
  · exact key _ (by simp) rfl
  · exact key _ (by simp) rfl
  · exact key _ (by simp) rfl
  · exact key _ (by simp; omega) rfl
  · exact key _ (by simp) rfl
theorem swV_bad {a : Sw} (h : SwOk a) (e : SwE a) (B : Nat) : ∀ v ∈ swV a B, badW v := by
  intro v hv
  simp only [swV, swO, List.mem_append] at hv
  rcases hv with ((((((hv | hv) | hv) | hv) | hv) | hv) | hv) | hv
  · exact badW_1 h e B v hv
  · exact badW_4 h e v hv
  · exact badW_5 h e B v hv
  · exact badW_2 h e v hv
  · exact badW_3 h e v hv
  · exact badW_6 h e B v hv
  · exact badW_7 h e B v (by rw [List.map_append, List.mem_append]; exact Or.inl hv)
  · exact badW_7 h e B v (by rw [List.map_append, List.mem_append]; exact Or.inr hv)
end HT
end
section
set_option maxHeartbeats 0
set_option linter.all false
set_option maxRecDepth 100000
namespace HT
open Pw
theorem sp_contest_bad (n : Nat) (S : Store) (d : D) (hb : badW d) : den P (n + 4) none 7 [d] S = .exc 8 [] S := by
  refine den_wp (f := ⟨1, 8, b7⟩) rfl rfl ?_
  simp (disch := first | omega | (simp; done) | (simp; omega)) [if_pos, if_neg, b7, sp_is_wishes n d S hb.1, hb.2]
  exact finX_nil (pre := []) rfl
theorem sp_refuses0 (n : Nat) (S : Store) (d : D) (hb : badW d) : den P (n + 5) none 29 [.int 0, d] S = .ok (.bl true) S := by
  refine den_wp (f := ⟨2, 3, b29⟩) rfl rfl ?_
  have hcl : catches P.Cl 8 [0] = true := rfl
  simp (disch := first | omega | (simp; done) | (simp; omega)) [if_pos, if_neg, b29, sp_contest_bad n S d hb, hcl, sp_book (n + 3) S]
structure SwP (a : Sw) : Prop where
  q2 : ∀ x ∈ a.qd, plD 2 x = true
theorem SwP.q {a : Sw} (p : SwP a) : ∀ x ∈ a.qd, plD 3 x = true := fun x hx => pl_mono 2 _ (p.q2 x hx)
theorem swOf_p (ws : Ws) (pl fr : Nat) (fs : List (List Nat)) : SwP (swOf ws pl fr fs) := by
  refine ⟨fun x hx => ?_⟩
  simp only [swOf, List.mem_map] at hx
  obtain ⟨q, hq, rfl⟩ := hx
  simp [toW, plD]
theorem deq_same {S : Store} {d : D} (h : plD 3 d = true) {n : Nat} (hn : 3 < n) : deq S n d d = some true := deq_refl S 3 d h n hn
theorem get_rev {l : Store} {T : Store} {k : Nat} {o : SO} (h : l.reverse[k]? = some o) : get (l ++ T) (T.length + k) = some o := by
  induction l generalizing T k with
  | nil => simp at h
  | cons x r ih =>
    rw [List.reverse_cons] at h
    by_cases hk : k < r.reverse.length
    · rw [List.getElem?_append_left hk] at h
      rw [List.cons_append, get_cons, if_neg (by simp at hk ⊢; omega)]
      exact ih h
    · rw [List.getElem?_append_right (by omega)] at h
      have hk2 : k - r.reverse.length = 0 := by
        have := (List.getElem?_eq_some_iff.mp h).1; simp at this; simp; omega
      rw [hk2] at h
      simp at h hk hk2
      rw [List.cons_append, get_cons, if_pos (by simp; omega), h]
theorem lst_eq {S2 : Store} (n x y : Nat) (xs ys : List D) (hx : get S2 x = some (.lst xs)) (hy : get S2 y = some (.lst ys)) (hl : xs.length = ys.length) (ha : alls (deq S2 n) xs ys = some true) : deq S2 (n + 1) (.obj x) (.obj y) = some true := by simp only [deq, hx, hy, hl, if_true, ha]
theorem dct_eq {S2 : Store} (n x y : Nat) (xs ys : List (D × D)) (hx : get S2 x = some (.dct xs)) (hy : get S2 y = some (.dct ys)) (hl : xs.map (·.1) = ys.map (·.1)) (ha : alls (deq S2 n) (xs.map (·.2)) (ys.map (·.2)) = some true) : deq S2 (n + 1) (.obj x) (.obj y) = some true := by simp only [deq, hx, hy, hl, if_true, ha]
theorem sames {S2 : Store} (xs : List D) (n : Nat) (hx : ∀ x ∈ xs, plD 3 x = true) (hn : 3 < n) : alls (deq S2 n) xs xs = some true := alls_refl fun x hx' => deq_same (hx x hx') hn
theorem tup1 {S2 : Store} (n : Nat) (pre post : List D) (x y : D) (h1 : ∀ z ∈ pre, plD 3 z = true) (h2 : ∀ z ∈ post, plD 3 z = true) (hn : 3 < n) (hxy : deq S2 n x y = some true) : deq S2 (n + 1) (.tup (pre ++ x :: post)) (.tup (pre ++ y :: post)) = some true :=
    deq_tup (alls_app (sames pre n h1 hn) (alls_cons hxy (sames post n h2 hn))) (by simp)
theorem swV_eq {a : Sw} (h : SwOk a) (p : SwP a) (S : Store) : cmpD (swS a (swS a S.length ++ S).length ++ (swS a S.length ++ S)) .ne (.obj (S.length + 9)) (.obj ((swS a S.length ++ S).length + 9)) = some false := by
  have hlen := h.len
  generalize hS1 : swS a S.length ++ S = S1
  generalize hS2 : swS a S1.length ++ S1 = S2
  have g1 : ∀ k o, (swS a S.length).reverse[k]? = some o → get S2 (S.length + k) = some o := fun k o ho => by rw [← hS2]; exact get_app (by rw [← hS1]; exact get_rev ho) _
  have g2 : ∀ k o, (swS a S1.length).reverse[k]? = some o → get S2 (S1.length + k) = some o := fun k o ho => by rw [← hS2]; exact get_rev ho
  generalize S.length = B at *
  generalize S1.length = B' at *
  have htk : ∀ k, ∀ z ∈ a.qd.take k, plD 3 z = true := fun k z hz => p.q z (List.mem_of_mem_take hz)
  have hdk : ∀ k, ∀ z ∈ a.qd.drop k, plD 3 z = true := fun k z hz => p.q z (List.mem_of_mem_drop hz)
  have st : ∀ (t : List Nat) n, deq S2 (n + 4) (.str t) (.str t) = some true := fun t n => deq_same (by simp [plD]) (by omega)
  have no : ∀ n, deq S2 (n + 4) .non .non = some true := fun n => deq_same (by simp [plD]) (by omega)
  have it : ∀ i n, deq S2 (n + 4) (.int i) (.int i) = some true := fun i n => deq_same (by simp [plD]) (by omega)
  have bo : ∀ b n, deq S2 (n + 4) (.bl b) (.bl b) = some true := fun b n => deq_same (by simp [plD]) (by omega)
  have ex : ∀ (d : D) n, plD 3 d = true → deq S2 (n + 4) d d = some true := fun d n hd => deq_same hd (by omega)
  have mO : alls (deq S2 39) (swO a B) (swO a B') = some true := by
    have m1 : alls (deq S2 39) (sw1 a B) (sw1 a B') = some true := by
      unfold sw1
      refine alls_cons (no 35) (alls_cons (bo _ 35) (alls_cons (it _ 35) (alls_cons (st _ 35) (alls_cons (st _ 35) (alls_cons ?_ (alls_cons ?_ (alls_cons ?_ (alls_cons ?_ (alls_cons ?_ (alls_cons ?_ (alls_cons ?_ rfl)))))))))))
      · exact lst_eq 38 _ _ [] [] (g1 0 _ rfl) (g2 0 _ rfl) rfl rfl
      · exact dct_eq 38 _ _ [] [] (g1 1 _ rfl) (g2 1 _ rfl) rfl rfl
      · exact dct_eq 38 _ _ _ _ (g1 2 _ rfl) (g2 2 _ rfl) rfl (alls_cons (st _ 34) rfl)
      · exact lst_eq 38 _ _ _ _ (g1 3 _ rfl) (g2 3 _ rfl) rfl (sames _ _ p.q (by omega))
      · exact ex _ 35 (by simp [toW, plD])
      · exact deq_tup (n := 38) (alls_app (sames _ _ p.q (by omega)) (alls_cons (no 34) rfl)) rfl
      · exact deq_tup (n := 38) (alls_app (sames _ _ p.q (by omega)) (alls_cons (ex _ 34 (by simp [plD])) rfl)) rfl
    have m4 : alls (deq S2 39) ((sL4 a).map (sg4 a)) ((sL4 a).map (sg4 a)) = some true := by
      refine alls_map (f := deq S2 37) ?_ fun x y hxy => ?_
      · exact alls_cons (st _ 33) (alls_cons (st _ 33) (alls_cons (st _ 33) (alls_cons (st _ 33) rfl)))
      · refine tup1 38 [] a.qd.tail _ _ (by simp) (fun z hz => p.q z (List.mem_of_mem_tail hz)) (by omega) (deq_tup (n := 37) (alls_cons hxy (alls_cons (st _ 33) rfl)) rfl)
    have m5 : alls (deq S2 39) ((sL5 a B).map (sg5 a)) ((sL5 a B').map (sg5 a)) = some true := by
      refine alls_map (f := deq S2 37) ?_ fun x y hxy => ?_
      · exact alls_cons (st _ 33) (alls_cons (st _ 33) (alls_cons (no 33) (alls_cons (it _ 33) (alls_cons (bo _ 33) (alls_cons (lst_eq 36 _ _ _ _ (g1 6 _ rfl) (g2 6 _ rfl) rfl (alls_cons (st _ 32) rfl)) (alls_cons (ex _ 33 (by simp [plD])) rfl))))))
      · exact tup1 38 _ [] _ _ (htk _) (by simp) (by omega) (deq_tup (n := 37) (alls_cons hxy (alls_cons (st _ 33) rfl)) rfl)
    exact alls_app (alls_app m1 m4) m5
  have m2 : alls (deq S2 39) (sw2 a) (sw2 a) = some true := by
    refine sames _ _ (fun x hx => ?_) (by omega)
    simp only [sw2, List.mem_cons, List.not_mem_nil, or_false] at hx
    have hl : (a.qd.take (a.qd.length - 1)).length ≤ 12 := by simp; omega
    rcases hx with rfl | rfl
    · have : ∀ z ∈ a.qd.take (a.qd.length - 1) ++ [toW (a.nl, a.fl), toW (a.nl, a.fl)], plD 2 z = true := by
        intro z hz
        rw [List.mem_append] at hz
        rcases hz with hz | hz
        · exact p.q2 z (List.mem_of_mem_take hz)
        · simp only [List.mem_cons, List.not_mem_nil, or_false, or_self] at hz
          subst hz; simp [toW, plD]
      simp only [plD, Bool.and_eq_true, decide_eq_true_eq, List.all_eq_true]
      exact ⟨by simp; omega, this⟩
    · simp [toWs, plD, mw, toW]
  have m3 : alls (deq S2 39) (sw3 a) (sw3 a) = some true := by
    unfold sw3
    split
    · exact alls_cons (deq_tup (n := 38) (sames _ _ (fun x hx => p.q x (by simpa using hx)) (by omega)) rfl) rfl
    · rfl
  have m6 : alls (deq S2 39) ((sL6 a B).map (sg6 a)) ((sL6 a B').map (sg6 a)) = some true := by
    refine alls_map (f := deq S2 38) ?_ fun x y hxy => ?_
    · exact alls_cons (lst_eq 37 _ _ _ _ (g1 10 _ rfl) (g2 10 _ rfl) rfl (alls_cons (st _ 33) (alls_cons (st _ 33) rfl))) (alls_cons (ex _ 34 (by simp [plD])) (alls_cons (ex _ 34 (by simp [plD])) (alls_cons (ex _ 34 (by simp [plD])) (alls_cons (st _ 34) rfl))))
    · exact tup1 38 _ _ _ _ (htk _) (hdk _) (by omega) hxy
  have m7 : alls (deq S2 39) ((sL7 a).map (sg7 a)) ((sL7 a).map (sg7 a)) = some true := by
    refine alls_map (f := deq S2 37) ?_ fun x y hxy => ?_
    · exact alls_cons (st _ 33) (alls_cons (st _ 33) (alls_cons (st _ 33) (alls_cons (st _ 33) (alls_cons (st _ 33) (alls_cons (st _ 33) rfl)))))
    · exact tup1 38 _ _ _ _ (htk _) (hdk _) (by omega) (deq_tup (n := 37) (alls_cons (st _ 33) (alls_cons hxy rfl)) rfl)
  have m8 : alls (deq S2 39) ((sL8 a B).map (sg7 a)) ((sL8 a B').map (sg7 a)) = some true := by
    refine alls_map (f := deq S2 37) ?_ fun x y hxy => ?_
    · exact alls_cons (no 33) (alls_cons (it _ 33) (alls_cons (bo _ 33) (alls_cons (lst_eq 36 _ _ _ _ (g1 13 _ rfl) (g2 13 _ rfl) rfl (alls_cons (st _ 32) rfl)) (alls_cons (ex _ 33 (by simp [plD])) (alls_cons (dct_eq 36 _ _ [] [] (g1 14 _ rfl) (g2 14 _ rfl) rfl rfl) rfl)))))
    · exact tup1 38 _ _ _ _ (htk _) (hdk _) (by omega) (deq_tup (n := 37) (alls_cons (st _ 33) (alls_cons hxy rfl)) rfl)
  have main : alls (deq S2 39) (swV a B) (swV a B') = some true := alls_app (alls_app (alls_app (alls_app (alls_app mO m2) m3) m6) m7) m8
  have hB : get S2 (B + 9) = some (.lst (swV a B)) := g1 9 _ rfl
  have hB' : get S2 (B' + 9) = some (.lst (swV a B')) := g2 9 _ rfl
  have := lst_eq 39 (B + 9) (B' + 9) _ _ hB hB' (by simp [swV, swO, sw1, sw2, sL4, sL5, sL6, sL7, sL8]) main
  simp [cmpD, topOk, topEq, hB, this, fuel]
end HT
end
section
set_option maxHeartbeats 0
set_option linter.all false
set_option maxRecDepth 100000
namespace HT
open Pw
/-- what stands for the books here: the first, the drawn and the last -/
structure Sb where
  qd : List D
  c0 : List Nat
  F0 : List D
  c : List Nat
  F : List D
  fa : List Nat
  fz : List Nat
  la : D
  pl : Nat
structure SbOk (a : Sb) : Prop where
  len : 0 < a.qd.length ∧ a.qd.length ≤ 6
  pl : a.pl < a.qd.length
  h0 : a.qd[0]? = some (.tup [.str a.c0, .tup a.F0])
  hp : a.qd[a.pl]? = some (.tup [.str a.c, .tup a.F])
  hl : a.qd[a.qd.length - 1]? = some a.la
  c0 : a.c0.length ≤ 8
  c : a.c.length ≤ 8
  F0 : a.F0.length ≤ 8
  F : 0 < a.F.length ∧ a.F.length ≤ 8
  fa : a.F[0]? = some (.str a.fa)
  fz : a.F[a.F.length - 1]? = some (.str a.fz)
  bq : ∀ n, D.bels n a.qd = true
  bF0 : ∀ n, D.bels n a.F0 = true
  bF : ∀ n, D.bels n a.F = true
  bl : ∀ n, D.bel n a.la = true
def n9 : List D := (List.range 9).map fun k => .str (List.replicate (k + 1) 48)
def sb1 (a : Sb) (B : Nat) : List D := [.non, .bl false, .int 1, .str [48, 49], .obj B, .obj (B + 1), .obj (B + 1 + 1), .obj (B + 1 + 1 + 1), .tup [.str a.c, .tup a.F], .tup (a.qd ++ [.non]), .tup (many 7 (.tup [.str [48]]))]
def sb2 (a : Sb) : List D := [.tup (a.qd ++ [a.la]), .tup (.tup [.str (49 :: a.c0.tail), .tup a.F0] :: a.qd.tail)]
def sb3 (a : Sb) : List D := if 1 < a.qd.length then [.tup a.qd.reverse] else []
def bg6 (a : Sb) (x : D) : D := .tup (a.qd.take a.pl ++ .tup [.str a.c, x] :: a.qd.drop (a.pl + 1))
def bL6 (a : Sb) (B : Nat) : List D := [.tup [], .obj (B + 7), .str a.fa, .non, .tup (a.F ++ [.str a.fz]), .tup [.str [49], .str [48]], .tup n9, .tup (.str [] :: a.F.take 7)]
def at7 (a : Sb) : Nat := a.F.length % 8
def bg7 (a : Sb) (x : D) : D := .tup (a.qd.take a.pl ++ .tup [.str a.c, .tup (a.F.take (at7 a) ++ [x])] :: a.qd.drop (a.pl + 1))
def bL7 (a : Sb) (B : Nat) : List D := [.str (List.replicate 25 49), .str [49, 50], .str [49, 120], .str (List.replicate 24 49 ++ [10]), .str [49, 10], .int 1, .non, .bl true, .obj (B + 9)]
def bg8 (a : Sb) (x : D) : D := .tup (a.qd.take a.pl ++ x :: a.qd.drop (a.pl + 1))
def bL8 (a : Sb) (B : Nat) : List D := [.obj (B + 11), .tup [.str a.c], .tup [.str a.c, .tup a.F, .tup a.F], .tup [.int 7, .tup a.F], .tup [.non, .tup a.F]]
def sbV (a : Sb) (B : Nat) : List D := sb1 a B ++ sb2 a ++ sb3 a ++ (bL6 a B).map (bg6 a) ++ (bL7 a B).map (bg7 a) ++ (bL8 a B).map (bg8 a)
def sbS (a : Sb) (B : Nat) : Store := [.lst (bL8 a B), .lst [.str a.c, .tup a.F], .lst (bL7 a B), .lst [.str [49]], .lst (bL6 a B), .lst a.F, .lst (sbV a B), .lst (sb2 a), .lst (sb1 a B), .lst a.qd, .dct [(.str a.c, .tup a.F)], .dct [], .lst []]
def bE (a : Sb) (v : Nat) : Env := [some (.tup a.qd), some (.int a.pl), some (.str a.c), some (.tup a.F), none, some (.tup n9), none, some (.obj v), none, none]
def bT (a : Sb) (S : Store) (acc : List D) : Store := .lst acc :: .lst (sb2 a) :: .lst (sb1 a S.length) :: .lst a.qd :: .dct [(.str a.c, .tup a.F)] :: .dct [] :: .lst [] :: S
theorem sp_spoiltb (n : Nat) (S : Store) (a : Sb) (h : SbOk a) : den P (n + 2) none 28 [.tup a.qd, .int a.pl] S = .ok (.obj (S.length + 6)) (sbS a S.length ++ S) := by
  obtain ⟨hq0, hlen⟩ := h.len
  have hpl := h.pl
  have hc0 := h.c0
  have hc := h.c
  have hF0 := h.F0
  obtain ⟨hFa, hF⟩ := h.F
  have bq := h.bq
  have bF0 := h.bF0
  have bF := h.bF
  have bl := h.bl
  have hlast : (a.qd.length : Int) - 1 = ((a.qd.length - 1 : Nat) : Int) := by omega
  have hlastF : (a.F.length : Int) - 1 = ((a.F.length - 1 : Nat) : Int) := by omega
  have hat : ((a.F.length : Int) % 8) = ((at7 a : Nat) : Int) := by unfold at7; omega
  have e0 := (List.getElem?_eq_some_iff.mp h.h0).2
  have ep := (List.getElem?_eq_some_iff.mp h.hp).2
  have el := (List.getElem?_eq_some_iff.mp h.hl).2
  have ea := (List.getElem?_eq_some_iff.mp h.fa).2
  have ez := (List.getElem?_eq_some_iff.mp h.fz).2
  have m7 : ∀ S, den P (n + 1) none 27 [.int 7, .tup [.str [48]]] S = .ok (.tup (many 7 (.tup [.str [48]]))) S := fun S => sp_manyb n S 7 _ (by omega) (by simp)
  have hb9 : ∀ m : Nat, D.bels m n9 = true := fun m => belsM fun _ _ => bel_str _ _
  have h9l : n9.length = 9 := by simp [n9]
  have h9t : n9.take 1 = [.str [48]] := rfl
  have hz : ∀ (k : Nat) S, k ≤ 30 → binD .mul (.str [48]) (.int (k : Int)) S = .ok (.str (List.replicate k 48)) S := fun k S hk => by
    rw [mul_s (by omega) (by omega), Int.toNat_natCast]
  have ho : ∀ (k : Nat) S, k ≤ 30 → binD .mul (.str [49]) (.int (k : Int)) S = .ok (.str (List.replicate k 49)) S := fun k S hk => by
    rw [mul_s (by omega) (by omega), Int.toNat_natCast]
  have ho25 : ∀ S, binD .mul (.str [49]) (.int 25) S = .ok (.str (List.replicate 25 49)) S := fun S => ho 25 S (by omega)
  have ho24 : ∀ S, binD .mul (.str [49]) (.int 24) S = .ok (.str (List.replicate 24 49)) S := fun S => ho 24 S (by omega)
  refine den_wp (f := ⟨2, 10, b28⟩) rfl rfl ?_
  refine wp_split 5 (bE a (S.length + 6)) (bT a S (sb1 a S.length ++ sb2 a)) ?_ ?_
  · simp only [b28, List.take_succ_cons, List.take_zero]
    simp (disch := first | omega | (simp; done) | (simp; omega)) [if_pos, if_neg, hlast, e0, ep, el]
    rw [show rngL 1 10 = (List.range 9).map (fun i => D.int ((i + 1 : Nat) : Int)) from rfl, compK_on (List.range 9) (fun i => D.int ((i + 1 : Nat) : Int)) (fun k => .str (List.replicate (k + 1) 48)) (by simp) (fun k hk => by
      rw [List.mem_range] at hk
      refine ⟨_, rfl, by simp, ?_⟩
      have hk1 : ∀ S, binD .mul (.str [48]) (.int ((k : Int) + 1)) S = .ok (.str (List.replicate (k + 1) 48)) S := fun S => hz (k + 1) S (by omega)
      simp (disch := first | omega | (simp; done) | (simp; omega)) [if_pos, if_neg, hk1]), show (List.range 9).map (fun k => D.str (List.replicate (k + 1) 48)) = n9 from rfl]
    simp (disch := first | omega | (simp; done) | (simp; omega)) [if_pos, if_neg, hlast, m7, e0, ep, el, hb9, h9l, h9t, bE, bT, sb1, sb2]
  refine wp_split 1 (bE a (S.length + 6)) (bT a S (sb1 a S.length ++ sb2 a ++ sb3 a)) ?_ ?_
  · simp only [b28, List.take_succ_cons, List.take_zero, List.drop_succ_cons, List.drop_zero]
    have hv : (sb1 a S.length ++ sb2 a).length = 13 := rfl
    by_cases hN : 1 < a.qd.length
    · simp (disch := first | omega | (simp; done) | (simp; omega)) [if_pos, if_neg, bE, bT, hN, revD, hv, sb3]
    · simp (disch := first | omega | (simp; done) | (simp; omega)) [if_pos, if_neg, bE, bT, hN, sb3]
  have v123 : (sb1 a S.length ++ sb2 a ++ sb3 a).length ≤ 15 := by simp only [List.length_append, sb1, sb2, sb3]; split <;> simp
  generalize hw1 : sb1 a S.length ++ sb2 a ++ sb3 a = w1 at v123
  refine wp_split 1 (bE a (S.length + 6)) (.lst (bL6 a S.length) :: .lst a.F :: bT a S (w1 ++ (bL6 a S.length).map (bg6 a))) ?_ ?_
  · simp only [b28, List.take_succ_cons, List.take_zero, List.drop_succ_cons, List.drop_zero]
    simp (disch := first | omega | (simp; done) | (simp; omega)) [if_pos, if_neg, bE, bT, hlastF, ea, ez, hb9, h9l]
    refine wp_seq (wp_forapp (bg6 a) w1 (fun acc => .lst (bL6 a S.length) :: .lst a.F :: bT a S acc) (by simp [bT]; rfl) (fun acc => by simp [bT]; rfl) ?_ ?_)
    · intro x hx acc hacc
      have hacc' : acc.length ≤ 100 := by simp at hacc; omega
      simp (disch := first | omega | (simp; done) | (simp; omega)) [if_pos, if_neg, bT, hlastF, ea, ez, hb9, h9l, bg6]
      rw [trim_same (by simp)]
    · simp [bT, bE]; rfl
  have w2l : (w1 ++ (bL6 a S.length).map (bg6 a)).length ≤ 25 := by simp [bL6]; omega
  generalize hw2 : w1 ++ (bL6 a S.length).map (bg6 a) = w2 at w2l
  refine wp_split 1 (bE a (S.length + 6)) (.lst (bL7 a S.length) :: .lst [.str [49]] :: .lst (bL6 a S.length) :: .lst a.F :: bT a S (w2 ++ (bL7 a S.length).map (bg7 a))) ?_ ?_
  · simp only [b28, List.take_succ_cons, List.take_zero, List.drop_succ_cons, List.drop_zero]
    simp (disch := first | omega | (simp; done) | (simp; omega)) [if_pos, if_neg, bE, bT, ho25, ho24, hat]
    refine wp_seq (wp_forapp (bg7 a) w2 (fun acc => .lst (bL7 a S.length) :: .lst [.str [49]] :: .lst (bL6 a S.length) :: .lst a.F :: bT a S acc) (by simp [bT]; rfl) (fun acc => by simp [bT]; rfl) ?_ ?_)
    · intro x hx acc hacc
      have hacc' : acc.length ≤ 100 := by simp at hacc; omega
      simp (disch := first | omega | (simp; done) | (simp; omega)) [if_pos, if_neg, bT, hat, bg7]
      rw [trim_same (by simp)]
    · simp [bT, bE]; rfl
  have w3l : (w2 ++ (bL7 a S.length).map (bg7 a)).length ≤ 35 := by simp [bL7]; omega
  generalize hw3 : w2 ++ (bL7 a S.length).map (bg7 a) = w3 at w3l
  refine wp_split 1 (bE a (S.length + 6)) (.lst (bL8 a S.length) :: .lst [.str a.c, .tup a.F] :: .lst (bL7 a S.length) :: .lst [.str [49]] :: .lst (bL6 a S.length) :: .lst a.F :: bT a S (w3 ++ (bL8 a S.length).map (bg8 a))) ?_ ?_
  · simp only [b28, List.take_succ_cons, List.take_zero, List.drop_succ_cons, List.drop_zero]
    simp (disch := first | omega | (simp; done) | (simp; omega)) [if_pos, if_neg, bE, bT, hlastF]
    refine wp_seq (wp_forapp (bg8 a) w3 (fun acc => .lst (bL8 a S.length) :: .lst [.str a.c, .tup a.F] :: .lst (bL7 a S.length) :: .lst [.str [49]] :: .lst (bL6 a S.length) :: .lst a.F :: bT a S acc) (by simp [bT]; rfl) (fun acc => by simp [bT]; rfl) ?_ ?_)
    · intro x hx acc hacc
      have hacc' : acc.length ≤ 100 := by simp at hacc; omega
      simp (disch := first | omega | (simp; done) | (simp; omega)) [if_pos, if_neg, bT, hlastF, bg8]
      rw [trim_same (by simp)]
    · simp [bT, bE]; rfl
  have w4l : (w3 ++ (bL8 a S.length).map (bg8 a)).length ≤ 45 := by simp [bL8]; omega
  generalize hw4 : w3 ++ (bL8 a S.length).map (bg8 a) = w4 at w4l
  simp only [b28, List.take_succ_cons, List.take_zero, List.drop_succ_cons, List.drop_zero]
  simp (disch := first | omega | (simp; done) | (simp; omega)) [if_pos, if_neg, bE, bT]
  have hw : w4 = sbV a S.length := by rw [← hw4, ← hw3, ← hw2, ← hw1]; rfl
  rw [hw]
  refine fin_keep (pre := sbS a S.length) rfl (by omega) (o := .lst (sbV a S.length)) (by simp [sbS]) ?_
  rw [obel_lst, belsA, List.all_eq_false]
  exact ⟨.obj S.length, by simp [sbV, sb1], by simp⟩
end HT
end
section
set_option maxHeartbeats 0
set_option linter.all false
set_option maxRecDepth 100000
namespace HT
open Pw
def bAt (bs : Bs) (k : Nat) : List Nat × List (List Nat) := bs[k]?.getD ([], [])
theorem bAt_lt {bs : Bs} {k : Nat} (h : k < bs.length) : bAt bs k = bs[k] := by simp [bAt, h]
def sbOf (bs : Bs) (pl : Nat) : Sb := ⟨bs.map toB1, (bAt bs 0).1, (bAt bs 0).2.map .str, (bAt bs pl).1, (bAt bs pl).2.map .str, (bAt bs pl).2[0]?.getD [], (bAt bs pl).2[(bAt bs pl).2.length - 1]?.getD [], toB1 (bAt bs (bs.length - 1)), pl⟩
theorem sbOf_ok {bs : Bs} {pl : Nat} (h : OkB bs) (hp : pl < bs.length) : SbOk (sbOf bs pl) := by
  have hlen := h.len
  have h0 : 0 < bs.length := by omega
  have h1 : bs.length - 1 < bs.length := by omega
  have ok0 := h.ok _ (List.getElem_mem h0)
  have okp := h.ok _ (List.getElem_mem hp)
  have okl := h.ok _ (List.getElem_mem h1)
  have hFp : 0 < bs[pl].2.length := by omega
  have hFz : bs[pl].2.length - 1 < bs[pl].2.length := by omega
  refine ⟨?_, ?_, ?_, ?_, ?_, ?_, ?_, ?_, ?_, ?_, ?_, ?_, ?_, ?_, ?_⟩ <;> simp only [sbOf, bAt_lt h0, bAt_lt hp, bAt_lt h1, List.length_map]
  · exact ⟨h0, hlen⟩
  · exact hp
  · simp [h0, toB1]
  · simp [hp, toB1]
  · simp [h1]
  · exact isNameL_len ok0.1
  · exact isNameL_len okp.1
  · exact ok0.2.2.1
  · exact ⟨okp.2.1, okp.2.2.1⟩
  · simp [hFp]
  · simp [hFz]
  · exact fun n => bels_toB n bs
  · exact fun n => bels_str' n _
  · exact fun n => bels_str' n _
  · exact fun n => bel_toB1 n _
theorem isB_bad {xs : List D} {x : D} (hx : x ∈ xs) (h : isPair x = false ∨ isFramesD (secOf x) = false) : isBooksD (.tup xs) = false := by
  simp only [isBooksD, namedD, Bool.and_eq_false_iff]
  rcases h with h | h
  · exact Or.inl (Or.inl (Or.inr (List.all_eq_false.mpr ⟨x, hx, by simp [h]⟩)))
  · exact Or.inr (List.all_eq_false.mpr ⟨x, hx, by simp [h]⟩)
theorem isB_asc {xs : List D} (h : asc (xs.map nameOf) = false) : isBooksD (.tup xs) = false := by simp [isBooksD, namedD, h]
def badB (d : D) : Prop := okE d = true ∧ isBooksD d = false
structure SbE (a : Sb) : Prop where
  q : okEs a.qd = true
  asc : (a.qd.map nameOf).Pairwise (· < ·)
  F0 : okEs a.F0 = true
  F : okEs a.F = true
  la : okE a.la = true
  hla : (a.qd.map nameOf)[a.qd.length - 1]? = some (nameOf a.la)
  fa : a.fa.length ≤ 24
  fz : a.fz.length ≤ 24
theorem okE_B1 {bs : Bs} (h : OkB bs) : okEs (bs.map toB1) = true := by
  rw [okEs_all, List.all_map, List.all_eq_true]
  intro b hb
  have hb' := h.ok b hb
  have h1 := isNameL_len hb'.1
  have h2 : okEs (b.2.map D.str) = true := by
    rw [okEs_all, List.all_map, List.all_eq_true]
    intro g hg
    have := isW_okE (hb'.2.2.2.2 g hg)
    simp; omega
  simp [toB1, h2]; omega
theorem sbOf_e {bs : Bs} {pl : Nat} (h : OkB bs) (hp : pl < bs.length) : SbE (sbOf bs pl) := by
  have h0 : 0 < bs.length := by omega
  have h1 : bs.length - 1 < bs.length := by omega
  have ok0 := h.ok _ (List.getElem_mem h0)
  have okp := h.ok _ (List.getElem_mem hp)
  have hE := okE_B1 h
  have hF : ∀ k, (hk : k < bs.length) → okEs (bs[k].2.map D.str) = true := fun k hk => by
    rw [okEs_all, List.all_map, List.all_eq_true]
    intro g hg
    have := isW_okE ((h.ok _ (List.getElem_mem hk)).2.2.2.2 g hg)
    simp; omega
  have hFp : 0 < bs[pl].2.length := by omega
  have hFz : bs[pl].2.length - 1 < bs[pl].2.length := by omega
  have hnm : (bs.map toB1).map nameOf = bs.map (·.1) := by simp [toB1, nameOf]
  refine ⟨?_, ?_, ?_, ?_, ?_, ?_, ?_, ?_⟩ <;> simp only [sbOf, bAt_lt h0, bAt_lt hp, bAt_lt h1]
  · exact hE
  · rw [hnm]; exact h.asc
  · exact hF 0 h0
  · exact hF pl hp
  · rw [okEs_all, List.all_eq_true] at hE; exact hE _ (List.mem_map.mpr ⟨_, List.getElem_mem h1, rfl⟩)
  · rw [hnm, List.length_map]; simp [h1, nameOf, toB1]
  · simp only [List.getElem?_eq_getElem hFp, Option.getD_some]; exact isW_okE (okp.2.2.2.2 _ (List.getElem_mem _))
  · simp only [List.getElem?_eq_getElem hFz, Option.getD_some]; exact isW_okE (okp.2.2.2.2 _ (List.getElem_mem _))
theorem badB_1 {a : Sb} (h : SbOk a) (e : SbE a) (B : Nat) : ∀ v ∈ sb1 a B, badB v := by
  obtain ⟨hl1, hl2⟩ := h.len
  have hc := h.c
  have hF := h.F
  intro v hv
  simp only [sb1, List.mem_cons, List.not_mem_nil, or_false] at hv
  rcases hv with rfl | rfl | rfl | rfl | rfl | rfl | rfl | rfl | rfl | rfl | rfl
  · exact ⟨by simp, rfl⟩
  · exact ⟨by simp, rfl⟩
  · exact ⟨by simp, rfl⟩
  · exact ⟨by simp, rfl⟩
  · exact ⟨by simp, rfl⟩
  · exact ⟨by simp, rfl⟩
  · exact ⟨by simp, rfl⟩
  · exact ⟨by simp, rfl⟩
  · exact ⟨by simp [e.F]; omega, isB_bad (x := .str a.c) (by simp) (Or.inl rfl)⟩
  · exact ⟨by simp [e.q]; omega, isB_bad (x := .non) (by simp) (Or.inl rfl)⟩
  · exact ⟨by decide, by decide⟩
theorem badB_2 {a : Sb} (h : SbOk a) (e : SbE a) : ∀ v ∈ sb2 a, badB v := by
  obtain ⟨hl1, hl2⟩ := h.len
  have hc0 := h.c0
  have hF0 := h.F0
  have ht : okEs a.qd.tail = true := by have := okEs_drop e.q 1; simpa using this
  intro v hv
  simp only [sb2, List.mem_cons, List.not_mem_nil, or_false] at hv
  rcases hv with rfl | rfl
  · refine ⟨by simp [e.q, e.la]; omega, isB_asc (asc_no (k := a.qd.length - 1) (x := nameOf a.la) (y := nameOf a.la) ?_ ?_ (List.lt_irrefl _))⟩
    · rw [List.map_append, List.getElem?_append_left (by simp; omega)]; exact e.hla
    · rw [List.map_append, List.getElem?_append_right (by simp; omega)]
      rw [List.length_map, show a.qd.length - 1 + 1 - a.qd.length = 0 by omega]; rfl
  · exact ⟨by simp [ht, e.F0]; omega, isB_bad (x := .tup [.str (49 :: a.c0.tail), .tup a.F0]) (by simp) (Or.inl (by simp [isPair, isNameD, isNameL, LET]))⟩
theorem badB_3 {a : Sb} (h : SbOk a) (e : SbE a) : ∀ v ∈ sb3 a, badB v := by
  obtain ⟨hl1, hl2⟩ := h.len
  intro v hv
  unfold sb3 at hv
  split at hv
  · rename_i hN
    rw [List.mem_singleton] at hv
    subst hv
    have hE' : okEs a.qd.reverse = true := by have := e.q; rw [okEs_all, List.all_eq_true] at *; intro x hx; exact this x (by simpa using hx)
    refine ⟨by simp only [okE_tup, hE', List.length_reverse, Bool.and_true, decide_eq_true_eq]; omega, isB_asc ?_⟩
    rw [List.map_reverse]
    exact asc_rev e.asc (by simp; omega)
  · simp at hv
theorem fr_words {xs : List D} {x : D} (hx : x ∈ xs) (h : isWordD x = false) : isFramesD (.tup xs) = false := by
  simp only [isFramesD, Bool.and_eq_false_iff]
  exact Or.inl (Or.inr (List.all_eq_false.mpr ⟨x, hx, by simp [h]⟩))
theorem badB_6 {a : Sb} (h : SbOk a) (e : SbE a) (B : Nat) : ∀ v ∈ (bL6 a B).map (bg6 a), badB v := by
  obtain ⟨hl1, hl2⟩ := h.len
  have hpl := h.pl
  have hc := h.c
  obtain ⟨hF1, hF2⟩ := h.F
  have hfa := e.fa
  have hfz := e.fz
  have ht := okEs_take e.q a.pl
  have hd := okEs_drop e.q (a.pl + 1)
  have htF := okEs_take e.F 7
  have key : ∀ x, okE x = true → isFramesD x = false → badB (bg6 a x) := fun x hx hn => ⟨by simp [bg6, hx, ht, hd]; omega, isB_bad (x := .tup [.str a.c, x]) (by simp) (Or.inr hn)⟩
  intro v hv
  simp only [bL6, List.map_cons, List.map_nil, List.mem_cons, List.not_mem_nil, or_false] at hv
  rcases hv with rfl | rfl | rfl | rfl | rfl | rfl | rfl | rfl
  · exact key _ (by simp) rfl
  · exact key _ (by simp) rfl
  · exact key _ (by simp; omega) rfl
  · exact key _ (by simp) rfl
  · refine key _ (by simp [e.F]; omega) ?_
    simp only [isFramesD, Bool.and_eq_false_iff]
    refine Or.inr (asc_no (k := a.F.length - 1) (x := a.fz) (y := a.fz) ?_ ?_ (List.lt_irrefl _))
    · rw [List.map_append, List.getElem?_append_left (by simp; omega), List.getElem?_map, h.fz]; rfl
    · rw [List.map_append, List.getElem?_append_right (by simp; omega)]
      rw [List.length_map, show a.F.length - 1 + 1 - a.F.length = 0 by omega]; rfl
  · exact key _ (by simp) (by decide)
  · exact key _ (by decide) (by decide)
  · exact key _ (by simp [htF]; omega) (fr_words (x := .str []) (by simp) rfl)
theorem badB_7 {a : Sb} (h : SbOk a) (e : SbE a) (B : Nat) : ∀ v ∈ (bL7 a B).map (bg7 a), badB v := by
  obtain ⟨hl1, hl2⟩ := h.len
  have hpl := h.pl
  have hc := h.c
  obtain ⟨hF1, hF2⟩ := h.F
  have ht := okEs_take e.q a.pl
  have hd := okEs_drop e.q (a.pl + 1)
  have htF := okEs_take e.F (at7 a)
  have key : ∀ x, okE x = true → isWordD x = false → badB (bg7 a x) := fun x hx hn => ⟨by simp [bg7, hx, ht, hd, htF]; omega, isB_bad (x := .tup [.str a.c, .tup (a.F.take (at7 a) ++ [x])]) (by simp) (Or.inr (fr_words (x := x) (by simp) hn))⟩
  intro v hv
  simp only [bL7, List.map_cons, List.map_nil, List.mem_cons, List.not_mem_nil, or_false] at hv
  rcases hv with rfl | rfl | rfl | rfl | rfl | rfl | rfl | rfl | rfl
  · exact key _ (by decide) (by decide)
  · exact key _ (by simp) (by decide)
  · exact key _ (by simp) (by decide)
  · exact key _ (by decide) (by decide)
  · exact key _ (by simp) (by decide)
  · exact key _ (by simp) rfl
  · exact key _ (by simp) rfl
  · exact key _ (by simp) rfl
  · exact key _ (by simp) rfl
theorem badB_8 {a : Sb} (h : SbOk a) (e : SbE a) (B : Nat) : ∀ v ∈ (bL8 a B).map (bg8 a), badB v := by
  obtain ⟨hl1, hl2⟩ := h.len
  have hpl := h.pl
  have hc := h.c
  obtain ⟨hF1, hF2⟩ := h.F
  have ht := okEs_take e.q a.pl
  have hd := okEs_drop e.q (a.pl + 1)
  have key : ∀ x, okE x = true → isPair x = false → badB (bg8 a x) := fun x hx hn => ⟨by simp [bg8, hx, ht, hd]; omega, isB_bad (x := x) (by simp) (Or.inl hn)⟩
  intro v hv
  simp only [bL8, List.map_cons, List.map_nil, List.mem_cons, List.not_mem_nil, or_false] at hv
  rcases hv with rfl | rfl | rfl | rfl | rfl
  · exact key _ (by simp) rfl
  · exact key _ (by simp; omega) rfl
  · exact key _ (by simp [e.F]; omega) rfl
  · exact key _ (by simp [e.F]; omega) rfl
  · exact key _ (by simp [e.F]; omega) rfl
theorem sbV_bad {a : Sb} (h : SbOk a) (e : SbE a) (B : Nat) : ∀ v ∈ sbV a B, badB v := by
  intro v hv
  simp only [sbV, List.mem_append] at hv
  rcases hv with ((((hv | hv) | hv) | hv) | hv) | hv
  · exact badB_1 h e B v hv
  · exact badB_2 h e v hv
  · exact badB_3 h e v hv
  · exact badB_6 h e B v hv
  · exact badB_7 h e B v hv
  · exact badB_8 h e B v hv
theorem sp_refuses1 (n : Nat) (S : Store) (d : D) (hb : badB d) : den P (n + 7) none 29 [.int 1, d] S = .ok (.bl true) S := by
  refine den_wp (f := ⟨2, 3, b29⟩) rfl rfl ?_
  have hcl : catches P.Cl 8 [0] = true := rfl
  have hov : ∀ S, den P (n + 6) none 12 [d] S = .exc 8 [] S := fun S => by
    refine den_wp (f := ⟨1, 6, b12⟩) rfl rfl ?_
    simp (disch := first | omega | (simp; done) | (simp; omega)) [if_pos, if_neg, b12, sp_check_bad n d S hb.1 hb.2]
    exact finX_nil (pre := []) rfl
  simp (disch := first | omega | (simp; done) | (simp; omega)) [if_pos, if_neg, b29, hov, hcl, sp_book (n + 5) S]
theorem sp_refuses2 (n : Nat) (S : Store) (d : D) (hb : badB d) : den P (n + 7) none 29 [.int 2, d] S = .ok (.bl true) S := by
  refine den_wp (f := ⟨2, 3, b29⟩) rfl rfl ?_
  have hcl : catches P.Cl 8 [0] = true := rfl
  have hov : ∀ S, den P (n + 6) none 13 [d] S = .exc 8 [] S := fun S => by
    refine den_wp (f := ⟨1, 6, b13⟩) rfl rfl ?_
    simp (disch := first | omega | (simp; done) | (simp; omega)) [if_pos, if_neg, b13, sp_check_bad n d S hb.1 hb.2]
    exact finX_nil (pre := []) rfl
  simp (disch := first | omega | (simp; done) | (simp; omega)) [if_pos, if_neg, b29, hov, hcl, sp_book (n + 5) S]
end HT
end
section
set_option maxHeartbeats 0
set_option linter.all false
set_option maxRecDepth 100000
namespace HT
open Pw
structure SbP (a : Sb) : Prop where
  q2 : ∀ x ∈ a.qd, plD 2 x = true
  la : plD 2 a.la = true
  F0 : ∀ x ∈ a.F0, plD 1 x = true
  F : ∀ x ∈ a.F, plD 1 x = true
theorem SbP.q {a : Sb} (p : SbP a) : ∀ x ∈ a.qd, plD 3 x = true := fun x hx => pl_mono 2 _ (p.q2 x hx)
theorem SbP.F3 {a : Sb} (p : SbP a) : ∀ x ∈ a.F, plD 3 x = true := fun x hx => pl_mono 2 _ (pl_mono 1 _ (p.F x hx))
theorem plB1 {b : List Nat × List (List Nat)} (h : b.2.length ≤ 8) : plD 2 (toB1 b) = true := by simp [toB1, plD]; omega
theorem sbOf_p {bs : Bs} {pl : Nat} (h : OkB bs) (hp : pl < bs.length) : SbP (sbOf bs pl) := by
  have h1 : bs.length - 1 < bs.length := by omega
  refine ⟨fun x hx => ?_, ?_, fun x hx => ?_, fun x hx => ?_⟩ <;> simp only [sbOf, bAt_lt h1, List.mem_map] at *
  · obtain ⟨q, hq, rfl⟩ := hx; exact plB1 (h.ok q hq).2.2.1
  · exact plB1 (h.ok _ (List.getElem_mem h1)).2.2.1
  · obtain ⟨q, hq, rfl⟩ := hx; simp [plD]
  · obtain ⟨q, hq, rfl⟩ := hx; simp [plD]
theorem sbV_eq {a : Sb} (h : SbOk a) (p : SbP a) (S : Store) : cmpD (sbS a (sbS a S.length ++ S).length ++ (sbS a S.length ++ S)) .ne (.obj (S.length + 6)) (.obj ((sbS a S.length ++ S).length + 6)) = some false := by
  have hlen := h.len
  have hF := h.F
  have hF0l := h.F0
  generalize hS1 : sbS a S.length ++ S = S1
  generalize hS2 : sbS a S1.length ++ S1 = S2
  have g1 : ∀ k o, (sbS a S.length).reverse[k]? = some o → get S2 (S.length + k) = some o := fun k o ho => by rw [← hS2]; exact get_app (by rw [← hS1]; exact get_rev ho) _
  have g2 : ∀ k o, (sbS a S1.length).reverse[k]? = some o → get S2 (S1.length + k) = some o := fun k o ho => by rw [← hS2]; exact get_rev ho
  generalize S.length = B at *
  generalize S1.length = B' at *
  have htk : ∀ k, ∀ z ∈ a.qd.take k, plD 3 z = true := fun k z hz => p.q z (List.mem_of_mem_take hz)
  have hdk : ∀ k, ∀ z ∈ a.qd.drop k, plD 3 z = true := fun k z hz => p.q z (List.mem_of_mem_drop hz)
  have st : ∀ (t : List Nat) n, deq S2 (n + 4) (.str t) (.str t) = some true := fun t n => deq_same (by simp [plD]) (by omega)
  have no : ∀ n, deq S2 (n + 4) .non .non = some true := fun n => deq_same (by simp [plD]) (by omega)
  have it : ∀ i n, deq S2 (n + 4) (.int i) (.int i) = some true := fun i n => deq_same (by simp [plD]) (by omega)
  have bo : ∀ b n, deq S2 (n + 4) (.bl b) (.bl b) = some true := fun b n => deq_same (by simp [plD]) (by omega)
  have ex : ∀ (d : D) n, plD 3 d = true → deq S2 (n + 4) d d = some true := fun d n hd => deq_same hd (by omega)
  have pF : ∀ (F : List D), F.length ≤ 100 → (∀ x ∈ F, plD 1 x = true) → plD 3 (.tup F) = true := fun F hl hF => by
    simp only [plD, Bool.and_eq_true, decide_eq_true_eq, List.all_eq_true]
    exact ⟨by omega, fun x hx => pl_mono 1 _ (hF x hx)⟩
  have Fp' : ∀ n, deq S2 (n + 4) (.tup a.F) (.tup a.F) = some true := fun n => ex _ n (pF _ (by omega) p.F)
  have F0' : ∀ n, deq S2 (n + 4) (.tup a.F0) (.tup a.F0) = some true := fun n => ex _ n (pF _ (by omega) p.F0)
  have m1 : alls (deq S2 39) (sb1 a B) (sb1 a B') = some true := by
    unfold sb1
    refine alls_cons (no 35) (alls_cons (bo _ 35) (alls_cons (it _ 35) (alls_cons (st _ 35) (alls_cons ?_ (alls_cons ?_ (alls_cons ?_ (alls_cons ?_ (alls_cons ?_ (alls_cons ?_ (alls_cons ?_ rfl))))))))))
    · exact lst_eq 38 _ _ [] [] (g1 0 _ rfl) (g2 0 _ rfl) rfl rfl
    · exact dct_eq 38 _ _ [] [] (g1 1 _ rfl) (g2 1 _ rfl) rfl rfl
    · exact dct_eq 38 _ _ _ _ (g1 2 _ rfl) (g2 2 _ rfl) rfl (alls_cons (Fp' 34) rfl)
    · exact lst_eq 38 _ _ _ _ (g1 3 _ rfl) (g2 3 _ rfl) rfl (sames _ _ p.q (by omega))
    · exact deq_tup (n := 38) (alls_cons (st _ 34) (alls_cons (Fp' 34) rfl)) rfl
    · exact deq_tup (n := 38) (alls_app (sames _ _ p.q (by omega)) (alls_cons (no 34) rfl)) rfl
    · exact ex _ 35 (by decide)
  have m2 : alls (deq S2 39) (sb2 a) (sb2 a) = some true := by
    unfold sb2
    refine alls_cons (deq_tup (n := 38) (sames _ _ (fun z hz => ?_) (by omega)) rfl) (alls_cons ?_ rfl)
    · rw [List.mem_append, List.mem_singleton] at hz
      rcases hz with hz | rfl
      · exact p.q z hz
      · exact pl_mono 2 _ p.la
    · exact tup1 38 [] a.qd.tail _ _ (by simp) (fun z hz => p.q z (List.mem_of_mem_tail hz)) (by omega) (deq_tup (n := 37) (alls_cons (st _ 33) (alls_cons (F0' 33) rfl)) rfl)
  have m3 : alls (deq S2 39) (sb3 a) (sb3 a) = some true := by
    unfold sb3
    split
    · exact alls_cons (deq_tup (n := 38) (sames _ _ (fun x hx => p.q x (by simpa using hx)) (by omega)) rfl) rfl
    · rfl
  have m6 : alls (deq S2 39) ((bL6 a B).map (bg6 a)) ((bL6 a B').map (bg6 a)) = some true := by
    refine alls_map (f := deq S2 37) ?_ fun x y hxy => ?_
    · unfold bL6
      refine alls_cons (ex _ 33 (by simp [plD])) (alls_cons (lst_eq 36 _ _ _ _ (g1 7 _ rfl) (g2 7 _ rfl) rfl (sames _ _ p.F3 (by omega))) (alls_cons (st _ 33) (alls_cons (no 33) (alls_cons ?_ (alls_cons (ex _ 33 (by simp [plD])) (alls_cons (ex _ 33 (by decide)) (alls_cons ?_ rfl)))))))
      · refine ex _ 33 (pF _ (by simp; omega) fun x hx => ?_)
        rw [List.mem_append, List.mem_singleton] at hx
        rcases hx with hx | rfl
        · exact p.F x hx
        · simp [plD]
      · refine ex _ 33 (pF _ (by simp; omega) fun x hx => ?_)
        rw [List.mem_cons] at hx
        rcases hx with rfl | hx
        · simp [plD]
        · exact p.F x (List.mem_of_mem_take hx)
    · exact tup1 38 _ _ _ _ (htk _) (hdk _) (by omega) (deq_tup (n := 37) (alls_cons (st _ 33) (alls_cons hxy rfl)) rfl)
  have m7 : alls (deq S2 39) ((bL7 a B).map (bg7 a)) ((bL7 a B').map (bg7 a)) = some true := by
    refine alls_map (f := deq S2 36) ?_ fun x y hxy => ?_
    · exact alls_cons (st _ 32) (alls_cons (st _ 32) (alls_cons (st _ 32) (alls_cons (st _ 32) (alls_cons (st _ 32) (alls_cons (it _ 32) (alls_cons (no 32) (alls_cons (bo _ 32) (alls_cons (lst_eq 35 _ _ _ _ (g1 9 _ rfl) (g2 9 _ rfl) rfl (alls_cons (st _ 31) rfl)) rfl))))))))
    · exact tup1 38 _ _ _ _ (htk _) (hdk _) (by omega) (deq_tup (n := 37) (alls_cons (st _ 33) (alls_cons (tup1 36 _ [] _ _ (fun z hz => p.F3 z (List.mem_of_mem_take hz)) (by simp) (by omega) hxy) rfl)) rfl)
  have m8 : alls (deq S2 39) ((bL8 a B).map (bg8 a)) ((bL8 a B').map (bg8 a)) = some true := by
    refine alls_map (f := deq S2 38) ?_ fun x y hxy => ?_
    · exact alls_cons (lst_eq 37 _ _ _ _ (g1 11 _ rfl) (g2 11 _ rfl) rfl (alls_cons (st _ 33) (alls_cons (Fp' 33) rfl))) (alls_cons (deq_tup (n := 37) (alls_cons (st _ 33) rfl) rfl) (alls_cons (deq_tup (n := 37) (alls_cons (st _ 33) (alls_cons (Fp' 33) (alls_cons (Fp' 33) rfl))) rfl) (alls_cons (deq_tup (n := 37) (alls_cons (it _ 33) (alls_cons (Fp' 33) rfl)) rfl) (alls_cons (deq_tup (n := 37) (alls_cons (no 33) (alls_cons (Fp' 33) rfl)) rfl) rfl))))
    · exact tup1 38 _ _ _ _ (htk _) (hdk _) (by omega) hxy
  have main : alls (deq S2 39) (sbV a B) (sbV a B') = some true := alls_app (alls_app (alls_app (alls_app (alls_app m1 m2) m3) m6) m7) m8
  have hB : get S2 (B + 6) = some (.lst (sbV a B)) := g1 6 _ rfl
  have hB' : get S2 (B' + 6) = some (.lst (sbV a B')) := g2 6 _ rfl
  have := lst_eq 39 (B + 6) (B' + 6) _ _ hB hB' (by simp [sbV, sb1, sb2, bL6, bL7, bL8]) main
  simp [cmpD, topOk, topEq, hB, this, fuel]
end HT
end
section
set_option maxHeartbeats 0
set_option linter.all false
set_option maxRecDepth 100000
namespace HT
open Pw
theorem pl_head (c : List Nat × List Nat → List Nat × List Nat → Bool) (es : Ws) : plD 2 (headD (pairsOf c es es)) = true := by
  cases hp : pairsOf c es es with
  | nil => rfl
  | cons d r =>
    have : d ∈ pairsOf c es es := by rw [hp]; simp
    obtain ⟨a, _, b, _, _, rfl⟩ := mem_pairs.mp this
    simp [headD, pairD, toW, plD]
def e8 : List (List Nat) := [[48], [48, 48], [48, 48, 48], [48, 48, 48, 48], [48, 48, 48, 48, 48], [48, 48, 48, 48, 48, 48], [48, 48, 48, 48, 48, 48, 48], List.replicate 24 49]
def mb : Bs := (List.range 6).map fun k => ([110, nd k], e8)
theorem toB_mb : toB mb = .tup (many 6 (.tup (e8.map .str))) := by simp [toB, mb, many, toB1]
theorem e8_ok : 1 ≤ e8.length ∧ e8.length ≤ 8 ∧ e8.Pairwise (· < ·) ∧ ∀ f ∈ e8, isWordL f = true := by decide
theorem ok_mb : OkB mb := by
  refine ⟨by decide, by decide, ?_⟩
  intro b hb
  simp only [mb, List.mem_map, List.mem_range] at hb
  obtain ⟨k, hk, rfl⟩ := hb
  have : ∀ k, k < 6 → isNameL [110, nd k] = true := by decide
  exact ⟨this k hk, e8_ok⟩
theorem ok_one8 {c : List Nat} (h : isNameL c = true) : OkB [(c, e8)] := by
  refine ⟨by simp, by simp, ?_⟩
  intro b hb
  rw [List.mem_singleton] at hb
  subst hb
  exact ⟨h, e8_ok⟩
theorem ok_a : OkB [([97], [[48], [48, 49]])] := by
  refine ⟨by simp, by simp, ?_⟩
  intro b hb
  rw [List.mem_singleton] at hb
  subst hb
  decide
theorem mb_O : headD (pairsOf cO (ents mb) (ents mb)) = .tup [.tup [.str [110, 48], .str [48]], .tup [.str [110, 49], .str [48, 48]]] := by rfl
theorem mb_T : headD (pairsOf cT (ents mb) (ents mb)) = .tup [.tup [.str [110, 48], .str [48]], .tup [.str [110, 49], .str [48]]] := by rfl
theorem sp_books_hold (S : Store) (zs : List Int) (st : Int) (hg0 : get S 0 = some (.ro (zs.map .int))) (hl : zs.length ≤ 63) : den P 29 none 30 [.obj 0, .int st] S = .ok (.bl true) S := by
  have hS := getLt hg0
  obtain ⟨c3, hc3⟩ := sp_cell 27 S zs 3 hg0 (by omega) hl
  have hc3' : den P 28 none 14 [.obj 0, .int 3] S = .ok (.int c3) S := hc3
  obtain ⟨m, hm, hm7⟩ : ∃ m : Nat, (st / 13 % 7 : Int) = m ∧ m ≤ 12 := ⟨(st / 13 % 7).toNat, by omega, by omega⟩
  obtain ⟨ns, ⟨hn1, hn2, hn3⟩, hns⟩ := sp_names 26 S c3 m hm7
  have hns' : den P 28 none 17 [.int c3, .int m] S = .ok (.obj S.length) (.lst (ns.map .str) :: S) := hns
  obtain ⟨bs, hbs, hb⟩ := sp_law_books 25 (.lst (ns.map .str) :: S) zs S.length ns (getOld hg0) hl (get_self _ _) (by omega) hn2 hn3
  have hb' : den P 28 none 22 [.obj 0, .obj S.length] (.lst (ns.map .str) :: S) = .ok (toB bs) (.lst (ns.map .str) :: S) := hb
  have hisb : ∀ (S : Store) {q : Bs}, OkB q → den P 28 none 9 [toB q] S = .ok (.bl true) S := fun S q h => by rw [sp_is_books 24 _ S (okE_toB h), isBooks_ok h]
  have hov : ∀ (S : Store) {q : Bs}, OkB q → den P 28 none 12 [toB q] S = .ok (headD (pairsOf cO (ents q) (ents q))) S := fun S q h => sp_overlap 22 S q h
  have htw : ∀ (S : Store) {q : Bs}, OkB q → den P 28 none 13 [toB q] S = .ok (headD (pairsOf cT (ents q) (ents q))) S := fun S q h => sp_twin 22 S q h
  have hlo : ∀ (S : Store) {q : Bs}, OkB q → den P 28 none 23 [toB q] S = .ok (headD (pairsOf cO (ents q) (ents q))) S := fun S q h => sp_law_overlap 27 S q h
  have hlt : ∀ (S : Store) {q : Bs}, OkB q → den P 28 none 24 [toB q] S = .ok (headD (pairsOf cT (ents q) (ents q))) S := fun S q h => sp_law_twin 27 S q h
  have hsam : ∀ (S : Store) (d : D), plD 2 d = true → den P 28 none 20 [d, d] S = .ok (.bl true) S := fun S d h => sp_same 2 d h 25 S
  have pO := pl_head cO (ents bs)
  have pT := pl_head cT (ents bs)
  refine den_wp (f := ⟨2, 11, b30⟩) rfl rfl ?_
  refine wp_split 5 [some (.obj 0), some (.int st), some (toB bs), some (toB bs), none, none, none, some (.obj S.length), none, none, none] (.lst (ns.map .str) :: S) ?_ ?_
  · simp only [b30, List.take_succ_cons, List.take_zero]
    simp (disch := first | omega | (simp; done) | (simp; omega)) [if_pos, if_neg, hc3', hm, hns', hb', hisb _ hbs, hov _ hbs, hlo _ hbs, htw _ hbs, hlt _ hbs, hsam _ _ pO, hsam _ _ pT]
  generalize hS1 : (SO.lst (ns.map .str) :: S : Store) = S1
  obtain ⟨base, hba, hb0, hbl⟩ : ∃ base : Bs, OkB base ∧ base = (if bs.length = 0 then [([97], [[48], [48, 49]])] else bs) ∧ 0 < base.length := by
    by_cases h0 : bs.length = 0
    · exact ⟨_, ok_a, by rw [if_pos h0], by simp⟩
    · exact ⟨bs, hbs, by rw [if_neg h0], by omega⟩
  refine wp_split 1 [some (.obj 0), some (.int st), some (toB base), some (toB bs), none, none, none, some (.obj S.length), none, none, none] S1 ?_ ?_
  · simp only [b30, List.take_succ_cons, List.take_zero, List.drop_succ_cons, List.drop_zero]
    by_cases h0 : bs.length = 0
    · rw [if_pos h0] at hb0
      simp (disch := first | omega | (simp; done) | (simp; omega)) [if_pos, if_neg, h0, hb0, toB, toB1]
    · rw [if_neg h0] at hb0
      simp (disch := first | omega | (simp; done) | (simp; omega)) [if_pos, if_neg, h0, hb0]
  obtain ⟨pl, hpl, hpl2⟩ : ∃ pl : Nat, (st / 91 % (base.length : Int)) = pl ∧ pl < base.length := ⟨(st / 91 % (base.length : Int)).toNat, by
    have := Int.emod_nonneg (st / 91) (show (base.length : Int) ≠ 0 by omega); omega, by
    have := Int.emod_lt_of_pos (st / 91) (show 0 < (base.length : Int) by omega)
    have := Int.emod_nonneg (st / 91) (show (base.length : Int) ≠ 0 by omega); omega⟩
  have hsp := sbOf_ok hba hpl2
  have hspp := sbOf_p hba hpl2
  have hbad := sbV_bad hsp (sbOf_e hba hpl2)
  have hrun : ∀ S, den P 28 none 28 [toB base, .int pl] S = .ok (.obj (S.length + 6)) (sbS (sbOf base pl) S.length ++ S) := fun S => sp_spoiltb 26 S (sbOf base pl) hsp
  generalize sbOf base pl = a at *
  refine wp_split 2 [some (.obj 0), some (.int st), some (toB base), some (toB bs), none, none, none, some (.obj S.length), some (.int pl), none, some (.obj (S1.length + 6))] (sbS a S1.length ++ S1) ?_ ?_
  · simp only [b30, List.take_succ_cons, List.take_zero, List.drop_succ_cons, List.drop_zero]
    have hlt := hba.len
    simp (disch := first | omega | (simp; done) | (simp; omega)) [if_pos, if_neg, hpl, hrun]
  have hgv : get (sbS a S1.length ++ S1) (S1.length + 6) = some (.lst (sbV a S1.length)) := by simp [sbS]
  have hvl : (sbV a S1.length).length ≤ 100 := by simp only [sbV, List.length_append, List.length_map, sb1, sb2, sb3, bL6, bL7, bL8]; split <;> simp
  refine wp_split 1 [some (.obj 0), some (.int st), some (toB base), some (toB bs), none, none, none, some (.obj S.length), some (.int pl), none, some (.obj (S1.length + 6))] (sbS a S1.length ++ S1) ?_ ?_
  · simp only [b30, List.take_succ_cons, List.take_zero, List.drop_succ_cons, List.drop_zero]
    generalize hT : sbS a S1.length ++ S1 = T at *
    simp (disch := first | omega | (simp; done) | (simp; omega)) [if_pos, if_neg, hgv]
    refine wp_seq (wp_for (fun i env S' => S' = T ∧ env = [some (.obj 0), some (.int st), some (toB base), some (toB bs), none, none, none, some (.obj S.length), some (.int pl), none, some (.obj (S1.length + 6))]) ⟨rfl, rfl⟩ (by rintro i env S' ⟨rfl, _⟩; simp) ?_ ?_)
    · rintro i x env S' hx ⟨rfl, rfl⟩
      have hx12 := hbad S1.length x (List.mem_of_getElem? hx)
      have e1 : den P 28 none 9 [x] S' = .ok (.bl false) S' := by rw [sp_is_books 24 x S' hx12.1, hx12.2]
      have e2 : den P 28 none 29 [.int 1, x] S' = .ok (.bl true) S' := sp_refuses1 21 S' x hx12
      have e3 : den P 28 none 29 [.int 2, x] S' = .ok (.bl true) S' := sp_refuses2 21 S' x hx12
      simp (disch := first | omega | (simp; done) | (simp; omega)) [if_pos, if_neg, e1, e2, e3]
    · rintro env S' ⟨rfl, rfl⟩
      simp
  have hne := sbV_eq hsp hspp S1
  have hT2e : sbS a (sbS a S1.length ++ S1).length ++ (sbS a S1.length ++ S1) = (sbS a (sbS a S1.length ++ S1).length ++ sbS a S1.length ++ [.lst (ns.map .str)]) ++ S := by rw [← hS1]; simp
  generalize hT2 : sbS a (sbS a S1.length ++ S1).length ++ (sbS a S1.length ++ S1) = T2 at hne hT2e
  refine wp_split 1 [some (.obj 0), some (.int st), some (toB base), some (toB bs), none, none, none, some (.obj S.length), some (.int pl), none, some (.obj (S1.length + 6))] T2 ?_ ?_
  · simp only [b30, List.take_succ_cons, List.take_zero, List.drop_succ_cons, List.drop_zero]
    have hr := hrun (sbS a S1.length ++ S1)
    rw [hT2] at hr
    generalize sbS a S1.length ++ S1 = T1 at *
    simp (disch := first | omega | (simp; done) | (simp; omega)) [if_pos, if_neg, hr, hne]
  clear hne hT2 hgv hvl
  generalize hB : (S1.length + 6) = B
  generalize (sbS a (sbS a S1.length ++ S1).length ++ sbS a S1.length ++ [SO.lst (ns.map .str)]) = pre at hT2e
  have ho24 : ∀ S, binD .mul (.str [49]) (.int 24) S = .ok (.str (List.replicate 24 49)) S := fun S => by rw [show (24 : Int) = ((24 : Nat) : Int) from rfl, mul_s (by omega) (by omega), Int.toNat_natCast]
  have hm6 : ∀ S, den P 28 none 27 [.int 6, .tup (e8.map .str)] S = .ok (toB mb) S := fun S => by rw [toB_mb]; exact sp_manyb 27 S 6 _ (by omega) (by simp)
  refine wp_split 2 [some (.obj 0), some (.int st), some (toB base), some (toB bs), some (.tup (e8.map .str)), none, some (toB mb), some (.obj S.length), some (.int pl), none, some (.obj B)] T2 ?_ ?_
  · simp only [b30, List.take_succ_cons, List.take_zero, List.drop_succ_cons, List.drop_zero]
    simp (disch := first | omega | (simp; done) | (simp; omega)) [if_pos, if_neg, id]
    rw [show rngL 1 8 = (List.range 7).map (fun i => D.int ((i + 1 : Nat) : Int)) from rfl, compK_on (List.range 7) (fun i => D.int ((i + 1 : Nat) : Int)) (fun k => .str (List.replicate (k + 1) 48)) (by simp) (fun k hk => by
      rw [List.mem_range] at hk
      refine ⟨_, rfl, by simp, ?_⟩
      have hk1 : ∀ S, binD .mul (.str [48]) (.int ((k : Int) + 1)) S = .ok (.str (List.replicate (k + 1) 48)) S := fun S => by rw [show ((k : Int) + 1) = ((k + 1 : Nat) : Int) from rfl, mul_s (by omega) (by omega), Int.toNat_natCast]
      simp (disch := first | omega | (simp; done) | (simp; omega)) [if_pos, if_neg, hk1])]
    simp (disch := first | omega | (simp; done) | (simp; omega)) [if_pos, if_neg, ho24]
    rw [show (List.range 7).map (fun k => D.str (List.replicate (k + 1) 48)) ++ [D.str [49, 49, 49, 49, 49, 49, 49, 49, 49, 49, 49, 49, 49, 49, 49, 49, 49, 49, 49, 49, 49, 49, 49, 49]] = e8.map .str from rfl]
    simp (disch := first | omega | (simp; done) | (simp; omega)) [if_pos, if_neg, hm6]
  have hname : isNameL base[pl].1 = true := (hba.ok _ (List.getElem_mem hpl2)).1
  have q1 : D.tup [.tup [.str base[pl].1, .tup (e8.map .str)]] = toB [(base[pl].1, e8)] := by simp [toB, toB1]
  have i1 := hisb T2 (ok_one8 hname)
  rw [← q1] at i1
  have hmO := hov T2 ok_mb
  have hmT := htw T2 ok_mb
  rw [mb_O] at hmO
  rw [mb_T] at hmT
  have sO := hsam T2 (.tup [.tup [.str [110, 48], .str [48]], .tup [.str [110, 49], .str [48, 48]]]) (by decide)
  have sT := hsam T2 (.tup [.tup [.str [110, 48], .str [48]], .tup [.str [110, 49], .str [48]]]) (by decide)
  refine wp_split 2 [some (.obj 0), some (.int st), some (toB base), some (toB bs), some (.tup (e8.map .str)), none, some (toB mb), some (.obj S.length), some (.int pl), none, some (.obj B)] T2 ?_ ?_
  · simp only [b30, List.take_succ_cons, List.take_zero, List.drop_succ_cons, List.drop_zero]
    rw [show toB base = .tup (base.map toB1) from rfl]
    simp (disch := first | omega | (simp; done) | (simp; omega)) [if_pos, if_neg, hisb _ ok_mb, hpl2, toB1, i1, hmO, hmT, sO, sT]
  simp only [b30, List.drop_succ_cons, List.drop_zero]
  simp (disch := first | omega | (simp; done) | (simp; omega)) [if_pos, if_neg, hov _ hbs, hlo _ hbs, htw _ hbs, hlt _ hbs, hsam _ _ pO, hsam _ _ pT]
  exact fin_val (pre := pre) hT2e rfl
end HT
end
section
set_option maxHeartbeats 0
set_option linter.all false
set_option maxRecDepth 100000
namespace HT
open Pw
theorem pl_cont {ws : Ws} (h : OkW ws) : plD 3 (contD ws) = true := by
  have := h.len
  have h2 : ∀ le : List Nat, ∀ x ∈ ws.map (endOf le), plD 1 x = true := fun le x hx => by
    obtain ⟨w, _, rfl⟩ := List.mem_map.mp hx
    simp [endOf, plD]
  simp only [contD, plD, List.all_cons, List.all_nil, Bool.and_true, Bool.true_and, Bool.and_eq_true, decide_eq_true_eq, List.all_eq_true, List.length_map, List.length_cons, List.length_nil]
  exact ⟨by omega, by omega, h2 _⟩
def wsOf (ns fs : List (List Nat)) : Ws := (List.range ns.length).map fun k => (ns[k]?.getD [], fs[k]?.getD [])
theorem ok_wsOf {ns fs : List (List Nat)} (h12 : ns.length ≤ 12) (hl : ns.length ≤ fs.length) (ha : ns.Pairwise (· < ·)) (hn : ∀ s ∈ ns, isNameL s = true) (hf : ∀ f ∈ fs, isWordL f = true) : OkW (wsOf ns fs) := by
  refine ⟨by simp [wsOf, h12], ?_, ?_⟩
  · have : (wsOf ns fs).map (·.1) = ns := by
      apply List.ext_getElem
      · simp [wsOf]
      · intro i h1 h2; simp [wsOf, h2]
    rw [this]; exact ha
  · intro w hw
    simp only [wsOf, List.mem_map, List.mem_range] at hw
    obtain ⟨k, hk, rfl⟩ := hw
    have hk2 : k < fs.length := by omega
    simp only [List.getElem?_eq_getElem hk, List.getElem?_eq_getElem hk2, Option.getD_some]
    exact ⟨hn _ (List.getElem_mem hk), hf _ (List.getElem_mem hk2)⟩
theorem ok_w1 {f : List Nat} (hf : isWordL f = true) : OkW [([97], f)] := by
  refine ⟨by simp, by simp, ?_⟩
  intro w hw
  rw [List.mem_singleton] at hw
  subst hw
  exact ⟨show isNameL [97] = true by decide, hf⟩
theorem ok_w0 : OkW [] := ⟨by simp, by simp, by simp⟩
theorem nd_ok : ∀ k, k < 13 → isNameL [110, nd k] = true := by decide
theorem ok_mw {m : Nat} {fs : List (List Nat)} (hm : m ≤ 12) (h0 : 0 < fs.length) (hf : ∀ f ∈ fs, isWordL f = true) : OkW (mw m fs) := by
  refine ⟨by simp [mw, hm], ?_, ?_⟩
  · rw [List.pairwise_iff_getElem]
    intro i j hi hj hij
    simp only [mw, List.length_map, List.length_range] at hi hj
    simp only [mw, List.getElem_map, List.getElem_range]
    have : ∀ i, i < 12 → ∀ j, j < 12 → i < j → [110, nd i] < [110, nd j] := by decide
    exact this i (by omega) j (by omega) hij
  · intro w hw
    simp only [mw, List.mem_map, List.mem_range] at hw
    obtain ⟨k, hk, rfl⟩ := hw
    have hi : k % fs.length < fs.length := Nat.mod_lt _ h0
    simp only [List.getElem?_eq_getElem hi, Option.getD_some]
    exact ⟨nd_ok k (by omega), hf _ (List.getElem_mem hi)⟩
def putW (ws : Ws) (pl : Nat) (f : List Nat) : Ws := ws.take pl ++ ((wAt ws pl).1, f) :: ws.drop (pl + 1)
theorem ok_putW {ws : Ws} {pl : Nat} {f : List Nat} (h : OkW ws) (hp : pl < ws.length) (hf : isWordL f = true) : OkW (putW ws pl f) := by
  have e : (putW ws pl f).map (·.1) = ws.map (·.1) := by
    have e2 : ws = ws.take pl ++ ws[pl] :: ws.drop (pl + 1) := by rw [← List.drop_eq_getElem_cons hp, List.take_append_drop]
    have e3 := congrArg (List.map (·.1)) e2
    rw [e3]
    simp only [putW, wAt_lt hp, List.map_append, List.map_cons]
  have hlen := h.len
  refine ⟨?_, by rw [e]; exact h.asc, ?_⟩
  · have := congrArg List.length e; simp only [List.length_map] at this; omega
  · intro w hw
    simp only [putW, List.mem_append, List.mem_cons] at hw
    rcases hw with hw | rfl | hw
    · exact h.ok w (List.mem_of_mem_take hw)
    · rw [wAt_lt hp]; exact ⟨(h.ok _ (List.getElem_mem hp)).1, hf⟩
    · exact h.ok w (List.mem_of_mem_drop hw)
theorem k27_law (zs : List Int) (hl : zs.length ≤ 63) : ∃ S', den P 30 none 31 [.obj 0] [.ro (zs.map .int)] = .ok (.bl true) S' := by
  generalize hS0 : ([.ro (zs.map .int)] : Store) = S0
  have hg0 : get S0 0 = some (.ro (zs.map .int)) := by rw [← hS0]; simp
  have hl0 : S0.length = 1 := by rw [← hS0]; rfl
  obtain ⟨st, hst⟩ := sp_cell 28 S0 zs 0 hg0 (by omega) hl
  have hst' : den P 29 none 14 [.obj 0, .int 0] S0 = .ok (.int st) S0 := hst
  obtain ⟨c1, hc1⟩ := sp_cell 28 S0 zs 1 hg0 (by omega) hl
  have hc1' : den P 29 none 14 [.obj 0, .int 1] S0 = .ok (.int c1) S0 := hc1
  obtain ⟨m, hm, hm12⟩ : ∃ m : Nat, (m : Int) = (if st / 13 % 4 = 1 then 12 else st % 13) ∧ m ≤ 12 := by
    by_cases h : st / 13 % 4 = 1
    · exact ⟨12, by simp [h], by omega⟩
    · exact ⟨(st % 13).toNat, by rw [if_neg h]; omega, by omega⟩
  obtain ⟨ns, ⟨hn1, hn2, hn3⟩, hns⟩ := sp_names 27 S0 c1 m hm12
  have hns' : den P 29 none 17 [.int c1, .int m] S0 = .ok (.obj S0.length) (.lst (ns.map .str) :: S0) := hns
  obtain ⟨c2, hc2⟩ := sp_cell 28 (.lst (ns.map .str) :: S0) zs 2 (getOld hg0) (by omega) hl
  have hc2' : den P 29 none 14 [.obj 0, .int 2] (.lst (ns.map .str) :: S0) = .ok (.int c2) (.lst (ns.map .str) :: S0) := hc2
  obtain ⟨fs, ⟨hf1, hf2⟩, hfs⟩ := sp_frames 27 (.lst (ns.map .str) :: S0) c2 12 (by omega)
  have hfs' : den P 29 none 19 [.int c2, .int 12] (.lst (ns.map .str) :: S0) = .ok (.obj (S0.length + 1)) (.lst (fs.map .str) :: .lst (ns.map .str) :: S0) := hfs
  have hisw : ∀ (S : Store) {q : Ws}, OkW q → den P 29 none 5 [toWs q] S = .ok (.bl true) S := fun S q h => by rw [sp_is_wishes 26 _ S (okE_toWs h), isWishes_ok h]
  have hcon : ∀ (S : Store) {q : Ws}, OkW q → den P 29 none 7 [toWs q] S = .ok (contD q) S := fun S q h => sp_contest 25 S q h
  have hlco : ∀ (S : Store) {q : Ws}, OkW q → den P 29 none 21 [toWs q] S = .ok (contD q) S := fun S q h => sp_lcont_t 28 S q h
  have hsam : ∀ (S : Store) {q : Ws}, OkW q → den P 29 none 20 [contD q, contD q] S = .ok (.bl true) S := fun S q h => sp_same 3 _ (pl_cont h) 25 S
  have hws : OkW (wsOf ns fs) := ok_wsOf (by omega) (by omega) hn2 hn3 hf2
  suffices H : wp (evSs ⟨den P 29, P.G, P.Cl, none⟩ b31 [some (.obj 0), none, none, none, none, none, none, none, none, none, none, none, none, none] S0) fun fl S' => ∃ S2, outF S0 fl S' = .ok (.bl true) S2 from by
    have := den_post (p := P) (n := 29) (i := 31) (f := ⟨1, 14, b31⟩) (ds := [.obj 0]) (S := S0) (fun _ : Store => True) (fun S2 => .ok (.bl true) S2) rfl rfl (wp_mono H fun fl S' h => by obtain ⟨S2, h⟩ := h; exact ⟨S2, trivial, h⟩)
    obtain ⟨S2, _, h⟩ := this
    exact ⟨S2, h⟩
  refine wp_split 3 [some (.obj 0), none, some (.int m), none, none, none, none, none, none, none, some (.int st), none, none, none] S0 ?_ ?_
  · simp only [b31, List.take_succ_cons, List.take_zero]
    by_cases h : st / 13 % 4 = 1
    · rw [if_pos h] at hm
      simp (disch := first | omega | (simp; done) | (simp; omega)) [if_pos, if_neg, hst', h, hm]
    · rw [if_neg h] at hm
      simp (disch := first | omega | (simp; done) | (simp; omega)) [if_pos, if_neg, hst', h, hm]
  generalize hS1 : (SO.lst (fs.map .str) :: .lst (ns.map .str) :: S0 : Store) = S1
  refine wp_split 3 [some (.obj 0), none, some (.int m), none, none, some (.obj (S0.length + 1)), none, none, some (.obj S0.length), none, some (.int st), none, none, some (toWs (wsOf ns fs))] S1 ?_ ?_
  · simp only [b31, List.take_succ_cons, List.take_zero, List.drop_succ_cons, List.drop_zero]
    simp (disch := first | omega | (simp; done) | (simp; omega)) [if_pos, if_neg, hc1', hns', hc2', hfs']
    rw [compK_rg ns.length (fun _ => true) (fun k => toW (ns[k]?.getD [], fs[k]?.getD [])) (by omega) (fun j hj => by
      constructor
      · simp (disch := first | omega | (simp; done) | (simp; omega)) [if_pos, if_neg, id]
      · intro _
        have hj2 : j < fs.length := by omega
        simp (disch := first | omega | (simp; done) | (simp; omega)) [if_pos, if_neg, hj, hj2, toW])]
    rw [show List.filter (fun _ => true) (List.range ns.length) = List.range ns.length from List.filter_eq_self.mpr (by simp)]
    simp (disch := first | omega | (simp; done) | (simp; omega)) [if_pos, if_neg, toWs, wsOf, hS1]
  have hg1 : get S1 (S0.length + 1) = some (.lst (fs.map .str)) := by rw [← hS1]; simp
  have hg10 : get S1 0 = some (.ro (zs.map .int)) := by rw [← hS1]; exact getOld (getOld hg0)
  have hl1 : S1.length = 3 := by rw [← hS1]; simp [hl0]
  refine wp_split 3 [some (.obj 0), some (toWs (wsOf ns fs)), some (.int m), some (contD (wsOf ns fs)), none, some (.obj (S0.length + 1)), none, none, some (.obj S0.length), none, some (.int st), none, none, some (toWs (wsOf ns fs))] S1 ?_ ?_
  · simp only [b31, List.take_succ_cons, List.take_zero, List.drop_succ_cons, List.drop_zero]
    simp (disch := first | omega | (simp; done) | (simp; omega)) [if_pos, if_neg, hlco S1 hws, hisw S1 hws, hcon S1 hws, hsam S1 hws]
  generalize wsOf ns fs = ws at hws
  obtain ⟨fr, hfr⟩ : ∃ fr, fr = S0.length + 1 := ⟨_, rfl⟩
  rw [← hfr] at hg1 ⊢
  have hf0 : 0 < fs.length := by omega
  obtain ⟨base, hb, hb0, hbl⟩ : ∃ base : Ws, OkW base ∧ base = (if ws.length = 0 then [([97], fs[0])] else ws) ∧ 0 < base.length := by
    by_cases h0 : ws.length = 0
    · exact ⟨_, ok_w1 (hf2 _ (List.getElem_mem hf0)), by rw [if_pos h0], by simp⟩
    · exact ⟨ws, hws, by rw [if_neg h0], by omega⟩
  refine wp_split 1 [some (.obj 0), some (toWs base), some (.int m), some (contD ws), none, some (.obj fr), none, none, some (.obj S0.length), none, some (.int st), none, none, some (toWs ws)] S1 ?_ ?_
  · simp only [b31, List.take_succ_cons, List.take_zero, List.drop_succ_cons, List.drop_zero]
    by_cases h0 : ws.length = 0
    · rw [if_pos h0] at hb0
      have h1 : ¬ (0 < ws.length) := by omega
      simp (disch := first | omega | (simp; done) | (simp; omega)) [if_pos, if_neg, h0, hb0, hg1, hf0, toWs, toW]
    · rw [if_neg h0] at hb0
      simp (disch := first | omega | (simp; done) | (simp; omega)) [if_pos, if_neg, h0, hb0]
  obtain ⟨pl, hpl, hpl2⟩ : ∃ pl : Nat, (st / 52 % (base.length : Int)) = pl ∧ pl < base.length := ⟨(st / 52 % (base.length : Int)).toNat, by
    have := Int.emod_nonneg (st / 52) (show (base.length : Int) ≠ 0 by omega); omega, by
    have := Int.emod_lt_of_pos (st / 52) (show 0 < (base.length : Int) by omega)
    have := Int.emod_nonneg (st / 52) (show (base.length : Int) ≠ 0 by omega); omega⟩
  have hsp := swOf_ok (fr := fr) (fs := fs) hb hpl2 ⟨hf0, by omega⟩
  have hspp := swOf_p base pl fr fs
  have hbad := swV_bad hsp (swOf_e hb hpl2 hf2)
  have hrun : ∀ S, get S fr = some (.lst (fs.map .str)) → den P 29 none 26 [toWs base, .int pl, .obj fr] S = .ok (.obj (S.length + 9)) (swS (swOf base pl fr fs) S.length ++ S) := fun S hg => sp_spoiltw 27 S (swOf base pl fr fs) hsp hg
  generalize swOf base pl fr fs = a at *
  refine wp_split 2 [some (.obj 0), some (toWs base), some (.int m), some (contD ws), none, some (.obj fr), none, none, some (.obj S0.length), some (.int pl), some (.int st), none, some (.obj (S1.length + 9)), some (toWs ws)] (swS a S1.length ++ S1) ?_ ?_
  · simp only [b31, List.take_succ_cons, List.take_zero, List.drop_succ_cons, List.drop_zero]
    have hlt := hb.len
    have hr := hrun S1 hg1
    simp (disch := first | omega | (simp; done) | (simp; omega)) [if_pos, if_neg, hpl, hr]
  have hgv : get (swS a S1.length ++ S1) (S1.length + 9) = some (.lst (swV a S1.length)) := by simp [swS]
  have hvl : (swV a S1.length).length ≤ 100 := by simp only [swV, swO, List.length_append, List.length_map, sw1, sw2, sw3, sL4, sL5, sL6, sL7, sL8]; split <;> simp
  refine wp_split 1 [some (.obj 0), some (toWs base), some (.int m), some (contD ws), none, some (.obj fr), none, none, some (.obj S0.length), some (.int pl), some (.int st), none, some (.obj (S1.length + 9)), some (toWs ws)] (swS a S1.length ++ S1) ?_ ?_
  · simp only [b31, List.take_succ_cons, List.take_zero, List.drop_succ_cons, List.drop_zero]
    generalize hT : swS a S1.length ++ S1 = T at *
    simp (disch := first | omega | (simp; done) | (simp; omega)) [if_pos, if_neg, hgv]
    refine wp_seq (wp_for (fun i env S' => S' = T ∧ env = [some (.obj 0), some (toWs base), some (.int m), some (contD ws), none, some (.obj fr), none, none, some (.obj S0.length), some (.int pl), some (.int st), none, some (.obj (S1.length + 9)), some (toWs ws)]) ⟨rfl, rfl⟩ (by rintro i env S' ⟨rfl, _⟩; simp) ?_ ?_)
    · rintro i x env S' hx ⟨rfl, rfl⟩
      have hx12 := hbad S1.length x (List.mem_of_getElem? hx)
      have e1 : den P 29 none 5 [x] S' = .ok (.bl false) S' := by rw [sp_is_wishes 26 x S' hx12.1, hx12.2]
      have e2 : den P 29 none 29 [.int 0, x] S' = .ok (.bl true) S' := sp_refuses0 24 S' x hx12
      simp (disch := first | omega | (simp; done) | (simp; omega)) [if_pos, if_neg, e1, e2]
    · rintro env S' ⟨rfl, rfl⟩
      simp
  have hne := swV_eq hsp hspp S1
  have hgT1 : get (swS a S1.length ++ S1) fr = some (.lst (fs.map .str)) := get_app hg1 _
  have hgT2 : get (swS a (swS a S1.length ++ S1).length ++ (swS a S1.length ++ S1)) fr = some (.lst (fs.map .str)) := get_app hgT1 _
  have hgT20 : get (swS a (swS a S1.length ++ S1).length ++ (swS a S1.length ++ S1)) 0 = some (.ro (zs.map .int)) := get_app (get_app hg10 _) _
  have hr := hrun (swS a S1.length ++ S1) hgT1
  generalize hT2 : swS a (swS a S1.length ++ S1).length ++ (swS a S1.length ++ S1) = T2 at *
  refine wp_split 1 [some (.obj 0), some (toWs base), some (.int m), some (contD ws), none, some (.obj fr), none, none, some (.obj S0.length), some (.int pl), some (.int st), none, some (.obj (S1.length + 9)), some (toWs ws)] T2 ?_ ?_
  · simp only [b31, List.take_succ_cons, List.take_zero, List.drop_succ_cons, List.drop_zero]
    generalize swS a S1.length ++ S1 = T1 at *
    simp (disch := first | omega | (simp; done) | (simp; omega)) [if_pos, if_neg, hr, hne]
  clear hne hT2 hgv hvl hr hgT1
  generalize hB : (S1.length + 9) = B
  have hokp := hb.ok _ (List.getElem_mem hpl2)
  have hlf := ((isWordL_iff base[pl].2).mp hokp.2).2.1
  have hm : ∀ S, binD .mul (.str [49]) (.int (24 - (base[pl].2.length : Int))) S = .ok (.str (List.replicate (24 - base[pl].2.length) 49)) S := fun S => by
    rw [mul_s (by omega) (by omega)]; congr 3; omega
  refine wp_split 1 [some (.obj 0), some (toWs base), some (.int m), some (contD ws), some (.str (pad base[pl].2)), some (.obj fr), none, none, some (.obj S0.length), some (.int pl), some (.int st), none, some (.obj B), some (toWs ws)] T2 ?_ ?_
  · simp only [b31, List.take_succ_cons, List.take_zero, List.drop_succ_cons, List.drop_zero]
    rw [show toWs base = .tup (base.map toW) from rfl]
    simp (disch := first | omega | (simp; done) | (simp; omega)) [if_pos, if_neg, hpl2, toW, hm, pad]
  have hpad : isWordL (pad base[pl].2) = true := by
    rw [isWordL_iff]
    exact ⟨by rw [pad_len hokp.2]; omega, by rw [pad_len hokp.2]; omega, pad_bit hokp.2⟩
  have o1 : OkW (mw 12 fs) := ok_mw (by omega) hf0 hf2
  have o2 : OkW (putW base pl (pad base[pl].2)) := ok_putW hb hpl2 hpad
  have k1 : den P 29 none 25 [.int 12, .obj fr] T2 = .ok (toWs (mw 12 fs)) T2 := sp_manyw 28 T2 12 fr fs (by omega) hgT2 hf0 (by omega)
  have q2 : D.tup ((base.map toW).take pl ++ .tup [.str base[pl].1, .str (pad base[pl].2)] :: (base.map toW).drop (pl + 1)) = toWs (putW base pl (pad base[pl].2)) := by simp [toWs, putW, toW, wAt_lt hpl2, List.map_take, List.map_drop]
  have q3 : D.tup [] = toWs [] := by simp [toWs]
  refine wp_split 1 [some (.obj 0), some (toWs base), some (.int m), some (contD ws), some (.str (pad base[pl].2)), some (.obj fr), none, none, some (.obj S0.length), some (.int pl), some (.int st), none, some (.obj B), some (toWs ws)] (.lst [toWs (mw 12 fs), toWs (putW base pl (pad base[pl].2)), toWs []] :: T2) ?_ ?_
  · simp only [b31, List.take_succ_cons, List.take_zero, List.drop_succ_cons, List.drop_zero]
    have hall : ∀ (i : Nat) (x : D), [toWs (mw 12 fs), toWs (putW base pl (pad base[pl].2)), toWs []][i]? = some x → ∃ q, OkW q ∧ x = toWs q := by
      intro i x hx
      have := List.mem_of_getElem? hx
      simp only [List.mem_cons, List.not_mem_nil, or_false] at this
      rcases this with rfl | rfl | rfl
      · exact ⟨_, o1, rfl⟩
      · exact ⟨_, o2, rfl⟩
      · exact ⟨_, ok_w0, rfl⟩
    have hblen := hb.len
    rw [show toWs base = .tup (base.map toW) from rfl]
    simp (disch := first | omega | (simp; done) | (simp; omega)) [if_pos, if_neg, k1, hpl2, toW]
    rw [q2, q3]
    generalize [toWs (mw 12 fs), toWs (putW base pl (pad base[pl].2)), toWs []] = L at *
    generalize D.tup (base.map toW) = bD
    refine wp_seq (wp_for (fun i env S' => S' = .lst L :: T2 ∧ env = [some (.obj 0), some bD, some (.int m), some (contD ws), some (.str (pad base[pl].2)), some (.obj fr), none, none, some (.obj S0.length), some (.int pl), some (.int st), none, some (.obj B), some (toWs ws)]) ⟨rfl, rfl⟩ (by rintro i env S' ⟨rfl, _⟩; simp) ?_ ?_)
    · rintro i x env S' hx ⟨rfl, rfl⟩
      obtain ⟨q, hq, rfl⟩ := hall i x hx
      simp (disch := first | omega | (simp; done) | (simp; omega)) [if_pos, if_neg, hisw _ hq, hcon _ hq, hlco _ hq, hsam _ hq]
    · rintro env S' ⟨rfl, rfl⟩
      simp
  simp only [b31, List.drop_succ_cons, List.drop_zero]
  have hbh : den P 29 none 30 [.obj 0, .int st] (.lst [toWs (mw 12 fs), toWs (putW base pl (pad base[pl].2)), toWs []] :: T2) = .ok (.bl true) (.lst [toWs (mw 12 fs), toWs (putW base pl (pad base[pl].2)), toWs []] :: T2) := sp_books_hold _ zs st (getOld hgT20) hl
  simp (disch := first | omega | (simp; done) | (simp; omega)) [if_pos, if_neg, hbh, hcon _ hws, hsam _ hws]
  unfold fin
  split
  · exact ⟨_, rfl⟩
  · split
    · exact ⟨_, by rw [if_pos (bel_bl _ _)]⟩
    · exact ⟨_, rfl⟩
end HT
end
section
set_option Elab.async false
set_option linter.all false
set_option maxRecDepth 100000
set_option maxHeartbeats 0
/-- the law by what the evaluator says -/
theorem HT.holds_of (pure_ : ∀ ns : List Int, ns.length ≤ 63 → (∀ z ∈ ns, PySem.Builtin.Int.intBits z ≤ 1048576) → ∃ S, Pw.den HT.txt.prg 30 none 31 [.obj 0] [.ro (ns.map .int)] = .ok (.bl true) S) : PySem.Challenge.rw_pullwire_k27_contests.Holds := by
  open PySem PySem.W PySem.Calls PyProof.Rows in
  w_on; o_law
  refine HandSHeadRun.head_any (r := OpenLaw.row PySem.Challenge.rw_pullwire_k27_contests) (q := view (OpenLaw.row PySem.Challenge.rw_pullwire_k27_contests).prog [60]) (H := HT.txt.hook) (ob := HT.txt.ob) (M := 20000) (loose := HT.names) (d := HandSHeadRun.topDef (OpenLaw.row PySem.Challenge.rw_pullwire_k27_contests).prog 60) (kwd := []) HT.txt.ob_eq
    (by kernel_rfl) (fun s => by kernel_rfl) HT.run (by kernel_rfl) (by kernel_rfl) (by kernel_rfl) (by rfl) (by first | assumption | decide +kernel) (by decide +kernel) ⟨rfl, rfl, rfl, rfl, rfl, by decide +kernel⟩ ?hw ?hc
  case hw => w_witness2
  case hc =>
    exact Pw.Txt.walk HT.txt (l := PySem.Challenge.rw_pullwire_k27_contests) (n := 63) (k := 29) (j := 31) (a0 := HT.d31) (x := "script") rfl (by decide) (by kernel_rfl) ⟨rfl, by decide, by decide⟩ HT.look HT.bnd rfl (by decide) rfl (by kernel_rfl) pure_
end
set_option Elab.async false
set_option maxRecDepth 100000
set_option maxHeartbeats 0
theorem PySem.Challenge.cw_pullwire_k27_contests_holds : PySem.Challenge.rw_pullwire_k27_contests.Holds := by
  exact HT.holds_of fun ns hl _ => HT.k27_law ns hl
