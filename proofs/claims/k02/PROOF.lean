import PyProof.Rows.All
import Wide.All
import OpenK.AllK
import Wide.FinOn
import HandS.ForMost
import HandS.ForExc
import HandS.Wide
import HandS.TupLe
import HandS.TupAny
import HandS.TryMany
import HandS.HotCalls
import HandS.ExcIs
import HandS.IsInst
import HandS.CallSlots
import HandS.Conv
import HandS.Zip
import HandS.Rev
import HandS.Defaults
import HandS.TupMul
import HandS.List
import KE.KTupSum
import KE.KEqNest
import KE.KDictLaw
import PyProof.NeKinds
import HandS.Text
import KE.KExcSuper
import HandS.ExcInit
import HandS.ExcField
import HandS.Nested
import HandS.FStr
import HandS.SortInts
import HandS.Small
import HandS.Style
import HandS.More
import KE.DataMinMax
import HandS.ExcCtx
import HandS.Iter
import HandS.Head2
import HandS.HeadEnd
import HandS.HeadWalk
import HandS.HeadHook2
import HandS.EndBits
import PySem.Challenge.RW_pullwire_k02_record_texts
section
set_option linter.all false
/-! Pw0: values, store, a small language and its evaluator (no model in sight) -/
namespace Pw
/-- a value: texts are lists of code points, tuples are trees, lists and dicts stand in the store -/
inductive D where
  | non | bl (b : Bool) | int (i : Int) | str (s : List Nat) | tup (xs : List D) | obj (n : Nat) | exc (c : Nat) (fs : List D)
mutual
def D.beq : D → D → Bool
  | .non, .non => true
  | .bl a, .bl b => a == b
  | .int a, .int b => a == b
  | .str a, .str b => a == b
  | .tup a, .tup b => D.beqs a b
  | .obj a, .obj b => a == b
  | .exc a x, .exc b y => a == b && D.beqs x y
  | _, _ => false
def D.beqs : List D → List D → Bool
  | [], [] => true
  | a :: r, b :: t => D.beq a b && D.beqs r t
  | _, _ => false
end
mutual
theorem D.beq_ok : ∀ a b : D, D.beq a b = true ↔ a = b
  | .non, b => by cases b <;> simp [D.beq]
  | .bl a, b => by cases b <;> simp [D.beq]
  | .int a, b => by cases b <;> simp [D.beq]
  | .str a, b => by cases b <;> simp [D.beq]
  | .obj a, b => by cases b <;> simp [D.beq]
  | .tup a, b => by cases b <;> simp [D.beq, D.beqs_ok a]
  | .exc a x, b => by cases b <;> simp [D.beq, D.beqs_ok x]
theorem D.beqs_ok : ∀ a b : List D, D.beqs a b = true ↔ a = b
  | [], b => by cases b <;> simp [D.beqs]
  | a :: r, b => by cases b <;> simp [D.beqs, D.beq_ok a, D.beqs_ok r]
end
instance : DecidableEq D := fun a b => if h : D.beq a b = true then isTrue ((D.beq_ok a b).mp h) else isFalse fun e => h ((D.beq_ok a b).mpr e)
/-- an object of the store -/
inductive SO where
  | lst (xs : List D) | ro (xs : List D) | dct (kvs : List (D × D)) | set (xs : List D) | ins (c : Nat) (fs : List (Nat × D))
  deriving DecidableEq
/-- the newest object stands first -/
abbrev Store := List SO
def get : Store → Nat → Option SO
  | [], _ => none
  | o :: r, n => if n = r.length then some o else get r n
def put : Store → Nat → SO → Store
  | [], _, _ => []
  | o :: r, n, x => if n = r.length then x :: r else o :: put r n x
-- handles below n
mutual
def D.bel (n : Nat) : D → Bool
  | .obj m => Nat.blt m n
  | .tup xs => D.bels n xs
  | .exc _ xs => D.bels n xs
  | _ => true
def D.bels (n : Nat) : List D → Bool
  | [] => true
  | x :: r => D.bel n x && D.bels n r
end
def SO.bel (n : Nat) : SO → Bool
  | .lst xs => D.bels n xs
  | .ro xs => D.bels n xs
  | .dct kvs => D.bels n (kvs.map (·.1)) && D.bels n (kvs.map (·.2))
  | .set xs => D.bels n xs
  | .ins _ fs => D.bels n (fs.map (·.2))
/-- what stood before stands still, or points to what stood before -/
def okOld (n : Nat) : Store → Store → Bool
  | [], [] => true
  | a :: r, b :: t => (decide (a = b) || SO.bel n b) && okOld n r t
  | _, _ => false
inductive Res (α : Type) where
  | ok (a : α) (S : Store) | exc (c : Nat) (fs : List D) (S : Store) | bad
def Res.bind {α β : Type} : Res α → (α → Store → Res β) → Res β
  | .ok a S, f => f a S
  | .exc c fs S, _ => .exc c fs S
  | .bad, _ => .bad
abbrev Env := List (Option D)
abbrev Calls := Nat → List D → Store → Res D
inductive Bop where | add | sub | mul | fdiv | mod | pow | shl | shr | band
inductive Cop where | eq | ne | lt | le | gt | ge | inn | nin | is | isn
inductive Kd where | int | bool | str | tuple | list | dict | set | own (c : Nat)
inductive F1 where | len | int | str | abs
inductive F2 where | min | max
/-- targets -/
inductive Tg where | v (i : Nat) | tup (is : List Nat)
mutual
inductive Exp where
  | c (d : D) | v (i : Nat) | g (i : Nat)
  | bin (o : Bop) (a b : Exp) | neg (a : Exp) | notV (a : Exp) | andV (a b : Exp) | orV (a b : Exp)
  | cmp (o : Cop) (a b : Exp) | chn (o p : Cop) (a b c : Exp) | ife (t : Tst) (a b : Exp)
  | call (f : Nat) (as : List Exp) | hcall (f : Nat) (as : List Exp) | hot (f : Nat) | isX (cs : List Nat) | xf (cs : List Nat) (k : Nat) | anyH (a : Exp) | f1 (f : F1) (a : Exp) | f2 (f : F2) (a b : Exp) | isI (a : Exp) (ks : List Kd)
  | idx (a b : Exp) | sl (a : Exp) (lo hi : Option Exp) | rev (a : Exp) | tupR (a b c : Exp) | split (a b : Exp) | find (a b : Exp) | insl (o i a : Exp) | fs (a : Exp) (t : List Nat) (b : Exp)
  | tup (es : List Exp) | ls (l : Src) | dct (es : List Exp) | tupOf (l : Src) | allOf (l : Src) | anyOf (l : Src) | sumOf (l : Src) | minOf (l : Src) | maxOf (l : Src)
  | sorted (l : Src) | join (a : Exp) (l : Src)
  | app (o a : Exp) | pop (o : Exp) | ext (o a : Exp) | sw (o a : Exp)
inductive Src where
  | val (e : Exp) | seq (e : Exp) | lis (e : Exp) | keys (e : Exp) | rng (a : Exp) | rng2 (a b : Exp) | rng3 (a b c : Exp) | disp (es : List Exp) | comp (e : Exp) (t : Tg) (l : Src) (ifs : List Tst)
  | zip (a b : Exp) | comp2 (e : Exp) (t : Tg) (l : Src) (ifs : List Tst) (t1 : Tg) (l1 : Src) (ifs1 : List Tst)
inductive Tst where
  | val (e : Exp) | not (t : Tst) | and (a b : Tst) | or (a b : Tst)
end
inductive Stm where
  | pass | ex (e : Exp) | set (t : Tg) (e : Exp) | setIx (o i e : Exp)
  | ite (t : Tst) (a b : List Stm) | forS (t : Tg) (l : Src) (body : List Stm) (ks : List Nat) | whl (t : Tst) (body : List Stm) (ks : List Nat)
  | ret (e : Exp) | brk | cont | rais (c : Nat) (es : List Exp) | tryS (body : List Stm) (hs : List (List Nat × Option Nat × List Stm)) | kill (ks : List Nat)
/-! ### the meaning of the operations -/
def line : Nat := 16777216
def truth (S : Store) : D → Option Bool
  | .non => some false
  | .bl b => some b
  | .int i => some (decide (i ≠ 0))
  | .str s => if s.length ≤ line then some (!s.isEmpty) else none
  | .tup xs => some (!xs.isEmpty)
  | .obj n => (match get S n with
    | some (.lst xs) => some (!xs.isEmpty)
    | some (.ro xs) => some (!xs.isEmpty)
    | some (.dct xs) => some (!xs.isEmpty)
    | _ => none)
  | .exc _ _ => none
def b2i (b : Bool) : Int := if b then 1 else 0
/-- == item by item -/
def alls (f : D → D → Option Bool) : List D → List D → Option Bool
  | [], [] => some true
  | x :: r, y :: t => (f x y).bind fun c => (alls f r t).bind fun k => some (c && k)
  | _, _ => some false
/-- == of two values; lists and dicts by what they hold -/
def deq (S : Store) : Nat → D → D → Option Bool
  | 0, _, _ => none
  | n + 1, a, b => match a, b with
    | .int a, .int b => some (decide (a = b))
    | .str a, .str b => some (decide (a = b))
    | .bl a, .bl b => some (decide (a = b))
    | .bl a, .int b => some (decide (b2i a = b))
    | .int a, .bl b => some (decide (a = b2i b))
    | .non, .non => some true
    | .tup a, .tup b => if a.length = b.length then alls (deq S n) a b else (alls (deq S n) (a.take b.length) (b.take a.length)).bind fun _ => some false
    | .obj a, .obj b => (match get S a, get S b with
      | some (.lst x), some (.lst y) => if x.length = y.length then alls (deq S n) x y else some false
      | some (.dct x), some (.dct y) => if x.map (·.1) = y.map (·.1) then alls (deq S n) (x.map (·.2)) (y.map (·.2)) else none
      | _, _ => none)
    | .exc _ _, _ => none
    | _, .exc _ _ => none
    | .obj a, _ => (match get S a with
      | some (.lst _) => some false
      | _ => none)
    | _, .obj b => (match get S b with
      | some (.lst _) => some false
      | _ => none)
    | _, _ => some false
abbrev fuel : Nat := 40
/-- kinds that are compared by == where it stands -/
def topEq : D → D → Bool
  | .tup _, .tup _ => true
  | .obj _, .obj _ => true
  | .int _, .bl _ => false
  | .bl _, .int _ => false
  | .tup _, _ => false
  | _, .tup _ => false
  | .obj _, _ => false
  | _, .obj _ => false
  | .exc _ _, _ => false
  | _, .exc _ _ => false
  | _, _ => true
def topOk (S : Store) (ne : Bool) (a b : D) : Bool := topEq a b && match a with
  | .obj n => (match get S n with | some (.lst _) => true | some (.dct _) => true | _ => false)
  | _ => true
/-- < and <= of tuples, item by item -/
def lexs (f : D → D → Option Bool) (g : D → D → Option Bool) (z : Nat → Nat → Bool) : List D → List D → Option Bool
  | x :: r, y :: t => (f x y).bind fun c => if c then lexs f g z r t else g x y
  | a, b => some (z a.length b.length)
inductive Ord where | lt | le | gt | ge
def Ord.i (o : Ord) (a b : Int) : Bool := match o with
  | .lt => decide (a < b) | .le => decide (a ≤ b) | .gt => decide (b < a) | .ge => decide (b ≤ a)
def Ord.s (o : Ord) (a b : List Nat) : Bool := match o with
  | .lt => decide (a < b) | .le => !decide (b < a) | .gt => decide (b < a) | .ge => !decide (a < b)
def Ord.n (o : Ord) (a b : Nat) : Bool := match o with
  | .lt => decide (a < b) | .le => decide (a ≤ b) | .gt => decide (b < a) | .ge => decide (b ≤ a)
def dord (S : Store) (o : Ord) : Nat → D → D → Option Bool
  | 0, _, _ => none
  | n + 1, a, b => match a, b with
    | .int a, .int b => some (o.i a b)
    | .str a, .str b => some (o.s a b)
    | _, _ => none
def lookD (k : D) : List (D × D) → Option D
  | [] => none
  | (a, v) :: r => if a = k then some v else lookD k r
def isKey : D → Bool
  | .int _ => true
  | .str _ => true
  | _ => false
def flatD : D → Bool
  | .non => true
  | .bl _ => true
  | .int _ => true
  | .str _ => true
  | _ => false
/-- == of flat values -/
def feq : D → D → Bool
  | .non, .non => true
  | .bl a, .bl b => a == b
  | .bl a, .int b => b2i a == b
  | .int a, .bl b => a == b2i b
  | .int a, .int b => a == b
  | .str a, .str b => a == b
  | _, _ => false
def inD (x : D) (xs : List D) : Option Bool := if flatD x && xs.all flatD then some (xs.any fun y => feq y x) else none
def din (S : Store) (x y : D) : Option Bool := match y with
  | .str t => (match x with
    | .str [c] => some (decide (c ∈ t))
    | _ => none)
  | .tup xs => inD x xs
  | .obj n => (match get S n with
    | some (.lst xs) => inD x xs
    | some (.ro xs) => inD x xs
    | _ => none)
  | _ => none
def dis (x y : D) : Option Bool := match y with
  | .non => some (decide (x = .non))
  | .bl b => (match x with
    | .bl a => some (decide (a = b))
    | _ => none)
  | _ => none
def cmpD (S : Store) (o : Cop) (a b : D) : Option Bool := match o with
  | .eq => if topOk S false a b then deq S fuel a b else none
  | .ne => if topOk S true a b then (deq S fuel a b).map (!·) else none
  | .lt => dord S .lt fuel a b
  | .le => dord S .le fuel a b
  | .gt => dord S .gt fuel a b
  | .ge => dord S .ge fuel a b
  | .inn => din S a b
  | .nin => (din S a b).map (!·)
  | .is => dis a b
  | .isn => (dis a b).map (!·)
def Res.of {α : Type} (o : Option α) (S : Store) : Res α := match o with
  | some a => .ok a S
  | none => .bad
/-- two factors of at most that many bits in all -/
def mulOk (i j : Int) : Bool := decide (i.natAbs.log2 + j.natAbs.log2 < 1000000)
def binD (o : Bop) (a b : D) (S : Store) : Res D := match o, a, b with
  | .add, .int i, .int j => .ok (.int (i + j)) S
  | .add, .str i, .str j => if i.length + j.length ≤ line then .ok (.str (i ++ j)) S else .bad
  | .add, .tup i, .tup j => if i.length + j.length ≤ line then .ok (.tup (i ++ j)) S else .bad
  | .add, .obj i, .obj j => (match get S i, get S j with
    | some (.lst x), some (.lst y) => if x.length + y.length ≤ line then .ok (.obj S.length) (.lst (x ++ y) :: S) else .bad
    | _, _ => .bad)
  | .sub, .int i, .int j => .ok (.int (i - j)) S
  | .mul, .int i, .int j => if mulOk i j then .ok (.int (i * j)) S else .bad
  | .mul, .tup xs, .int j => if 0 < xs.length ∧ xs.length ≤ 1000 ∧ 1 ≤ j ∧ j ≤ 1000 then .ok (.tup (List.replicate j.toNat xs).flatten) S else .bad
  | .mul, .obj n, .int j => (match get S n with
    | some (.lst xs) => if -(2 ^ 62) ≤ j ∧ j ≤ line ∧ xs.length * j.toNat ≤ line then .ok (.obj S.length) (.lst (List.replicate j.toNat xs).flatten :: S) else .bad
    | _ => .bad)
  | .mul, .str [c], .int j => if j ≤ line ∧ -(2 ^ 62) ≤ j then .ok (.str (List.replicate j.toNat c)) S else .bad
  | .fdiv, .int i, .int j => if 0 < j ∧ j.natAbs.log2 < 9000 then .ok (.int (i / j)) S else .bad
  | .mod, .int i, .int j => if 0 < j then .ok (.int (i % j)) S else .bad
  | .pow, .int i, .int j => if 0 ≤ j ∧ j ≤ 1000000 ∧ i.natAbs < 2 ^ 64 then .ok (.int (i ^ j.toNat)) S else .bad
  | .shl, .int i, .int j => if 0 ≤ j ∧ j ≤ 1000000 ∧ i.natAbs < 2 ^ 64 then .ok (.int (i * 2 ^ j.toNat)) S else .bad
  | .shr, .int i, .int j => if 0 ≤ j then .ok (.int (i / 2 ^ j.toNat)) S else .bad
  | .band, .int i, .int j => if j = 1 then .ok (.int (i % 2)) S else .bad
  | _, _, _ => .bad
/-- decimal digits -/
def digits? : List Nat → Option Int
  | [] => none
  | s => if s.all (fun c => decide (48 ≤ c) && decide (c ≤ 57)) && decide (s.length ≤ 640) then some (s.foldl (fun n c => n * 10 + (c - 48 : Nat)) (0 : Int)) else none
def lenD (S : Store) : D → Option Int
  | .str s => if s.length ≤ line then some s.length else none
  | .tup xs => some xs.length
  | .obj n => (match get S n with
    | some (.lst xs) => some xs.length
    | some (.ro xs) => some xs.length
    | some (.dct xs) => some xs.length
    | _ => none)
  | _ => none
def codes (s : String) : List Nat := s.toList.map Char.toNat
def f1D (f : F1) (a : D) (S : Store) : Res D := match f, a with
  | .len, a => (Res.of (lenD S a) S).bind fun n S => .ok (.int n) S
  | .int, .int i => .ok (.int i) S
  | .int, .bl b => .ok (.int (b2i b)) S
  | .int, .str s => (match digits? s with
    | some n => .ok (.int n) S
    | none => .bad)
  | .str, .int i => if i.natAbs.log2 < 1920 then .ok (.str (codes (toString i))) S else .bad
  | .abs, .int i => .ok (.int (if i < 0 then -i else i)) S
  | _, _ => .bad
def f2D (f : F2) (a b : D) (S : Store) : Res D := match f, a, b with
  | .min, .int i, .int j => .ok (.int (if j < i then j else i)) S
  | .max, .int i, .int j => .ok (.int (if j > i then j else i)) S
  | _, _, _ => .bad
/-- the classes of the package: each class's bases, itself among them -/
abbrev Classes := List (List Nat)
def isKd (Cl : Classes) (S : Store) (d : D) : Kd → Option Bool
  | .int => (match d with
    | .int _ => some true | .bl _ => some true | .exc _ _ => none | _ => some false)
  | .bool => (match d with
    | .bl _ => some true | .exc _ _ => none | _ => some false)
  | .str => (match d with
    | .str _ => some true | .exc _ _ => none | _ => some false)
  | .tuple => (match d with
    | .tup _ => some true | .exc _ _ => none | _ => some false)
  | .list => (match d with
    | .obj n => (match get S n with
      | some (.lst _) => some true | some (.ro _) => some true | some (.dct _) => some false | _ => none)
    | .exc _ _ => none | _ => some false)
  | .dict => (match d with
    | .obj n => (match get S n with
      | some (.lst _) => some false | some (.ro _) => some false | some (.dct _) => some true | _ => none)
    | .exc _ _ => none | _ => some false)
  | .set => none
  | .own c => (match d with
    | .exc k _ => (Cl[k]?).map fun bs => bs.contains c
    | _ => none)
def isKds (Cl : Classes) (S : Store) (d : D) : List Kd → Option Bool
  | [] => some false
  | k :: r => (isKd Cl S d k).bind fun b => if b then some true else isKds Cl S d r
/-- a place from the front or from behind -/
def place (n : Nat) (i : Int) : Option Nat := if 0 ≤ i then (if i < n then some i.toNat else none) else if -(n : Int) ≤ i then some (i + n).toNat else none
def idxD (a i : D) (S : Store) : Res D := match a, i with
  | .str s, .int i => if s.length ≤ line then Res.of (((place s.length i).bind fun j => s[j]?).map fun c => .str [c]) S else .bad
  | .tup xs, .int i => Res.of ((place xs.length i).bind fun j => xs[j]?) S
  | .obj n, i => (match get S n with
    | some (.lst xs) => (match i with
      | .int i => Res.of ((place xs.length i).bind fun j => xs[j]?) S
      | _ => .bad)
    | some (.ro xs) => (match i with
      | .int i => Res.of ((place xs.length i).bind fun j => xs[j]?) S
      | _ => .bad)
    | _ => .bad)
  | _, _ => .bad
def clip (n d : Nat) : Option Int → Nat
  | none => d
  | some i => if i < 0 then (i + n).toNat else min i.toNat n
def cut {α : Type} (xs : List α) (lo hi : Option Int) : List α := (xs.drop (clip xs.length 0 lo)).take (clip xs.length xs.length hi - clip xs.length 0 lo)
def intO : Option D → Option (Option Int)
  | none => some none
  | some (.int i) => some (some i)
  | _ => none
def slD (a : D) (lo hi : Option D) (S : Store) : Res D := match intO lo, intO hi with
  | some l, some h => (match a with
    | .str s => if s.length ≤ line then .ok (.str (cut s l h)) S else .bad
    | .tup xs => .ok (.tup (cut xs l h)) S
    | .obj n => (match get S n with
      | some (.lst xs) => .ok (.obj S.length) (.lst (cut xs l h) :: S)
      | _ => .bad)
    | _ => .bad)
  | _, _ => .bad
def revD (a : D) (S : Store) : Res D := match a with
  | .tup xs => .ok (.tup xs.reverse) S
  | .obj n => (match get S n with
    | some (.lst xs) => .ok (.obj S.length) (.lst xs.reverse :: S)
    | _ => .bad)
  | _ => .bad
/-- what a walk goes over; the second: the object that has to stand meanwhile -/
def items (d : D) (S : Store) : Option (List D × Option Nat) := match d with
  | .str s => some (s.map fun c => .str [c], none)
  | .tup xs => some (xs, none)
  | .obj n => (match get S n with
    | some (.lst xs) => some (xs, some n)
    | some (.ro xs) => some (xs, some n)
    | _ => none)
  | _ => none
/-- as an argument: a tuple, a list -/
def seqD (d : D) (S : Store) : Option (List D) := match d with
  | .tup xs => some xs
  | .obj n => (match get S n with
    | some (.lst xs) => some xs
    | some (.ro xs) => some xs
    | _ => none)
  | _ => none
def isLs (d : D) (S : Store) : Bool := match d with
  | .obj _ => true
  | _ => false
def keysD (d : D) (S : Store) : Option (List D) := match d with
  | .obj n => (match get S n with
    | some (.dct kvs) => if kvs.length < 64 then some (kvs.map (·.1)) else none
    | _ => none)
  | _ => none
def small (i : Int) : Bool := decide (-(2 ^ 62) ≤ i) && decide (i < 2 ^ 62)
def rngL (a b : Int) : List D := (List.range (b - a).toNat).map fun i => .int (a + (i : Nat))
def rngL3 (a b c : Int) : List D := (List.range (if c = -1 then (a - b).toNat else if a < b then ((b - a - 1) / c + 1).toNat else 0)).map fun i => .int (a + (i : Nat) * c)
/-- tuple(range(a, b, c)) -/
def tupRD (x y z : D) (S : Store) : Res D := match x, y, z with
  | .int i, .int j, .int k => if small i && small j && (decide (0 < k) && decide (k < 1073741824)) && decide ((rngL3 i j k).length ≤ line) then .ok (.tup (rngL3 i j k)) S else .bad
  | _, _, _ => .bad
/-- text.split(sign) -/
def splC (c : Nat) : List Nat → List (List Nat)
  | [] => [[]]
  | a :: r => if a = c then [] :: splC c r else (splC c r).modifyHead (a :: ·)
def splitD (x y : D) (S : Store) : Res D := match x, y with
  | .str s, .str [c] => if decide (c < 128) && decide (s.length + 2 ≤ line) then .ok (.obj S.length) (.lst ((splC c s).map .str) :: S) else .bad
  | _, _ => .bad
/-- "0123456789".find(digit) -/
def findD (x y : D) (S : Store) : Res D := match x, y with
  | .str s, .str [c] => if decide (s = [48, 49, 50, 51, 52, 53, 54, 55, 56, 57]) && (decide (48 ≤ c) && decide (c < 58)) then .ok (.int ((c : Int) - 48)) S else .bad
  | _, _ => .bad
/-- xs.insert(i, y) -/
def insD (x i y : D) (S : Store) : Res D := match x, i with
  | .obj n, .int k => (match get S n with
    | some (.lst xs) => if decide (xs.length < line) && (decide (0 ≤ k) && decide (k < 2 ^ 62)) then .ok .non (put S n (.lst (xs.take k.toNat ++ [y] ++ xs.drop k.toNat))) else .bad
    | _ => .bad)
  | _, _ => .bad
def shortS (x : D) (t : List Nat) : Bool := match x with
  | .str s => decide (s.length + t.length ≤ 1000)
  | _ => false
/-- f'{a}t{b}' -/
def fsD (x : D) (t : List Nat) (y : D) (S : Store) : Res D := match x, y with
  | .str s, .int i => if i.natAbs.log2 < 1920 then .ok (.str (s ++ t ++ codes (toString i))) S else .bad
  | _, _ => .bad
def stands (g : Option Nat) (o : Option SO) (S : Store) : Bool := match g with
  | none => true
  | some n => decide (get S n = o)
def obAt (g : Option Nat) (S : Store) : Option SO := g.bind fun n => get S n
def bind1 (t : Tg) (d : D) (env : Env) : Option Env := match t, d with
  | .v i, d => some (env.set i (some d))
  | .tup is, .tup xs => if is.length = xs.length then some ((is.zip xs).foldl (fun e p => e.set p.1 (some p.2)) env) else none
  | _, _ => none
def Tg.ix : Tg → List Nat
  | .v i => [i]
  | .tup is => is
def kill (ks : List Nat) (env : Env) : Env := ks.foldl (fun e k => e.set k none) env
def intsD : List D → Option (List Int)
  | [] => some []
  | .int i :: r => (intsD r).map (i :: ·)
  | _ => none
def bls : List D → Option (List Bool)
  | [] => some []
  | .bl b :: r => (bls r).map (b :: ·)
  | _ => none
def lbls (d : D) (S : Store) : Option (List Bool) := match d with
  | .obj n => (match get S n with
    | some (.lst xs) => bls xs
    | _ => none)
  | _ => none
def leL (a b : List Nat) : Bool := !decide (b < a)
def strsD : List D → Option (List (List Nat))
  | [] => some []
  | .str s :: r => (strsD r).map (s :: ·)
  | _ => none
/-- in ascending order: intsD, fewer than 64 texts -/
def sortD (xs : List D) : Option (List D) := match intsD xs with
  | some ns => some ((ns.mergeSort fun a b => decide (a ≤ b)).map .int)
  | none => (match strsD xs with
    | some ts => if ts.length < 64 then some ((ts.mergeSort leL).map .str) else none
    | none => none)
def joinS (sep : List Nat) : List (List Nat) → List Nat
  | [] => []
  | [s] => s
  | s :: r => s ++ sep ++ joinS sep r
def putD (k v : D) : List (D × D) → List (D × D)
  | [] => [(k, v)]
  | (a, u) :: r => if a = k then (a, v) :: r else (a, u) :: putD k v r
def pairsD : List D → Option (List (D × D))
  | [] => some []
  | k :: v :: r => if isKey k then (pairsD r).map ((k, v) :: ·) else none
  | _ => none
def setIxD (o i v : D) (S : Store) : Option Store := match o with
  | .obj n => (match get S n with
    | some (.lst xs) => (match i with
      | .int i => (place xs.length i).map fun j => put S n (.lst (xs.set j v))
      | _ => none)
    | some (.dct kvs) => if isKey i && decide (kvs.length < 100000) then some (put S n (.dct (putD i v kvs))) else none
    | _ => none)
  | _ => none
def appD (o v : D) (S : Store) : Res D := match o with
  | .obj n => (match get S n with
    | some (.lst xs) => if xs.length < line then .ok .non (put S n (.lst (xs ++ [v]))) else .bad
    | _ => .bad)
  | _ => .bad
def popD (o : D) (S : Store) : Res D := match o with
  | .obj n => (match get S n with
    | some (.lst xs) => (match xs.getLast? with
      | some v => .ok v (put S n (.lst xs.dropLast))
      | none => .bad)
    | _ => .bad)
  | _ => .bad
def extD (o v : D) (S : Store) : Res D := match o, v with
  | .obj n, .obj m => (match get S n, get S m with
    | some (.lst xs), some (.lst ys) => if xs.length + ys.length ≤ line then .ok .non (put S n (.lst (xs ++ ys))) else .bad
    | _, _ => .bad)
  | _, _ => .bad
def isL (d : D) (S : Store) : Bool := match d with
  | .obj n => (match get S n with
    | some (.lst _) => true
    | _ => false)
  | _ => false
def isS (d : D) : Bool := match d with
  | .str _ => true
  | _ => false
def swD (o v : D) : Option Bool := match o, v with
  | .str a, .str b => some (b.isPrefixOf a)
  | _, _ => none
/-- forget what was laid since S, where nothing points there -/
def envBel (n : Nat) (env : Env) : Bool := env.all fun o => match o with
  | some d => D.bel n d
  | none => true
def trim (S S' : Store) (env : Env) : Store := if S'.length = S.length then S' else
  if envBel S.length env && okOld S.length S (S'.drop (S'.length - S.length)) then S'.drop (S'.length - S.length) else S'
def fin (S S' : Store) (d : D) : Res D := if S'.length = S.length then .ok d S' else
  if okOld S.length S (S'.drop (S'.length - S.length)) then
    (if D.bel S.length d then .ok d (S'.drop (S'.length - S.length)) else match d with
      | .obj m => (match get S' m with
        | some o => if SO.bel S.length o then .ok (.obj S.length) (o :: S'.drop (S'.length - S.length)) else .ok d S'
        | none => .bad)
      | d => .ok d S')
  else .ok d S'
def finX (S S' : Store) (fs : List D) : Store := if S'.length = S.length then S' else
  if D.bels S.length fs && okOld S.length S (S'.drop (S'.length - S.length)) then S'.drop (S'.length - S.length) else S'
/-! ### the order of like values -/
mutual
def toksD : D → List (Int ⊕ List Nat)
  | .bl b => [.inl (if b = true then 1 else 0)]
  | .int n => [.inl n]
  | .str s => [.inr s]
  | .tup xs => toksDs xs
  | _ => []
def toksDs : List D → List (Int ⊕ List Nat)
  | [] => [.inl 0]
  | x :: r => .inl 1 :: (toksD x ++ toksDs r)
end
mutual
def likeD : D → D → Bool
  | .bl _, .bl _ => true
  | .int _, .int _ => true
  | .str _, .str _ => true
  | .tup a, .tup b => likeDs a b
  | _, _ => false
def likeDs : List D → List D → Bool
  | x :: r, y :: t => likeD x y && likeDs r t
  | [], _ => true
  | _ :: _, [] => false
end
def itLt : Int ⊕ List Nat → Int ⊕ List Nat → Bool
  | .inl a, .inl b => decide (a < b)
  | .inl _, .inr _ => true
  | .inr _, .inl _ => false
  | .inr a, .inr b => decide (a < b)
def lexT : List (Int ⊕ List Nat) → List (Int ⊕ List Nat) → Bool
  | [], [] => false
  | [], _ :: _ => true
  | _ :: _, [] => false
  | x :: r, y :: t => itLt x y || (!itLt y x && lexT r t)
def ltT (a b : D) : Bool := lexT (toksD a) (toksD b)
/-- texts, numbers, tuples of them, not deep -/
def flatQ : Nat → D → Bool
  | _, .bl _ => true
  | _, .int _ => true
  | _, .str _ => true
  | n + 1, .tup xs => xs.all (flatQ n)
  | _, _ => false
def minT (x : D) (xs : List D) : D := xs.foldl (fun a y => if ltT y a = true then y else a) x
def minLk (xs : List D) : Bool := xs.all fun a => flatQ 8 a && xs.all fun b => likeD a b
/-! ### the evaluator -/
/-- a comprehension's walk -/
def compL (f : D → Store → Res (Option D)) (g : Store → Bool) : List D → Store → Res (List D)
  | [], S => if g S then .ok [] S else .bad
  | x :: r, S => if g S then (match f x S with
    | .ok o S => (compL f g r S).bind fun ys S => .ok (match o with | some y => y :: ys | none => ys) S
    | _ => .bad) else .bad
/-- rows behind one another -/
def compL2 (f : D → Store → Res (List D)) (g : Store → Bool) : List D → Store → Res (List D)
  | [], S => if g S then .ok [] S else .bad
  | x :: r, S => if g S then (match f x S with
    | .ok zs S => (compL2 f g r S).bind fun ys S => .ok (zs ++ ys) S
    | _ => .bad) else .bad
/-- the exception at hand: its class, its fields -/
abbrev Exn := Option (Nat × List D)
structure Ctx where
  Φ : Exn → Calls
  G : List D
  Cl : Classes
  exn : Exn
mutual
def evE (C : Ctx) : Exp → Env → Store → Res D
  | .c d, _, S => .ok d S
  | .v i, env, S => (match env[i]? with
    | some (some d) => .ok d S
    | _ => .bad)
  | .g i, _, S => Res.of (C.G[i]?) S
  | .bin o a b, env, S => (evE C a env S).bind fun x S => (evE C b env S).bind fun y S => binD o x y S
  | .neg a, env, S => (evE C a env S).bind fun x S => (match x with
    | .int i => .ok (.int (-i)) S
    | _ => .bad)
  | .notV a, env, S => (evE C a env S).bind fun x S => (match x with
    | .bl b => .ok (.bl (!b)) S
    | _ => .bad)
  | .andV a b, env, S => (evE C a env S).bind fun x S => (match x with
    | .bl b' => if b' then evE C b env S else .ok (.bl false) S
    | _ => .bad)
  | .orV a b, env, S => (evE C a env S).bind fun x S => (match x with
    | .bl b' => if b' then .ok (.bl true) S else evE C b env S
    | _ => .bad)
  | .cmp o a b, env, S => (evE C a env S).bind fun x S => (evE C b env S).bind fun y S => (Res.of (cmpD S o x y) S).bind fun c S => .ok (.bl c) S
  | .chn o p a b c, env, S => (evE C a env S).bind fun x S => (evE C b env S).bind fun y S => (Res.of (cmpD S o x y) S).bind fun k S =>
      if k then (evE C c env S).bind fun z S => (Res.of (cmpD S p y z) S).bind fun k S => .ok (.bl k) S else .ok (.bl false) S
  | .ife t a b, env, S => (evT C t env S).bind fun k S => if k then evE C a env S else evE C b env S
  | .call f as, env, S => (evEs C as env S).bind fun ds S => C.Φ none f ds S
  | .hcall f as, env, S => (evEs C as env S).bind fun ds S => C.Φ none f ds S
  | .hot f, _, S => if C.exn.isSome then (match C.Φ C.exn f [] S with
    | .ok d S => .ok d S
    | _ => .bad) else .bad
  | .isX cs, _, S => (match C.exn with
    | some (c, _) => (match C.Cl[c]? with
      | some bs => .ok (.bl (cs.any fun k => bs.contains k)) S
      | none => .bad)
    | none => .bad)
  | .xf cs k, _, S => (match C.exn with
    | some (c, fs) => if cs.contains c then Res.of fs[k]? S else .bad
    | none => .bad)
  | .anyH a, env, S => (evE C a env S).bind fun x S => (Res.of (lbls x S) S).bind fun k S => .ok (.bl (k.any id)) S
  | .f1 f a, env, S => (evE C a env S).bind fun x S => f1D f x S
  | .f2 f a b, env, S => (evE C a env S).bind fun x S => (evE C b env S).bind fun y S => f2D f x y S
  | .isI a ks, env, S => (evE C a env S).bind fun x S => (Res.of (isKds C.Cl S x ks) S).bind fun k S => .ok (.bl k) S
  | .idx a b, env, S => (evE C a env S).bind fun x S => (evE C b env S).bind fun y S => idxD x y S
  | .sl a lo hi, env, S => (evE C a env S).bind fun x S => (evO C lo env S).bind fun l S => (evO C hi env S).bind fun h S => slD x l h S
  | .rev a, env, S => (evE C a env S).bind fun x S => revD x S
  | .tupR a b c, env, S => (evE C a env S).bind fun x S => (evE C b env S).bind fun y S => (evE C c env S).bind fun z S => tupRD x y z S
  | .split a b, env, S => (evE C a env S).bind fun x S => if isS x then (evE C b env S).bind fun y S => splitD x y S else .bad
  | .find a b, env, S => (evE C a env S).bind fun x S => if isS x then (evE C b env S).bind fun y S => findD x y S else .bad
  | .insl o i a, env, S => (evE C o env S).bind fun x S => if isL x S then (evE C i env S).bind fun y S => (evE C a env S).bind fun z S => insD x y z S else .bad
  | .fs a t b, env, S => (evE C a env S).bind fun x S => if shortS x t then (evE C b env S).bind fun y S => fsD x t y S else .bad
  | .tup es, env, S => (evEs C es env S).bind fun ds S => .ok (.tup ds) S
  | .ls l, env, S => (evL C l env S).bind fun p S => .ok (.obj S.length) (.lst p.1 :: S)
  | .dct es, env, S => (evEs C es env S).bind fun ds S => (match pairsD ds with
    | some m => if ds.length ≤ 30 then .ok (.obj S.length) (.dct (m.foldl (fun m p => putD p.1 p.2 m) []) :: S) else .bad
    | none => .bad)
  | .tupOf l, env, S => (evL C l env S).bind fun p S => .ok (.tup p.1) S
  | .allOf l, env, S => (evL C l env S).bind fun p S => (Res.of (bls p.1) S).bind fun k S => .ok (.bl (k.all id)) S
  | .anyOf l, env, S => (evL C l env S).bind fun p S => (Res.of (bls p.1) S).bind fun k S => .ok (.bl (k.any id)) S
  | .sumOf l, env, S => (evL C l env S).bind fun p S => (Res.of (intsD p.1) S).bind fun k S => .ok (.int k.sum) S
  | .minOf l, env, S => (evL C l env S).bind fun p S => (match intsD p.1 with
    | some (x :: r) => .ok (.int (r.foldl min x)) S
    | _ => (match p.1 with
      | x :: r => if minLk (x :: r) = true then .ok (minT x r) S else .bad
      | [] => .bad))
  | .maxOf l, env, S => (evL C l env S).bind fun p S => (match intsD p.1 with
    | some (x :: r) => .ok (.int (r.foldl max x)) S
    | _ => .bad)
  | .sorted l, env, S => (evL C l env S).bind fun p S => (match sortD p.1 with
    | some ys => .ok (.obj S.length) (.lst ys :: S)
    | none => .bad)
  | .join a l, env, S => (evE C a env S).bind fun x S => if isS x then (evL C l env S).bind fun p S => (match x, strsD p.1 with
    | .str s, some ts => if (ts.map (·.length)).sum + ts.length * s.length ≤ line then .ok (.str (joinS s ts)) S else .bad
    | _, _ => .bad) else .bad
  | .app o a, env, S => (evE C o env S).bind fun x S => if isL x S then (evE C a env S).bind fun y S => appD x y S else .bad
  | .pop o, env, S => (evE C o env S).bind fun x S => if isL x S then popD x S else .bad
  | .ext o a, env, S => (evE C o env S).bind fun x S => if isL x S then (evE C a env S).bind fun y S => extD x y S else .bad
  | .sw o a, env, S => (evE C o env S).bind fun x S => if isS x then (evE C a env S).bind fun y S => (Res.of (swD x y) S).bind fun k S => .ok (.bl k) S else .bad
def evEs (C : Ctx) : List Exp → Env → Store → Res (List D)
  | [], _, S => .ok [] S
  | e :: r, env, S => (evE C e env S).bind fun x S => (evEs C r env S).bind fun xs S => .ok (x :: xs) S
def evO (C : Ctx) : Option Exp → Env → Store → Res (Option D)
  | none, _, S => .ok none S
  | some e, env, S => (evE C e env S).bind fun x S => (match x with
    | .int i => .ok (some (.int i)) S
    | _ => .bad)
def evL (C : Ctx) : Src → Env → Store → Res (List D × Option Nat)
  | .val e, env, S => (evE C e env S).bind fun x S => Res.of (items x S) S
  | .seq e, env, S => (evE C e env S).bind fun x S => Res.of ((seqD x S).map fun xs => (xs, none)) S
  | .lis e, env, S => (evE C e env S).bind fun x S => if isLs x S then Res.of ((seqD x S).map fun xs => (xs, none)) S else .bad
  | .keys e, env, S => (evE C e env S).bind fun x S => Res.of ((keysD x S).map fun xs => (xs, none)) S
  | .rng a, env, S => (evE C a env S).bind fun x S => (match x with
    | .int i => if small i then .ok (rngL 0 i, none) S else .bad
    | _ => .bad)
  | .rng2 a b, env, S => (evE C a env S).bind fun x S => (evE C b env S).bind fun y S => (match x, y with
    | .int i, .int j => if small i && small j then .ok (rngL i j, none) S else .bad
    | _, _ => .bad)
  | .rng3 a b c, env, S => (evE C a env S).bind fun x S => (evE C b env S).bind fun y S => (evE C c env S).bind fun z S => (match x, y, z with
    | .int i, .int j, .int k => if small i && small j && (decide (k = -1) || (decide (0 < k) && decide (k < 1073741824))) then .ok (rngL3 i j k, none) S else .bad
    | _, _, _ => .bad)
  | .disp es, env, S => (evEs C es env S).bind fun xs S => .ok (xs, none) S
  | .comp e t l ifs, env, S => (evL C l env S).bind fun p S => if p.1.length ≤ line then
      (compL (fun x S => match bind1 t x (kill t.ix env) with
        | some env => (match evTs C ifs env S with
          | .ok true S => (match evE C e env S with
            | .ok y S => .ok (some y) S
            | _ => .bad)
          | .ok false S => .ok none S
          | _ => .bad)
        | none => .bad) (stands p.2 (obAt p.2 S)) p.1 S).bind fun ys S => .ok (ys, none) S else .bad
  | .zip a b, env, S => (evE C a env S).bind fun x S => (evE C b env S).bind fun y S => (match x, y with
    | .tup xs, .tup ys => .ok ((xs.zip ys).map fun z => .tup [z.1, z.2], none) S
    | _, _ => .bad)
  | .comp2 e t l ifs t1 l1 ifs1, env, S => (evL C l env S).bind fun p S => if p.1.length ≤ line then
      (compL2 (fun x S => match bind1 t x (kill (t.ix ++ t1.ix) env) with
        | some env => (match evTs C ifs env S with
          | .ok true S => (match evL C l1 env S with
            | .ok p1 S => if p1.1.length ≤ line then compL (fun x S => match bind1 t1 x (kill t1.ix env) with
                | some env => (match evTs C ifs1 env S with
                  | .ok true S => (match evE C e env S with
                    | .ok y S => .ok (some y) S
                    | _ => .bad)
                  | .ok false S => .ok none S
                  | _ => .bad)
                | none => .bad) (stands p1.2 (obAt p1.2 S)) p1.1 S else .bad
            | _ => .bad)
          | .ok false S => .ok [] S
          | _ => .bad)
        | none => .bad) (stands p.2 (obAt p.2 S)) p.1 S).bind fun ys S => if ys.length ≤ line then .ok (ys, none) S else .bad else .bad
def evT (C : Ctx) : Tst → Env → Store → Res Bool
  | .val e, env, S => (evE C e env S).bind fun x S => Res.of (truth S x) S
  | .not t, env, S => (evT C t env S).bind fun k S => .ok (!k) S
  | .and a b, env, S => (evT C a env S).bind fun k S => if k then evT C b env S else .ok false S
  | .or a b, env, S => (evT C a env S).bind fun k S => if k then .ok true S else evT C b env S
def evTs (C : Ctx) : List Tst → Env → Store → Res Bool
  | [], _, S => .ok true S
  | t :: r, env, S => (evT C t env S).bind fun k S => if k then evTs C r env S else .ok false S
end
inductive Flow where | nx (env : Env) | rt (d : D) | bk (env : Env) | ct (env : Env) | ex (c : Nat) (fs : List D) (env : Env)
/-- an expression within a statement: what it raises leaves the statement -/
def Res.st {α : Type} (r : Res α) (env : Env) (k : α → Store → Res Flow) : Res Flow := match r with
  | .ok a S => k a S
  | .exc c fs S => .ok (.ex c fs env) S
  | .bad => .bad
def loopL (f : D → Env → Store → Res Flow) (ks : List Nat) (g : Store → Bool) : List D → Env → Store → Res Flow
  | [], env, S => if g S then .ok (.nx env) S else .bad
  | x :: r, env, S => if g S then (f x env S).bind fun fl S' => (match fl with
    | .nx env => loopL f ks g r (kill ks env) (trim S S' (kill ks env))
    | .ct env => loopL f ks g r (kill ks env) (trim S S' (kill ks env))
    | .bk env => .ok (.nx (kill ks env)) S'
    | .rt d => .ok (.rt d) S'
    | .ex c fs env => .ok (.ex c fs env) S') else .bad
def whlL (t : Env → Store → Res Bool) (f : Env → Store → Res Flow) (ks : List Nat) : Nat → Env → Store → Res Flow
  | 0, _, _ => .bad
  | n + 1, env, S => (t env S).st env fun k S1 => if k then (f env S1).bind fun fl S' => (match fl with
    | .nx env => whlL t f ks n (kill ks env) (trim S S' (kill ks env))
    | .ct env => whlL t f ks n (kill ks env) (trim S S' (kill ks env))
    | .bk env => .ok (.nx (kill ks env)) S'
    | .rt d => .ok (.rt d) S'
    | .ex c fs env => .ok (.ex c fs env) S') else .ok (.nx env) S1
abbrev turns : Nat := 1000000000
/-- fields of an exception: numbers that are not too long -/
def fldOk (ds : List D) : Bool := ds.all fun d => match d with
  | .int i => decide (i.natAbs.log2 < 1920)
  | _ => false
def catches (Cl : Classes) (c : Nat) (cs : List Nat) : Bool := ((Cl[c]?).getD []).any fun b => cs.contains b
mutual
def evS (C : Ctx) : Stm → Env → Store → Res Flow
  | .pass, env, S => .ok (.nx env) S
  | .ex e, env, S => (evE C e env S).st env fun _ S => .ok (.nx env) S
  | .set t e, env, S => (evE C e env S).st env fun x S => (match bind1 t x env with
    | some env => .ok (.nx env) S
    | none => .bad)
  | .setIx o i e, env, S => (evE C e env S).st env fun x S => (evE C o env S).st env fun y S => (evE C i env S).st env fun z S => (match setIxD y z x S with
    | some S => .ok (.nx env) S
    | none => .bad)
  | .ite t a b, env, S => (evT C t env S).st env fun k S => if k then evSs C a env S else evSs C b env S
  | .forS t l body ks, env, S => (evL C l env S).st env fun p S => loopL (fun x env S => match bind1 t x env with
    | some env => evSs C body env S
    | none => .bad) ks (stands p.2 (obAt p.2 S)) p.1 env S
  | .whl t body ks, env, S => whlL (evT C t) (evSs C body) ks turns env S
  | .ret e, env, S => (evE C e env S).st env fun x S => .ok (.rt x) S
  | .brk, env, S => .ok (.bk env) S
  | .cont, env, S => .ok (.ct env) S
  | .rais c es, env, S => (evEs C es env S).st env fun ds S => if fldOk ds then .ok (.ex c ds env) S else .bad
  | .tryS body hs, env, S => (evSs C body env S).bind fun fl S => (match fl with
    | .ex c fs env => evH C hs c fs env S
    | fl => .ok fl S)
  | .kill ks, env, S => .ok (.nx (kill ks env)) S
def evH (C : Ctx) : List (List Nat × Option Nat × List Stm) → Nat → List D → Env → Store → Res Flow
  | [], c, fs, env, S => .ok (.ex c fs env) S
  | (cs, sl, suite) :: r, c, fs, env, S => if catches C.Cl c cs then
      (match sl with
      | some i => if i < env.length then (evSs { C with exn := some (c, fs) } suite (env.set i none) S).bind fun fl S => (match fl with
        | .nx env => .ok (.nx (env.set i none)) S
        | .rt d => .ok (.rt d) S
        | _ => .bad) else .bad
      | none => (evSs { C with exn := some (c, fs) } suite env S).bind fun fl S => (match fl with
        | .nx env => .ok (.nx env) S
        | .rt d => .ok (.rt d) S
        | _ => .bad)) else evH C r c fs env S
def evSs (C : Ctx) : List Stm → Env → Store → Res Flow
  | [], env, S => .ok (.nx env) S
  | s :: r, env, S => (evS C s env S).bind fun fl S => (match fl with
    | .nx env => evSs C r env S
    | fl => .ok fl S)
end
structure Fn where
  np : Nat
  nl : Nat
  body : List Stm
def evFn (C : Ctx) (f : Fn) (ds : List D) (S : Store) : Res D :=
  if C.exn.isSome ∨ ds.length = f.np then match evSs C f.body (if C.exn.isSome then List.replicate f.nl none else ds.map some ++ List.replicate (f.nl - f.np) none) S with
    | .ok (.rt d) S' => fin S S' d
    | .ok (.nx _) S' => fin S S' .non
    | .ok (.ex c fs _) S' => .exc c fs (finX S S' fs)
    | _ => .bad
  else .bad
structure Prg where
  fns : List Fn
  G : List D
  Cl : Classes
def den (p : Prg) : Nat → Exn → Calls
  | 0, _, _, _, _ => .bad
  | n + 1, x, i, ds, S => (match p.fns[i]? with
    | some f => evFn ⟨den p n, p.G, p.Cl, x⟩ f ds S
    | none => .bad)
end Pw
end
section
set_option Elab.async false
set_option linter.all false
set_option maxRecDepth 100000
set_option maxHeartbeats 1000000
set_option autoImplicit false
/-! Pw1: how values, stores and rows of slots of Pw0 lie over the hand layer's abstract heap -/
namespace Pw
open PySem PySem.Spec PyProof.Rows L2
/-- the exception at hand: its address, its slot, its dict -/
abbrev Ex1 := Option (Addr × Nat × Option (Addr × List (Str × V)))
mutual
inductive Rp (K : PySem.W.Frag) (φ : Nat → Addr) (ex : Ex1) (H : Hp) : V → D → Prop
  | non : Rp K φ ex H .non .non
  | bl (b : Bool) : Rp K φ ex H (.bl b) (.bl b)
  | int (i : Int) : Rp K φ ex H (.int i) (.int i)
  | str (x : Str) : Rp K φ ex H (.str x) (.str x.cps.toList)
  | tup {a : Addr} {vs : List V} {ds : List D} : SqT K H a vs → RpA K φ ex H vs ds → Rp K φ ex H (.ref a) (.tup ds)
  | obj (n : Nat) : Rp K φ ex H (.ref (φ n)) (.obj n)
  | exc {a : Addr} {c : Nat} {fs : List D} : False → Rp K φ ex H (.ref a) (.exc c fs)
inductive RpA (K : PySem.W.Frag) (φ : Nat → Addr) (ex : Ex1) (H : Hp) : List V → List D → Prop
  | nil : RpA K φ ex H [] []
  | cons {v : V} {d : D} {vs : List V} {ds : List D} : Rp K φ ex H v d → RpA K φ ex H vs ds → RpA K φ ex H (v :: vs) (d :: ds)
end
/-- tuples and known things stay -/
structure Kp (H H' : Hp) : Prop where
  tup : ∀ a vs, H a = some (.tup vs) → H' a = some (.tup vs)
  frz : ∀ a o u, H a = some (.frz o u) → H' a = some (.frz o u)
  xd : ∀ a fs, H a = some (.xd fs) → H' a = some (.xd fs)
theorem Kp.refl {H : Hp} : Kp H H := ⟨fun _ _ h => h, fun _ _ _ h => h, fun _ _ h => h⟩
theorem Kp.trans {H H1 H2 : Hp} (a : Kp H H1) (b : Kp H1 H2) : Kp H H2 := ⟨fun x v h => b.tup x v (a.tup x v h), fun x o u h => b.frz x o u (a.frz x o u h), fun x fs h => b.xd x fs (a.xd x fs h)⟩
theorem Kp.new {H : Hp} {p : Addr} {o : HO} (h : H p = none) : Kp H (upd H p o) :=
  ⟨fun a vs e => by rw [upd_ne (ne_of_none e h)]; exact e, fun a x u e => by rw [upd_ne (ne_of_none e h)]; exact e, fun a x e => by rw [upd_ne (ne_of_none e h)]; exact e⟩
theorem Kp.set {H : Hp} {p : Addr} {o o' : HO} (h : H p = some o) (hm : Mut (some o)) : Kp H (upd H p o') :=
  ⟨fun a vs e => by
    have ne : a ≠ p := fun z => by subst z; rw [e] at h; cases h; exact hm
    rw [upd_ne ne]; exact e, fun a x u e => by
    have ne : a ≠ p := fun z => by subst z; rw [e] at h; cases h; exact hm
    rw [upd_ne ne]; exact e, fun a x e => by
    have ne : a ≠ p := fun z => by subst z; rw [e] at h; cases h; exact hm
    rw [upd_ne ne]; exact e⟩
section
variable {K : PySem.W.Frag} {φ φ' : Nat → Addr} {ex : Ex1} {H H' : Hp}
theorem sqT_kp {a : Addr} {vs : List V} (h : SqT K H a vs) (k : Kp H H') : SqT K H' a vs := by
  rcases h with (h | ⟨o, h⟩) | h
  · exact .inl (.inl (k.tup _ _ h))
  · exact .inl (.inr ⟨o, k.frz _ _ _ h⟩)
  · exact .inr h
theorem bels_all {n : Nat} : ∀ {ds : List D}, D.bels n ds = true ↔ ∀ d ∈ ds, D.bel n d = true
  | [] => by simp [D.bels]
  | d :: r => by simp [D.bels, bels_all (ds := r)]
mutual
theorem Rp.mono {n : Nat} : ∀ {v : V} {d : D}, Rp K φ ex H v d → D.bel n d = true → (∀ m, m < n → φ' m = φ m) → Kp H H' → Rp K φ' ex H' v d
  | _, _, .non, _, _, _ => .non
  | _, _, .bl b, _, _, _ => .bl b
  | _, _, .int i, _, _, _ => .int i
  | _, _, .str x, _, _, _ => .str x
  | _, _, .tup h r, b, e, k => .tup (sqT_kp h k) (RpA.mono r (by simpa [D.bel] using b) e k)
  | _, _, .obj m, b, e, _ => by
    have hm : m < n := by simpa [D.bel] using b
    rw [← e m hm]
    exact .obj m
  | _, _, .exc h, _, _, _ => .exc h
theorem RpA.mono {n : Nat} : ∀ {vs : List V} {ds : List D}, RpA K φ ex H vs ds → D.bels n ds = true → (∀ m, m < n → φ' m = φ m) → Kp H H' → RpA K φ' ex H' vs ds
  | _, _, .nil, _, _, _ => .nil
  | _, _, .cons r t, b, e, k => by
    simp only [D.bels, Bool.and_eq_true] at b
    exact .cons (Rp.mono r b.1 e k) (RpA.mono t b.2 e k)
end
mutual
theorem D.bel_mono {m n : Nat} (h : m ≤ n) : ∀ d : D, D.bel m d = true → D.bel n d = true
  | .non, _ => rfl
  | .bl _, _ => rfl
  | .int _, _ => rfl
  | .str _, _ => rfl
  | .obj k, b => by
    have : k < m := by simpa [D.bel] using b
    show Nat.blt k n = true
    exact Nat.ble_eq_true_of_le (by omega)
  | .tup xs, b => by simp only [D.bel] at b ⊢; exact D.bels_mono h xs b
  | .exc _ xs, b => by simp only [D.bel] at b ⊢; exact D.bels_mono h xs b
theorem D.bels_mono {m n : Nat} (h : m ≤ n) : ∀ ds : List D, D.bels m ds = true → D.bels n ds = true
  | [], _ => rfl
  | d :: r, b => by
    simp only [D.bels, Bool.and_eq_true] at b ⊢
    exact ⟨D.bel_mono h d b.1, D.bels_mono h r b.2⟩
end
theorem SO.bel_mono {m n : Nat} (h : m ≤ n) (o : SO) (b : o.bel m = true) : o.bel n = true := by
  cases o with
  | lst xs => exact D.bels_mono h _ b
  | ro xs => exact D.bels_mono h _ b
  | set xs => exact D.bels_mono h _ b
  | ins c fs => exact D.bels_mono h _ b
  | dct kvs =>
    simp only [SO.bel, Bool.and_eq_true] at b ⊢
    exact ⟨D.bels_mono h _ b.1, D.bels_mono h _ b.2⟩
theorem RpA.length {vs : List V} {ds : List D} (r : RpA K φ ex H vs ds) : vs.length = ds.length := by
  induction ds generalizing vs with
  | nil => cases r; rfl
  | cons d t ih => cases r with | cons _ r => simp [ih r]
theorem RpA.get {vs : List V} {ds : List D} (r : RpA K φ ex H vs ds) {i : Nat} : (∀ d, ds[i]? = some d → ∃ v, vs[i]? = some v ∧ Rp K φ ex H v d) := by
  induction ds generalizing vs i with
  | nil => intro d e; simp at e
  | cons d t ih => cases r with
    | cons q r => cases i with
      | zero => intro e h; simp at h; subst h; exact ⟨_, rfl, q⟩
      | succ i => intro e h; simpa using ih r e (by simpa using h)
theorem RpA.getv {vs : List V} {ds : List D} (r : RpA K φ ex H vs ds) {i : Nat} {v : V} (h : vs[i]? = some v) : ∃ d, ds[i]? = some d ∧ Rp K φ ex H v d := by
  induction ds generalizing vs i with
  | nil => cases r; simp at h
  | cons d t ih => cases r with
    | cons q r => cases i with
      | zero => simp at h; subst h; exact ⟨_, rfl, q⟩
      | succ i => simpa using ih r (by simpa using h)
theorem RpA.append {vs ws : List V} {ds es : List D} (r : RpA K φ ex H vs ds) (s : RpA K φ ex H ws es) : RpA K φ ex H (vs ++ ws) (ds ++ es) := by
  induction ds generalizing vs with
  | nil => cases r; exact s
  | cons d t ih => cases r with | cons q r => exact .cons q (ih r)
theorem RpA.take {vs : List V} {ds : List D} (r : RpA K φ ex H vs ds) (n : Nat) : RpA K φ ex H (vs.take n) (ds.take n) := by
  induction ds generalizing vs n with
  | nil => cases r; simp; exact .nil
  | cons d t ih => cases r with
    | cons q r => cases n with
      | zero => exact .nil
      | succ n => exact .cons q (ih r n)
theorem RpA.drop {vs : List V} {ds : List D} (r : RpA K φ ex H vs ds) (n : Nat) : RpA K φ ex H (vs.drop n) (ds.drop n) := by
  induction ds generalizing vs n with
  | nil => cases r; simp; exact .nil
  | cons d t ih => cases r with
    | cons q r => cases n with
      | zero => exact .cons q r
      | succ n => exact ih r n
theorem RpA.set {vs : List V} {ds : List D} {v : V} {d : D} (r : RpA K φ ex H vs ds) (q : Rp K φ ex H v d) (i : Nat) : RpA K φ ex H (vs.set i v) (ds.set i d) := by
  induction ds generalizing vs i with
  | nil => cases r; exact .nil
  | cons e t ih => cases r with
    | cons p r => cases i with
      | zero => exact .cons q r
      | succ i => exact .cons p (ih r i)
theorem RpA.reverse {vs : List V} {ds : List D} (r : RpA K φ ex H vs ds) : RpA K φ ex H vs.reverse ds.reverse := by
  induction ds generalizing vs with
  | nil => cases r; exact .nil
  | cons e t ih => cases r with
    | cons p r =>
      rw [List.reverse_cons, List.reverse_cons]
      exact (ih r).append (.cons p .nil)
end
/-- a list that nobody writes: locked -/
def RoL (H : Hp) (a : Addr) (vs : List V) : Prop := ∃ o, H a = some (.frz o (.lst vs))
theorem RoL.sq {K : PySem.W.Frag} {H : Hp} {a : Addr} {vs : List V} (h : RoL H a vs) : SqL K H a vs := by
  obtain ⟨o, h⟩ := h
  exact .inl (.inr ⟨o, h⟩)
theorem RoL.kp {H H' : Hp} {a : Addr} {vs : List V} (h : RoL H a vs) (k : Kp H H') : RoL H' a vs := by
  obtain ⟨o, h⟩ := h
  exact ⟨o, k.frz _ _ _ h⟩
/-- what an object of the store is at its address -/
def ObR (K : PySem.W.Frag) (φ : Nat → Addr) (ex : Ex1) (H : Hp) (a : Addr) : SO → Prop
  | .lst ds => ∃ vs, H a = some (.lst vs) ∧ RpA K φ ex H vs ds
  | .ro ds => ∃ vs, RoL H a vs ∧ RpA K φ ex H vs ds
  | .dct kvs => ∃ ws : List (Key × V), H a = some (.dK ws) ∧ RpA K φ ex H (ws.map fun p => kV p.1) (kvs.map (·.1)) ∧ RpA K φ ex H (ws.map (·.2)) (kvs.map (·.2)) ∧ (ws.map (·.1)).Nodup
  | .set _ => False
  | .ins _ _ => False
/-- it may be written -/
def SO.mu : SO → Bool
  | .ro _ => false
  | _ => true
theorem get_lt {S : Store} {n : Nat} {o : SO} (h : get S n = some o) : n < S.length := by
  induction S with
  | nil => cases h
  | cons x r ih =>
    simp only [get] at h
    split at h
    · subst n; simp
    · have := ih h
      simp only [List.length_cons]
      omega
theorem get_some {S : Store} {n : Nat} (h : n < S.length) : ∃ o, get S n = some o := by
  induction S with
  | nil => simp at h
  | cons x r ih =>
    simp only [get]
    split
    · exact ⟨_, rfl⟩
    · exact ih (by simp only [List.length_cons] at h; omega)
theorem get_new {S : Store} {o : SO} : get (o :: S) S.length = some o := by simp [get]
theorem get_old {S : Store} {o : SO} {n : Nat} (h : n < S.length) : get (o :: S) n = get S n := by simp only [get]; rw [if_neg (by omega)]
theorem get_drop {S : Store} {k n : Nat} (h : n < (S.drop k).length) : get (S.drop k) n = get S n := by
  induction k generalizing S with
  | zero => rfl
  | succ k ih => cases S with
    | nil => rfl
    | cons x r =>
      rw [List.drop_succ_cons] at h ⊢
      rw [ih h, get_old]
      rw [List.length_drop] at h
      omega
@[simp] theorem put_length {S : Store} {n : Nat} {o : SO} : (put S n o).length = S.length := by
  induction S with
  | nil => rfl
  | cons x r ih =>
    simp only [put]
    split <;> simp [ih]
theorem get_put {S : Store} {n m : Nat} {o : SO} (h : n < S.length) : get (put S n o) m = if m = n then some o else get S m := by
  induction S with
  | nil => simp at h
  | cons x r ih =>
    simp only [put]
    by_cases e : n = r.length
    · subst e
      simp only [if_pos, get]
      all_goals (split <;> rfl)
    · rw [if_neg e]
      have hn : n < r.length := by simp only [List.length_cons] at h; omega
      simp only [get, put_length]
      by_cases e2 : m = r.length
      · subst e2; rw [if_pos rfl, if_pos rfl, if_neg (Ne.symm e)]
      · rw [if_neg e2, if_neg e2]; exact ih hn
/-- the store over the heap -/
structure SimO (K : PySem.W.Frag) (φ : Nat → Addr) (ex : Ex1) (H : Hp) (S : Store) : Prop where
  ob : ∀ n o, get S n = some o → ObR K φ ex H (φ n) o
  wf : ∀ n o, get S n = some o → o.bel S.length = true
  inj : ∀ m n om on, get S m = some om → get S n = some on → om.mu = true → on.mu = true → φ m = φ n → m = n
/-- the slots -/
structure SimE (K : PySem.W.Frag) (φ : Nat → Addr) (ex : Ex1) (H : Hp) (n : Nat) (σ : List (Option V)) (env : Env) : Prop where
  len : σ.length = env.length
  at_ : ∀ (i : Nat) (d : D), env[i]? = some (some d) → ∃ v, σ[i]? = some (some v) ∧ Rp K φ ex H v d ∧ D.bel n d = true
  xs : ∀ a i x, ex = some (a, i, x) → σ[i]? = some (some (.ref a))
  xd : ∀ a i d fs, ex = some (a, i, some (d, fs)) → H d = some (.xd fs)
structure Sim (K : PySem.W.Frag) (φ : Nat → Addr) (ex : Ex1) (H : Hp) (S : Store) (σ : List (Option V)) (env : Env) : Prop where
  o : SimO K φ ex H S
  e : SimE K φ ex H S.length σ env
/-- later: the store has grown (or not), the addresses are as before -/
structure Lat (φ φ' : Nat → Addr) (S S' : Store) (H H' : Hp) : Prop where
  le : S.length ≤ S'.length
  same : ∀ m, m < S.length → φ' m = φ m
  kp : Kp H H'
  fr : ∀ a o, H a = some o → (∀ n, n < S.length → φ n ≠ a) → H' a = some o
  nw : ∀ n, S.length ≤ n → n < S'.length → H (φ' n) = none
  no : ∀ a, H' a = none → H a = none
/-- what a walk's state asks of what lies between: old objects where they stood, known things as they were -/
structure LatW (φ φ' : Nat → Addr) (S S' : Store) (H H' : Hp) : Prop where
  le : S.length ≤ S'.length
  same : ∀ m, m < S.length → φ' m = φ m
  kp : Kp H H'
theorem Lat.w {φ φ' : Nat → Addr} {S S' : Store} {H H' : Hp} (l : Lat φ φ' S S' H H') : LatW φ φ' S S' H H' := ⟨l.le, l.same, l.kp⟩
section
variable {K : PySem.W.Frag} {φ φ' φ1 : Nat → Addr} {ex : Ex1} {H H' H1 : Hp} {S S' S1 : Store} {σ : List (Option V)} {env : Env} {v : V} {d : D}
theorem Lat.refl : Lat φ φ S S H H := ⟨Nat.le_refl _, fun _ _ => rfl, Kp.refl, fun _ _ h _ => h, fun n h1 h2 => absurd h2 (by omega), fun _ h => h⟩
theorem Lat.trans (a : Lat φ φ1 S S1 H H1) (b : Lat φ1 φ' S1 S' H1 H') : Lat φ φ' S S' H H' := by
  refine ⟨Nat.le_trans a.le b.le, fun m h => (b.same m (Nat.lt_of_lt_of_le h a.le)).trans (a.same m h), a.kp.trans b.kp, ?_, ?_, fun x h => a.no x (b.no x h)⟩
  · intro x o h hn
    refine b.fr x o (a.fr x o h hn) fun n hl z => ?_
    by_cases hs : n < S.length
    · rw [a.same n hs] at z; exact hn n hs z
    · have := a.nw n (by omega) hl
      rw [z, h] at this
      cases this
  · intro n h1 h2
    by_cases hs : n < S1.length
    · rw [b.same n hs]; exact a.nw n h1 hs
    · exact a.no _ (b.nw n (by omega) h2)
/-- the heap alone, a new thing -/
theorem Lat.newT {p : Addr} {o : HO} (hp : H p = none) : Lat φ φ S S H (upd H p o) :=
  ⟨Nat.le_refl _, fun _ _ => rfl, Kp.new hp, fun a u h _ => by rw [upd_ne (ne_of_none h hp)]; exact h, fun n h1 h2 => absurd h2 (by omega), fun a h => by
    by_cases z : a = p
    · rw [z]; exact hp
    · rw [upd_ne z] at h; exact h⟩
theorem Rp.lat (r : Rp K φ ex H v d) (b : D.bel S.length d = true) (l : Lat φ φ' S S' H H') : Rp K φ' ex H' v d := r.mono b l.same l.kp
theorem RpA.lat {vs : List V} {ds : List D} (r : RpA K φ ex H vs ds) (b : D.bels S.length ds = true) (l : Lat φ φ' S S' H H') : RpA K φ' ex H' vs ds := r.mono b l.same l.kp
theorem SimE.lat (e : SimE K φ ex H S.length σ env) (l : Lat φ φ' S S' H H') : SimE K φ' ex H' S'.length σ env :=
  ⟨e.len, fun i d h => let ⟨v, h1, h2, h3⟩ := e.at_ i d h; ⟨v, h1, h2.lat h3 l, D.bel_mono l.le d h3⟩, e.xs, fun a i d fs h => l.kp.xd _ _ (e.xd a i d fs h)⟩
/-- an object not touched -/
theorem ObR.lat {a : Addr} {o : SO} (x : ObR K φ ex H a o) (b : o.bel S.length = true) (ls : ∀ m, m < S.length → φ' m = φ m) (lk : Kp H H') (h : o.mu = true → ∀ u, H a = some u → H' a = some u) : ObR K φ' ex H' a o := by
  cases o with
  | lst ds => obtain ⟨vs, e, r⟩ := x; exact ⟨vs, h rfl _ e, r.mono b ls lk⟩
  | ro ds => obtain ⟨vs, e, r⟩ := x; exact ⟨vs, e.kp lk, r.mono b ls lk⟩
  | dct kvs =>
    obtain ⟨ws, e, r1, r2, nd⟩ := x
    simp only [SO.bel, Bool.and_eq_true] at b
    exact ⟨ws, h rfl _ e, r1.mono b.1 ls lk, r2.mono b.2 ls lk, nd⟩
  | set _ => exact x.elim
  | ins _ _ => exact x.elim
theorem ObR.there {a : Addr} {o : SO} (x : ObR K φ ex H a o) (m : o.mu = true) : ∃ u, H a = some u ∧ Mut (some u) := by
  cases o with
  | lst ds => obtain ⟨vs, e, _⟩ := x; exact ⟨_, e, trivial⟩
  | ro ds => cases m
  | dct kvs => obtain ⟨vs, e, _⟩ := x; exact ⟨_, e, trivial⟩
  | set _ => exact x.elim
  | ins _ _ => exact x.elim
/-- the heap alone has changed, and not where the store stands -/
theorem SimO.heap (x : SimO K φ ex H S) (k : Kp H H') (h : ∀ n o, get S n = some o → o.mu = true → ∀ u, H (φ n) = some u → H' (φ n) = some u) : SimO K φ ex H' S :=
  ⟨fun n o e => (x.ob n o e).lat (x.wf n o e) (fun _ _ => rfl) k (h n o e), x.wf, x.inj⟩
/-- a new thing beside the store -/
theorem SimO.new (x : SimO K φ ex H S) {p : Addr} {o : HO} (hp : H p = none) : SimO K φ ex (upd H p o) S :=
  x.heap (Kp.new hp) fun n _ _ _ u e => by rw [upd_ne (ne_of_none e hp)]; exact e
/-- a new object of the store -/
theorem SimO.push (x : SimO K φ ex H S) {p : Addr} {u : HO} {o : SO} (hp : H p = none) (hb : o.bel S.length = true)
    (ho : ∀ φ', (∀ m, m < S.length → φ' m = φ m) → ObR K φ' ex (upd H p u) p o) :
    ∃ φ', Lat φ φ' S (o :: S) H (upd H p u) ∧ φ' S.length = p ∧ SimO K φ' ex (upd H p u) (o :: S) := by
  refine ⟨fun n => if n = S.length then p else φ n, ⟨by simp, fun m h => if_neg (by omega), Kp.new hp, (Lat.newT (φ := φ) (S := S) hp).fr, fun n h1 h2 => ?_, (Lat.newT (φ := φ) (S := S) hp).no⟩, if_pos rfl, fun n q e => ?_, fun n q e => ?_, fun m n om on em en mm mn e => ?_⟩
  · have : n = S.length := by simp only [List.length_cons] at h2; omega
    show H (if n = S.length then p else φ n) = none
    rw [if_pos this]; exact hp
  · have hn := get_lt e
    simp only [List.length_cons] at hn
    by_cases z : n = S.length
    · subst z
      rw [get_new] at e
      cases e
      show ObR K _ ex _ (if S.length = S.length then p else φ S.length) o
      rw [if_pos rfl]
      exact ho _ fun m h => if_neg (by omega)
    · have hl : n < S.length := by omega
      rw [get_old hl] at e
      show ObR K _ ex _ (if n = S.length then p else φ n) q
      rw [if_neg z]
      refine (x.ob n q e).lat (x.wf n q e) (fun m h => if_neg (by omega)) (Kp.new hp) fun _ w ew => ?_
      rw [upd_ne (ne_of_none ew hp)]
      exact ew
  · have hn := get_lt e
    simp only [List.length_cons] at hn ⊢
    by_cases z : n = S.length
    · subst z
      rw [get_new] at e
      cases e
      exact SO.bel_mono (by omega) _ hb
    · rw [get_old (by omega)] at e
      exact SO.bel_mono (by omega) _ (x.wf n q e)
  · have hm := get_lt em
    have hn := get_lt en
    simp only [List.length_cons] at hm hn
    have old : ∀ {n q}, get (o :: S) n = some q → n ≠ S.length → q.mu = true → φ n ≠ p := fun {n q} e z mu hz => by
      have h1 := get_lt e
      simp only [List.length_cons] at h1
      rw [get_old (by omega)] at e
      obtain ⟨w, hw, _⟩ := (x.ob n q e).there mu
      rw [hz, hp] at hw
      cases hw
    have e' : (if m = S.length then p else φ m) = (if n = S.length then p else φ n) := e
    by_cases z1 : m = S.length <;> by_cases z2 : n = S.length
    · rw [z1, z2]
    · rw [if_pos z1, if_neg z2] at e'
      exact absurd e'.symm (old en z2 mn)
    · rw [if_neg z1, if_pos z2] at e'
      exact absurd e' (old em z1 mm)
    · rw [if_neg z1, if_neg z2] at e'
      rw [get_old (by omega)] at em en
      exact x.inj m n om on em en mm mn e'
/-- an object of the store is written -/
theorem SimO.write (x : SimO K φ ex H S) {n : Nat} {o o' : SO} {u : HO} (hn : get S n = some o) (mu : o.mu = true) (hb : o'.bel S.length = true)
    (ho : ∀ w, H (φ n) = some w → ObR K φ ex (upd H (φ n) u) (φ n) o') :
    Lat φ φ S (put S n o') H (upd H (φ n) u) ∧ SimO K φ ex (upd H (φ n) u) (put S n o') := by
  have hl := get_lt hn
  obtain ⟨w, hw, hm⟩ := (x.ob n o hn).there mu
  have k : Kp H (upd H (φ n) u) := Kp.set hw hm
  refine ⟨⟨by simp, fun _ _ => rfl, k, fun a o h hn => by rw [upd_ne (fun z => hn n hl z.symm)]; exact h, fun m h1 h2 => absurd h2 (by simp; omega), fun a h => ?_⟩, fun m q e => ?_, fun m q e => ?_, fun m m' om on em en mm mn e => ?_⟩
  · by_cases z : a = φ n
    · rw [z, upd_same] at h; cases h
    · rw [upd_ne z] at h; exact h
  · rw [get_put hl] at e
    by_cases z : m = n
    · rw [if_pos z] at e; cases e; subst z; exact ho w hw
    · rw [if_neg z] at e
      refine (x.ob m q e).lat (x.wf m q e) (fun _ _ => rfl) k fun mq v ev => ?_
      rw [upd_ne fun z2 => z (x.inj m n q o e hn mq mu z2)]
      exact ev
  · rw [put_length]
    rw [get_put hl] at e
    by_cases z : m = n
    · rw [if_pos z] at e; cases e; exact hb
    · rw [if_neg z] at e; exact x.wf m q e
  · have back : ∀ {m q}, get (put S n o') m = some q → q.mu = true → ∃ q', get S m = some q' ∧ q'.mu = true := fun {m q} e mq => by
      rw [get_put hl] at e
      by_cases z : m = n
      · subst z; exact ⟨o, hn, mu⟩
      · rw [if_neg z] at e; exact ⟨q, e, mq⟩
    obtain ⟨q1, a1, b1⟩ := back em mm
    obtain ⟨q2, a2, b2⟩ := back en mn
    exact x.inj m m' q1 q2 a1 a2 b1 b2 e
/-- the older part of the store -/
theorem SimO.old (x : SimO K φ ex H S) {k : Nat} (h : ∀ n o, get (S.drop k) n = some o → o.bel (S.drop k).length = true) : SimO K φ ex H (S.drop k) :=
  ⟨fun n o e => x.ob n o (by rw [← get_drop (get_lt e)]; exact e), h, fun m n om on em en => x.inj m n om on (by rw [← get_drop (get_lt em)]; exact em) (by rw [← get_drop (get_lt en)]; exact en)⟩
end
end Pw
end
section
set_option Elab.async false
set_option linter.all false
set_option maxRecDepth 100000
set_option maxHeartbeats 4000000
set_option autoImplicit false
/-! Pw1m: a tuple taken once; the sum of a tuple -/
namespace Pw
open PySem PySem.Spec PyProof.Rows L2
/-- a tuple taken once is itself -/
theorem tuple_mul1 (l : Addr) (items : Array Value) (n : Nat) (dd : Option Addr) (sl : Array (Option Value)) (u : Tok) :
    Meets (Builtin.«tuple.__mul__» ⟨[.ref l, .int 1 u], []⟩) (fun _ R s => s.heap.get? l = some { cls := .type "tuple", dict := dd, data := .seq items n, slots := sl } ∧ R (.ok (.ret (Value.ref l))) s) :=
  .of_wp fun prog w A R s h => by
    obtain ⟨hp, g, d, tk, os⟩ := s
    obtain ⟨hl, h⟩ := h
    have f1 := AutoSeq1.idx_int
    have c1 : (items.isEmpty || (1 : Int) == 1) = true := by simp
    wp_walk using wpAny_loadPart' hl
    repeat (first
      | (refine wpAny_ite_false (decide_eq_false (by decide)) ?_; wp_walk using wpAny_loadPart' hl)
      | (refine wpAny_ite_true (decide_eq_true (by rw [c1])) ?_; wp_walk using wpAny_loadPart' hl))
    exact ⟨_, rfl, h⟩
section
variable {X : Cx}
def rRep1 (K : PySem.W.Frag) : R2 := fun x y H Q => ∃ l xs, x = .ref l ∧ y = .int 1 ∧ SqT K H l xs ∧ Q (.ref l) H
theorem op_rep1 : OpR X (binaryOp .Mult) (rRep1 X.K) := by
  intro pins s σ H x y v u Q I rx ry h
  obtain ⟨l, xs, rfl, rfl, hT, q⟩ := h
  cases rx
  obtain ⟨t, rfl⟩ := ry
  obtain ⟨its, r, ⟨⟨cls, dd, data, sl⟩, ho, hc, n, hd⟩, hs⟩ := I.tuple hT
  simp only at hc hd
  subst hc hd
  exact wpAny_binaryOp_repeat_ref (T := "tuple") (U := "int") (by decide) ⟨_, ho, rfl⟩ (fun s' => typeIs_int s' 1 t) noFill_tuple_mul F.fills_int_mul F.slot_int_rmul repeat_tuple F.slot_int_index.lookup
    (call_meets F.slot_int_rmul (typeIs_int s 1 t) F.entry_int_rmul (F.args_int_rmul_2 _ _) (int_rmul_tuple 1 t l its.toArray n dd sl)
      ⟨ho, rfl, ⟨_, ho, rfl⟩, call_meets F.slot_tuple_mul ⟨_, ho, rfl⟩ F.entry_tuple_mul (F.args_tuple_mul_2 _ _) (tuple_mul1 l its.toArray n dd sl t) ⟨ho, ⟨.ref l, H, I, rfl, q⟩⟩⟩)
def rSumT (K : PySem.W.Frag) : List V → Hp → VK → Prop := fun vs H Q => ∃ (a : Addr) (ns : List Int), vs = [V.ref a] ∧ SqT K H a (ns.map V.int) ∧ Q (.int ns.sum) H
theorem cr_sumT (hc : X.calm = true) : CallR X (.builtin "sum") (rSumT X.K) := by
  intro pins s σ H vs us Q I r h
  obtain ⟨a, ns, rfl, hs, q⟩ := h
  obtain ⟨its, rv, hl, _⟩ := I.tuple hs
  rw [Vals.ref1 r]
  have hi : IntsAre its ns := rv.ints
  have hl : s.heap.IsTuple a its.toArray := hl
  obtain ⟨xs, hx⟩ := hi.allInts.items
  have hn : numsOf its.toArray.toList = ns := by rw [show its.toArray.toList = its from rfl, hi.numsOf]
  rw [hx] at hl hn
  rw [nums_intItems] at hn
  refine PySem.W.ktm_sumG (I.ok.hd hc) hl fun h' tk t' hk => ?_
  rw [preSum_eq, List.take_of_length_le (by simp), hn]
  exact ⟨.int _, H, I.kept hk, ⟨_, rfl⟩, q⟩
end
end Pw
end
section
set_option Elab.async false
set_option linter.all false
set_option maxRecDepth 100000
set_option maxHeartbeats 1000000
set_option autoImplicit false
/-! Pw2: the operations of Pw0 against the hand layer's rules -/
namespace Pw
open PySem PySem.Spec PyProof.Rows L2
/-- what stands beside: the written part, the classes' addresses, the exception at hand -/
structure Wo where
  K : PySem.W.Frag
  ex : Ex1
variable (w : Wo)
/-- a value at its place -/
def RE (φ : Nat → Addr) (H : Hp) (S : Store) (v : V) (d : D) : Prop := Rp w.K φ w.ex H v d ∧ D.bel S.length d = true
def REs (φ : Nat → Addr) (H : Hp) (S : Store) (v : List V) (d : List D) : Prop := RpA w.K φ w.ex H v d ∧ D.bels S.length d = true
def RB (_ : Nat → Addr) (_ : Hp) (_ : Store) (v : Bool) (d : Bool) : Prop := v = d
/-- objects alone -/
def Rg0 {α β : Type} (R : (Nat → Addr) → Hp → Store → β → α → Prop) (φ : Nat → Addr) (S : Store) (H : Hp) (r : Res α) (Q : β → Hp → Prop) : Prop := match r with
  | .ok a S' => ∀ b φ' H', Lat φ φ' S S' H H' → SimO w.K φ' w.ex H' S' → R φ' H' S' b a → Q b H'
  | .exc _ _ _ => True
  | .bad => False
variable {w}
section
variable {φ : Nat → Addr} {S : Store} {H : Hp} {d : D} {v : V} {Q : VK}
theorem Rg0.same (h : Rg0 w (RE w) φ S H (.ok d S) Q) (o : SimO w.K φ w.ex H S) (r : Rp w.K φ w.ex H v d) (b : D.bel S.length d = true) : Q v H := h v φ H Lat.refl o ⟨r, b⟩
/-- a new tuple -/
theorem Rg0.tup {ds : List D} {vs : List V} {p : Addr} (h : Rg0 w (RE w) φ S H (.ok (.tup ds) S) Q) (o : SimO w.K φ w.ex H S) (r : RpA w.K φ w.ex H vs ds) (b : D.bels S.length ds = true) (hp : H p = none) :
    Q (.ref p) (upd H p (.tup vs)) :=
  h _ φ _ (Lat.newT hp) (o.new hp) ⟨.tup (SqT.of upd_same) (r.mono b (fun _ _ => rfl) (Kp.new hp)), b⟩
/-- a new list -/
theorem Rg0.lst {ds : List D} {vs : List V} {p : Addr} (h : Rg0 w (RE w) φ S H (.ok (.obj S.length) (.lst ds :: S)) Q) (o : SimO w.K φ w.ex H S) (r : RpA w.K φ w.ex H vs ds) (b : D.bels S.length ds = true) (hp : H p = none) :
    Q (.ref p) (upd H p (.lst vs)) := by
  obtain ⟨φ', l, e, o'⟩ := o.push (u := .lst vs) (o := .lst ds) hp b fun φ' e => ⟨vs, upd_same, r.mono b e (Kp.new hp)⟩
  refine h _ φ' _ l o' ⟨?_, ?_⟩
  · have := Rp.obj (K := w.K) (φ := φ') (ex := w.ex) (H := upd H p (.lst vs)) S.length
    rw [e] at this
    exact this
  · show Nat.blt S.length (S.length + 1) = true
    exact Nat.ble_eq_true_of_le (Nat.le_refl _)
theorem rp_str {K : PySem.W.Frag} {ex : Ex1} {x : Str} {s : List Nat} (h : x.cps.toList = s) : Rp K φ ex H (.str x) (.str s) := h ▸ .str x
theorem line_eq : sizeLine = line := by rw [sizeLine_eq]; rfl
theorem toList_app (x y : Str) : (x ++ y).cps.toList = x.cps.toList ++ y.cps.toList := by
  show (x.cps ++ y.cps).toList = _
  simp
theorem str_len (x : Str) : x.length = x.cps.toList.length := by
  show x.cps.size = _
  simp
end
section
variable {X : Cx} (w)
/-- an operator by what it does to values -/
def rB (o : Bop) : R2 := fun x y H Q => ∃ φ S dx dy, SimO w.K φ w.ex H S ∧ RE w φ H S x dx ∧ RE w φ H S y dy ∧ Rg0 w (RE w) φ S H (binD o dx dy S) Q
variable {w}
theorem Rg0.ite {α β : Type} {R : (Nat → Addr) → Hp → Store → β → α → Prop} {φ : Nat → Addr} {S : Store} {H : Hp} {Q : β → Hp → Prop} {c : Prop} [Decidable c] {r : Res α} (h : Rg0 w R φ S H (if c then r else .bad) Q) : c ∧ Rg0 w R φ S H r Q := by
  by_cases hc : c
  · rw [if_pos hc] at h; exact ⟨hc, h⟩
  · rw [if_neg hc] at h; exact h.elim
theorem opR_add (hK : w.K = X.K) : OpR X (binaryOp .Add) (rB w .add) := by
  intro pins s σ H x y v u Q I rx ry h
  obtain ⟨φ, S, dx, dy, so, ⟨px, bx⟩, ⟨py, by_⟩, h⟩ := h
  cases px <;> cases py <;> first | exact h.elim | skip
  · exact op_add pins s σ H _ _ v u Q I rx ry ⟨_, _, rfl, rfl, h.same so (.int _) rfl⟩
  · rename_i i j
    have h : Rg0 w (RE w) φ S H (if i.cps.toList.length + j.cps.toList.length ≤ line then .ok (.str (i.cps.toList ++ j.cps.toList)) S else .bad) Q := h
    obtain ⟨hl, h⟩ := h.ite
    refine op_add_str pins s σ H _ _ v u Q I rx ry ⟨i, j, rfl, rfl, ?_, ?_⟩
    · rw [str_len, str_len, line_eq]; exact hl
    · exact h.same so (rp_str (toList_app _ _)) rfl
  · rename_i a vs ds h1 r1 b vs' ds' h2 r2
    have h : Rg0 w (RE w) φ S H (if ds.length + ds'.length ≤ line then .ok (.tup (ds ++ ds')) S else .bad) Q := h
    obtain ⟨hl, h⟩ := h.ite
    rw [hK] at h1 h2
    have b1 : D.bels S.length ds = true := by simpa [D.bel] using bx
    have b2 : D.bels S.length ds' = true := by simpa [D.bel] using by_
    refine op_catA pins s σ H _ _ v u Q I rx ry ⟨a, b, vs, vs', rfl, rfl, h1, h2, ?_, fun e => ?_, fun _ e => ?_, fun _ _ p hp => ?_⟩
    · rw [r1.length, r2.length, line_eq]; exact hl
    · subst e
      cases r1
      exact h.same so (.tup (hK ▸ h2) r2) by_
    · subst e
      cases r2
      rw [List.append_nil] at h
      exact h.same so (.tup (hK ▸ h1) r1) bx
    · exact h.tup so (r1.append r2) (bels_all.mpr fun d hd => (List.mem_append.mp hd).elim (bels_all.mp b1 d) (bels_all.mp b2 d)) hp
  · rename_i m n
    have h : Rg0 w (RE w) φ S H (match get S m, get S n with
      | some (.lst x), some (.lst y) => if x.length + y.length ≤ line then .ok (.obj S.length) (.lst (x ++ y) :: S) else .bad
      | _, _ => .bad) Q := h
    cases e1 : get S m with
    | none => rw [e1] at h; exact h.elim
    | some o1 => cases e2 : get S n with
      | none => rw [e1, e2] at h; cases o1 <;> exact h.elim
      | some o2 =>
        rw [e1, e2] at h
        cases o1 <;> cases o2 <;> first | exact h.elim | skip
        rename_i ds ds'
        obtain ⟨hl, h⟩ := h.ite
        obtain ⟨vs, k1, r1⟩ := so.ob m _ e1
        obtain ⟨vs', k2, r2⟩ := so.ob n _ e2
        have b1 : D.bels S.length ds = true := so.wf m _ e1
        have b2 : D.bels S.length ds' = true := so.wf n _ e2
        refine op_cat pins s σ H _ _ v u Q I rx ry ⟨_, _, vs, vs', rfl, rfl, k1, k2, ?_, fun p hp => ?_⟩
        · rw [r1.length, r2.length, line_eq]; exact hl
        · exact h.lst so (r1.append r2) (bels_all.mpr fun d hd => (List.mem_append.mp hd).elim (bels_all.mp b1 d) (bels_all.mp b2 d)) hp
theorem opR_sub : OpR X (binaryOp .Sub) (rB w .sub) := by
  intro pins s σ H x y v u Q I rx ry h
  obtain ⟨φ, S, dx, dy, so, ⟨px, bx⟩, ⟨py, by_⟩, h⟩ := h
  cases px <;> cases py <;> first | exact h.elim | skip
  exact op_sub pins s σ H _ _ v u Q I rx ry ⟨_, _, rfl, rfl, h.same so (.int _) rfl⟩
theorem opR_fdiv : OpR X (binaryOp .FloorDiv) (rB w .fdiv) := by
  intro pins s σ H x y v u Q I rx ry h
  obtain ⟨φ, S, dx, dy, so, ⟨px, bx⟩, ⟨py, by_⟩, h⟩ := h
  cases px <;> cases py <;> first | exact h.elim | skip
  rename_i i j
  have h : Rg0 w (RE w) φ S H (if 0 < j ∧ j.natAbs.log2 < 9000 then .ok (.int (i / j)) S else .bad) Q := h
  obtain ⟨hc, h⟩ := h.ite
  exact op_fdivW pins s σ H _ _ v u Q I rx ry ⟨_, _, rfl, rfl, hc, h.same so (.int _) rfl⟩
theorem opR_mod : OpR X (binaryOp .Mod) (rB w .mod) := by
  intro pins s σ H x y v u Q I rx ry h
  obtain ⟨φ, S, dx, dy, so, ⟨px, bx⟩, ⟨py, by_⟩, h⟩ := h
  cases px <;> cases py <;> first | exact h.elim | skip
  rename_i i j
  have h : Rg0 w (RE w) φ S H (if 0 < j then .ok (.int (i % j)) S else .bad) Q := h
  obtain ⟨hc, h⟩ := h.ite
  exact op_mod pins s σ H _ _ v u Q I rx ry ⟨_, _, rfl, rfl, hc, h.same so (.int _) rfl⟩
theorem opR_pow : OpR X (binaryOp .Pow) (rB w .pow) := by
  intro pins s σ H x y v u Q I rx ry h
  obtain ⟨φ, S, dx, dy, so, ⟨px, bx⟩, ⟨py, by_⟩, h⟩ := h
  cases px <;> cases py <;> first | exact h.elim | skip
  rename_i i j
  have h : Rg0 w (RE w) φ S H (if 0 ≤ j ∧ j ≤ 1000000 ∧ i.natAbs < 2 ^ 64 then .ok (.int (i ^ j.toNat)) S else .bad) Q := h
  obtain ⟨hc, h⟩ := h.ite
  exact op_pow pins s σ H _ _ v u Q I rx ry ⟨_, _, rfl, rfl, hc, h.same so (.int _) rfl⟩
theorem opR_shl : OpR X (binaryOp .LShift) (rB w .shl) := by
  intro pins s σ H x y v u Q I rx ry h
  obtain ⟨φ, S, dx, dy, so, ⟨px, bx⟩, ⟨py, by_⟩, h⟩ := h
  cases px <;> cases py <;> first | exact h.elim | skip
  rename_i i j
  have h : Rg0 w (RE w) φ S H (if 0 ≤ j ∧ j ≤ 1000000 ∧ i.natAbs < 2 ^ 64 then .ok (.int (i * 2 ^ j.toNat)) S else .bad) Q := h
  obtain ⟨hc, h⟩ := h.ite
  exact op_shl pins s σ H _ _ v u Q I rx ry ⟨_, _, rfl, rfl, hc, h.same so (.int _) rfl⟩
theorem opR_shr : OpR X (binaryOp .RShift) (rB w .shr) := by
  intro pins s σ H x y v u Q I rx ry h
  obtain ⟨φ, S, dx, dy, so, ⟨px, bx⟩, ⟨py, by_⟩, h⟩ := h
  cases px <;> cases py <;> first | exact h.elim | skip
  rename_i i j
  have h : Rg0 w (RE w) φ S H (if 0 ≤ j then .ok (.int (i / 2 ^ j.toNat)) S else .bad) Q := h
  obtain ⟨hc, h⟩ := h.ite
  exact op_shr pins s σ H _ _ v u Q I rx ry ⟨_, _, rfl, rfl, hc, h.same so (.int _) rfl⟩
theorem opR_band : OpR X (binaryOp .BitAnd) (rB w .band) := by
  intro pins s σ H x y v u Q I rx ry h
  obtain ⟨φ, S, dx, dy, so, ⟨px, bx⟩, ⟨py, by_⟩, h⟩ := h
  cases px <;> cases py <;> first | exact h.elim | skip
  rename_i i j
  have h : Rg0 w (RE w) φ S H (if j = 1 then .ok (.int (i % 2)) S else .bad) Q := h
  obtain ⟨hc, h⟩ := h.ite
  subst hc
  refine op_and pins s σ H _ _ v u Q I rx ry ⟨_, _, rfl, rfl, ?_⟩
  show Q (.int (Builtin.bitAnd i 1)) H
  rw [bitAnd_m1]
  exact h.same so (.int _) rfl
theorem mul_bad {l : List Nat} {d : D} {S : Store} (h : ∀ j, d ≠ .int j) : binD .mul (.str l) d S = .bad := by
  rcases l with _ | ⟨c, _ | ⟨c2, l⟩⟩ <;> cases d <;> first | rfl | exact absurd rfl (h _)
theorem mul_one {l : List Nat} {j : Int} {S : Store} : (∃ c, l = [c] ∧ binD .mul (.str l) (.int j) S = if j ≤ line ∧ -(2 ^ 62) ≤ j then .ok (.str (List.replicate j.toNat c)) S else .bad) ∨ binD .mul (.str l) (.int j) S = .bad := by
  rcases l with _ | ⟨c, _ | ⟨c2, l⟩⟩
  · exact .inr rfl
  · exact .inl ⟨c, rfl, rfl⟩
  · exact .inr rfl
theorem rpA_rep {K : PySem.W.Frag} {φ : Nat → Addr} {ex : Ex1} {H : Hp} {vs : List V} {ds : List D} (r : RpA K φ ex H vs ds) : ∀ n : Nat, RpA K φ ex H (List.replicate n vs).flatten (List.replicate n ds).flatten
  | 0 => .nil
  | n + 1 => by
    rw [List.replicate_succ, List.replicate_succ, List.flatten_cons, List.flatten_cons]
    exact r.append (rpA_rep r n)
theorem opR_mul (hK : w.K = X.K) : OpR X (binaryOp .Mult) (rB w .mul) := by
  intro pins s σ H x y v u Q I rx ry h
  obtain ⟨φ, S, dx, dy, so, ⟨px, bx⟩, ⟨py, by_⟩, h⟩ := h
  cases px with
  | str x =>
    have bad : ∀ d, (∀ j, d ≠ .int j) → Rg0 w (RE w) φ S H (binD .mul (.str x.cps.toList) d S) Q → False := fun d hd hh => by rw [mul_bad hd] at hh; exact hh
    cases py with
    | int j =>
      rcases mul_one (l := x.cps.toList) (j := j) (S := S) with ⟨c, ec, e⟩ | e
      · rw [e] at h
        obtain ⟨⟨hc1, hc2⟩, h⟩ := h.ite
        obtain ⟨t, rfl⟩ := rx
        obtain ⟨t', rfl⟩ := ry
        obtain ⟨⟨l⟩⟩ := x
        have ec : l = [c] := ec
        subst ec
        refine SB.mul ⟨?_, fun h1 _ => ?_, fun h1 _ => ?_⟩ fun tk k => ⟨.str _, H, I.tok _, ⟨_, rfl⟩, h.same so (rp_str (mul_one_list c j)) rfl⟩
        · simp only [line] at hc1
          simp only [Bool.or_eq_false_iff, decide_eq_false_iff_not]
          omega
        · simp only [line] at hc1
          have e1 : ((⟨⟨[c]⟩⟩ : Str).length : Int) = 1 := rfl
          rw [e1]
          have : (1 : Int) ≤ (2 ^ 63 - 1) / j := by
            rw [Int.le_ediv_iff_mul_le (by omega)]
            omega
          omega
        · show decide _ = false
          simp only [line] at hc1
          have e1 : (⟨⟨[c]⟩⟩ : Str).length = 1 := rfl
          rw [e1, Nat.one_mul, decide_eq_false_iff_not, line_eq]
          simp only [line]
          omega
      · rw [e] at h; exact h.elim
    | _ => exact (bad _ (by intro j q; cases q) h).elim
  | int i =>
    cases py <;> first | exact h.elim | skip
    rename_i j
    have h : Rg0 w (RE w) φ S H (if mulOk i j = true then .ok (.int (i * j)) S else .bad) Q := h
    obtain ⟨hc, h⟩ := h.ite
    have hc : i.natAbs.log2 + j.natAbs.log2 < 1000000 := of_decide_eq_true hc
    exact op_mulW pins s σ H _ _ v u Q I rx ry ⟨_, _, rfl, rfl, hc, h.same so (.int _) rfl⟩
  | @tup a vs ds h1 r1 =>
    cases py <;> first | exact h.elim | skip
    rename_i j
    have h : Rg0 w (RE w) φ S H (if 0 < ds.length ∧ ds.length ≤ 1000 ∧ 1 ≤ j ∧ j ≤ 1000 then .ok (.tup (List.replicate j.toNat ds).flatten) S else .bad) Q := h
    obtain ⟨⟨hc1, hc2, hc3, hc4⟩, h⟩ := h.ite
    rw [hK] at h1
    have b1 : D.bels S.length ds = true := by simpa [D.bel] using bx
    by_cases e : j = 1
    · subst e
      refine op_rep1 pins s σ H _ _ v u Q I rx ry ⟨a, vs, rfl, rfl, h1, ?_⟩
      have e2 : (List.replicate (1 : Int).toNat ds).flatten = ds := by simp
      rw [e2] at h
      exact h.same so (.tup (hK ▸ h1) r1) bx
    · refine op_repT pins s σ H _ _ v u Q I rx ry ⟨a, j, vs, rfl, rfl, h1, fun z => ?_, by omega, hc4, by rw [r1.length]; exact hc2, fun p hp => ?_⟩
      · subst z
        have := r1.length
        simp at this
        omega
      · refine h.tup so (rpA_rep r1 j.toNat) (bels_all.mpr fun d hd => ?_) hp
        rw [List.mem_flatten] at hd
        obtain ⟨l, hl, hd⟩ := hd
        rw [(List.mem_replicate.mp hl).2] at hd
        exact bels_all.mp b1 d hd
  | obj m =>
    cases py <;> first | exact h.elim | skip
    rename_i j
    have h : Rg0 w (RE w) φ S H (match get S m with
      | some (.lst xs) => if -(2 ^ 62) ≤ j ∧ j ≤ line ∧ xs.length * j.toNat ≤ line then .ok (.obj S.length) (.lst (List.replicate j.toNat xs).flatten :: S) else .bad
      | _ => .bad) Q := h
    cases e1 : get S m with
    | none => rw [e1] at h; exact h.elim
    | some o1 =>
      rw [e1] at h
      cases o1 <;> first | exact h.elim | skip
      rename_i ds
      obtain ⟨⟨hc1, hc2, hc3⟩, h⟩ := h.ite
      obtain ⟨vs, k1, r1⟩ := so.ob m _ e1
      have b1 : D.bels S.length ds = true := so.wf m _ e1
      simp only [line] at hc2 hc3
      refine op_rep pins s σ H _ _ v u Q I rx ry ⟨_, j, vs, rfl, rfl, k1, by omega, by omega, by rw [r1.length, line_eq]; exact hc3, fun p hp => ?_⟩
      refine h.lst so (rpA_rep r1 j.toNat) (bels_all.mpr fun d hd => ?_) hp
      rw [List.mem_flatten] at hd
      obtain ⟨l, hl, hd⟩ := hd
      rw [(List.mem_replicate.mp hl).2] at hd
      exact bels_all.mp b1 d hd
  | _ => cases py <;> exact h.elim
end
end Pw
end
section
set_option Elab.async false
set_option linter.all false
set_option maxRecDepth 100000
set_option maxHeartbeats 1000000
set_option autoImplicit false
/-! Pw3: comparisons -/
namespace Pw
open PySem PySem.Spec PyProof.Rows L2
theorem alls_true {f : D → D → Option Bool} : ∀ {xs ys : List D}, (∀ (i : Nat) (x y : D), xs[i]? = some x → ys[i]? = some y → ∀ c, f x y = some c → c = true) → xs.length = ys.length → ∀ c, alls f xs ys = some c → c = true
  | [], [], _, _, c, h => by cases h; rfl
  | x :: r, y :: t, h, hl, c, e => by
    simp only [alls] at e
    cases q : f x y with
    | none => rw [q] at e; cases e
    | some k =>
      rw [q] at e
      have hk := h 0 x y rfl rfl k q
      subst hk
      cases z : alls f r t with
      | none => rw [z] at e; cases e
      | some k2 =>
        rw [z] at e
        cases e
        exact alls_true (fun i a b ha hb => h (i + 1) a b (by simpa using ha) (by simpa using hb)) (by simpa using hl) k2 z
  | [], _ :: _, _, hl, _, _ => by simp at hl
  | _ :: _, [], _, hl, _, _ => by simp at hl
section
variable {X : Cx} {w : Wo} {pins : List (Addr × Obj)} {σ : L2.St} {H : Hp} {s : Shared} {φ : Nat → Addr} {S : Store}
theorem deq_bad {n : Nat} {a : D} {c : Nat} {fs : List D} : deq S n (.exc c fs) a = none ∧ deq S n a (.exc c fs) = none := by
  cases n with
  | zero => exact ⟨rfl, rfl⟩
  | succ n => cases a <;> exact ⟨rfl, rfl⟩
theorem tup_not_lst (I : Inv X pins σ H s) {a : Addr} {vs ws : List V} (h1 : SqT X.K H a vs) (e1 : SqL X.K H a ws) : False := by
  obtain ⟨_, _, ht, _⟩ := I.tuple h1
  obtain ⟨_, _, ⟨o, k, e2, c2, _⟩, _⟩ := I.list e1
  obtain ⟨o', e3, c3, _⟩ := ht
  rw [e2] at e3; cases e3
  rw [c2] at c3
  injection c3 with c3
  exact absurd c3 (by decide)
theorem deq_lst {n m m' : Nat} {c : Bool} (h : deq S (n + 1) (.obj m) (.obj m') = some c) :
    (∃ xs ys, get S m = some (.lst xs) ∧ get S m' = some (.lst ys) ∧ (if xs.length = ys.length then alls (deq S n) xs ys else some false) = some c) ∨
    (∃ xs ys, get S m = some (.dct xs) ∧ get S m' = some (.dct ys) ∧ xs.map (·.1) = ys.map (·.1) ∧ alls (deq S n) (xs.map (·.2)) (ys.map (·.2)) = some c) := by
  have h : (match get S m, get S m' with
      | some (.lst x), some (.lst y) => if x.length = y.length then alls (deq S n) x y else some false
      | some (.dct x), some (.dct y) => if x.map (·.1) = y.map (·.1) then alls (deq S n) (x.map (·.2)) (y.map (·.2)) else none
      | _, _ => none) = some c := h
  split at h
  · rename_i x y h1 h2
    exact .inl ⟨x, y, h1, h2, h⟩
  · rename_i x y h1 h2
    split at h
    · rename_i e
      exact .inr ⟨x, y, h1, h2, e, h⟩
    · cases h
  · cases h
theorem deq_objL {n m : Nat} {c : Bool} {d : D} (hd : ∀ k, d ≠ .obj k) (hx : ∀ a b, d ≠ .exc a b) (h : deq S (n + 1) (.obj m) d = some c) : (∃ xs, get S m = some (.lst xs)) ∧ c = false := by
  have h : (match get S m with
      | some (.lst _) => some false
      | _ => none) = some c := by
    cases d <;> first | exact h | exact absurd rfl (hd _) | exact absurd rfl (hx _ _)
  split at h
  · rename_i xs e
    cases h
    exact ⟨⟨xs, e⟩, rfl⟩
  · cases h
theorem deq_objR {n m : Nat} {c : Bool} {d : D} (hd : ∀ k, d ≠ .obj k) (hx : ∀ a b, d ≠ .exc a b) (h : deq S (n + 1) d (.obj m) = some c) : (∃ xs, get S m = some (.lst xs)) ∧ c = false := by
  have h : (match get S m with
      | some (.lst _) => some false
      | _ => none) = some c := by
    cases d <;> first | exact h | exact absurd rfl (hd _) | exact absurd rfl (hx _ _)
  split at h
  · rename_i xs e
    cases h
    exact ⟨⟨xs, e⟩, rfl⟩
  · cases h
/-- one value against itself -/
theorem deq_same (hK : w.K = X.K) (I : Inv X pins σ H s) (so : SimO w.K φ w.ex H S) : ∀ (n : Nat) (x y : V) (d e : D), x = y → Rp w.K φ w.ex H x d → Rp w.K φ w.ex H y e → ∀ c, deq S n d e = some c → c = true
  | 0, _, _, _, _, _, _, _, _, h => by cases h
  | n + 1, x, y, d, e, exy, r, q, c, h => by
    have ih := deq_same hK I so n
    have row : ∀ (vs : List V) (ds es : List D), RpA w.K φ w.ex H vs ds → RpA w.K φ w.ex H vs es → ∀ c, alls (deq S n) ds es = some c → c = true := fun vs ds es r1 r2 c hc =>
      alls_true (fun i a b ha hb k hk => by
        obtain ⟨v1, e1, p1⟩ := r1.get a ha
        obtain ⟨v2, e2, p2⟩ := r2.get b hb
        rw [e1] at e2; cases e2
        exact ih v1 v1 a b rfl p1 p2 k hk) (by rw [← r1.length, ← r2.length]) c hc
    cases r with
    | non =>
      cases q <;> cases exy
      cases h; rfl
    | bl b =>
      cases q <;> cases exy
      simp [deq] at h; exact h
    | int b =>
      cases q <;> cases exy
      simp [deq] at h; exact h
    | str b =>
      cases q <;> cases exy
      simp [deq] at h; exact h
    | exc _ => rw [deq_bad.1] at h; cases h
    | tup h1 r1 => cases q with
      | tup h2 r2 =>
        cases exy
        rw [hK] at h1 h2
        have ev := I.tuple_inj h1 h2
        subst ev
        have h : (if _ then alls (deq S n) _ _ else _) = some c := h
        rw [if_pos (by rw [← r1.length, ← r2.length])] at h
        exact row _ _ _ r1 r2 c h
      | obj m =>
        exfalso
        injection exy with exy
        subst exy
        obtain ⟨⟨xs, g⟩, _⟩ := deq_objR (by simp) (by simp) h
        obtain ⟨vs, e1, _⟩ := so.ob m _ g
        rw [hK] at h1
        exact tup_not_lst I h1 (SqL.of e1)
      | exc _ => rw [deq_bad.2] at h; cases h
      | _ => cases exy
    | obj m => cases q with
      | obj m2 =>
        injection exy with exy
        rcases deq_lst h with ⟨xs, ys, g1, g2, h⟩ | ⟨xs, ys, g1, g2, _, h⟩
        · have em := so.inj m m2 _ _ g1 g2 rfl rfl exy
          subst em
          rw [g1] at g2; cases g2
          rw [if_pos rfl] at h
          obtain ⟨vs, _, r1⟩ := so.ob m _ g1
          exact row _ _ _ r1 r1 c h
        · have em := so.inj m m2 _ _ g1 g2 rfl rfl exy
          subst em
          rw [g1] at g2; cases g2
          obtain ⟨vs, _, _, r1, _⟩ := so.ob m _ g1
          exact row _ _ _ r1 r1 c h
      | tup h2 r2 =>
        exfalso
        injection exy with exy
        subst exy
        obtain ⟨⟨xs, g⟩, _⟩ := deq_objL (by simp) (by simp) h
        obtain ⟨vs, e1, _⟩ := so.ob m _ g
        rw [hK] at h2
        exact tup_not_lst I h2 (SqL.of e1)
      | exc _ => rw [deq_bad.2] at h; cases h
      | _ => cases exy
theorem allR_of {f : D → D → Option Bool} : ∀ {xs ys : List D} {c : Bool}, xs.length = ys.length → alls f xs ys = some c → ∃ e : Nat → Bool, (List.range xs.length).all e = c ∧ ∀ (i : Nat) (x y : D), xs[i]? = some x → ys[i]? = some y → f x y = some (e i)
  | [], [], c, _, h => by cases h; exact ⟨fun _ => true, rfl, fun i x y h => by simp at h⟩
  | x :: r, y :: t, c, hl, h => by
    simp only [alls] at h
    cases q : f x y with
    | none => rw [q] at h; cases h
    | some k =>
      rw [q] at h
      cases z : alls f r t with
      | none => rw [z] at h; cases h
      | some k2 =>
        rw [z] at h
        cases h
        obtain ⟨e, he, hi⟩ := allR_of (by simpa using hl) z
        refine ⟨fun i => match i with | 0 => k | i + 1 => e i, ?_, fun i a b ha hb => ?_⟩
        · rw [List.length_cons, List.range_succ_eq_map, List.all_cons, List.all_map, ← he]
          simp [Function.comp_def]
        · cases i with
          | zero => simp at ha hb; subst ha hb; exact q
          | succ i => exact hi i a b (by simpa using ha) (by simpa using hb)
  | [], _ :: _, _, hl, _ => by simp at hl
  | _ :: _, [], _, hl, _ => by simp at hl
theorem kV_inj {a b : Key} (h : kV a = kV b) : a = b := by
  cases a <;> cases b <;> cases h <;> rfl
theorem str_ext {x y : Str} (h : x.cps.toList = y.cps.toList) : x = y := by
  obtain ⟨⟨a⟩⟩ := x
  obtain ⟨⟨b⟩⟩ := y
  simp at h
  subst h
  rfl
theorem rp_inv {K : PySem.W.Frag} {ex : Ex1} {x : V} {d : D} (r : Rp K φ ex H x d) : match d with
    | .non => x = .non
    | .bl b => x = .bl b
    | .int i => x = .int i
    | .str l => ∃ z : Str, x = .str z ∧ z.cps.toList = l
    | .tup ds => ∃ a vs, x = .ref a ∧ SqT K H a vs ∧ RpA K φ ex H vs ds
    | .obj n => x = .ref (φ n)
    | .exc c fs => False := by
  cases r with
  | non => rfl
  | bl b => rfl
  | int i => rfl
  | str z => exact ⟨z, rfl, rfl⟩
  | tup h r => exact ⟨_, _, rfl, h, r⟩
  | obj n => rfl
  | exc h => exact h
theorem rp_flat_inj {K : PySem.W.Frag} {ex : Ex1} {x y : V} {d : D} (fx : flatV x = true) (fy : flatV y = true) (r : Rp K φ ex H x d) (q : Rp K φ ex H y d) : x = y := by
  have r := rp_inv r
  have q := rp_inv q
  cases d with
  | non => rw [r, q]
  | bl b => rw [r, q]
  | int b => rw [r, q]
  | str b =>
    obtain ⟨z1, e1, h1⟩ := r
    obtain ⟨z2, e2, h2⟩ := q
    rw [e1, e2, str_ext (h1.trans h2.symm)]
  | tup b => obtain ⟨a, vs, e, _⟩ := r; rw [e] at fx; cases fx
  | obj b => rw [r] at fx; cases fx
  | exc c b => exact r.elim
/-- keys over the same row of values are the same -/
theorem keys_same {K : PySem.W.Frag} {ex : Ex1} : ∀ {ks ks' : List Key} {ds : List D}, RpA K φ ex H (ks.map kV) ds → RpA K φ ex H (ks'.map kV) ds → ks = ks'
  | [], [], _, _, _ => rfl
  | [], _ :: _, _, h1, h2 => by have a := h1.length; have b := h2.length; simp only [List.length_map, List.length_nil, List.length_cons] at a b; omega
  | _ :: _, [], _, h1, h2 => by have a := h1.length; have b := h2.length; simp only [List.length_map, List.length_nil, List.length_cons] at a b; omega
  | a :: r, b :: t, d :: ds, .cons q1 r1, .cons q2 r2 => by
    rw [kV_inj (rp_flat_inj (by cases a <;> rfl) (by cases b <;> rfl) q1 q2), keys_same r1 r2]
def ixOf {α : Type} [DecidableEq α] (a : α) : List α → Nat
  | [] => 0
  | x :: r => if x = a then 0 else ixOf a r + 1
theorem ixOf_nodup {α : Type} [DecidableEq α] : ∀ {l : List α}, l.Nodup → ∀ (i : Nat) (h : i < l.length), ixOf l[i] l = i
  | a :: r, nd, 0, h => by simp [ixOf]
  | a :: r, nd, i + 1, h => by
    have nd' := List.nodup_cons.mp nd
    have hi : i < r.length := by simpa using h
    have hm : r[i] ∈ r := List.getElem_mem hi
    have ne : ¬ a = r[i] := fun z => nd'.1 (z ▸ hm)
    rw [List.getElem_cons_succ, ixOf, if_neg ne, ixOf_nodup nd'.2 i hi]
theorem kv_keys : ∀ {ws : List (Key × V)} {vs : List (Key × Value)}, KV ws vs → ws.map (·.1) = vs.map (·.1)
  | _, _, .nil => rfl
  | _, _, .cons h t => by rw [List.map_cons, List.map_cons, h.1, kv_keys t]
theorem kv_vals : ∀ {ws : List (Key × V)} {vs : List (Key × Value)}, KV ws vs → Vals (ws.map (·.2)) (vs.map (·.2))
  | _, _, .nil => .nil
  | _, _, .cons h t => .cons h.2 (kv_vals t)
theorem str_beq {x y : Str} : (x == y) = decide (x.cps.toList = y.cps.toList) := by
  by_cases h : x = y
  · subst h; simp
  · have h2 : ¬ x.cps.toList = y.cps.toList := fun z => h (str_ext z)
    rw [decide_eq_false h2]
    simpa using h
open PySem.W in
/-- == of two values as the library's tree -/
theorem deq_tree (hK : w.K = X.K) (I : Inv X pins σ H s) (so : SimO w.K φ w.ex H S) : ∀ (n : Nat) (x y : V) (u v : Value) (d e : D), RelV x u → RelV y v → Rp w.K φ w.ex H x d → Rp w.K φ w.ex H y e → ∀ c, deq S n d e = some c → EqTree X.prog X.w s n u v c
  | 0, _, _, _, _, _, _, _, _, _, _, _, h => by cases h
  | n + 1, x, y, u, v, d, e, ru, rv, r, q, c, h => by
    have ih := deq_tree hK I so n
    have flat : ∀ (P : flatV x = true ∧ flatV y = true), eqV x y = c → EqTree X.prog X.w s (n + 1) u v c := fun P e => e ▸ EqTree.leaf fun A hu => eqAt_V ru rv P.1 P.2
    have row : ∀ (vs ws : List V) (ds es : List D) (as bs : List Value), RpA w.K φ w.ex H vs ds → RpA w.K φ w.ex H ws es → Vals vs as → Vals ws bs → ds.length = es.length → ∀ c, alls (deq S n) ds es = some c →
        ∃ k : Nat → Bool, (List.range as.toArray.size).all k = c ∧ ∀ j (h1 : j < as.toArray.size) (h2 : j < bs.toArray.size), EqTree X.prog X.w s n as.toArray[j] bs.toArray[j] (k j) := fun vs ws ds es as bs r1 r2 v1 v2 hl c hc => by
      obtain ⟨k, hk, hi⟩ := allR_of hl hc
      refine ⟨k, ?_, fun j h1 h2 => ?_⟩
      · rw [← hk, List.size_toArray, ← v1.length, r1.length]
      · have g1 : j < as.length := by simpa using h1
        have g2 : j < bs.length := by simpa using h2
        have l1 : j < vs.length := by rw [v1.length]; exact g1
        have l2 : j < ws.length := by rw [v2.length]; exact g2
        obtain ⟨d1, e1, p1⟩ := r1.getv (List.getElem?_eq_getElem l1)
        obtain ⟨d2, e2, p2⟩ := r2.getv (List.getElem?_eq_getElem l2)
        obtain ⟨u1, f1, q1⟩ := v1.get (List.getElem?_eq_getElem l1)
        obtain ⟨u2, f2, q2⟩ := v2.get (List.getElem?_eq_getElem l2)
        rw [List.getElem?_eq_getElem g1] at f1
        rw [List.getElem?_eq_getElem g2] at f2
        cases f1; cases f2
        exact ih _ _ _ _ _ _ q1 q2 p1 p2 _ (hi j _ _ e1 e2)
    have sames : u = v → EqTree X.prog X.w s (n + 1) u v c := fun z => by
      subst z
      have := deq_same hK I so (n + 1) x y d e (ru.inj rv) r q c h
      subst this
      exact .same
    have lists : ∀ {m m' : Nat} {xs ys : List D}, d = .obj m → e = .obj m' → get S m = some (.lst xs) → get S m' = some (.lst ys) → (if xs.length = ys.length then alls (deq S n) xs ys else some false) = some c → EqTree X.prog X.w s (n + 1) u v c := fun {m m' xs ys} ed ee g1 g2 hc => by
      subst ed ee
      have ex_ := rp_inv r
      have ey := rp_inv q
      dsimp only at ex_ ey
      subst ex_ ey
      have ru' := ru
      have rv' := rv
      cases ru'; cases rv'
      by_cases hne : (Value.ref (φ m)) = Value.ref (φ m')
      · exact sames hne
      · obtain ⟨vs, h1, r1⟩ := so.ob m _ g1
        obtain ⟨ws, h2, r2⟩ := so.ob m' _ g2
        obtain ⟨as, v1, p1, _⟩ := I.list (SqL.of h1)
        obtain ⟨bs, v2, p2, _⟩ := I.list (SqL.of h2)
        by_cases hl : xs.length = ys.length
        · rw [if_pos hl] at hc
          obtain ⟨k, hk, hi⟩ := row vs ws xs ys as bs r1 r2 v1 v2 hl c hc
          rw [← hk]
          exact .lists (fun z => hne (by rw [z])) p1.isList p2.isList (by simp only [List.size_toArray]; rw [← v1.length, ← v2.length, r1.length, r2.length, hl]) hi
        · rw [if_neg hl] at hc
          cases hc
          refine .listsLen (fun z => hne (by rw [z])) p1.isList p2.isList ?_
          have : as.length ≠ bs.length := by rw [← v1.length, ← v2.length, r1.length, r2.length]; exact hl
          simpa using this
    have dicts : ∀ {m m' : Nat} {xs ys : List (D × D)}, d = .obj m → e = .obj m' → get S m = some (.dct xs) → get S m' = some (.dct ys) → xs.map (·.1) = ys.map (·.1) → alls (deq S n) (xs.map (·.2)) (ys.map (·.2)) = some c → EqTree X.prog X.w s (n + 1) u v c := fun {m m' xs ys} ed ee g1 g2 hk hc => by
      subst ed ee
      have ex_ := rp_inv r
      have ey := rp_inv q
      dsimp only at ex_ ey
      subst ex_ ey
      have ru' := ru
      have rv' := rv
      cases ru'; cases rv'
      by_cases hne : (Value.ref (φ m)) = Value.ref (φ m')
      · exact sames hne
      · obtain ⟨ws, h1, k1, r1, nd1⟩ := so.ob m _ g1
        obtain ⟨ws', h2, k2, r2, nd2⟩ := so.ob m' _ g2
        obtain ⟨_, sy1, va, kv1, da⟩ := I.hok _ _ h1
        obtain ⟨_, sy2, vb, kv2, db⟩ := I.hok _ _ h2
        have hkk : ws.map (·.1) = ws'.map (·.1) := by
          rw [← hk] at k2
          refine keys_same (K := w.K) (φ := φ) (H := H) (ex := w.ex) (ds := xs.map (·.1)) ?_ ?_
          · rw [List.map_map]; exact k1
          · rw [List.map_map]; exact k2
        have ka1 : va.map (·.1) = ws.map (·.1) := (kv_keys kv1).symm
        have kb1 : vb.map (·.1) = ws.map (·.1) := by rw [hkk]; exact (kv_keys kv2).symm
        have ndb : (vb.map (·.1)).Nodup := by rw [kb1]; exact nd1
        have nda : (va.map (·.1)).Nodup := by rw [ka1]; exact nd1
        have hl : (xs.map (·.2)).length = (ys.map (·.2)).length := by have := congrArg List.length hk; simpa using this
        obtain ⟨k, hkc, hi⟩ := row _ _ _ _ (va.map (·.2)) (vb.map (·.2)) r1 r2 (kv_vals kv1) (kv_vals kv2) hl c hc
        have hlen : va.length = vb.length := by have := congrArg List.length (ka1.trans kb1.symm); simpa using this
        have ix : ∀ (i : Nat) (p : Key × Value), va[i]? = some p → ixOf p.1 (va.map (·.1)) = i := fun i p hp => by
          have hi' : i < (va.map (·.1)).length := by rw [List.length_map]; exact (List.getElem?_eq_some_iff.mp hp).1
          have e1 : (va.map (·.1))[i] = p.1 := by
            obtain ⟨h1, h2⟩ := List.getElem?_eq_some_iff.mp hp
            rw [List.getElem_map, h2]
          rw [← e1]
          exact ixOf_nodup nda i hi'
        have hall : (va.length == vb.length && va.all fun p => (valueAt vb p.1).isSome && k (ixOf p.1 (va.map (·.1)))) = c := by
          rw [← hkc, hlen, beq_self_eq_true, Bool.true_and]
          have hs : ∀ p ∈ va, (valueAt vb p.1).isSome = true := fun p hp => valueAt_isSome.mpr (by rw [kb1, ← ka1]; exact List.mem_map_of_mem hp)
          rw [List.size_toArray, List.length_map]
          rw [Bool.eq_iff_iff, List.all_eq_true, List.all_eq_true]
          constructor
          · intro h j hj
            have hj' : j < va.length := by simpa using hj
            have := h va[j] (List.getElem_mem hj')
            rw [ix j _ (List.getElem?_eq_getElem hj')] at this
            simp only [Bool.and_eq_true] at this
            exact this.2
          · intro h p hp
            rw [hs p hp, Bool.true_and]
            obtain ⟨j, hj, ej⟩ := List.getElem_of_mem hp
            rw [ix j p (by rw [← ej]; exact List.getElem?_eq_getElem hj)]
            exact h j (by simpa using hj)
        rw [← hall]
        refine .dicts (knd := mixKind X.prog X.w) (e := fun key => k (ixOf key (va.map (·.1)))) (fun z => hne (by rw [z])) sy1 sy2 da db fun key x y hx hy => ?_
        obtain ⟨j, hj, ej⟩ := List.getElem_of_mem hx
        have e1 := ix j (key, x) (by rw [← ej]; exact List.getElem?_eq_getElem hj)
        have e1 : ixOf key (va.map (·.1)) = j := e1
        rw [e1]
        have hjb : j < vb.length := by omega
        have kj : (vb[j]).1 = key := by
          have z1 : (vb.map (·.1))[j]? = (va.map (·.1))[j]? := by rw [kb1, ka1]
          rw [List.getElem?_map, List.getElem?_map, List.getElem?_eq_getElem hjb, List.getElem?_eq_getElem hj, ej] at z1
          exact Option.some.inj z1
        have yj : (vb[j]).2 = y := by
          have z := valueAt_of_mem ndb (k := key) (v := (vb[j]).2) (by rw [← kj]; exact List.getElem_mem hjb)
          rw [hy] at z
          exact (Option.some.inj z).symm
        have := hi j (by simpa using hj) (by simpa using hjb)
        simp only [List.getElem_toArray, List.getElem_map] at this
        rw [ej, yj] at this
        exact this
    have lst1 : ∀ {m : Nat} {xs : List D}, d = .obj m → get S m = some (.lst xs) → ∃ as, u = .ref (φ m) ∧ s.heap.IsList (φ m) as := fun {m xs} ed g => by
      subst ed
      have ex_ := rp_inv r
      dsimp only at ex_
      subst ex_
      cases ru
      obtain ⟨vs, h1, r1⟩ := so.ob m _ g
      obtain ⟨as, v1, p1, _⟩ := I.list (SqL.of h1)
      exact ⟨_, rfl, p1.isList⟩
    have lst2 : ∀ {m : Nat} {xs : List D}, e = .obj m → get S m = some (.lst xs) → ∃ as, v = .ref (φ m) ∧ s.heap.IsList (φ m) as := fun {m xs} ed g => by
      subst ed
      have ex_ := rp_inv q
      dsimp only at ex_
      subst ex_
      cases rv
      obtain ⟨vs, h1, r1⟩ := so.ob m _ g
      obtain ⟨as, v1, p1, _⟩ := I.list (SqL.of h1)
      exact ⟨_, rfl, p1.isList⟩
    have tup1 : ∀ {ds : List D}, d = .tup ds → ∃ a as, u = .ref a ∧ s.heap.IsTuple a as := fun {ds} ed => by
      subst ed
      obtain ⟨a, vs, ex_, h1, r1⟩ := rp_inv r
      subst ex_
      cases ru
      rw [hK] at h1
      obtain ⟨as, v1, p1, _⟩ := I.tuple h1
      exact ⟨_, _, rfl, p1⟩
    have tup2 : ∀ {ds : List D}, e = .tup ds → ∃ a as, v = .ref a ∧ s.heap.IsTuple a as := fun {ds} ed => by
      subst ed
      obtain ⟨a, vs, ex_, h1, r1⟩ := rp_inv q
      subst ex_
      cases rv
      rw [hK] at h1
      obtain ⟨as, v1, p1, _⟩ := I.tuple h1
      exact ⟨_, _, rfl, p1⟩
    have un : ∀ {A : Around}, A.units + (n + 1) < cLine → A.units < cLine := fun h => by omega
    cases d with
    | exc _ _ => rw [deq_bad.1] at h; cases h
    | obj m => cases e with
      | exc _ _ => rw [deq_bad.2] at h; cases h
      | obj m' =>
        rcases deq_lst h with ⟨xs, ys, g1, g2, hc⟩ | ⟨xs, ys, g1, g2, hk, hc⟩
        · exact lists rfl rfl g1 g2 hc
        · exact dicts rfl rfl g1 g2 hk hc
      | non =>
        obtain ⟨⟨xs, g⟩, rfl⟩ := deq_objL (by simp) (by simp) h
        obtain ⟨as, rfl, il⟩ := lst1 rfl g
        cases rp_inv q; cases rv
        exact .leaf fun A hu => SeqAt.EqAt.list_none il (un hu)
      | bl b =>
        obtain ⟨⟨xs, g⟩, rfl⟩ := deq_objL (by simp) (by simp) h
        obtain ⟨as, rfl, il⟩ := lst1 rfl g
        cases rp_inv q; cases rv
        exact .leaf fun A hu => SeqAt.EqAt.list_bool _ il (un hu)
      | int b =>
        obtain ⟨⟨xs, g⟩, rfl⟩ := deq_objL (by simp) (by simp) h
        obtain ⟨as, rfl, il⟩ := lst1 rfl g
        cases rp_inv q; obtain ⟨t, rfl⟩ := rv
        exact .leaf fun A hu => SeqAt.EqAt.list_int _ _ il (un hu)
      | str b =>
        obtain ⟨⟨xs, g⟩, rfl⟩ := deq_objL (by simp) (by simp) h
        obtain ⟨as, rfl, il⟩ := lst1 rfl g
        obtain ⟨z, rfl, _⟩ := rp_inv q
        obtain ⟨t, rfl⟩ := rv
        exact .leaf fun A hu => SeqAt.EqAt.list_str _ _ il (un hu)
      | tup b =>
        obtain ⟨⟨xs, g⟩, rfl⟩ := deq_objL (by simp) (by simp) h
        obtain ⟨as, rfl, il⟩ := lst1 rfl g
        obtain ⟨a, bs, rfl, it⟩ := tup2 rfl
        exact .leaf fun A hu => SeqAt.EqAt.list_tuple il it (un hu)
    | non => cases e with
      | exc _ _ => rw [deq_bad.2] at h; cases h
      | non => have z1 := rp_inv r; dsimp only at z1; subst z1; have z2 := rp_inv q; dsimp only at z2; subst z2; cases h; exact flat ⟨rfl, rfl⟩ rfl
      | bl k => have z1 := rp_inv r; dsimp only at z1; subst z1; have z2 := rp_inv q; dsimp only at z2; subst z2; cases h; exact flat ⟨rfl, rfl⟩ rfl
      | int k => have z1 := rp_inv r; dsimp only at z1; subst z1; have z2 := rp_inv q; dsimp only at z2; subst z2; cases h; exact flat ⟨rfl, rfl⟩ rfl
      | str k => have z1 := rp_inv r; dsimp only at z1; subst z1; obtain ⟨z', rfl, rfl⟩ := rp_inv q; cases h; exact flat ⟨rfl, rfl⟩ rfl
      | obj m =>
        obtain ⟨⟨xs, g⟩, rfl⟩ := deq_objR (by simp) (by simp) h
        obtain ⟨as, rfl, il⟩ := lst2 rfl g
        have z1 := rp_inv r; dsimp only at z1; subst z1
        cases ru
        exact .leaf fun A hu => SeqAt.EqAt.none_list il (un hu)
      | tup k =>
        cases h
        obtain ⟨a, bs, rfl, it⟩ := tup2 rfl
        have z1 := rp_inv r; dsimp only at z1; subst z1
        cases ru
        exact .leaf fun A hu => SeqAt.EqAt.none_tuple it (un hu)
    | bl b => cases e with
      | exc _ _ => rw [deq_bad.2] at h; cases h
      | non => have z1 := rp_inv r; dsimp only at z1; subst z1; have z2 := rp_inv q; dsimp only at z2; subst z2; cases h; exact flat ⟨rfl, rfl⟩ rfl
      | bl k => have z1 := rp_inv r; dsimp only at z1; subst z1; have z2 := rp_inv q; dsimp only at z2; subst z2; cases h; exact flat ⟨rfl, rfl⟩ (by show (b == k) = decide (b = k); cases b <;> cases k <;> rfl)
      | int k => have z1 := rp_inv r; dsimp only at z1; subst z1; have z2 := rp_inv q; dsimp only at z2; subst z2; cases h; exact flat ⟨rfl, rfl⟩ (Bool.beq_eq_decide_eq _ _)
      | str k => have z1 := rp_inv r; dsimp only at z1; subst z1; obtain ⟨z', rfl, rfl⟩ := rp_inv q; cases h; exact flat ⟨rfl, rfl⟩ rfl
      | obj m =>
        obtain ⟨⟨xs, g⟩, rfl⟩ := deq_objR (by simp) (by simp) h
        obtain ⟨as, rfl, il⟩ := lst2 rfl g
        have z1 := rp_inv r; dsimp only at z1; subst z1
        cases ru
        exact .leaf fun A hu => SeqAt.EqAt.bool_list _ il (un hu)
      | tup k =>
        cases h
        obtain ⟨a, bs, rfl, it⟩ := tup2 rfl
        have z1 := rp_inv r; dsimp only at z1; subst z1
        cases ru
        exact .leaf fun A hu => SeqAt.EqAt.bool_tuple _ it (un hu)
    | int b => cases e with
      | exc _ _ => rw [deq_bad.2] at h; cases h
      | non => have z1 := rp_inv r; dsimp only at z1; subst z1; have z2 := rp_inv q; dsimp only at z2; subst z2; cases h; exact flat ⟨rfl, rfl⟩ rfl
      | bl k => have z1 := rp_inv r; dsimp only at z1; subst z1; have z2 := rp_inv q; dsimp only at z2; subst z2; cases h; exact flat ⟨rfl, rfl⟩ (Bool.beq_eq_decide_eq _ _)
      | int k => have z1 := rp_inv r; dsimp only at z1; subst z1; have z2 := rp_inv q; dsimp only at z2; subst z2; cases h; exact flat ⟨rfl, rfl⟩ (by show (b == k) = decide (b = k); exact Bool.beq_eq_decide_eq b k)
      | str k => have z1 := rp_inv r; dsimp only at z1; subst z1; obtain ⟨z', rfl, rfl⟩ := rp_inv q; cases h; exact flat ⟨rfl, rfl⟩ rfl
      | obj m =>
        obtain ⟨⟨xs, g⟩, rfl⟩ := deq_objR (by simp) (by simp) h
        obtain ⟨as, rfl, il⟩ := lst2 rfl g
        have z1 := rp_inv r; dsimp only at z1; subst z1
        obtain ⟨t, rfl⟩ := ru
        exact .leaf fun A hu => SeqAt.EqAt.int_list _ _ il (un hu)
      | tup k =>
        cases h
        obtain ⟨a, bs, rfl, it⟩ := tup2 rfl
        have z1 := rp_inv r; dsimp only at z1; subst z1
        obtain ⟨t, rfl⟩ := ru
        exact .leaf fun A hu => SeqAt.EqAt.int_tuple _ _ it (un hu)
    | str b => cases e with
      | exc _ _ => rw [deq_bad.2] at h; cases h
      | non => obtain ⟨z, rfl, rfl⟩ := rp_inv r; have z2 := rp_inv q; dsimp only at z2; subst z2; cases h; exact flat ⟨rfl, rfl⟩ rfl
      | bl k => obtain ⟨z, rfl, rfl⟩ := rp_inv r; have z2 := rp_inv q; dsimp only at z2; subst z2; cases h; exact flat ⟨rfl, rfl⟩ rfl
      | int k => obtain ⟨z, rfl, rfl⟩ := rp_inv r; have z2 := rp_inv q; dsimp only at z2; subst z2; cases h; exact flat ⟨rfl, rfl⟩ rfl
      | str k => obtain ⟨z, rfl, rfl⟩ := rp_inv r; obtain ⟨z', rfl, rfl⟩ := rp_inv q; cases h; exact flat ⟨rfl, rfl⟩ str_beq
      | obj m =>
        obtain ⟨⟨xs, g⟩, rfl⟩ := deq_objR (by simp) (by simp) h
        obtain ⟨as, rfl, il⟩ := lst2 rfl g
        obtain ⟨z, rfl, rfl⟩ := rp_inv r
        obtain ⟨t, rfl⟩ := ru
        exact .leaf fun A hu => SeqAt.EqAt.str_list _ _ il (un hu)
      | tup k =>
        cases h
        obtain ⟨a, bs, rfl, it⟩ := tup2 rfl
        obtain ⟨z, rfl, rfl⟩ := rp_inv r
        obtain ⟨t, rfl⟩ := ru
        exact .leaf fun A hu => SeqAt.EqAt.str_tuple _ _ it (un hu)
    | tup ds => cases e with
      | exc _ _ => rw [deq_bad.2] at h; cases h
      | obj m =>
        obtain ⟨⟨xs, g⟩, rfl⟩ := deq_objR (by simp) (by simp) h
        obtain ⟨as, rfl, il⟩ := lst2 rfl g
        obtain ⟨a, bs, rfl, it⟩ := tup1 rfl
        exact .leaf fun A hu => SeqAt.EqAt.tuple_list it il (un hu)
      | tup es =>
        have hc : (if ds.length = es.length then alls (deq S n) ds es else (alls (deq S n) (ds.take es.length) (es.take ds.length)).bind fun _ => some false) = some c := h
        obtain ⟨a, vs, rfl, h1, r1⟩ := rp_inv r
        obtain ⟨b, ws, rfl, h2, r2⟩ := rp_inv q
        have ru' := ru
        have rv' := rv
        cases ru'; cases rv'
        by_cases hne : (Value.ref a) = Value.ref b
        · exact sames hne
        · rw [hK] at h1 h2
          obtain ⟨as, v1, p1, _⟩ := I.tuple h1
          obtain ⟨bs, v2, p2, _⟩ := I.tuple h2
          by_cases hl : ds.length = es.length
          · rw [if_pos hl] at hc
            obtain ⟨k, hk, hi⟩ := row vs ws ds es as bs r1 r2 v1 v2 hl c hc
            have e1 : as.length = bs.length := by rw [← v1.length, ← v2.length, r1.length, r2.length, hl]
            have := EqTree.tuples (prog := X.prog) (w := X.w) (n := n) (e := k) (fun z => hne (by rw [z])) p1 p2 hi
            have z : ((List.range (min as.toArray.size bs.toArray.size)).all k && as.toArray.size == bs.toArray.size) = c := by
              rw [← hk, List.size_toArray, List.size_toArray, ← e1, Nat.min_self, beq_self_eq_true, Bool.and_true]
            rw [z] at this
            exact this
          · rw [if_neg hl] at hc
            cases hz : alls (deq S n) (ds.take es.length) (es.take ds.length) with
            | none => rw [hz] at hc; cases hc
            | some k0 =>
              rw [hz] at hc
              cases hc
              obtain ⟨k, hk, hi⟩ := row _ _ _ _ (as.take es.length) (bs.take ds.length) (r1.take es.length) (r2.take ds.length) (v1.take es.length) (v2.take ds.length) (by simp only [List.length_take]; omega) k0 hz
              have la : as.length = ds.length := by rw [← v1.length, r1.length]
              have lb : bs.length = es.length := by rw [← v2.length, r2.length]
              have := EqTree.tuples (prog := X.prog) (w := X.w) (n := n) (e := k) (fun z => hne (by rw [z])) p1 p2 (fun j h1 h2 => by
                have j1 : j < as.length := by simpa using h1
                have j2 : j < bs.length := by simpa using h2
                have := hi j (by simp only [List.size_toArray, List.length_take]; omega) (by simp only [List.size_toArray, List.length_take]; omega)
                simpa using this)
              have z : ((List.range (min as.toArray.size bs.toArray.size)).all k && as.toArray.size == bs.toArray.size) = false := by
                have : (as.toArray.size == bs.toArray.size) = false := by
                  simp only [List.size_toArray, la, lb]
                  simpa using hl
                rw [this, Bool.and_false]
              rw [z] at this
              exact this
      | non =>
        cases h
        obtain ⟨a, bs, rfl, it⟩ := tup1 rfl
        have z2 := rp_inv q; dsimp only at z2; subst z2
        cases rv
        exact .leaf fun A hu => SeqAt.EqAt.tuple_none it (un hu)
      | bl k =>
        cases h
        obtain ⟨a, bs, rfl, it⟩ := tup1 rfl
        have z2 := rp_inv q; dsimp only at z2; subst z2
        cases rv
        exact .leaf fun A hu => SeqAt.EqAt.tuple_bool _ it (un hu)
      | int k =>
        cases h
        obtain ⟨a, bs, rfl, it⟩ := tup1 rfl
        have z2 := rp_inv q; dsimp only at z2; subst z2
        obtain ⟨t, rfl⟩ := rv
        exact .leaf fun A hu => SeqAt.EqAt.tuple_int _ _ it (un hu)
      | str k =>
        cases h
        obtain ⟨a, bs, rfl, it⟩ := tup1 rfl
        obtain ⟨z', rfl, rfl⟩ := rp_inv q
        obtain ⟨t, rfl⟩ := rv
        exact .leaf fun A hu => SeqAt.EqAt.tuple_str _ _ it (un hu)
end
end Pw
end
section
set_option Elab.async false
set_option linter.all false
set_option maxRecDepth 100000
set_option maxHeartbeats 1000000
set_option autoImplicit false
/-! Pw4: != of lists whose items are compared within one model; the comparison operators -/
namespace PwNe
open PySem PySem.SeqAt
open AutoSeq1 (wpAny_loadPart')
open MeetsSeq MeetsSeq2 MeetsSeq3
section
variable {P : Program} {W : World}
abbrev LObj (d : Option Addr) (a : Array Value) (m : Nat) (z : Array (Option Value)) : Obj := { cls := .type "list", dict := d, data := .seq a m, slots := z }
theorem turnNe (p q : Addr) (va vb : Array Value) (m m2 : Nat) (d d2 : Option Addr) (z z2 : Array (Option Value)) (eqs : va.size = vb.size) (f : Nat → Bool) (left : Nat) :
    ∀ i : Nat, va.size - i = left → MeetsIn P W (Builtin.«list.__eq__.loop» ⟨[.ref p, .ref q, rawInt i, rawInt 3], []⟩)
      (fun A R s => s.heap.get? p = some (LObj d va m z) ∧ s.heap.get? q = some (LObj d2 vb m2 z2) ∧
        (∀ j (g1 : j < va.size) (g2 : j < vb.size), EqIn P W A.in1 s va[j] vb[j] (f j)) ∧ R (.ok (.ret (.bool (!((List.range va.size).drop i).all f)))) s) := by
  induction left with
  | zero =>
    intro i hi A R s hyp
    obtain ⟨hp, g, dr, tk, os⟩ := s
    obtain ⟨x1, x2, cmp, fin⟩ := hyp
    wp_walk using wpAny_loadPart' x1, wpAny_loadPart' x2
    have n1 : va[((i : Nat) : Int).toNat]? = none := by simp; omega
    have n2 : vb[((i : Nat) : Int).toNat]? = none := by simp; omega
    have nothing : (List.range va.size).drop i = [] := by simp; omega
    rw [nothing] at fin
    rw [n1, n2]
    wp_walk using wpAny_loadPart' x1, wpAny_loadPart' x2
    show R (.ok (.ret (.bool (va.size != vb.size)))) _
    rw [eqs]
    simpa using fin
  | succ left ih =>
    intro i hi A R s hyp
    obtain ⟨hp, g, dr, tk, os⟩ := s
    obtain ⟨x1, x2, cmp, fin⟩ := hyp
    wp_walk using wpAny_loadPart' x1, wpAny_loadPart' x2
    have l1 : i < va.size := by omega
    have l2 : i < vb.size := by omega
    have n1 : va[((i : Nat) : Int).toNat]? = some va[i] := by simp [l1]
    have n2 : vb[((i : Nat) : Int).toNat]? = some vb[i] := by simp [l2]
    have here : (List.range va.size).drop i = i :: (List.range va.size).drop (i + 1) := by simp [List.drop_eq_getElem_cons, l1]
    have up : ((i : Int) + 1) = ((i + 1 : Nat) : Int) := by push_cast; rfl
    rw [here, List.all_cons] at fin
    rw [n1, n2]
    refine wpAny_bind (cmp i l1 l2 _ _ ?_)
    cases way : f i with
    | false =>
      rw [way] at fin
      wp_walk using wpAny_loadPart' x1, wpAny_loadPart' x2
      rw [n1, n2]
      wp_walk
      simpa using fin
    | true =>
      rw [way] at fin
      wp_walk
      rw [up]
      refine ⟨plainId_quiet plain_eq_loop _, codeAny_builtin entry_eq_loop ?_⟩
      rw [Around.under_plainId plain_eq_loop _]
      exact ih (i + 1) (by omega) A R _ ⟨x1, x2, cmp, by simpa using fin⟩
theorem wholeNe (p q : Addr) (va vb : Array Value) (m m2 : Nat) (d d2 : Option Addr) (z z2 : Array (Option Value)) (eqs : va.size = vb.size) (f : Nat → Bool) :
    MeetsIn P W (Builtin.«list.__ne__» ⟨[.ref p, .ref q], []⟩)
      (fun A R s => s.heap.get? p = some (LObj d va m z) ∧ s.heap.get? q = some (LObj d2 vb m2 z2) ∧
        (∀ j (g1 : j < va.size) (g2 : j < vb.size), EqIn P W A.in1 s va[j] vb[j] (f j)) ∧ R (.ok (.ret (.bool (!(List.range va.size).all f)))) s) := by
  intro A R s hyp
  obtain ⟨hp, g, dr, tk, os⟩ := s
  obtain ⟨x1, x2, cmp, fin⟩ := hyp
  have _sub := AutoSeq1.sub_list_list
  have same : ¬ (va.size != vb.size) = true := by simp [eqs]
  wp_walk using wpAny_loadPart' x1, wpAny_loadPart' x2
  refine ⟨plainId_quiet plain_eq_loop _, codeAny_builtin entry_eq_loop ?_⟩
  rw [Around.under_plainId plain_eq_loop _]
  exact turnNe p q va vb m m2 d d2 z z2 eqs f _ 0 rfl A R _ ⟨x1, x2, cmp, by simpa using fin⟩
theorem wholeNeT (p q : Addr) (va vb : Array Value) (m m2 : Nat) (d d2 : Option Addr) (z z2 : Array (Option Value)) (f : Nat → Bool) :
    MeetsIn P W (Builtin.«tuple.__ne__» ⟨[.ref p, .ref q], []⟩)
      (fun A R s => s.heap.get? p = some { cls := .type "tuple", dict := d, data := .seq va m, slots := z } ∧ s.heap.get? q = some { cls := .type "tuple", dict := d2, data := .seq vb m2, slots := z2 } ∧
        (∀ j (g1 : j < va.size) (g2 : j < vb.size), EqIn P W A.in1 s va[j] vb[j] (f j)) ∧ R (.ok (.ret (.bool (!((List.range (min va.size vb.size)).all f && va.size == vb.size))))) s) :=
  .of_wp fun A R s hyp => by
    obtain ⟨hp, g, dr, tk, os⟩ := s
    obtain ⟨x1, x2, cmp, last⟩ := hyp
    have _sub := AutoSeq1.sub_tuple_tuple
    have len : (va.toList.zip vb.toList).length = min va.size vb.size := by simp
    wp_walk using wpAny_loadPart' x1, wpAny_loadPart' x2, wpAny_forIn_list _ (fun l b t => b.1 = none ∧ t = ⟨hp, g, dr, tk, os⟩ ∧ ∃ i, l = (va.toList.zip vb.toList).drop i ∧
      R (.ok (.ret (.bool (!(((List.range (min va.size vb.size)).drop i).all f && va.size == vb.size))))) ⟨hp, g, dr, tk, os⟩) _
    case h => exact ⟨rfl, rfl, 0, rfl, by simpa using last⟩
    case fin =>
      rintro ⟨b1, b2⟩ t ⟨e0, rfl, i, none_left, done⟩
      simp only at e0
      subst e0
      have far : min va.size vb.size ≤ i := by
        rcases Nat.lt_or_ge i (va.toList.zip vb.toList).length with w | w
        · rw [List.drop_eq_getElem_cons w] at none_left; cases none_left
        · exact len ▸ w
      rw [List.drop_of_length_le (by simpa using far)] at done
      wp_walk
      exact ⟨_, rfl, by simpa [Builtin.Tuple.tupleCompareSizes, bne] using done⟩
    case turn =>
      rintro ⟨y, x⟩ l b t ⟨e0, rfl, i, here, done⟩
      have near : i < (va.toList.zip vb.toList).length := by
        rcases Nat.lt_or_ge i (va.toList.zip vb.toList).length with w | w
        · exact w
        · rw [List.drop_of_length_le w] at here; cases here
      have nm : i < min va.size vb.size := len ▸ near
      have n1 : i < va.size := Nat.lt_of_lt_of_le nm (Nat.min_le_left _ _)
      have n2 : i < vb.size := Nat.lt_of_lt_of_le nm (Nat.min_le_right _ _)
      rw [List.drop_eq_getElem_cons near] at here
      injection here with pair more
      have e1 : y = va[i] := by simpa using congrArg Prod.fst pair
      have e2 : x = vb[i] := by simpa using congrArg Prod.snd pair
      subst e1 e2
      have dr1 : (List.range (min va.size vb.size)).drop i = i :: (List.range (min va.size vb.size)).drop (i + 1) := by simp [List.drop_eq_getElem_cons, nm]
      rw [dr1, List.all_cons] at done
      refine wpAny_bind (cmp i n1 n2 _ _ ?_)
      cases way : f i with
      | false =>
        rw [way] at done
        wp_walk
        exact ⟨_, rfl, by simpa using done⟩
      | true =>
        rw [way] at done
        wp_walk
        exact ⟨rfl, rfl, i + 1, more, by simpa using done⟩
end
end PwNe

namespace Pw
open PySem PySem.Spec PyProof.Rows L2
section
variable {X : Cx} {w : Wo}
theorem rcNe {A : Around} {s : Shared} {p q : Addr} {va vb : Array Value} {f : Nat → Bool} {E : Value → Shared → Prop} {Q : Value → Shared → Prop} {P : Program} {W : World}
    (i1 : s.heap.IsList p va) (i2 : s.heap.IsList q vb) (eqs : va.size = vb.size) (room : A.units < cLine) (cmp : ∀ j (g1 : j < va.size) (g2 : j < vb.size), SeqAt.EqIn P W A.in1 s va[j] vb[j] (f j))
    (fin : Q (.bool (!(List.range va.size).all f)) s) : wpAny (model P W) A (compareOp .NotEq (.ref p) (.ref q)) Q E s := by
  obtain ⟨⟨c1, d1, dt1, s1⟩, o1, k1, n1, x1⟩ := id i1
  obtain ⟨⟨c2, d2, dt2, s2⟩, o2, k2, n2, x2⟩ := id i2
  simp only at k1 x1 k2 x2
  subst k1 x1 k2 x2
  have fin2 : Value.bool (!(List.range va.size).all f) ≠ Value.notImplemented ∧ Q (.bool (!(List.range va.size).all f)) s := ⟨(fun z => nomatch z), fin⟩
  exact wpAny_richCompare_same_room (T := "list") (op := .NotEq) ⟨_, o1, rfl⟩ ⟨_, o2, rfl⟩ F.slot_list_ne
    (call_meetsIn F.slot_list_ne ⟨_, o1, rfl⟩ F.entry_list_ne (F.args_list_ne_2 _ _) (PwNe.wholeNe p q va vb n1 n2 d1 d2 s1 s2 eqs f) ⟨o1, o2, cmp, fin2⟩) room
theorem rcNeT {A : Around} {s : Shared} {p q : Addr} {va vb : Array Value} {f : Nat → Bool} {E : Value → Shared → Prop} {Q : Value → Shared → Prop} {P : Program} {W : World}
    (i1 : s.heap.IsTuple p va) (i2 : s.heap.IsTuple q vb) (room : A.units < cLine) (cmp : ∀ j (g1 : j < va.size) (g2 : j < vb.size), SeqAt.EqIn P W A.in1 s va[j] vb[j] (f j))
    (fin : Q (.bool (!((List.range (min va.size vb.size)).all f && va.size == vb.size))) s) : wpAny (model P W) A (compareOp .NotEq (.ref p) (.ref q)) Q E s := by
  obtain ⟨⟨c1, d1, dt1, s1⟩, o1, k1, n1, x1⟩ := id i1
  obtain ⟨⟨c2, d2, dt2, s2⟩, o2, k2, n2, x2⟩ := id i2
  simp only at k1 x1 k2 x2
  subst k1 x1 k2 x2
  have fin2 : Value.bool (!((List.range (min va.size vb.size)).all f && va.size == vb.size)) ≠ Value.notImplemented ∧ Q (.bool (!((List.range (min va.size vb.size)).all f && va.size == vb.size))) s := ⟨(fun z => nomatch z), fin⟩
  exact wpAny_richCompare_same_room (T := "tuple") (op := .NotEq) ⟨_, o1, rfl⟩ ⟨_, o2, rfl⟩ F.slot_tuple_ne
    (call_meetsIn F.slot_tuple_ne ⟨_, o1, rfl⟩ F.entry_tuple_ne (F.args_tuple_ne_2 _ _) (PwNe.wholeNeT p q va vb n1 n2 d1 d2 s1 s2 f) ⟨o1, o2, cmp, fin2⟩) room
open PySem.W in
theorem rcNeD {A : Around} {s : Shared} {K : Type} [DecidableEq K] {P : Program} {W : World} {knd : KeyKind P W K} {p q : Addr} {ka kb : List (K × Value)} {r : Bool} {E : Value → Shared → Prop} {Q : Value → Shared → Prop}
    (h1 : (p == sysModules) = false) (h2 : (q == sysModules) = false) (d1 : s.heap.DictOf knd p ka) (d2 : s.heap.DictOf knd q kb) (room : A.units < cLine) (hits : ka.length = kb.length → KeqHitsIn P W A.in1 s kb ka r)
    (fin : Q (.bool (!(ka.length == kb.length && r))) s) : wpAny (model P W) A (compareOp .NotEq (.ref p) (.ref q)) Q E s := by
  refine wpAny_richCompare_same_room (op := .NotEq) d1.typeIs d2.typeIs PySem.F.slot_dict_ne (wpAny_call_entry PySem.F.slot_dict_ne d1.typeIs PySem.F.entry_dict_ne ?_ (PySem.F.args_dict_ne_2 _ _)) room
  show wpAny _ _ (Builtin.Dict.dictSlotArgs "__ne__" ⟨[.ref p, .ref q], []⟩ >>= _) _ _ s
  refine wpAny_bind ?_
  unfold Builtin.Dict.dictSlotArgs
  refine wpAny_bind (wpAny_notOrdered_dict d1.typeIs (show wpAny _ _ (pure (Value.ref p, Value.ref q)) _ _ s from wpAny_pure ?_))
  refine wpAny_bind (wpAny_isInstance (T := "dict") d2.typeIs PySem.F.sub_dict_dict ?_)
  simp only [Bool.not_true, Bool.false_eq_true, if_false]
  refine wpAny_bind (wpAny_pure (wpAny_bind (wpAny_pure (wpAny_bind (keq_samePairsIn h1 h2 d1 d2 hits (wpAny_pure ⟨_, rfl, (fun z => nomatch z), ?_⟩))))))
  simpa using fin
/-- a comparison by what it does to values -/
def rC (w : Wo) (o : Cop) : R2 := fun x y H Q => ∃ φ S dx dy, SimO w.K φ w.ex H S ∧ RE w φ H S x dx ∧ RE w φ H S y dy ∧ ∃ c, cmpD S o dx dy = some c ∧ Q (.bl c) H
theorem deq_flat {S : Store} {n : Nat} {a b : D} {x y : V} {c : Bool} {φ : Nat → Addr} {H : Hp} (rx : Rp w.K φ w.ex H x a) (ry : Rp w.K φ w.ex H y b) (t : topEq a b = true) (h : deq S (n + 1) a b = some c) (nt : ∀ ds, a ≠ .tup ds) (no : ∀ k, a ≠ .obj k) :
    scal x y = true ∧ decide (x = y) = c := by
  cases a with
  | tup ds => exact absurd rfl (nt ds)
  | obj k => exact absurd rfl (no k)
  | exc k fs => cases b <;> cases t
  | non =>
    cases rx
    cases b <;> first | (cases t; done) | (cases ry; cases h; exact ⟨rfl, rfl⟩)
  | bl i =>
    cases rx
    cases b <;> first | (cases t; done) | (cases ry; cases h; exact ⟨rfl, rfl⟩) | skip
    rename_i j
    cases ry; cases h; refine ⟨rfl, ?_⟩; cases i <;> cases j <;> rfl
  | int i =>
    cases rx
    cases b <;> first | (cases t; done) | (cases ry; cases h; exact ⟨rfl, rfl⟩) | skip
    rename_i j
    cases ry; cases h; refine ⟨rfl, ?_⟩
    rw [decide_eq_decide]
    exact ⟨fun z => V.int.inj z, fun z => by rw [z]⟩
  | str i =>
    cases rx
    cases b <;> first | (cases t; done) | (cases ry; cases h; exact ⟨rfl, rfl⟩) | skip
    rename_i j
    cases ry; cases h; refine ⟨rfl, ?_⟩
    rw [decide_eq_decide]
    exact ⟨fun z => by rw [V.str.inj z], fun z => by rw [str_ext z]⟩
theorem un_of (hu : X.A.units + 64 < cLine) {n : Nat} (h : n ≤ 60) : X.A.units + (n + 1) < cLine := by omega
open PySem.W in
/-- == and != of two lists, two tuples: the rows of items -/
theorem rows_eq {pins : List (Addr × Obj)} {σ : L2.St} {H : Hp} {s : Shared} {φ : Nat → Addr} {S : Store} (hK : w.K = X.K) (I : Inv X pins σ H s) (so : SimO w.K φ w.ex H S) {n : Nat} {vs ws : List V} {ds es : List D} {as bs : List Value}
    (r1 : RpA w.K φ w.ex H vs ds) (r2 : RpA w.K φ w.ex H ws es) (v1 : Vals vs as) (v2 : Vals ws bs) (hl : ds.length = es.length) {c : Bool} (hc : alls (deq S n) ds es = some c) :
    ∃ k : Nat → Bool, (List.range as.toArray.size).all k = c ∧ ∀ j (h1 : j < as.toArray.size) (h2 : j < bs.toArray.size), EqTree X.prog X.w s n as.toArray[j] bs.toArray[j] (k j) := by
  obtain ⟨k, hk, hi⟩ := allR_of hl hc
  refine ⟨k, ?_, fun j h1 h2 => ?_⟩
  · rw [← hk, List.size_toArray, ← v1.length, r1.length]
  · have g1 : j < as.length := by simpa using h1
    have g2 : j < bs.length := by simpa using h2
    have l1 : j < vs.length := by rw [v1.length]; exact g1
    have l2 : j < ws.length := by rw [v2.length]; exact g2
    obtain ⟨d1, e1, p1⟩ := r1.getv (List.getElem?_eq_getElem l1)
    obtain ⟨d2, e2, p2⟩ := r2.getv (List.getElem?_eq_getElem l2)
    obtain ⟨u1, f1, q1⟩ := v1.get (List.getElem?_eq_getElem l1)
    obtain ⟨u2, f2, q2⟩ := v2.get (List.getElem?_eq_getElem l2)
    rw [List.getElem?_eq_getElem g1] at f1
    rw [List.getElem?_eq_getElem g2] at f2
    cases f1; cases f2
    exact deq_tree hK I so n _ _ _ _ _ _ q1 q2 p1 p2 _ (hi j _ _ e1 e2)
open PySem.W in
/-- == and != of two dicts with the same keys: what is looked at -/
theorem dcts_eq {pins : List (Addr × Obj)} {σ : L2.St} {H : Hp} {s : Shared} {φ : Nat → Addr} {S : Store} (hK : w.K = X.K) (I : Inv X pins σ H s) (so : SimO w.K φ w.ex H S) {n m m2 : Nat} {xs ys : List (D × D)} {c : Bool}
    (g1 : get S m = some (.dct xs)) (g2 : get S m2 = some (.dct ys)) (hk : xs.map (·.1) = ys.map (·.1)) (hc : alls (deq S n) (xs.map (·.2)) (ys.map (·.2)) = some c) :
    ∃ (va vb : List (Key × Value)) (k : Key → Bool), (φ m == sysModules) = false ∧ (φ m2 == sysModules) = false ∧ s.heap.DictOf (mixKind X.prog X.w) (φ m) va ∧ s.heap.DictOf (mixKind X.prog X.w) (φ m2) vb ∧
      (∀ key x y, (key, x) ∈ va → valueAt vb key = some y → EqTree X.prog X.w s n x y (k key)) ∧ (va.length == vb.length && va.all fun p => (valueAt vb p.1).isSome && k p.1) = c := by
  obtain ⟨ws, h1, k1, r1, nd1⟩ := so.ob m _ g1
  obtain ⟨ws', h2, k2, r2, nd2⟩ := so.ob m2 _ g2
  obtain ⟨_, sy1, va, kv1, da⟩ := I.hok _ _ h1
  obtain ⟨_, sy2, vb, kv2, db⟩ := I.hok _ _ h2
  have hkk : ws.map (·.1) = ws'.map (·.1) := by
    rw [← hk] at k2
    refine keys_same (K := w.K) (φ := φ) (H := H) (ex := w.ex) (ds := xs.map (·.1)) ?_ ?_
    · rw [List.map_map]; exact k1
    · rw [List.map_map]; exact k2
  have ka1 : va.map (·.1) = ws.map (·.1) := (kv_keys kv1).symm
  have kb1 : vb.map (·.1) = ws.map (·.1) := by rw [hkk]; exact (kv_keys kv2).symm
  have ndb : (vb.map (·.1)).Nodup := by rw [kb1]; exact nd1
  have nda : (va.map (·.1)).Nodup := by rw [ka1]; exact nd1
  have hl : (xs.map (·.2)).length = (ys.map (·.2)).length := by have := congrArg List.length hk; simpa using this
  obtain ⟨k, hkc, hi⟩ := rows_eq (vs := _) (ws := _) (as := va.map (·.2)) (bs := vb.map (·.2)) hK I so r1 r2 (kv_vals kv1) (kv_vals kv2) hl hc
  have hlen : va.length = vb.length := by have := congrArg List.length (ka1.trans kb1.symm); simpa using this
  have ix : ∀ (i : Nat) (p : Key × Value), va[i]? = some p → ixOf p.1 (va.map (·.1)) = i := fun i p hp => by
    have hi' : i < (va.map (·.1)).length := by rw [List.length_map]; exact (List.getElem?_eq_some_iff.mp hp).1
    have e1 : (va.map (·.1))[i] = p.1 := by
      obtain ⟨h1, h2⟩ := List.getElem?_eq_some_iff.mp hp
      rw [List.getElem_map, h2]
    rw [← e1]
    exact ixOf_nodup nda i hi'
  refine ⟨va, vb, fun key => k (ixOf key (va.map (·.1))), sy1, sy2, da, db, fun key x y hx hy => ?_, ?_⟩
  · obtain ⟨j, hj, ej⟩ := List.getElem_of_mem hx
    have e1 : ixOf key (va.map (·.1)) = j := ix j (key, x) (by rw [← ej]; exact List.getElem?_eq_getElem hj)
    dsimp only
    rw [e1]
    have hjb : j < vb.length := by omega
    have kj : (vb[j]).1 = key := by
      have z1 : (vb.map (·.1))[j]? = (va.map (·.1))[j]? := by rw [kb1, ka1]
      rw [List.getElem?_map, List.getElem?_map, List.getElem?_eq_getElem hjb, List.getElem?_eq_getElem hj, ej] at z1
      exact Option.some.inj z1
    have yj : (vb[j]).2 = y := by
      have z := valueAt_of_mem ndb (k := key) (v := (vb[j]).2) (by rw [← kj]; exact List.getElem_mem hjb)
      rw [hy] at z
      exact (Option.some.inj z).symm
    have := hi j (by simpa using hj) (by simpa using hjb)
    simp only [List.getElem_toArray, List.getElem_map] at this
    rw [ej, yj] at this
    exact this
  · rw [← hkc, hlen, beq_self_eq_true, Bool.true_and]
    have hs : ∀ p ∈ va, (valueAt vb p.1).isSome = true := fun p hp => valueAt_isSome.mpr (by rw [kb1, ← ka1]; exact List.mem_map_of_mem hp)
    rw [List.size_toArray, List.length_map, Bool.eq_iff_iff, List.all_eq_true, List.all_eq_true]
    constructor
    · intro h j hj
      have hj' : j < va.length := by simpa using hj
      have := h va[j] (List.getElem_mem hj')
      dsimp only at this
      rw [ix j _ (List.getElem?_eq_getElem hj')] at this
      simp only [Bool.and_eq_true] at this
      exact this.2
    · intro h p hp
      dsimp only
      rw [hs p hp, Bool.true_and]
      obtain ⟨j, hj, ej⟩ := List.getElem_of_mem hp
      rw [ix j p (by rw [← ej]; exact List.getElem?_eq_getElem hj)]
      exact h j (by simpa using hj)
theorem opR_eq (hK : w.K = X.K) (hu : X.A.units + 64 < cLine) : OpR X (compareOp .Eq) (rC w .eq) := by
  intro pins s σ H x y v u Q I rx ry h
  obtain ⟨φ, S, dx, dy, so, ⟨px, bx⟩, ⟨py, by_⟩, c, hc, h⟩ := h
  have hc : (if topOk S false dx dy = true then deq S fuel dx dy else none) = some c := hc
  by_cases hto : topOk S false dx dy = true
  · rw [if_pos hto] at hc
    have ht : topEq dx dy = true := by
      unfold topOk at hto
      simp only [Bool.and_eq_true] at hto
      exact hto.1
    have uu : X.A.in1.units + 39 < cLine := by show X.A.units + 1 + 39 < cLine; omega
    cases dx with
    | tup ds => cases dy with
      | tup es =>
        have hc' : (if ds.length = es.length then alls (deq S 39) ds es else (alls (deq S 39) (ds.take es.length) (es.take ds.length)).bind fun _ => some false) = some c := hc
        obtain ⟨a, vs, rfl, h1, r1⟩ := rp_inv px
        obtain ⟨b, ws, rfl, h2, r2⟩ := rp_inv py
        cases rx; cases ry
        rw [hK] at h1 h2
        obtain ⟨as, v1, p1, _⟩ := I.tuple h1
        obtain ⟨bs, v2, p2, _⟩ := I.tuple h2
        have la : as.length = ds.length := by rw [← v1.length, r1.length]
        have lb : bs.length = es.length := by rw [← v2.length, r2.length]
        by_cases hl : ds.length = es.length
        · rw [if_pos hl] at hc'
          obtain ⟨k, hk, hi⟩ := rows_eq hK I so r1 r2 v1 v2 hl hc'
          refine PySem.W.eq_tuplesT (n := 39) p1 p2 hi (un_of hu (by omega)) ⟨.bl c, H, I, ?_, h⟩
          show Value.bool _ = Value.bool c
          have e1 : as.length = bs.length := by omega
          rw [← hk, List.size_toArray, List.size_toArray, ← e1, Nat.min_self, beq_self_eq_true, Bool.and_true]
        · rw [if_neg hl] at hc'
          cases hz : alls (deq S 39) (ds.take es.length) (es.take ds.length) with
          | none => rw [hz] at hc'; cases hc'
          | some k0 =>
            rw [hz] at hc'
            cases hc'
            obtain ⟨k, hk, hi⟩ := rows_eq hK I so (r1.take es.length) (r2.take ds.length) (v1.take es.length) (v2.take ds.length) (by simp only [List.length_take]; omega) hz
            refine PySem.W.eq_tuplesT (n := 39) (e := k) p1 p2 (fun j h1 h2 => ?_) (un_of hu (by omega)) ⟨.bl false, H, I, ?_, h⟩
            · have j1 : j < as.length := by simpa using h1
              have j2 : j < bs.length := by simpa using h2
              have := hi j (by simp only [List.size_toArray, List.length_take]; omega) (by simp only [List.size_toArray, List.length_take]; omega)
              simpa using this
            · have : (as.toArray.size == bs.toArray.size) = false := by
                simp only [List.size_toArray, la, lb]
                simpa using hl
              show Value.bool _ = Value.bool false
              rw [this, Bool.and_false]
      | _ => cases ht
    | obj m => cases dy with
      | obj m' =>
        have ex := rp_inv px
        have ey := rp_inv py
        dsimp only at ex ey
        subst ex ey
        cases rx; cases ry
        rcases deq_lst (n := 39) hc with ⟨xs, ys, g1, g2, hc'⟩ | ⟨xs, ys, g1, g2, hk, hc'⟩
        · obtain ⟨vs, h1, r1⟩ := so.ob m _ g1
          obtain ⟨ws, h2, r2⟩ := so.ob m' _ g2
          obtain ⟨as, v1, p1, _⟩ := I.list (SqL.of h1)
          obtain ⟨bs, v2, p2, _⟩ := I.list (SqL.of h2)
          by_cases hl : xs.length = ys.length
          · rw [if_pos hl] at hc'
            obtain ⟨k, hk, hi⟩ := rows_eq hK I so r1 r2 v1 v2 hl hc'
            refine PySem.W.eq_listsT (n := 39) p1.isList p2.isList ?_ hi (un_of hu (by omega)) ⟨.bl c, H, I, by rw [hk]; rfl, h⟩
            simp only [List.size_toArray]; rw [← v1.length, ← v2.length, r1.length, r2.length, hl]
          · rw [if_neg hl] at hc'
            cases hc'
            refine SeqAt.eq_list_lengthsAt p1.isList p2.isList ?_ (by omega) ⟨.bl false, H, I, rfl, h⟩
            have : as.length ≠ bs.length := by rw [← v1.length, ← v2.length, r1.length, r2.length]; exact hl
            simpa using this
        · obtain ⟨va, vb, k, s1, s2, da, db, ht, e⟩ := dcts_eq hK I so g1 g2 hk hc'
          refine PySem.W.eq_dictsT (n := 39) s1 s2 da db ht (un_of hu (by omega)) ⟨.bl c, H, I, by rw [e]; rfl, h⟩
      | _ => cases ht
    | _ =>
      obtain ⟨h1, h2⟩ := deq_flat px py ht hc (by intro ds z; cases z) (by intro k z; cases z)
      exact op_eq pins s σ H _ _ v u Q I rx ry ⟨h1, by rw [h2]; exact h⟩
  · rw [if_neg hto] at hc; cases hc
theorem opR_ne (hK : w.K = X.K) (hu : X.A.units + 64 < cLine) : OpR X (compareOp .NotEq) (rC w .ne) := by
  intro pins s σ H x y v u Q I rx ry h
  obtain ⟨φ, S, dx, dy, so, ⟨px, bx⟩, ⟨py, by_⟩, c', hc, h⟩ := h
  have hc : (if topOk S true dx dy = true then (deq S fuel dx dy).map (!·) else none) = some c' := hc
  by_cases ht : topOk S true dx dy = true
  · rw [if_pos ht] at hc
    obtain ⟨c, hd, e⟩ := Option.map_eq_some_iff.mp hc
    subst e
    clear hc
    have hc : deq S (39 + 1) dx dy = some c := hd
    have te : topEq dx dy = true := by
      unfold topOk at ht
      simp only [Bool.and_eq_true] at ht
      exact ht.1
    cases dx with
    | tup ds => cases dy with
      | tup es =>
        have hc' : (if ds.length = es.length then alls (deq S 39) ds es else (alls (deq S 39) (ds.take es.length) (es.take ds.length)).bind fun _ => some false) = some c := hc
        obtain ⟨a, vs, rfl, h1, r1⟩ := rp_inv px
        obtain ⟨b, ws, rfl, h2, r2⟩ := rp_inv py
        cases rx; cases ry
        rw [hK] at h1 h2
        obtain ⟨as, v1, p1, _⟩ := I.tuple h1
        obtain ⟨bs, v2, p2, _⟩ := I.tuple h2
        have la : as.length = ds.length := by rw [← v1.length, r1.length]
        have lb : bs.length = es.length := by rw [← v2.length, r2.length]
        by_cases hl : ds.length = es.length
        · rw [if_pos hl] at hc'
          obtain ⟨k, hk, hi⟩ := rows_eq hK I so r1 r2 v1 v2 hl hc'
          refine rcNeT p1 p2 (by omega) (fun j g1 g2 => (hi j g1 g2).at X.A.in1 (by show X.A.units + 1 + 39 < cLine; omega)) ⟨.bl (!c), H, I, ?_, h⟩
          show Value.bool _ = Value.bool (!c)
          have e1 : as.length = bs.length := by omega
          rw [← hk, List.size_toArray, List.size_toArray, ← e1, Nat.min_self, beq_self_eq_true, Bool.and_true]
        · rw [if_neg hl] at hc'
          cases hz : alls (deq S 39) (ds.take es.length) (es.take ds.length) with
          | none => rw [hz] at hc'; cases hc'
          | some k0 =>
            rw [hz] at hc'
            cases hc'
            obtain ⟨k, hk, hi⟩ := rows_eq hK I so (r1.take es.length) (r2.take ds.length) (v1.take es.length) (v2.take ds.length) (by simp only [List.length_take]; omega) hz
            refine rcNeT (f := k) p1 p2 (by omega) (fun j h1 h2 => ?_) ⟨.bl true, H, I, ?_, h⟩
            · have j1 : j < as.length := by simpa using h1
              have j2 : j < bs.length := by simpa using h2
              have := hi j (by simp only [List.size_toArray, List.length_take]; omega) (by simp only [List.size_toArray, List.length_take]; omega)
              have := this.at X.A.in1 (by show X.A.units + 1 + 39 < cLine; omega)
              simpa using this
            · have : (as.toArray.size == bs.toArray.size) = false := by
                simp only [List.size_toArray, la, lb]
                simpa using hl
              show Value.bool _ = Value.bool true
              rw [this, Bool.and_false]; rfl
      | _ => cases te
    | obj m => cases dy with
      | obj m' =>
        have ex := rp_inv px
        have ey := rp_inv py
        dsimp only at ex ey
        subst ex ey
        cases rx; cases ry
        rcases deq_lst (n := 39) hc with ⟨xs, ys, g1, g2, hc'⟩ | ⟨xs, ys, g1, g2, hk, hc'⟩
        · obtain ⟨vs, h1, r1⟩ := so.ob m _ g1
          obtain ⟨ws, h2, r2⟩ := so.ob m' _ g2
          obtain ⟨as, v1, p1, _⟩ := I.list (SqL.of h1)
          obtain ⟨bs, v2, p2, _⟩ := I.list (SqL.of h2)
          by_cases hl : xs.length = ys.length
          · rw [if_pos hl] at hc'
            obtain ⟨k, hk, hi⟩ := rows_eq hK I so r1 r2 v1 v2 hl hc'
            refine rcNe p1.isList p2.isList ?_ (by omega) (fun j g1 g2 => (hi j g1 g2).at X.A.in1 (by show X.A.units + 1 + 39 < cLine; omega)) ⟨.bl (!c), H, I, by rw [hk]; rfl, h⟩
            simp only [List.size_toArray]; rw [← v1.length, ← v2.length, r1.length, r2.length, hl]
          · rw [if_neg hl] at hc'
            cases hc'
            refine SeqAt.RcNeAt.lists_lengths p1.isList p2.isList ?_ (by omega) _ _ _ _ ⟨.bl true, H, I, rfl, h⟩
            have : as.length ≠ bs.length := by rw [← v1.length, ← v2.length, r1.length, r2.length]; exact hl
            simpa using this
        · obtain ⟨va, vb, k, s1, s2, da, db, ht, e⟩ := dcts_eq hK I so g1 g2 hk hc'
          refine rcNeD s1 s2 da db (by omega) (fun _ => PySem.W.KeqHitsIn.of _ fun k v y hm hv => (ht k v y hm hv).at X.A.in1 (by show X.A.units + 1 + 39 < cLine; omega)) ⟨.bl (!c), H, I, by rw [e]; rfl, h⟩
      | _ => cases te
    | _ =>
      obtain ⟨h1, h2⟩ := deq_flat px py te hc (by intro ds z; cases z) (by intro k z; cases z)
      exact op_ne pins s σ H _ _ v u Q I rx ry ⟨h1, by rw [h2]; exact h⟩
  · rw [if_neg ht] at hc; cases hc
end
end Pw
end
section
set_option Elab.async false
set_option linter.all false
set_option maxRecDepth 100000
set_option maxHeartbeats 1000000
set_option autoImplicit false
/-! Pw5: order, membership, identity -/
namespace Pw
open PySem PySem.Spec PyProof.Rows L2
section
variable {X : Cx} {w : Wo}
theorem dord_cases {S : Store} {o : Pw.Ord} {a b : D} {c : Bool} (h : dord S o 1 a b = some c) : (∃ i j, a = .int i ∧ b = .int j ∧ o.i i j = c) ∨ (∃ i j, a = .str i ∧ b = .str j ∧ o.s i j = c) ∨ ∃ x y, a = .tup x ∧ b = .tup y := by
  cases a <;> cases b <;> first | (cases h; done) | skip
  · cases h; exact .inl ⟨_, _, rfl, rfl, rfl⟩
  · cases h; exact .inr (.inl ⟨_, _, rfl, rfl, rfl⟩)

def ordOp : Pw.Ord → CmpOp
  | .lt => .Lt
  | .le => .LtE
  | .gt => .Gt
  | .ge => .GtE
def ordCop : Pw.Ord → Cop
  | .lt => .lt
  | .le => .le
  | .gt => .gt
  | .ge => .ge
theorem dord_flat {S : Store} {o : Pw.Ord} {n : Nat} {a b : D} {c : Bool} (h : dord S o (n + 1) a b = some c) : (∃ i j, a = .int i ∧ b = .int j ∧ o.i i j = c) ∨ (∃ i j, a = .str i ∧ b = .str j ∧ o.s i j = c) ∨ ∃ x y, a = .tup x ∧ b = .tup y := by
  cases a <;> cases b <;> first | (cases h; done) | skip
  · cases h; exact .inl ⟨_, _, rfl, rfl, rfl⟩
  · cases h; exact .inr (.inl ⟨_, _, rfl, rfl, rfl⟩)

theorem opR_ord (o : Pw.Ord) (nt : ∀ S x y, cmpD S (ordCop o) (.tup x) (.tup y) = none) : OpR X (compareOp (ordOp o)) (rC w (ordCop o)) := by
  intro pins s σ H x y v u Q I rx ry h
  obtain ⟨φ, S, dx, dy, so, ⟨px, bx⟩, ⟨py, by_⟩, c, hc, h⟩ := h
  have hd : dord S o fuel dx dy = some c := by cases o <;> exact hc
  rcases dord_flat hd with ⟨i, j, rfl, rfl, e⟩ | ⟨i, j, rfl, rfl, e⟩ | ⟨a, b, rfl, rfl⟩
  · cases px; cases py
    subst e
    cases o
    · exact op_lt pins s σ H _ _ v u Q I rx ry ⟨_, _, rfl, rfl, h⟩
    · exact op_le pins s σ H _ _ v u Q I rx ry ⟨_, _, rfl, rfl, h⟩
    · exact op_gt pins s σ H _ _ v u Q I rx ry ⟨_, _, rfl, rfl, h⟩
    · exact op_ge pins s σ H _ _ v u Q I rx ry ⟨_, _, rfl, rfl, h⟩
  · cases px; cases py
    subst e
    cases o
    · exact op_lt_str pins s σ H _ _ v u Q I rx ry ⟨_, _, rfl, rfl, h⟩
    · exact op_le_str pins s σ H _ _ v u Q I rx ry ⟨_, _, rfl, rfl, h⟩
    · exact op_gt_str pins s σ H _ _ v u Q I rx ry ⟨_, _, rfl, rfl, h⟩
    · exact op_ge_str pins s σ H _ _ v u Q I rx ry ⟨_, _, rfl, rfl, h⟩
  · rw [nt] at hc; cases hc
theorem feq_eqV {K : PySem.W.Frag} {φ : Nat → Addr} {ex : Ex1} {H : Hp} {x y : V} {a b : D} (rx : Rp K φ ex H x a) (ry : Rp K φ ex H y b) : eqV x y = feq a b := by
  cases rx <;> cases ry <;> first | rfl | exact str_beq.trans (Bool.beq_eq_decide_eq _ _).symm
theorem flat_of {K : PySem.W.Frag} {φ : Nat → Addr} {ex : Ex1} {H : Hp} {x : V} {a : D} (rx : Rp K φ ex H x a) (f : flatD a = true) : flatV x = true := by
  cases rx <;> first | rfl | cases f
theorem flats_of {K : PySem.W.Frag} {φ : Nat → Addr} {ex : Ex1} {H : Hp} : ∀ {vs : List V} {ds : List D}, RpA K φ ex H vs ds → ds.all flatD = true → vs.all flatV = true
  | _, _, .nil, _ => rfl
  | _, _, .cons r t, f => by
    simp only [List.all_cons, Bool.and_eq_true] at f ⊢
    exact ⟨flat_of r f.1, flats_of t f.2⟩
theorem any_feq {K : PySem.W.Frag} {φ : Nat → Addr} {ex : Ex1} {H : Hp} {x : V} {a : D} (rx : Rp K φ ex H x a) : ∀ {vs : List V} {ds : List D}, RpA K φ ex H vs ds → inV x vs = ds.any fun y => feq y a
  | _, _, .nil => rfl
  | _, _, .cons r t => by
    show (eqV _ x || inV x _) = _
    rw [feq_eqV r rx, any_feq rx t]
    rfl
theorem din_row {S : Store} {φ : Nat → Addr} {H : Hp} (so : SimO w.K φ w.ex H S) {y : V} {d e : D} {c : Bool} (ry : Rp w.K φ w.ex H y e) (h : din S d e = some c) :
    (∃ k s, d = .str [k] ∧ e = .str s ∧ decide (k ∈ s) = c) ∨ ∃ p vs ds, y = .ref p ∧ (SqL w.K H p vs ∨ SqT w.K H p vs) ∧ RpA w.K φ w.ex H vs ds ∧ inD d ds = some c := by
  cases e with
  | str t =>
    simp only [din] at h
    split at h
    · cases h; exact .inl ⟨_, _, rfl, rfl, rfl⟩
    · cases h
  | tup ds =>
    cases ry with
    | tup h1 r1 => exact .inr ⟨_, _, _, rfl, .inr h1, r1, h⟩
  | obj n =>
    cases ry
    have h : (match get S n with
      | some (.lst xs) => inD d xs
      | some (.ro xs) => inD d xs
      | _ => none) = some c := h
    split at h
    · rename_i xs g
      obtain ⟨vs, h1, r1⟩ := so.ob n _ g
      exact .inr ⟨_, _, _, rfl, .inl (SqL.of h1), r1, h⟩
    · rename_i xs g
      obtain ⟨vs, h1, r1⟩ := so.ob n _ g
      exact .inr ⟨_, _, _, rfl, .inl h1.sq, r1, h⟩
    · cases h
  | _ => cases h
theorem one_sign {x : Str} {k : Nat} (h : x.cps.toList = [k]) : x = ⟨#[k]⟩ := str_ext h
theorem inD_some {d : D} {ds : List D} {c : Bool} (h : inD d ds = some c) : flatD d = true ∧ ds.all flatD = true ∧ (ds.any fun y => feq y d) = c := by
  unfold inD at h
  split at h
  · rename_i hf
    simp only [Bool.and_eq_true] at hf
    cases h
    exact ⟨hf.1, hf.2, rfl⟩
  · cases h
theorem opR_in (hK : w.K = X.K) : OpR X (compareOp .In) (rC w .inn) := by
  intro pins s σ H x y v u Q I rx ry h
  obtain ⟨φ, S, dx, dy, so, ⟨px, bx⟩, ⟨py, by_⟩, c, hc, h⟩ := h
  rcases din_row so py hc with ⟨k, t, rfl, rfl, e⟩ | ⟨p, vs, ds, rfl, hp, r1, hi⟩
  · obtain ⟨z, rfl, ez⟩ := rp_inv px
    obtain ⟨z2, rfl, rfl⟩ := rp_inv py
    rw [one_sign ez] at rx
    exact op_in_sign pins s σ H _ _ v u Q I rx ry ⟨k, z2, rfl, rfl, by rw [e]; exact h⟩
  · obtain ⟨f1, f2, e⟩ := inD_some hi
    rw [hK] at hp
    refine op_in_seq pins s σ H _ _ v u Q I rx ry ⟨p, vs, rfl, hp, flat_of px f1, flats_of r1 f2, ?_⟩
    show Q (.bl (inV x vs)) H
    rw [any_feq px r1, e]
    exact h
theorem opR_nin (hK : w.K = X.K) : OpR X (compareOp .NotIn) (rC w .nin) := by
  intro pins s σ H x y v u Q I rx ry h
  obtain ⟨φ, S, dx, dy, so, ⟨px, bx⟩, ⟨py, by_⟩, c', hc, h⟩ := h
  obtain ⟨c, hd, e'⟩ := Option.map_eq_some_iff.mp (show (din S dx dy).map (!·) = some c' from hc)
  subst e'
  rcases din_row so py hd with ⟨k, t, rfl, rfl, e⟩ | ⟨p, vs, ds, rfl, hp, r1, hi⟩
  · obtain ⟨z, rfl, ez⟩ := rp_inv px
    obtain ⟨z2, rfl, rfl⟩ := rp_inv py
    rw [one_sign ez] at rx
    exact op_notIn_sign pins s σ H _ _ v u Q I rx ry ⟨k, z2, rfl, rfl, by rw [e]; exact h⟩
  · obtain ⟨f1, f2, e⟩ := inD_some hi
    rw [hK] at hp
    refine op_notIn_seq pins s σ H _ _ v u Q I rx ry ⟨p, vs, rfl, hp, flat_of px f1, flats_of r1 f2, ?_⟩
    show Q (.bl (!inV x vs)) H
    rw [any_feq px r1, e]
    exact h
theorem non_iff {K : PySem.W.Frag} {φ : Nat → Addr} {ex : Ex1} {H : Hp} {x : V} {d : D} (r : Rp K φ ex H x d) : decide (x = .non) = decide (d = .non) := by
  cases r <;> simp
theorem dis_cases {x y : D} {c : Bool} (h : dis x y = some c) : (y = .non ∧ decide (x = .non) = c) ∨ ∃ a b, x = .bl a ∧ y = .bl b ∧ decide (a = b) = c := by
  unfold dis at h
  split at h
  · cases h; exact .inl ⟨rfl, rfl⟩
  · split at h
    · cases h; exact .inr ⟨_, _, rfl, rfl, rfl⟩
    · cases h
  · cases h
theorem opR_is : OpR X (compareOp .Is) (rC w .is) := by
  intro pins s σ H x y v u Q I rx ry h
  obtain ⟨φ, S, dx, dy, so, ⟨px, bx⟩, ⟨py, by_⟩, c, hc, h⟩ := h
  rcases dis_cases (show dis dx dy = some c from hc) with ⟨rfl, e⟩ | ⟨a, b, rfl, rfl, e⟩
  · cases py
    exact op_isN pins s σ H _ _ v u Q I rx ry ⟨rfl, by rw [non_iff px, e]; exact h⟩
  · cases px; cases py
    exact op_is_bl pins s σ H _ _ v u Q I rx ry ⟨a, b, rfl, rfl, by rw [e]; exact h⟩
theorem opR_isn : OpR X (compareOp .IsNot) (rC w .isn) := by
  intro pins s σ H x y v u Q I rx ry h
  obtain ⟨φ, S, dx, dy, so, ⟨px, bx⟩, ⟨py, by_⟩, c', hc, h⟩ := h
  obtain ⟨c, hd, e'⟩ := Option.map_eq_some_iff.mp (show (dis dx dy).map (!·) = some c' from hc)
  subst e'
  rcases dis_cases hd with ⟨rfl, e⟩ | ⟨a, b, rfl, rfl, e⟩
  · cases py
    exact op_notN pins s σ H _ _ v u Q I rx ry ⟨rfl, by rw [non_iff px, e]; exact h⟩
  · cases px; cases py
    exact op_isnot_bl pins s σ H _ _ v u Q I rx ry ⟨a, b, rfl, rfl, by rw [e]; exact h⟩
end
end Pw
end
section
set_option Elab.async false
set_option linter.all false
set_option maxRecDepth 100000
set_option maxHeartbeats 1000000
set_option autoImplicit false
/-! Pw6: subscripts, slices, calls of built-ins by values -/
namespace Pw
open PySem PySem.Spec PyProof.Rows L2
section
variable {X : Cx} {w : Wo}
theorem Rg0.of {α β : Type} {R : (Nat → Addr) → Hp → Store → β → α → Prop} {φ : Nat → Addr} {S S' : Store} {H : Hp} {Q : β → Hp → Prop} {o : Option α} (h : Rg0 w R φ S H (Res.of o S') Q) : ∃ a, o = some a ∧ Rg0 w R φ S H (.ok a S') Q := by
  cases o with
  | none => exact h.elim
  | some a => exact ⟨a, rfl, h⟩
theorem place_ix {n : Nat} {i : Int} : place n i = ixN n i := rfl
theorem at_row {φ : Nat → Addr} {H : Hp} {vs : List V} {ds : List D} (r : RpA w.K φ w.ex H vs ds) {i : Int} {d : D} (h : ((place ds.length i).bind fun j => ds[j]?) = some d) : ∃ v, atI vs i = some v ∧ Rp w.K φ w.ex H v d ∧ ∃ j : Nat, ds[j]? = some d := by
  cases e : place ds.length i with
  | none => rw [e] at h; cases h
  | some j =>
    rw [e] at h
    obtain ⟨v, h1, h2⟩ := r.get d h
    refine ⟨v, ?_, h2, j, h⟩
    unfold atI
    rw [r.length, ← place_ix, e]
    exact h1
theorem bel_at {n : Nat} {ds : List D} (b : D.bels n ds = true) {j : Nat} {d : D} (h : ds[j]? = some d) : D.bel n d = true := bels_all.mp b d (List.mem_of_getElem? h)
/-- o[i] by what it does to values -/
def rX (w : Wo) : R2 := fun x y H Q => ∃ φ S dx dy, SimO w.K φ w.ex H S ∧ RE w φ H S x dx ∧ RE w φ H S y dy ∧ Rg0 w (RE w) φ S H (idxD dx dy S) Q
theorem ixR (hK : w.K = X.K) : IxR X (rX w) := by
  intro value slice pins s σ H x y v u Q I rx ry h hs
  obtain ⟨φ, S, dx, dy, so, ⟨px, bx⟩, ⟨py, by_⟩, h⟩ := h
  cases dx with
  | str t => cases dy with
    | int i =>
      obtain ⟨z, rfl, rfl⟩ := rp_inv px
      generalize ht : z.cps.toList = t at h
      have h : Rg0 w (RE w) φ S H (if t.length ≤ line then Res.of (((place t.length i).bind fun j => t[j]?).map fun c => .str [c]) S else .bad) Q := h
      obtain ⟨hl, h⟩ := h.ite
      obtain ⟨a, ea, h⟩ := h.of
      obtain ⟨c, ec, e2⟩ := Option.map_eq_some_iff.mp ea
      subst e2
      cases py
      have hq := h.same so (rp_str (x := ⟨#[c]⟩) rfl) rfl
      subst ht
      refine ix_str value slice pins s σ H _ _ v u Q I rx ry ⟨z, i, c, rfl, rfl, ?_, ec, hq⟩ hs
      rw [str_len, line_eq]; exact hl
    | _ => exact h.elim
  | tup ds => cases dy with
    | int i =>
      obtain ⟨d, ed, h⟩ := Rg0.of (show Rg0 w (RE w) φ S H (Res.of ((place ds.length i).bind fun j => ds[j]?) S) Q from h)
      cases py
      cases px with
      | tup h1 r1 =>
        obtain ⟨v', h2, h3, j, h4⟩ := at_row r1 ed
        rw [hK] at h1
        exact ix_tup value slice pins s σ H _ _ v u Q I rx ry ⟨_, _, i, v', rfl, rfl, h1, h2, h.same so h3 (bel_at (by simpa [D.bel] using bx) h4)⟩ hs
    | _ => exact h.elim
  | obj n =>
    cases px
    simp only [idxD] at h
    split at h
    · rename_i xs g
      split at h
      · rename_i i
        obtain ⟨d, ed, h⟩ := h.of
        cases py
        obtain ⟨vs, h1, r1⟩ := so.ob n _ g
        obtain ⟨v', h2, h3, j, h4⟩ := at_row r1 ed
        exact ix_list value slice pins s σ H _ _ v u Q I rx ry ⟨_, _, i, v', rfl, rfl, SqL.of h1, h2, h.same so h3 (bel_at (so.wf n _ g) h4)⟩ hs
      · exact h.elim
    · rename_i xs g
      split at h
      · rename_i i
        obtain ⟨d, ed, h⟩ := h.of
        cases py
        obtain ⟨vs, h1, r1⟩ := so.ob n _ g
        obtain ⟨v', h2, h3, j, h4⟩ := at_row r1 ed
        exact ix_list value slice pins s σ H _ _ v u Q I rx ry ⟨_, _, i, v', rfl, rfl, h1.sq, h2, h.same so h3 (bel_at (so.wf n _ g) h4)⟩ hs
      · exact h.elim
    · exact h.elim
  | _ => exact h.elim
/-! ### slices -/
theorem clip_ix (n d : Nat) (o : Option Int) : clip n d o = HT.sIx n d o := by
  cases o <;> rfl
/-- o[a:b] by what it does to values -/
def rSl (w : Wo) : V → Option Int → Option Int → Hp → VK → Prop := fun x lo hi H Q => ∃ φ S dx, SimO w.K φ w.ex H S ∧ RE w φ H S x dx ∧ Rg0 w (RE w) φ S H (slD dx (lo.map .int) (hi.map .int) S) Q
theorem intO_map (o : Option Int) : intO (o.map .int) = some o := by cases o <;> rfl
theorem bels_cut {n : Nat} {ds : List D} (b : D.bels n ds = true) (lo hi : Option Int) : D.bels n (cut ds lo hi) = true :=
  bels_all.mpr fun d hd => bels_all.mp b d (List.mem_of_mem_drop (List.mem_of_mem_take hd))
theorem cut_rp {φ : Nat → Addr} {H : Hp} {vs : List V} {ds : List D} (r : RpA w.K φ w.ex H vs ds) (lo hi : Option Int) : RpA w.K φ w.ex H (cutV vs lo hi) (cut ds lo hi) := by
  unfold cutV cut
  rw [clip_ix, clip_ix, r.length]
  exact (r.drop _).take _
theorem slR (hK : w.K = X.K) : SlR X (rSl w) := by
  intro pins s σ H x v vl vu lo hi sl Q I rx hs pl pu h
  obtain ⟨φ, S, dx, so, ⟨px, bx⟩, h⟩ := h
  unfold slD at h
  rw [intO_map, intO_map] at h
  dsimp only at h
  cases dx with
  | str t =>
    have h : Rg0 w (RE w) φ S H (if t.length ≤ line then .ok (.str (cut t lo hi)) S else .bad) Q := h
    obtain ⟨hl, h⟩ := h.ite
    obtain ⟨z, rfl, rfl⟩ := rp_inv px
    refine sl_str pins s σ H _ v vl vu lo hi sl Q I rx hs pl pu ⟨z, rfl, ?_, h.same so (rp_str ?_) rfl⟩
    · rw [str_len, line_eq]; exact hl
    · unfold cutS cut
      rw [clip_ix, clip_ix, str_len]
  | tup ds =>
    have b : D.bels S.length ds = true := by simpa [D.bel] using bx
    cases px with
    | tup h1 r1 =>
      rw [hK] at h1
      refine sl_tupA pins s σ H _ v vl vu lo hi sl Q I rx hs pl pu ⟨_, _, rfl, h1, fun e => ?_, fun _ p hp => ?_⟩
      · have ec : cut ds lo hi = ds := by
          unfold cut
          rw [clip_ix, clip_ix, ← r1.length, e.1, e.2, List.drop_zero, Nat.sub_zero, r1.length, List.take_length]
        have h : Rg0 w (RE w) φ S H (.ok (.tup (cut ds lo hi)) S) Q := h
        rw [ec] at h
        exact h.same so (.tup (hK ▸ h1) r1) bx
      · exact Rg0.tup h so (cut_rp r1 lo hi) (bels_cut b lo hi) hp
  | obj n =>
    cases px
    have h : Rg0 w (RE w) φ S H (match get S n with
      | some (.lst xs) => .ok (.obj S.length) (.lst (cut xs lo hi) :: S)
      | _ => .bad) Q := h
    split at h
    · rename_i xs g
      obtain ⟨vs, h1, r1⟩ := so.ob n _ g
      exact sl_list pins s σ H _ v vl vu lo hi sl Q I rx hs pl pu ⟨_, _, rfl, SqL.of h1, fun p hp => h.lst so (cut_rp r1 lo hi) (bels_cut (so.wf n _ g) lo hi) hp⟩
    · exact h.elim
  | _ => exact h.elim
/-! ### built-ins of one or two values -/
theorem one_arg {φ : Nat → Addr} {H : Hp} {S : Store} {xs : List V} {d : D} (r : REs w φ H S xs [d]) : ∃ x, xs = [x] ∧ Rp w.K φ w.ex H x d ∧ D.bel S.length d = true := by
  obtain ⟨r, b⟩ := r
  cases r with
  | cons q r =>
    cases r
    simp only [D.bels, Bool.and_eq_true] at b
    exact ⟨_, rfl, q, b.1⟩
theorem two_arg {φ : Nat → Addr} {H : Hp} {S : Store} {xs : List V} {d e : D} (r : REs w φ H S xs [d, e]) : ∃ x y, xs = [x, y] ∧ Rp w.K φ w.ex H x d ∧ Rp w.K φ w.ex H y e ∧ D.bel S.length d = true ∧ D.bel S.length e = true := by
  obtain ⟨r, b⟩ := r
  cases r with
  | cons q r =>
    cases r with
    | cons q2 r =>
      cases r
      simp only [D.bels, Bool.and_eq_true] at b
      exact ⟨_, _, rfl, q, q2, b.1, b.2.1⟩
/-- a call of a built-in with the arguments ds, by what it does to values -/
def rF (w : Wo) (ds : List D) (f : Store → Res D) : List V → Hp → VK → Prop := fun xs H Q => ∃ φ S, SimO w.K φ w.ex H S ∧ REs w φ H S xs ds ∧ Rg0 w (RE w) φ S H (f S) Q
theorem callR_len (hK : w.K = X.K) (d : D) : CallR X (.builtin "len") (rF w [d] fun S => f1D .len d S) := by
  intro pins s σ H xs us Q I r h
  obtain ⟨φ, S, so, ra, h⟩ := h
  obtain ⟨x, rfl, px, bx⟩ := one_arg ra
  have h : Rg0 w (RE w) φ S H ((Res.of (lenD S d) S).bind fun n S => .ok (.int n) S) Q := by cases d <;> exact h
  cases e : lenD S d with
  | none => rw [e] at h; exact h.elim
  | some n =>
    rw [e] at h
    have h : Rg0 w (RE w) φ S H (.ok (.int n) S) Q := h
    cases d with
    | str t =>
      have e : (if t.length ≤ line then some (t.length : Int) else none) = some n := e
      split at e
      · rename_i hl
        cases e
        obtain ⟨z, rfl, rfl⟩ := rp_inv px
        refine call_len_str pins s σ H _ us Q I r ⟨z, rfl, ?_, ?_⟩
        · rw [str_len, line_eq]; exact hl
        · rw [str_len]; exact h.same so (.int _) rfl
      · cases e
    | tup ds =>
      cases e
      cases px with
      | tup h1 r1 =>
        rw [hK] at h1
        refine call_len_seq pins s σ H _ us Q I r ⟨_, _, rfl, .inr h1, ?_⟩
        rw [r1.length]; exact h.same so (.int _) rfl
    | obj m =>
      cases px
      simp only [lenD] at e
      split at e
      · rename_i xs g
        cases e
        obtain ⟨vs, h1, r1⟩ := so.ob m _ g
        refine call_len_seq pins s σ H _ us Q I r ⟨_, _, rfl, .inl (SqL.of h1), ?_⟩
        rw [r1.length]; exact h.same so (.int _) rfl
      · rename_i xs g
        cases e
        obtain ⟨vs, h1, r1⟩ := so.ob m _ g
        refine call_len_seq pins s σ H _ us Q I r ⟨_, _, rfl, .inl (h1.sq), ?_⟩
        rw [r1.length]; exact h.same so (.int _) rfl
      · rename_i xs g
        cases e
        obtain ⟨ws, h1, r1, _⟩ := so.ob m _ g
        have el : ws.length = xs.length := by have := r1.length; simpa using this
        refine call_lenD pins s σ H _ us Q I r ⟨_, ws, rfl, h1, ?_⟩
        rw [el]; exact h.same so (.int _) rfl
      · cases e
    | _ => cases e
theorem digits_val : ∀ (l : List Nat) (k : Nat), ((l.foldl (fun acc c => acc * 10 + (c - 48)) k : Nat) : Int) = l.foldl (fun n c => n * 10 + ((c - 48 : Nat) : Int)) (k : Int)
  | [], _ => rfl
  | c :: l, k => by
    rw [List.foldl_cons, List.foldl_cons, digits_val l]
    congr 1
theorem digits_text {a : Str} {n : Int} (h : digits? a.cps.toList = some n) : PySem.intText? a = some n ∧ a.length ≤ 640 := by
  have hl : a.cps.toList.length = a.length := Array.length_toList
  unfold digits? at h
  split at h
  · cases h
  · rename_i l hne
    split at h
    · rename_i hc
      simp only [Bool.and_eq_true, decide_eq_true_eq, List.all_eq_true] at hc
      refine ⟨?_, by omega⟩
      rw [PySem.intText_digits (x := a) (fun c hx => hc.1 c hx) (fun z => hne z) (by omega), ← h]
      congr 1
      exact digits_val _ 0
    · cases h
theorem callR_int (d : D) : CallR X (.type "int") (rF w [d] fun S => f1D .int d S) := by
  intro pins s σ H xs us Q I r h
  obtain ⟨φ, S, so, ra, h⟩ := h
  obtain ⟨x, rfl, px, bx⟩ := one_arg ra
  cases d with
  | int i => cases px; exact call_int1 pins s σ H _ us Q I r (.inl ⟨_, rfl, h.same so (.int _) rfl⟩)
  | bl i => cases px; exact call_int1 pins s σ H _ us Q I r (.inr ⟨_, rfl, h.same so (.int _) rfl⟩)
  | str z =>
    cases px
    rename_i a
    have h : Rg0 w (RE w) φ S H (match digits? a.cps.toList with
      | some n => .ok (.int n) S
      | none => .bad) Q := h
    cases e : digits? a.cps.toList with
    | none => rw [e] at h; exact h.elim
    | some n =>
      rw [e] at h
      have h : Rg0 w (RE w) φ S H (.ok (.int n) S) Q := h
      obtain ⟨k1, k2⟩ := digits_text e
      exact call_int_str pins s σ H _ us Q I r ⟨a, n, rfl, k1, k2, h.same so (.int _) rfl⟩
  | _ => exact h.elim
theorem callR_str (d : D) : CallR X (.type "str") (rF w [d] fun S => f1D .str d S) := by
  intro pins s σ H xs us Q I r h
  obtain ⟨φ, S, so, ra, h⟩ := h
  obtain ⟨x, rfl, px, bx⟩ := one_arg ra
  cases d <;> first | exact h.elim | skip
  rename_i i
  cases px
  have h : Rg0 w (RE w) φ S H (if i.natAbs.log2 < 1920 then .ok (.str (codes (toString i))) S else .bad) Q := h
  split at h
  · rename_i hi
    refine call_str_int pins s σ H _ us Q I r ⟨i, rfl, hi, ?_⟩
    have e : (.str (codes (toString i)) : D) = .str (Str.ofString (toString i)).cps.toList := by
      congr 1; exact (PyProof.Rows.signs_ofString _).symm
    rw [e] at h
    exact h.same so (.str _) rfl
  · exact h.elim
theorem callR_min (hc : X.calm = true) (a b : D) : CallR X (.builtin "min") (rF w [a, b] fun S => f2D .min a b S) := by
  intro pins s σ H xs us Q I r h
  obtain ⟨φ, S, so, ra, h⟩ := h
  obtain ⟨x, y, rfl, px, py, bx, by_⟩ := two_arg ra
  cases a <;> cases b <;> first | exact h.elim | skip
  cases px; cases py
  exact call_min2 hc pins s σ H _ us Q I r ⟨_, _, rfl, h.same so (.int _) rfl⟩
theorem callR_max (hc : X.calm = true) (a b : D) : CallR X (.builtin "max") (rF w [a, b] fun S => f2D .max a b S) := by
  intro pins s σ H xs us Q I r h
  obtain ⟨φ, S, so, ra, h⟩ := h
  obtain ⟨x, y, rfl, px, py, bx, by_⟩ := two_arg ra
  cases a <;> cases b <;> first | exact h.elim | skip
  cases px; cases py
  exact call_max2 hc pins s σ H _ us Q I r ⟨_, _, rfl, h.same so (.int _) rfl⟩
theorem callR_abs (d : D) : CallR X (.builtin "abs") (rF w [d] fun S => f1D .abs d S) := by
  intro pins s σ H xs us Q I r h
  obtain ⟨φ, S, so, ra, h⟩ := h
  obtain ⟨x, rfl, px, bx⟩ := one_arg ra
  cases d <;> first | exact h.elim | skip
  cases px
  exact call_abs pins s σ H _ us Q I r ⟨_, rfl, h.same so (.int _) rfl⟩
end
end Pw
end
section
set_option Elab.async false
set_option linter.all false
set_option maxRecDepth 100000
set_option maxHeartbeats 4000000
set_option autoImplicit false
/-! Pw6i: an own exception's __init__: super().__init__(f'..'), then one field for each parameter -/
namespace Pw
open PySem PySem.Spec PyProof.Rows L2 TL
def eqS (a b : Str) : Bool := decide (a.cps.toList = b.cps.toList)
theorem eqS_ok {a b : Str} (h : eqS a b = true) : a = b := str_ext (of_decide_eq_true h)
/-- no name of the machine's own -/
def okName (x : Str) : Bool := !(x == ("__debug__" : Str)) && !(x == ("__classdict__" : Str)) && !(x == ("__name__" : Str))
theorem okName_ok {x : Str} (h : okName x = true) : (x == ("__debug__" : Str)) = false ∧ (x == ("__classdict__" : Str)) = false ∧ x ≠ "__name__" := by
  unfold okName at h
  simp only [Bool.and_eq_true, Bool.not_eq_true'] at h
  refine ⟨h.1.1, h.1.2, fun z => ?_⟩
  rw [z] at h
  simp at h
/-! ### how it is written -/
def cPart (ps : List Str) (e : Expr) : Bool := match e with
  | .Constant (.str z) _ _ => decide (z.length ≤ 1000)
  | .FormattedValue (.Name x _) k none _ => decide (k = -1) && ps.any (fun y => eqS y x) && okName x
  | _ => false
def cStore (p0 f x : Str) (s : Stmt) : Bool := match s with
  | .Assign [.Attribute (.Name y _) g _] (.Name z _) _ => eqS y p0 && eqS g f && eqS z x && okName y && okName z
  | _ => false
def cStores (p0 : Str) : List Str → List Str → List Stmt → Bool
  | [], [], [] => true
  | f :: fs, x :: xs, s :: ss => cStore p0 f x s && cStores p0 fs xs ss
  | _, _, _ => false
def cIni (p0 : Str) (ps fl : List Str) (body : List Stmt) : Bool := match body with
  | .Expr (.Call (.Attribute (.Call (.Name n _) [] [] _) m q3) [.JoinedStr (a :: b :: parts) _] [] q5) _ :: st => eqS n "super" && eqS m "__init__" && (a :: b :: parts).all (cPart ps) && decide (parts.length ≤ 20) && cStores p0 fl ps st && decide (fl.length ≤ 100) && decide (0 < fl.length) && (q3.endLine == q5.line)
  | _ => false
/-- what a class with such an __init__ is: C the class, D where it stands -/
structure IniC (K : PySem.W.Frag) (C D f : Addr) (fl : List Str) : Prop where
  oex : OexC K C
  ini : PySem.W.findIn K (.ref C) "__init__" = some (some (.ref f))
  typ : PySem.W.typeIn K (.ref f) = some (.type "function")
  mro : PySem.W.mroIn K C (.ref D) = some true
  sup : PySem.W.ks_superIn K C D "__init__" = some (some (.builtin "ValueError.__init__"))
  sub : PySem.W.subIn K (.ref C) (.type "ValueError") = some true
  no : ∀ g ∈ fl, PySem.W.findIn K (.ref C) g = some none
/-- what it is to do -/
def spI (K : PySem.W.Frag) (D f : Addr) (fl : List Str) : Sp := fun vs H Q _ => ∃ (a C : Addr) (is : List Int), vs = .ref a :: is.map V.int ∧ is.length = fl.length ∧ (∀ i ∈ is, i.natAbs.log2 < 1920) ∧ IniC K C D f fl ∧ H a = some (exo a C none) ∧
  ∀ dx H', H dx = none → dx ≠ a → H' a = some (exo a C (some dx)) → H' dx = some (exd dx (fl.zip (is.map V.int)).reverse) → (∀ b, b ≠ a → b ≠ dx → H' b = H b) → Q .non H'
/-- the function -/
structure IniF (P : Program) (K : PySem.W.Frag) (f D cc cda : Addr) (fd : FuncData) (q : Str) (params : Arguments) (body : List Stmt) (scope : Scope) (p0 : Str) (ps fl : List Str) : Prop where
  fn : ∃ (oc : Value) (od : Option Addr) (dV kV doc pm : Value) (an : Option Addr) (ct : Value) (osl : Array (Option Value)), fd = PySem.W.fnX "__init__" q params body scope [("__class__", cc)] dV kV doc pm an (.ref cda) ct ∧ K.lookup f = some ⟨oc, od, .func fd, osl⟩
  code : PySem.W.codeIn K (.ref cda) q = true
  file : ∃ (cl : Value) (cd : Option Addr) (vs : Array Value) (sl : Array (Option Value)) (fi : Str) (tf : Tok), K.lookup cda = some ⟨cl, cd, .fields vs, sl⟩ ∧ vs[2]? = some (.str fi tf) ∧ ((P.main.file : Str) == fi) = true
  cell : ∃ (cl : Value) (cd : Option Addr) (sl : Array (Option Value)), K.lookup cc = some ⟨cl, cd, .cell (some (.ref D)), sl⟩
  clsD : ∃ cd, PySem.W.clsIn K D = some cd
  sup : PySem.W.nsIn K mainGlobals "super" = some none
  opq : PySem.W.nsIn K cStatics "thirdparty.any" = some none
  top : (P.main.scope.names.lookup ("super" : Str)).isSome = false
  par : ∃ ar : Arg, (params.posonlyargs ++ params.args).head? = some ar ∧ ar.arg = p0
  sc : NdefX.NScope (p0 :: ps ++ [("__class__" : Str)]) (p0 :: ps) [("__class__" : Str)] scope
  sup2 : scope.names.lookup ("super" : Str) = some .globalImplicit
  look : cIni p0 ps fl body = true
/-! ### the text -/
section
variable {X : Cx}
theorem parts_ok {ps : List Str} {p0 : Str} {is : List Int} {σ : L2.St} (hN : X.N = p0 :: ps ++ [("__class__" : Str)]) (hv : ∀ x ∈ ps, Vis X.env.scope x) (hs : ∀ (i : Nat) (x : Str), ps[i]? = some x → ∃ k, is[i]? = some k ∧ σ[i + 1]? = some (some (.int k))) (hi : ∀ i ∈ is, i.natAbs.log2 < 1920) :
    ∀ (es : List Expr), es.all (cPart ps) = true → ∃ ts, PJ X es ts ∧ ∀ (acc : Str) (H : Hp) (Q : Str → Hp → Prop), acc.length + 3000 * es.length ≤ sizeLine → (∀ out, Q out H) → tJs ts acc σ H Q
  | [], _ => ⟨[], .nil, fun acc H Q _ q => q acc⟩
  | e :: es, h => by
    simp only [List.all_cons, Bool.and_eq_true] at h
    obtain ⟨ts, h1, h2⟩ := parts_ok hN hv hs hi es h.2
    have app : ∀ (a b : Str), (a ++ b).length = a.length + b.length := fun a b => by
      rw [str_len, str_len, str_len]; show (tl (a ++ b)).length = _; rw [tl_append, List.length_append]
    have hc := h.1
    unfold cPart at hc
    split at hc
    · rename_i z k pos
      have hz : z.length ≤ 1000 := of_decide_eq_true hc
      refine ⟨_, .cons pe_str h1, fun acc H Q hl q => ?_⟩
      rw [List.length_cons] at hl
      exact ⟨z, rfl, by rw [app]; omega, h2 _ _ _ (by rw [app]; omega) q⟩
    · rename_i x q1 k pos
      simp only [Bool.and_eq_true, decide_eq_true_eq, List.any_eq_true] at hc
      obtain ⟨⟨hk, y, hy, hxy⟩, hn⟩ := hc
      subst hk
      have exy := eqS_ok hxy; subst exy
      obtain ⟨i, hi1⟩ := List.mem_iff_getElem?.mp hy
      obtain ⟨k, hk1, hk2⟩ := hs i y hi1
      have hNi : X.N[i + 1]? = some y := by
        rw [hN]
        show (ps ++ [("__class__" : Str)])[i]? = some y
        rw [List.getElem?_append_left (List.getElem?_eq_some_iff.mp hi1).1]
        exact hi1
      refine ⟨_, .cons (pe_fmt (pe_var hNi (hv y hy) (okName_ok hn).1 (okName_ok hn).2.1)) h1, fun acc H Q hl q => ?_⟩
      rw [List.length_cons] at hl
      have hb := hi k (List.mem_of_getElem? hk1)
      have e := int_text_length_le (k := 1920) (by decide) hb
      have e2 : (Str.ofString (toString k)).length = (toString k).length := PySem.ofString_length _
      refine ⟨.int k, hk2, .inr ⟨k, rfl, hb, Str.ofString (toString k), rfl, ?_, h2 _ _ _ ?_ q⟩⟩
      · rw [app, e2]; omega
      · rw [app, e2]; omega
    · cases hc

theorem store1_ok {p0 f x : Str} {s : Stmt} {i : Nat} (h : cStore p0 f x s = true) (h0 : X.N[0]? = some p0) (v0 : Vis X.env.scope p0) (hi : X.N[i]? = some x) (vi : Vis X.env.scope x) : PS X s (tOst X.K f (tVar 0) (tVar i)) := by
  unfold cStore at h
  split at h
  · rename_i y q1 g q2 z q3 pos
    simp only [Bool.and_eq_true] at h
    obtain ⟨⟨⟨⟨e1, e2⟩, e3⟩, n1⟩, n2⟩ := h
    cases eqS_ok e1
    cases eqS_ok e2
    cases eqS_ok e3
    exact ps_ost (pe_var h0 v0 (okName_ok n1).1 (okName_ok n1).2.1) (pe_var hi vi (okName_ok n2).1 (okName_ok n2).2.1)
  · cases h
/-- the further fields -/
theorem stores_ok {p0 : Str} {a C : Addr} {σ : L2.St} (T : OexC X.K C) (h0 : X.N[0]? = some p0) (v0 : Vis X.env.scope p0) (s0 : σ[0]? = some (some (.ref a))) : ∀ (fl xs : List Str) (ss : List Stmt) (is : List Int) (j : Nat), cStores p0 fl xs ss = true → is.length = fl.length →
    (∀ (i : Nat) (x : Str), xs[i]? = some x → X.N[j + i]? = some x ∧ Vis X.env.scope x ∧ ∃ k, is[i]? = some k ∧ σ[j + i]? = some (some (.int k))) → (∀ g ∈ fl, PySem.W.findIn X.K (.ref C) g = some none) →
    ∃ t, PSs X ss t ∧ ∀ (D0 : Ends) (H : Hp) (dx : Addr) (fs : List (Str × V)), dx ≠ a → H a = some (exo a C (some dx)) → H dx = some (exd dx fs) → fs.length + fl.length ≤ 900 →
      (∀ H', H' a = some (exo a C (some dx)) → H' dx = some (exd dx ((fl.zip (is.map V.int)).reverse ++ fs)) → (∀ b, b ≠ a → b ≠ dx → H' b = H b) → D0.nx σ H') → t D0 σ H
  | [], [], [], is, j, _, _, _, _ => ⟨_, pss_nil, fun D0 H dx fs _ e1 e2 _ q => q H e1 (by simpa using e2) fun _ _ _ => rfl⟩
  | f :: fl, x :: xs, s :: ss, [], j, _, hl, _, _ => by cases hl
  | f :: fl, x :: xs, s :: ss, k :: is, j, h, hl, hx, hno => by
    simp only [cStores, Bool.and_eq_true] at h
    obtain ⟨n1, v1, k1, e1, e2⟩ := hx 0 x rfl
    cases e1
    obtain ⟨t, h1, h2⟩ := stores_ok T h0 v0 s0 fl xs ss is (j + 1) h.2 (Nat.succ.inj hl) (fun i y hy => by
      obtain ⟨n2, v2, k2, e3, e4⟩ := hx (i + 1) y hy
      exact ⟨by rw [Nat.add_assoc, Nat.add_comm 1 i]; exact n2, v2, k2, e3, by rw [Nat.add_assoc, Nat.add_comm 1 i]; exact e4⟩) (fun g hg => hno g (List.mem_cons_of_mem _ hg))
    refine ⟨_, pss_cons (store1_ok h.1 h0 v0 n1 v1) h1, fun D0 H dx fs ne ea ed hz q => ?_⟩
    refine ⟨.int k, e2, .ref a, s0, a, C, rfl, T, hno f (List.mem_cons_self ..), .inr ⟨dx, fs, ea, ed, by rw [List.length_cons] at hz; omega, ?_⟩⟩
    refine h2 D0 _ dx ((f, .int k) :: fs) ne (by rw [upd_ne (Ne.symm ne)]; exact ea) upd_same (by simp only [List.length_cons] at hz ⊢; omega) fun H' a1 a2 a3 => q H' a1 (by rw [a2]; simp) fun b b1 b2 => by rw [a3 b b1 b2, upd_ne b2]
  | [], [], _ :: _, _, _, h, _, _, _ => by simp [cStores] at h
  | [], _ :: _, _, _, _, h, _, _, _ => by simp [cStores] at h
  | _ :: _, [], _, _, _, h, _, _, _ => by simp [cStores] at h
  | _ :: _, _ :: _, [], _, _, h, _, _, _ => by simp [cStores] at h
/-- all fields -/
theorem stores_all {p0 : Str} {a C : Addr} {σ : L2.St} (T : OexC X.K C) (h0 : X.N[0]? = some p0) (v0 : Vis X.env.scope p0) (s0 : σ[0]? = some (some (.ref a))) {fl xs : List Str} {ss : List Stmt} {is : List Int} (h : cStores p0 fl xs ss = true) (hl : is.length = fl.length) (hz : fl.length ≤ 100) (hp : 0 < fl.length)
    (hx : ∀ (i : Nat) (x : Str), xs[i]? = some x → X.N[1 + i]? = some x ∧ Vis X.env.scope x ∧ ∃ k, is[i]? = some k ∧ σ[1 + i]? = some (some (.int k))) (hno : ∀ g ∈ fl, PySem.W.findIn X.K (.ref C) g = some none) :
    ∃ t, PSs X ss t ∧ ∀ (D0 : Ends) (H : Hp), H a = some (exo a C none) →
      (∀ dx H', H dx = none → dx ≠ a → H' a = some (exo a C (some dx)) → H' dx = some (exd dx (fl.zip (is.map V.int)).reverse) → (∀ b, b ≠ a → b ≠ dx → H' b = H b) → D0.nx σ H') → t D0 σ H := by
  match fl, xs, ss, is, h, hl, hz, hp, hx, hno with
  | f :: fl, x :: xs, s :: ss, k :: is, h, hl, hz, hp, hx, hno =>
    simp only [cStores, Bool.and_eq_true] at h
    obtain ⟨n1, v1, k1, e1, e2⟩ := hx 0 x rfl
    cases e1
    obtain ⟨t, h1, h2⟩ := stores_ok T h0 v0 s0 fl xs ss is 2 h.2 (Nat.succ.inj hl) (fun i y hy => by
      obtain ⟨n2, v2, k2, e3, e4⟩ := hx (i + 1) y hy
      have e : 2 + i = 1 + (i + 1) := by omega
      exact ⟨by rw [e]; exact n2, v2, k2, e3, by rw [e]; exact e4⟩) (fun g hg => hno g (List.mem_cons_of_mem _ hg))
    refine ⟨_, pss_cons (store1_ok h.1 h0 v0 n1 v1) h1, fun D0 H ea q => ?_⟩
    refine ⟨.int k, e2, .ref a, s0, a, C, rfl, T, hno f (List.mem_cons_self ..), .inl ⟨ea, fun dx hd ne => ?_⟩⟩
    refine h2 D0 _ dx [(f, .int k)] ne upd_same (by rw [upd_ne ne, upd_same]) (by simp only [List.length_cons, List.length_nil] at hz ⊢; omega) fun H' a1 a2 a3 => q dx H' hd ne a1 (by rw [a2]; simp) fun b b1 b2 => by rw [a3 b b1 b2, upd_ne b1, upd_ne b2]
  | [], _, _, _, _, _, _, hp, _, _ => cases hp
  | _ :: _, [], _, _, h, _, _, _, _, _ => simp [cStores] at h
  | _ :: _, _ :: _, [], _, h, _, _, _, _, _ => simp [cStores] at h
  | _ :: _, _ :: _, _ :: _, [], _, hl, _, _, _, _ => cases hl
theorem cStores_len {p0 : Str} : ∀ {fl xs : List Str} {ss : List Stmt}, cStores p0 fl xs ss = true → fl.length = xs.length
  | [], [], _, _ => rfl
  | _ :: fl, _ :: xs, [], h => by simp [cStores] at h
  | _ :: fl, _ :: xs, _ :: ss, h => by
    simp only [cStores, Bool.and_eq_true] at h
    rw [List.length_cons, List.length_cons, cStores_len h.2]
  | [], _ :: _, _, h => by simp [cStores] at h
  | _ :: _, [], _, h => by simp [cStores] at h
end
/-! ### the walk -/
section
open PySem.W
variable {prog : Program} {w : World} {A : Around} {E : Value → Shared → Prop} {h : Heap} {g : Array GenState} {d : Drawn} {t : Nat} {os : OsState} {K : Frag}
theorem call_mwV {u e t0 C : Addr} {rest : List Value} {Q : Value → Shared → Prop} (T : OexC K C) (X : K.In h) (he : h.get? e = some (PySem.HandSPX.excO C t0)) (hu : h.get? u = some (kxs_mw "ValueError.__init__" e)) (hrest : rest.length ≤ sizeLine)
    (hq : ∀ h' t1, (∀ b o, b ≠ e → h.get? b = some o → h'.get? b = some o) → h'.get? e = some (PySem.HandSPX.excO C t1) → Q .none ⟨h', g, d, t, os⟩) :
    wpAny (model prog w) A (call (.ref u) rest) Q E ⟨h, g, d, t, os⟩ := by
  obtain ⟨nm, q, N, bs, bm, sn, sub, ab, col, dd, k0, k1, k2, k3, k5, hC, hbm⟩ := T.cls
  have FB := F.excBase_ValueError
  refine wpAny_call (codeAny_of_tree ?_)
  show wpAny _ A.in1 (callAny (.ref u) ⟨rest, []⟩) _ _ _
  simp only [callAny]
  refine wpAny_bind (wpAny_load hu ?_)
  simp only [kxs_mw, show (Value.type "method-wrapper" == Value.type "method" || Value.type "method-wrapper" == Value.type "builtin_function_or_method" || Value.type "method-wrapper" == Value.type "method-wrapper") = true by decide, if_true]
  refine KFB.if_so (by decide) ?_
  refine wpAny_bind (check_bound_init FB.toExcCallFacts (X _ _ hC) he rfl ?_)
  refine wpAny_bind (wpAny_pure (wpAny_pure ?_))
  refine ⟨plainId_quiet FB.init.plain _, codeAny_builtin FB.initEntry ?_⟩
  exact exc_init_tree (cls := .ref C) (t0 := t0) (dv := none) (c2 := .none) (c3 := .none) (b4 := .bool false) he hrest fun h' k e' _ => hq h' _ k e'
end
theorem cIni_ok {p0 : Str} {ps fl : List Str} {body : List Stmt} (h : cIni p0 ps fl body = true) : ∃ (q1 q2 q3 q4 q5 q6 : Pos) (ea eb : Expr) (parts : List Expr) (st : List Stmt), body = .Expr (.Call (.Attribute (.Call (.Name "super" q1) [] [] q2) "__init__" q3) [.JoinedStr (ea :: eb :: parts) q4] [] q5) q6 :: st ∧
    (ea :: eb :: parts).all (cPart ps) = true ∧ parts.length ≤ 20 ∧ cStores p0 fl ps st = true ∧ fl.length ≤ 100 ∧ 0 < fl.length ∧ (q3.endLine == q5.line) = true := by
  unfold cIni at h
  split at h
  · rename_i n q1 q2 m q3 ea eb parts q4 q5 q6 st
    simp only [Bool.and_eq_true, decide_eq_true_eq] at h
    obtain ⟨⟨⟨⟨⟨⟨⟨c1, c2⟩, c3⟩, c4⟩, c5⟩, c6⟩, c7⟩, c8⟩ := h
    cases eqS_ok c1
    cases eqS_ok c2
    exact ⟨q1, q2, q3, q4, q5, q6, ea, eb, parts, st, rfl, c3, c4, c5, c6, c7, c8⟩
  · cases h
theorem meth_form {o e : Expr} {name : Str} {apos pos : Pos} {env : PySem.Env} (h1 : starEach [e] env = [(false, eval e env)]) (hline : (apos.endLine == pos.line) = true) : eval (.Call (.Attribute o name apos) [e] [] pos) env = (do
      let ov ← attributeBase o name env (eval o env)
      standAt apos.atName
      let (f, first) ← holding [ov] (getMethod ov name (do return (← importBound o env).getD true))
      callWith pos f first (backTo pos (starEach [e] env)) []) := by
  have hform : methodCallForm ([e].length + ([] : List Keyword).length) (backTo pos (starEach [e] env)) (backToKw pos (keywordEach [] env)) = true := by
    rw [h1]; rfl
  have hpos : methodCallPos true o env apos pos = pure pos := by unfold methodCallPos; simp [hline]
  rw [arm_eval_Call]
  unfold methodCall
  rw [hform, hpos]
  simp only [pure_bind]
  rfl
theorem ini_ok {P : Program} {wd : World} {K : PySem.W.Frag} {mg : Str → Option Value} {base : Heap} {k : Nat} {f D cc cda : Addr} {fd : FuncData} {q : Str} {params : Arguments} {body : List Stmt} {scope : Scope} {p0 : Str} {ps fl : List Str}
    (F : IniF P K f D cc cda fd q params body scope p0 ps fl) (hms : mg ("super" : Str) = none) : FnOk P wd K mg base (L2N.CX P wd) (k + 1) f fd (p0 :: ps) (spI K D f fl) := by
  obtain ⟨oc, od, dV, kV, doc, pm, an, ct, osl, rfl, lk⟩ := F.fn
  obtain ⟨q1, q2, q3, q4, q5, q6, ea, eb, parts, st, ebody, c3, c4, c5, c6, c7, c8⟩ := cIni_ok F.look
  have hfp := cStores_len c5
  refine ⟨fun vs H Q E ⟨a, C, is, e, hl, _⟩ => by rw [e, List.length_cons, List.length_map, List.length_cons, hl, hfp], fun A outer s H args us vs Q E hr e0 hb r hsp => ?_⟩
  obtain ⟨a, C, is, rfl, hl, hi, hC, ha, hq⟩ := hsp
  have KX : K.In s.heap := e0.mod.kin.keeps fun b o e => (e0.bs b o e).1
  have lim : s.heap.NoLimit := e0.mod.nolimit.keeps fun b o e => (e0.bs b o e).1
  obtain ⟨ccl, ccd, csl, lcc⟩ := F.cell
  obtain ⟨fcl, fcd, fvs, fsl, fi, tf, lcda, hvs, hfile⟩ := F.file
  obtain ⟨cd, hcd⟩ := F.clsD
  obtain ⟨ar, har, hra⟩ := F.par
  let NF0 : NdefX.NF := ⟨"__init__", q, params, body, scope, [("__class__", cc)], cda⟩
  have C0 : NdefX.CellsAt NF0.cl [("__class__" : Str)] [some (.ref D)] s.heap H := by
    have one : ∀ {y c}, NF0.cl.lookup y = some c → y = "__class__" ∧ c = cc := fun {y c} e => by
      have hm := PySem.mem_of_lookup e
      simp only [NF0, List.mem_singleton, Prod.mk.injEq] at hm
      exact hm
    have ic : s.heap.IsCell cc (some (.ref D)) := ⟨_, KX _ _ lcc, rfl⟩
    refine ⟨rfl, fun y c e => ?_, fun x y c e1 e2 => ?_, fun i y hy => ?_⟩
    · obtain ⟨_, rfl⟩ := one e
      exact ⟨(e0.bs _ _ (e0.mod.kin _ _ lcc)).2, _, ic⟩
    · rw [(one e1).1, (one e2).1]
    · cases i with
      | zero =>
        cases hy
        exact ⟨cc, rfl, fun v hv => by cases hv; exact ⟨_, rfl, ic⟩⟩
      | succ i => cases hy
  refine PySem.ks_codeAny_call_defAt hr.depth (KX _ _ lk) rfl lim (PySem.W.codeRec_of KX F.code) rfl hb F.sc.nocell (fun ⟨n, _⟩ hy => F.sc.par n (List.of_mem_zip hy).1) (fun h₁ hns hk₁ => ?_) F.sc.co F.sc.gen F.sc.kind
  have I : Inv (NdefX.ncx (L2N.CX P wd) P wd K mg base (p0 :: ps ++ [("__class__" : Str)]) NF0 f A outer s H E) [] (NdefX.startF (p0 :: ps ++ [("__class__" : Str)]) (V.ref a :: is.map V.int) [some (.ref D)]) H { s with heap := h₁, toks := s.toks + ((p0 :: ps).zip us).length } :=
    NdefX.inv_startN F.sc hr.hd e0 (by rw [List.length_cons, List.length_map, List.length_cons, hl, hfp]) r C0 hns hk₁
  have kI : K.In h₁ := KX.keeps hk₁
  obtain ⟨t1, hoe⟩ := exo_at e0.hok ha
  have hoe1 : h₁.get? a = some (PySem.HandSPX.excO C t1) := hk₁ _ _ hoe
  obtain ⟨us', rfl⟩ : ∃ us', us = Value.ref a :: us' := by
    cases r with
    | cons r1 r2 => cases (show _ = Value.ref a from r1); exact ⟨_, rfl⟩
  have hkc : scope.names.lookup ("__class__" : Str) = some .free := F.sc.frk _ (List.mem_singleton.mpr rfl)
  have hpl : scope.names.lookup p0 = some .local := F.sc.par _ (List.mem_cons_self ..)
  obtain ⟨mb, hb1, hb2⟩ := I.mod.blt
  obtain ⟨oD, hD1, hD2⟩ : ∃ oD, h₁.get? D = some oD ∧ oD.data = .cls cd := by
    unfold PySem.W.clsIn at hcd
    split at hcd
    · rename_i c d cd' sl ho
      cases hcd
      exact ⟨_, kI _ _ ho, rfl⟩
    · cases hcd
  obtain ⟨lm, hlm, hll⟩ := I.loc
  have hns0 : lm p0 = some (Value.ref a) := by
    obtain ⟨u, hu, hk⟩ := hll 0 p0 (.ref a) rfl rfl (.inl hpl)
    cases (show u = Value.ref a from hu)
    rcases hk with ⟨_, hk⟩ | ⟨hk, _⟩
    · exact hk
    · rcases hk with hk | hk
      · rw [show scope.names.lookup p0 = _ from hk] at hpl; cases hpl
      · rw [show scope.names.lookup p0 = _ from hk] at hpl; cases hpl
  rw [ebody]
  refine PySem.ks_wpAt_execs_cons (PySem.ks_wpAt_Expr_any (PySem.ks_wpAt_MethodCall ?_ (meth_form rfl c8)) (by unfold interactive; show (scope.kind == _ && _) = false; rw [F.sc.kind]; rfl) (by rfl))
  refine PySem.ks_wpAt_super_base F.sup2 hkc (by decide) rfl (kI _ _ lk) rfl har rfl (kI _ _ lcda) rfl hvs hfile F.top ?_
  refine PySem.W.ks_loadName_global F.sc.kind F.sup2 (PySem.Calls.loadGlobal_builtin (I.mod.glob.keeps I.bk) hms (hb1.keeps I.bk) ((hb2 _ (by decide)).trans (show bootBuiltins ("super" : Str) = some (.type "super") by decide +kernel)) ⟨rfl, ?_⟩)
  refine wpAny_loadName_free F.sc.kind hkc rfl ⟨_, kI _ _ lcc, rfl⟩ ?_
  rw [hra]
  refine wpAny_loadName_local F.sc.kind hpl hlm hns0 ?_
  refine PySem.ks_wpAny_isType_cls hD1 hD2 ⟨rfl, ?_⟩
  refine PySem.ks_wpAny_call_super hD1 hD2 hoe1 rfl (fun c z => by cases z) (PySem.W.looks_mroIn kI hC.mro) (fun h' e kp => ?_)
  obtain ⟨cdC, hcC⟩ : ∃ cdC, PySem.W.clsIn K C = some cdC := by
    have := hC.sup
    unfold PySem.W.ks_superIn at this
    cases hc : PySem.W.clsIn K C with
    | some cdC => exact ⟨cdC, rfl⟩
    | none => rw [hc] at this; cases this
  have hf := hC.sup
  unfold PySem.W.ks_superIn at hf
  rw [hcC] at hf
  have kI1 : K.In h' := kI.keeps kp
  have IA : PySem.W.InstAt h' a (PySem.HandSPX.excO C t1) C none := ⟨kp _ _ hoe1, rfl, rfl, trivial⟩
  refine PySem.W.kxs_getMethod PySem.W.kxs_ValueError e (PySem.W.looks_opaque kI1 F.opq) (l₀ := cdC.mro) ((PySem.W.looks_clsIn kI1 hcC).andThen .now) rfl kI1 hf (IA.type.andThen (PySem.W.looks_subIn kI1 hC.sub)) (PySem.W.ks_ne kI1 IA hcC) (by decide) ?_
  -- the call
  have kp2 : ∀ b o, h₁.get? b = some o → (h'.push (PySem.W.kxs_mw "ValueError.__init__" a)).get? b = some o := fun b o z => Heap.get?_push_of_some _ (kp b o z)
  have gu : (h'.push (PySem.W.kxs_mw "ValueError.__init__" a)).get? h'.objs.size = some (PySem.W.kxs_mw "ValueError.__init__" a) := Heap.get?_push_at rfl rfl
  have hsz : h₁.objs.size ≤ h'.objs.size := Nat.le_of_lt (Heap.lt_size e)
  have J1 : Inv (NdefX.ncx (L2N.CX P wd) P wd K mg base (p0 :: ps ++ [("__class__" : Str)]) NF0 f A outer s H E) [] (NdefX.startF (p0 :: ps ++ [("__class__" : Str)]) (V.ref a :: is.map V.int) [some (.ref D)]) H ⟨h'.push (PySem.W.kxs_mw "ValueError.__init__" a), s.gens, s.drawn, s.toks + ((p0 :: ps).zip (Value.ref a :: us')).length + 1, s.os⟩ := I.kept kp2
  have J2 := J1.pins_of (pins' := [(h'.objs.size, PySem.W.kxs_mw "ValueError.__init__" a)]) (fun p hp => by
    rw [List.mem_singleton] at hp
    subst hp
    exact ⟨gu, I.hok.fresh hsz, Nat.ne_of_gt (Nat.lt_of_lt_of_le I.lt hsz), I.nofs hsz, fun v z => by cases z⟩)
  have sl : ∀ (i : Nat) (x : Str), ps[i]? = some x → ∃ k, is[i]? = some k ∧ (NdefX.startF (p0 :: ps ++ [("__class__" : Str)]) (V.ref a :: is.map V.int) [some (.ref D)])[i + 1]? = some (some (.int k)) := fun i x hx => by
    have hi0 : i < is.length := by rw [hl, hfp]; exact (List.getElem?_eq_some_iff.mp hx).1
    refine ⟨is[i], List.getElem?_eq_getElem hi0, ?_⟩
    unfold NdefX.startF
    rw [List.getElem?_append_left (by simp; exact hi0)]
    simp [hi0]
  obtain ⟨ts, pj, tq⟩ := parts_ok (X := NdefX.ncx (L2N.CX P wd) P wd K mg base (p0 :: ps ++ [("__class__" : Str)]) NF0 f A outer s H E) rfl (fun x hx => .inl (F.sc.par x (List.mem_cons_of_mem _ hx))) sl hi (ea :: eb :: parts) c3
  have pa := pa_cons (pe_joined (pos := q4) pj) pa_nil rfl
  refine PySem.W.kxs_callWith (i := "ValueError.__init__") (x := a) rfl (PySem.Calls.evalArgs_plain (thn (pa.run q5 _ _ _ _ (fun xs H1 => ∃ out, xs = [.str out] ∧ H1 = H) J2 (tq _ _ _ ?_ fun out => ⟨out, rfl, rfl⟩)) fun us2 s2 ⟨xs, H2, I2, r2, out, ex, eH⟩ => ⟨(I2.pin _ (List.mem_append_right _ (List.mem_singleton.mpr rfl))).1, ?_⟩))
  · rw [List.length_cons, List.length_cons, sizeLine_eq]
    show 0 + _ ≤ _
    omega
  · subst ex eH
    have I3 : Inv (NdefX.ncx (L2N.CX P wd) P wd K mg base (p0 :: ps ++ [("__class__" : Str)]) NF0 f A outer s H2 E) [] _ H2 s2 := I2.pins_of (fun p hp => I2.pin p (List.mem_append_left _ (by simpa using hp)))
    have hu2 := (I2.pin (h'.objs.size, PySem.W.kxs_mw "ValueError.__init__" a) (List.mem_append_right _ (List.mem_singleton.mpr rfl))).1
    have hl2 : us2.length ≤ sizeLine := by
      rw [← r2.length, sizeLine_eq]
      show 1 ≤ _
      omega
    obtain ⟨t2, hoe2⟩ := exo_at I2.hok ha
    obtain ⟨hp2, g2, d2, tk2, os2⟩ := s2
    refine call_mwV hC.oex I2.kIn hoe2 hu2 hl2 (fun h3 t3 k3 e3 => ?_)
    have J4 := I3.write (t' := tk2) (x := a) (e := a) (o := exo a C none) (by rw [ha]; exact True.intro) (.inl rfl) k3 ⟨_, e3⟩ (exo_ok e3)
    have eu : upd H2 a (exo a C none) = H2 := by
      funext b
      by_cases hb : b = a
      · rw [hb, upd_same, ha]
      · rw [upd_ne hb]
    rw [eu] at J4
    refine wpAt_of_wpAny ?_
    obtain ⟨t, hst, hq2⟩ := stores_all (X := NdefX.ncx (L2N.CX P wd) P wd K mg base (p0 :: ps ++ [("__class__" : Str)]) NF0 f A outer s H2 E) (a := a) (C := C) (σ := NdefX.startF (p0 :: ps ++ [("__class__" : Str)]) (V.ref a :: is.map V.int) [some (.ref D)]) hC.oex rfl (.inl hpl) rfl c5 hl c6 c7 (fun i x hx => by
      obtain ⟨k, e1, e2⟩ := sl i x hx
      refine ⟨?_, .inl (F.sc.par x (List.mem_cons_of_mem _ (List.mem_of_getElem? hx))), k, e1, by rw [Nat.add_comm]; exact e2⟩
      rw [Nat.add_comm]
      show (ps ++ [("__class__" : Str)])[i]? = some x
      rw [List.getElem?_append_left (List.getElem?_eq_some_iff.mp hx).1]
      exact hx) hC.no
    have pre := hq2 { nx := fun _ H' => Q .non H', rt := Q } H2 ha fun dx H' a1 a2 a3 a4 a5 => hq dx H' a1 a2 a3 a4 a5
    refine wpAny_mono (hst.run [] _ _ H2 _ J4 pre) (fun fl s' hs => ?_) fun e s' hs => hs
    have fin : ∀ {σ' : L2.St} {H' : Hp} {v : V} {u : Value}, Inv (NdefX.ncx (L2N.CX P wd) P wd K mg base (p0 :: ps ++ [("__class__" : Str)]) NF0 f A outer s H2 E) [] σ' H' s' → L2.RelV v u → Q v H' → CE outer P wd H2 s Q u s' :=
      fun {σ' H' v u} J rv q => ⟨v, H', J.os, J.bare, J.base, J.hok, rv, q⟩
    cases fl with
    | ret u =>
      obtain ⟨v, σ', H', J, rv, q⟩ := hs
      exact fin J rv q
    | next =>
      obtain ⟨σ', H', J, q⟩ := hs
      exact fin (v := V.non) (u := Value.none) J rfl q
    | brk =>
      obtain ⟨_, _, _, q⟩ := hs
      exact False.elim q
    | cont =>
      obtain ⟨_, _, _, q⟩ := hs
      exact False.elim q
/-! ### C(e, ..) raised -/
theorem pmk_ini {X : Cx} {W : WX} {x : Str} {C D f : Addr} {k : Nat} {fd : FuncData} {ps fl : List Str} {e : Expr} {es : List Expr} {ta : TA} {p pos : Pos} (T : IniC X.K C D f fl) (F1 : FnOk X.prog X.w X.K X.mg X.base (L2N.CX X.prog X.w) k f fd ps (spI X.K D f fl)) (hr : Room (k + 1) X.A) (hb : Binds X.K fd ps [])
    (tk : L2N.Takes X W) (hg : Gl X x) (hm : X.mg x = some (.ref C)) (ha : PA X (e :: es) ta) (hdb : (x == ("__debug__" : Str)) = false) (he : starEach (e :: es) X.env = (false, eval e X.env) :: starEach es X.env) (hpl : (backTo pos (starEach es X.env)).any (·.1) = false) :
    L2N.PMk X (.Call (.Name x p) (e :: es) [] pos) (tMkO C (spI X.K D f fl) [] ta) := by
  intro pins s σ H Q I h
  obtain ⟨nm, q, N, bs, bm, sn, sub, ab, col, dd, k0, k1, k2, k3, k5, hC, hbm⟩ := T.oex.cls
  refine wpAny_Call_Name_kw (ld_glob I hg hm ?_ hdb)
  refine PySem.W.callWith_K (h₀ := X.base) I.ok.mod.kin T.oex.kC (thn (ha.run pos pins s σ H _ I h) fun us s1 ⟨vs, H1, I1, r1, hz, q1⟩ => ⟨I1.kIn, ?_⟩) he hpl
  show wpAny _ _ (call (.ref C) us) _ _ _
  obtain ⟨hp, g, dr, tk1, os⟩ := s1
  have le1 : hp.objs.size ≤ hp.objs.size + 1 := Nat.le_succ _
  have free1 : H1 (hp.objs.size + 1) = none := I1.hok.fresh le1
  have prom := q1 (hp.objs.size + 1) free1
  rw [List.append_nil] at prom
  have stay : ∀ b o, hp.get? b = some o → ((hp.push (PySem.W.kdv_tup us)).push (PySem.HandSPX.excO C hp.objs.size)).get? b = some o := fun b o e => Heap.get?_push_of_some _ (Heap.get?_push_of_some _ e)
  have made : ((hp.push (PySem.W.kdv_tup us)).push (PySem.HandSPX.excO C hp.objs.size)).get? (hp.objs.size + 1) = some (PySem.HandSPX.excO C hp.objs.size) := by heap_get
  have I2 := I1.laid (t' := tk1) (a := hp.objs.size + 1) (o := exo (hp.objs.size + 1) C none) (h' := (hp.push (PySem.W.kdv_tup us)).push (PySem.HandSPX.excO C hp.objs.size)) stay le1 (exo_ok made)
  have r2 : Vals (V.ref (hp.objs.size + 1) :: vs) (Value.ref (hp.objs.size + 1) :: us) := .cons rfl r1
  have len2 : (Value.ref (hp.objs.size + 1) :: us ++ []).length = ps.length := by
    rw [List.append_nil, ← r2.length]
    exact F1.len _ _ _ _ prom
  have b2 := hb _ (Value.ref (hp.objs.size + 1) :: us) I2.kIn len2
  rw [List.append_nil] at b2
  have few : us.length ≤ sizeLine := by
    rw [← Paired.length r1, sizeLine_eq]
    omega
  refine wpAny_call (PySem.HandSPX.call_own F.excBase_ValueError (fun Y => PySem.HandSPX.refsVE_contains Y bm hbm) (I1.kIn _ _ hC) (PySem.W.looks_findIn I1.kIn T.ini) (fun self => PySem.W.bind_fn I1.kIn self T.typ) few
    (codeAny_mono (F1.run _ X.stack _ _ ⟨Value.ref (hp.objs.size + 1) :: us, []⟩ _ _ _ (fun _ _ _ => False) (hr.make C us []) (I2.env0.make C us []) b2 r2 prom) fun res s' hq' => ?_))
  cases res with
  | error er => exact (L2N.passes_call tk (E := fun _ _ _ => False) (fun _ _ _ _ z => z.elim) pins σ _ _ er s' I2 hq' : _)
  | ok fl =>
    cases fl with
    | ret u =>
      obtain ⟨v, H2, os2, bare2, un2, hok2, rv, ev, d, fs, ea, ed, hd1, q2⟩ := hq'
      subst ev
      obtain ⟨h2, g2, d2, t2, os'⟩ := s'
      obtain ⟨t0, G, J, kG, ge, hoe, na⟩ := mk_end0 (d2 := d2) (t2 := t2) I1 le1 stay un2 hok2 os2 bare2 ea ed hd1
      exact ⟨rv, hp.objs.size + 1, _, _, ⟨G, g2, d2, t2, os'⟩, _, .ref C, some d, rfl, J, kG, ge, hoe, ⟨rfl, rfl, fun vs hv => by cases hv; rfl⟩, rfl, rfl, na, rfl, bare2, raises_own T.oex.exC T.oex.tyC, q2⟩
    | next => exact False.elim hq'
    | brk => exact False.elim hq'
    | cont => exact False.elim hq'
end Pw
end
section
set_option Elab.async false
set_option linter.all false
set_option maxRecDepth 100000
set_option maxHeartbeats 1000000
set_option autoImplicit false
/-! Pw7: the look at the written text; what an expression's reading is -/
namespace Pw
open PySem PySem.Spec PyProof.Rows L2
/-- the names of the text: defs, constants, classes -/
structure Nm where
  fns : List Str
  gs : List Str
  cls : List Str
  hots : List (Nat × Str)
  tst : List Str
  fls : List (List Str)
def isAt (l : List Str) (i : Nat) (x : Str) : Bool := match l[i]? with
  | some y => eqS x y
  | none => false
theorem isAt_ok {l : List Str} {i : Nat} {x : Str} (h : isAt l i x = true) : l[i]? = some x := by
  unfold isAt at h
  split at h
  · rename_i y e
    rw [e, eqS_ok h]
  · cases h
/-- the kind of a name in a scope -/
def kindAt : List (Str × NameKind) → Str → Option NameKind
  | [], _ => none
  | (y, k) :: r, x => if eqS x y then some k else kindAt r x
theorem kindAt_ok : ∀ (l : List (Str × NameKind)) (x : Str), kindAt l x = l.lookup x
  | [], _ => rfl
  | (y, k) :: r, x => by
    unfold kindAt
    rw [List.lookup_cons]
    by_cases h : x = y
    · subst h
      have e : eqS x x = true := decide_eq_true rfl
      rw [if_pos e, beq_self_eq_true]
    · have e : ¬ eqS x y = true := fun z => h (eqS_ok z)
      have e2 : (x == y) = false := by simpa using h
      rw [if_neg e, e2]
      exact kindAt_ok r x
def visB (sc : Scope) (x : Str) : Bool := match kindAt sc.names x with
  | some .local => true
  | some .cell => true
  | some .free => true
  | _ => false
def locB (sc : Scope) (x : Str) : Bool := match kindAt sc.names x with
  | some .local => true
  | _ => false
def gloB (sc : Scope) (x : Str) : Bool := match kindAt sc.names x with
  | some .globalImplicit => true
  | _ => false
theorem visB_ok {sc : Scope} {x : Str} (h : visB sc x = true) : Vis sc x := by
  unfold visB at h
  rw [kindAt_ok] at h
  unfold Vis
  split at h <;> first | (cases h; done) | simp_all
theorem locB_ok {sc : Scope} {x : Str} (h : locB sc x = true) : sc.names.lookup x = some .local := by
  unfold locB at h
  rw [kindAt_ok] at h
  split at h <;> first | (cases h; done) | assumption
theorem gloB_ok {sc : Scope} {x : Str} (h : gloB sc x = true) : sc.names.lookup x = some .globalImplicit := by
  unfold gloB at h
  rw [kindAt_ok] at h
  split at h <;> first | (cases h; done) | assumption
/-- expressions that stand alone -/
def okX : Expr → Bool
  | .BoolOp .. | .BinOp .. | .UnaryOp .. | .IfExp .. | .Dict .. | .ListComp .. | .Compare .. | .Call .. | .Constant .. | .Attribute .. | .Subscript .. | .Name .. | .List .. | .Tuple .. => true
  | _ => false
theorem star_ok {e : Expr} {es : List Expr} {env : PySem.Env} (h : okX e = true) : starEach (e :: es) env = (false, eval e env) :: starEach es env := by
  cases e <;> first | (cases h; done) | rfl
theorem plainIx_ok {e : Expr} (h : okX e = true) : PlainIx e := by
  intro o i
  cases e <;> first | (cases h; done) | rfl
theorem mark_ok {e : Expr} (h : okX e = true) {op : CmpOp} : behindInMarks op e = false := by
  cases e <;> first | (cases h; done) | rfl
theorem fold_ok {e : Expr} {env : PySem.Env} (h : okX e = true) : ∀ x, foldedSetIterable e env x = pure x := by
  intro x
  cases e <;> first | (cases h; done) | rfl
theorem plainArgs_ok : ∀ {es : List Expr} {pos : Pos} {env : PySem.Env}, es.all okX = true → (backTo pos (starEach es env)).any (·.1) = false
  | [], _, _, _ => rfl
  | e :: es, pos, env, h => by
    simp only [List.all_cons, Bool.and_eq_true] at h
    rw [star_ok h.1]
    show (false || (backTo pos (starEach es env)).any (·.1)) = false
    rw [plainArgs_ok h.2]; rfl
/-! ### readings -/
variable (w : Wo)
/-- what a made exception is: its class, its fields in its own dict -/
structure Xw where
  n : Nat
  cA : Nat → Value
  fl : Nat → List Str
variable (xw : Xw)
def vI : D → V
  | .int i => .int i
  | _ => .non
/-- its dict -/
def xdO (xw : Xw) (c : Nat) (fs : List D) (dd : Option Addr) : Option (Addr × List (Str × V)) := dd.map fun d => (d, ((xw.fl c).zip (fs.map vI)).reverse)
def XR (_w : Wo) (xw : Xw) (φ : Nat → Addr) (H : Hp) (S : Store) (c : Nat) (fs : List D) (cls : Value) (dd : Option Addr) : Prop :=
  c < xw.n ∧ cls = xw.cA c ∧ fldOk fs = true ∧ fs.length = (xw.fl c).length ∧ ((xw.fl c = [] ∧ dd = none) ∨ (xw.fl c ≠ [] ∧ ∃ d, dd = some d ∧ H d = some (.xd ((xw.fl c).zip (fs.map vI)).reverse)))
def Rg {α β : Type} (W : WX) (σ : List (Option V)) (R : (Nat → Addr) → Hp → Store → β → α → Prop) (φ : Nat → Addr) (S : Store) (H : Hp) (r : Res α) (Q : β → Hp → Prop) : Prop := match r with
  | .ok a S' => ∀ b φ' H', Lat φ φ' S S' H H' → SimO w.K φ' w.ex H' S' → R φ' H' S' b a → Q b H'
  | .exc c fs S' => ∀ φ' H' cls dd, Lat φ φ' S S' H H' → SimO w.K φ' w.ex H' S' → XR w xw φ' H' S' c fs cls dd → W cls dd σ H'
  | .bad => False
variable {w xw}
section
variable {α β γ δ : Type} {W : WX} {σ : List (Option V)} {R : (Nat → Addr) → Hp → Store → β → α → Prop} {R2 : (Nat → Addr) → Hp → Store → δ → γ → Prop} {φ φ1 : Nat → Addr} {S S1 : Store} {H H1 : Hp}
theorem Rg.g0 {r : Res α} {Q : β → Hp → Prop} (h : Rg w xw W σ R φ S H r Q) : Rg0 w R φ S H r Q := by
  cases r with
  | ok a S' => exact h
  | exc c fs S' => trivial
  | bad => exact h
theorem Rg.later {r : Res α} {Q : β → Hp → Prop} (h : Rg w xw W σ R φ S H r Q) (l : Lat φ φ1 S S1 H H1) : Rg w xw W σ R φ1 S1 H1 r Q := by
  cases r with
  | ok a S' => exact fun b φ' H' l2 => h b φ' H' (l.trans l2)
  | exc c fs S' => exact fun φ' H' cls dd l2 => h φ' H' cls dd (l.trans l2)
  | bad => exact h
/-- first r, then k -/
theorem Rg.bind {r : Res α} {k : α → Store → Res γ} {Q : δ → Hp → Prop} {Q' : β → Hp → Prop} (h : Rg w xw W σ R2 φ S H (r.bind k) Q)
    (f : ∀ b a S1 φ1 H1, Lat φ φ1 S S1 H H1 → SimO w.K φ1 w.ex H1 S1 → R φ1 H1 S1 b a → Rg w xw W σ R2 φ1 S1 H1 (k a S1) Q → Q' b H1) : Rg w xw W σ R φ S H r Q' := by
  cases r with
  | ok a S' => exact fun b φ' H' l so ra => f b a S' φ' H' l so ra (Rg.later (r := k a S') h l)
  | exc c fs S' => exact h
  | bad => exact h
theorem Rg.fin {a : α} {b : β} {Q : β → Hp → Prop} (h : Rg w xw W σ R φ S H (.ok a S) Q) (so : SimO w.K φ w.ex H S) (r : R φ H S b a) : Q b H := h b φ H Lat.refl so r
theorem Rg.of {o : Option α} {Q : β → Hp → Prop} (h : Rg w xw W σ R φ S H (Res.of o S1) Q) : ∃ a, o = some a ∧ Rg w xw W σ R φ S H (.ok a S1) Q := by
  cases o with
  | none => exact h.elim
  | some a => exact ⟨a, rfl, h⟩
theorem Rg.ofb {o : Option γ} {k : γ → Store → Res α} {Q : β → Hp → Prop} (h : Rg w xw W σ R φ S H ((Res.of o S1).bind k) Q) : ∃ a, o = some a ∧ Rg w xw W σ R φ S H (k a S1) Q := by
  cases o with
  | none => exact h.elim
  | some a => exact ⟨a, rfl, h⟩
theorem Rg.ite {c : Prop} [Decidable c] {r : Res α} {Q : β → Hp → Prop} (h : Rg w xw W σ R φ S H (if c then r else .bad) Q) : c ∧ Rg w xw W σ R φ S H r Q := by
  by_cases hc : c
  · rw [if_pos hc] at h; exact ⟨hc, h⟩
  · rw [if_neg hc] at h; exact h.elim
end
variable (w xw)
/-- an expression as the evaluator has it -/
def tE (C : Ctx) (W : WX) (x : Exp) : TE := fun σ H Q => ∃ φ env S, Sim w.K φ w.ex H S σ env ∧ Rg w xw W σ (RE w) φ S H (evE C x env S) Q
def tEs (C : Ctx) (W : WX) (x : List Exp) : TA := fun σ H Q => ∃ φ env S, Sim w.K φ w.ex H S σ env ∧ Rg w xw W σ (REs w) φ S H (evEs C x env S) Q
def tT (C : Ctx) (W : WX) (x : Tst) : TT := fun σ H Q => ∃ φ env S, Sim w.K φ w.ex H S σ env ∧ Rg w xw W σ RB φ S H (evT C x env S) Q
/-- the built-in names that the text may use -/
def freeNames : List Str := ["len", "int", "str", "abs", "min", "max", "range", "tuple", "list", "all", "any", "sum", "sorted", "isinstance", "bool", "dict", "set", "zip", "ValueError"]
/-- the builtin exception class below all own ones -/
def veB : List Value := [.type "ValueError", .type "Exception", .type "BaseException", .type "object"]
/-- what a call is to do -/
def spD (p : Prg) (n : Nat) (i : Nat) : Sp := fun vs H Q E => ∃ φ S ds, SimO w.K φ w.ex H S ∧ REs w φ H S vs ds ∧ Rg w xw (fun c d _ H => E c d H) ([] : L2.St) (RE w) φ S H (den p n none i ds S) Q
/-- nothing may leave -/
def W00 : WX := fun _ _ _ _ => False
/-- what a call of a def with the exception at hand is to do: the exception's address, its class, its dict -/
def spX (p : Prg) (n : Nat) (i : Nat) (a : Addr) (cls : Value) (dd : Option Addr) : Sp := fun vs H Q _ => vs = [.ref a] ∧ ∃ c fs φ S, XR w xw φ H S c fs cls dd ∧ SimO w.K φ w.ex H S ∧ Rg w xw W00 ([] : L2.St) (RE w) φ S H (den p n (some (c, fs)) i [] S) Q
/-- a def called with the exception that is handled -/
structure FnHp (P : Program) (wd : World) (K : PySem.W.Frag) (mg : Str → Option Value) (base : Heap) (CX : CXT) (k : Nat) (f : Addr) (fd : FuncData) (ps : List Str) (sp : Addr → Value → Option Addr → Sp) : Prop where
  run : ∀ (A : Around) (outer : List PySem.Env) (s : Shared) (H : Hp) (args : Args) (us : List Value) (vs : List V) (Q : VK) (E : XK) (pr : Addr × Obj) (cls : Value) (dd : Option Addr), L2H.RoomH k A → L2H.Hot1 A pr → L2H.PinOk outer H s pr → L2N.Zn cls dd pr.2 → Env0 P wd K mg base A outer s H →
    BindsTo s fd args (ps.zip us) → Vals vs us → sp pr.1 cls dd vs H Q E → codeAny (model P wd) A (.call (.ref f) args) (CR CX outer P wd H s Q E) s
/-- a class that isinstance is asked of: its value, what the tables say -/
structure TstOk (K : PySem.W.Frag) (mg : Str → Option Value) (p : Prg) (k : Nat) (x : Str) (cv : Value) : Prop where
  nm : (∃ a : Addr, cv = .ref a ∧ mg x = some cv) ∨ (∃ T : String, cv = .type T ∧ mg x = none ∧ bootBuiltins x = some cv)
  kit : ∀ c, c < xw.n → ∃ bs, p.Cl[c]? = some bs ∧ PySem.W.kitOne K (xw.cA c) cv = some (bs.contains k) ∧ PySem.W.exmOne K (xw.cA c) cv = some (bs.contains k)
/-- the ground of a run: what is the same in every context -/
structure Gd (P : Program) (wd : World) (mg : Str → Option Value) (base : Heap) (p : Prg) (nm : Nm) (n : Nat) : Prop where
  fn : ∀ (i : Nat) (x : Str), nm.fns[i]? = some x → ∃ (f : Addr) (fd : FuncData) (ps : List Str), mg x = some (.ref f) ∧ PySem.W.keepIn w.K (.ref f) = true ∧ FnOk P wd w.K mg base (L2N.CX P wd) (n + 2) f fd ps (spD w xw p n i) ∧ Binds w.K fd ps []
  gl : ∀ (i : Nat) (x : Str), nm.gs[i]? = some x → ∃ (d : D) (u : Value) (v : V), p.G[i]? = some d ∧ mg x = some u ∧ RelV v u ∧ (∀ φ ex H, Rp w.K φ ex H v d) ∧ D.bel 0 d = true
  free : ∀ x ∈ freeNames, mg x = none
  cls : ∀ (k : Nat) (x : Str), nm.cls[k]? = some x → k < xw.n ∧ ∃ a : Addr, mg x = some (.ref a) ∧ xw.cA k = .ref a ∧ PySem.W.keepIn w.K (.ref a) = true ∧ (xw.fl k = [] → PySem.W.excIn w.K a veB "ValueError.__new__" = true) ∧
    PySem.W.subIn w.K (.ref a) (.type "BaseException") = some true ∧ PySem.W.typeIn w.K (.ref a) = some (.type "type")
  hot : ∀ (i : Nat) (x : Str), (i, x) ∈ nm.hots → ∃ (f : Addr) (fd : FuncData) (y : Str), mg x = some (.ref f) ∧ PySem.W.keepIn w.K (.ref f) = true ∧ FnHp P wd w.K mg base (L2N.CX P wd) n f fd [y] (spX w xw p n i) ∧ Binds w.K fd [y] []
  tst : ∀ (k : Nat) (x : Str), nm.tst[k]? = some x → ∃ cv, TstOk xw w.K mg p k x cv
  exc : ∀ c, c < xw.n → ∃ a : Addr, xw.cA c = .ref a ∧ ExcC w.K a ∧ ∀ g ∈ xw.fl c, PySem.W.findIn w.K (.ref a) g = some none
  fls : ∀ k, k < xw.n → nm.fls[k]? = some (xw.fl k)
  ini : ∀ (k : Nat) (x : Str), nm.cls[k]? = some x → xw.fl k ≠ [] → ∃ (a D fI : Addr) (fd : FuncData) (p0 : Str) (ps : List Str), mg x = some (.ref a) ∧ xw.cA k = .ref a ∧ IniC w.K a D fI (xw.fl k) ∧ ps.length = (xw.fl k).length ∧
    FnOk P wd w.K mg base (L2N.CX P wd) 1 fI fd (p0 :: ps) (spI w.K D fI (xw.fl k)) ∧ Binds w.K fd (p0 :: ps) []
structure Fx (p : Prg) (nm : Nm) (n : Nat) (X : Cx) : Prop where
  hK : w.K = X.K
  gd : Gd w xw X.prog X.w X.mg X.base p nm n
  nd : X.N.Nodup
  ex : w.ex = none
  calm : X.calm = true
  room : Room (n + 2) X.A
end Pw
end
section
set_option Elab.async false
set_option linter.all false
set_option maxRecDepth 100000
set_option maxHeartbeats 1000000
set_option autoImplicit false
/-! Pw8: expressions of the written text against the evaluator, form by form -/
namespace Pw
open PySem PySem.Spec PyProof.Rows L2
section
variable {X : Cx} {e : Expr}
theorem peI {t t' : TE} (h : PE X e t) (f : ∀ σ H Q, t' σ H Q → t σ H Q) : PE X e t' := ⟨fun pins s σ H Q I q => h.run pins s σ H Q I (f _ _ _ q)⟩
theorem ptI {t t' : TT} (h : PT X e t) (f : ∀ σ H Q, t' σ H Q → t σ H Q) : PT X e t' := ⟨fun pins s σ H Q I q => h.run pins s σ H Q I (f _ _ _ q)⟩
theorem paI {es : List Expr} {t t' : TA} (h : PA X es t) (f : ∀ σ H Q, t' σ H Q → t σ H Q) : PA X es t' := ⟨fun pos pins s σ H Q I q => h.run pos pins s σ H Q I (f _ _ _ q)⟩
end
variable {w : Wo} {xw : Xw} {C : Ctx} {W : WX} {X : Cx}
section
variable {φ φ1 : Nat → Addr} {S S1 : Store} {H H1 : Hp} {v : V} {d : D} {σ : L2.St} {env : Env}
theorem RE.lat (r : RE w φ H S v d) (l : Lat φ φ1 S S1 H H1) : RE w φ1 H1 S1 v d := ⟨r.1.lat r.2 l, D.bel_mono l.le _ r.2⟩
theorem REs.lat {vs : List V} {ds : List D} (r : REs w φ H S vs ds) (l : Lat φ φ1 S S1 H H1) : REs w φ1 H1 S1 vs ds := ⟨r.1.lat r.2 l, D.bels_mono l.le _ r.2⟩
theorem Sim.lat (m : Sim w.K φ w.ex H S σ env) (l : Lat φ φ1 S S1 H H1) (so : SimO w.K φ1 w.ex H1 S1) : Sim w.K φ1 w.ex H1 S1 σ env := ⟨so, m.e.lat l⟩
end
section
variable {α β γ δ : Type} {R2 : (Nat → Addr) → Hp → Store → δ → γ → Prop} {φ : Nat → Addr} {S : Store} {H : Hp} {σ : L2.St} {env : Env}
theorem fE {d : D} {v : V} {Q : VK} (g : Rg w xw W σ (RE w) φ S H (.ok d S) Q) (so : SimO w.K φ w.ex H S) (r : Rp w.K φ w.ex H v d) (b : D.bel S.length d = true) : Q v H := Rg.fin g so ⟨r, b⟩
theorem fB {k : Bool} {Q : Bool → Hp → Prop} (g : Rg w xw W σ RB φ S H (.ok k S) Q) (so : SimO w.K φ w.ex H S) : Q k H := Rg.fin g so rfl
theorem fInt {i : Int} {Q : VK} (g : Rg w xw W σ (RE w) φ S H (.ok (.int i) S) Q) (so : SimO w.K φ w.ex H S) : Q (.int i) H := fE g so (.int _) rfl
theorem fBl {i : Bool} {Q : VK} (g : Rg w xw W σ (RE w) φ S H (.ok (.bl i) S) Q) (so : SimO w.K φ w.ex H S) : Q (.bl i) H := fE g so (.bl _) rfl
/-- first an expression, then k -/
theorem tE.then {x : Exp} {k : D → Store → Res γ} {Q : δ → Hp → Prop} {Q' : VK} (m : Sim w.K φ w.ex H S σ env) (h : Rg w xw W σ R2 φ S H ((evE C x env S).bind k) Q)
    (f : ∀ v d S1 φ1 H1, Lat φ φ1 S S1 H H1 → Sim w.K φ1 w.ex H1 S1 σ env → RE w φ1 H1 S1 v d → Rg w xw W σ R2 φ1 S1 H1 (k d S1) Q → Q' v H1) : tE w xw C W x σ H Q' :=
  ⟨φ, env, S, m, h.bind fun v d S1 φ1 H1 l so r g => f v d S1 φ1 H1 l (m.lat l so) r g⟩
theorem tEs.then {x : List Exp} {k : List D → Store → Res γ} {Q : δ → Hp → Prop} {Q' : List V → Hp → Prop} (m : Sim w.K φ w.ex H S σ env) (h : Rg w xw W σ R2 φ S H ((evEs C x env S).bind k) Q)
    (f : ∀ v d S1 φ1 H1, Lat φ φ1 S S1 H H1 → Sim w.K φ1 w.ex H1 S1 σ env → REs w φ1 H1 S1 v d → Rg w xw W σ R2 φ1 S1 H1 (k d S1) Q → Q' v H1) : tEs w xw C W x σ H Q' :=
  ⟨φ, env, S, m, h.bind fun v d S1 φ1 H1 l so r g => f v d S1 φ1 H1 l (m.lat l so) r g⟩
theorem tT.then {x : Tst} {k : Bool → Store → Res γ} {Q : δ → Hp → Prop} {Q' : Bool → Hp → Prop} (m : Sim w.K φ w.ex H S σ env) (h : Rg w xw W σ R2 φ S H ((evT C x env S).bind k) Q)
    (f : ∀ b S1 φ1 H1, Lat φ φ1 S S1 H H1 → Sim w.K φ1 w.ex H1 S1 σ env → Rg w xw W σ R2 φ1 S1 H1 (k b S1) Q → Q' b H1) : tT w xw C W x σ H Q' :=
  ⟨φ, env, S, m, h.bind fun v d S1 φ1 H1 l so r g => by cases r; exact f _ S1 φ1 H1 l (m.lat l so) g⟩
end
section
variable {e a b c : Expr} {x y z : Exp} {pos : Pos}
theorem se_c {v : V} {d : D} (h : PE X e (tC v)) (r : ∀ φ ex H, Rp w.K φ ex H v d) (b : D.bel 0 d = true) : PE X e (tE w xw C W (.c d)) :=
  peI h fun σ H Q ⟨φ, env, S, m, g⟩ => Rg.fin (a := d) g m.o ⟨r _ _ _, D.bel_mono (Nat.zero_le _) _ b⟩
theorem se_v {i : Nat} {n : Str} (hN : X.N[i]? = some n) (hv : Vis X.env.scope n) (h : okName n = true) : PE X (.Name n pos) (tE w xw C W (.v i)) :=
  peI (pe_var hN hv (okName_ok h).1 (okName_ok h).2.1) fun σ H Q ⟨φ, env, S, m, g⟩ => by
    have g : Rg w xw W σ (RE w) φ S H (match env[i]? with | some (some d) => .ok d S | _ => .bad) Q := g
    split at g
    · rename_i d hd
      obtain ⟨v, h1, h2, h3⟩ := m.e.at_ i d hd
      exact ⟨v, h1, Rg.fin g m.o ⟨h2, h3⟩⟩
    · exact g.elim
theorem se_g {i : Nat} {v : V} {d : D} (hC : C.G[i]? = some d) (h : PE X e (tC v)) (r : ∀ φ ex H, Rp w.K φ ex H v d) (b : D.bel 0 d = true) : PE X e (tE w xw C W (.g i)) :=
  peI h fun σ H Q ⟨φ, env, S, m, g⟩ => by
    have g : Rg w xw W σ (RE w) φ S H (Res.of (C.G[i]?) S) Q := g
    rw [hC] at g
    exact Rg.fin (a := d) g m.o ⟨r _ _ _, D.bel_mono (Nat.zero_le _) _ b⟩
theorem se_bin {op : Operator} {o : Bop} (ho : OpR X (binaryOp op) (rB w o)) (ha : PE X a (tE w xw C W x)) (hb : PE X b (tE w xw C W y)) : PE X (.BinOp a op b pos) (tE w xw C W (.bin o x y)) :=
  peI (pe_op ho ha hb) fun σ H Q ⟨φ, env, S, m, g⟩ => tE.then m g fun v d S1 φ1 H1 l1 m1 r1 g => tE.then m1 g fun u d2 S2 φ2 H2 l2 m2 r2 g => ⟨φ2, S2, d, d2, m2.o, r1.lat l2, r2, g.g0⟩
theorem se_neg (ha : PE X a (tE w xw C W x)) : PE X (.UnaryOp .USub a pos) (tE w xw C W (.neg x)) :=
  peI (pe_un un_neg ha) fun σ H Q ⟨φ, env, S, m, g⟩ => tE.then m g fun v d S1 φ1 H1 l1 m1 r1 g => by
    cases d <;> first | exact g.elim | skip
    cases r1.1
    exact ⟨_, rfl, fInt g m1.o⟩
theorem se_notV (ha : PE X a (tE w xw C W x)) : PE X (.UnaryOp .Not a pos) (tE w xw C W (.notV x)) :=
  peI (pe_not ha) fun σ H Q ⟨φ, env, S, m, g⟩ => tE.then m g fun v d S1 φ1 H1 l1 m1 r1 g => by
    cases d <;> first | exact g.elim | skip
    cases r1.1
    exact ⟨_, rfl, fBl g m1.o⟩
theorem se_and {rest : List Expr} (ha : PE X a (tE w xw C W x)) (hb : PE X (.BoolOp .And (b :: rest) pos) (tE w xw C W y)) : PE X (.BoolOp .And (a :: b :: rest) pos) (tE w xw C W (.andV x y)) :=
  peI (pe_and ha hb) fun σ H Q ⟨φ, env, S, m, g⟩ => tE.then m g fun v d S1 φ1 H1 l1 m1 r1 g => by
    cases d <;> first | exact g.elim | skip
    cases r1.1
    rename_i k
    refine ⟨k, rfl, ?_⟩
    cases k with
    | true => exact ⟨φ1, env, S1, m1, g⟩
    | false => exact fBl g m1.o
theorem se_or {rest : List Expr} (ha : PE X a (tE w xw C W x)) (hb : PE X (.BoolOp .Or (b :: rest) pos) (tE w xw C W y)) : PE X (.BoolOp .Or (a :: b :: rest) pos) (tE w xw C W (.orV x y)) :=
  peI (pe_or ha hb) fun σ H Q ⟨φ, env, S, m, g⟩ => tE.then m g fun v d S1 φ1 H1 l1 m1 r1 g => by
    cases d <;> first | exact g.elim | skip
    cases r1.1
    rename_i k
    refine ⟨k, rfl, ?_⟩
    cases k with
    | false => exact ⟨φ1, env, S1, m1, g⟩
    | true => exact fBl g m1.o
theorem se_cmp {op : CmpOp} {o : Cop} (ho : OpR X (compareOp op) (rC w o)) (ha : PE X a (tE w xw C W x)) (hb : PE X b (tE w xw C W y)) (hm : behindInMarks op b = false) : PE X (.Compare a [op] [b] pos) (tE w xw C W (.cmp o x y)) :=
  peI (pe_cmpR ho ha hb hm) fun σ H Q ⟨φ, env, S, m, g⟩ => tE.then m g fun v d S1 φ1 H1 l1 m1 r1 g => tE.then m1 g fun u d2 S2 φ2 H2 l2 m2 r2 g => by
    obtain ⟨k, hk, g⟩ := g.ofb
    exact ⟨φ2, S2, d, d2, m2.o, r1.lat l2, r2, k, hk, fBl g m2.o⟩
theorem st_cmp {op : CmpOp} {o : Cop} (ho : OpR X (compareOp op) (rC w o)) (ha : PE X a (tE w xw C W x)) (hb : PE X b (tE w xw C W y)) (hm : behindInMarks op b = false) : PT X (.Compare a [op] [b] pos) (tT w xw C W (.val (.cmp o x y))) :=
  ptI (pt_cmpR ho ha hb hm) fun σ H Q ⟨φ, env, S, m, g⟩ => by
    have g : Rg w xw W σ RB φ S H ((evE C (.cmp o x y) env S).bind fun x S => Res.of (truth S x) S) Q := g
    show tE w xw C W x σ H _
    have e : ((evE C (.cmp o x y) env S).bind fun x S => Res.of (truth S x) S) = (evE C x env S).bind fun x S => (evE C y env S).bind fun y S => (Res.of (cmpD S o x y) S).bind fun c S => .ok c S := by
      show (((evE C x env S).bind fun x S => (evE C y env S).bind fun y S => (Res.of (cmpD S o x y) S).bind fun c S => Res.ok (.bl c) S).bind fun x S => Res.of (truth S x) S) = _
      cases evE C x env S with
      | ok d S => 
        show ((evE C y env S).bind _).bind _ = (evE C y env S).bind _
        cases evE C y env S with
        | ok d2 S =>
          show ((Res.of (cmpD S o d d2) S).bind _).bind _ = (Res.of (cmpD S o d d2) S).bind _
          cases cmpD S o d d2 <;> rfl
        | _ => rfl
      | _ => rfl
    rw [e] at g
    exact tE.then m g fun v d S1 φ1 H1 l1 m1 r1 g => tE.then m1 g fun u d2 S2 φ2 H2 l2 m2 r2 g => by
      obtain ⟨k, hk, g⟩ := g.ofb
      exact ⟨φ2, S2, d, d2, m2.o, r1.lat l2, r2, k, hk, k, rfl, fB g m2.o⟩
theorem se_chn {op op' : CmpOp} {o o' : Cop} (ho : OpR X (compareOp op) (rC w o)) (ho' : OpR X (compareOp op') (rC w o')) (ha : PE X a (tE w xw C W x)) (hb : PE X b (tE w xw C W y)) (hc : PE X c (tE w xw C W z))
    (hm : lastMarks [op, op'] [b, c] = false) : PE X (.Compare a [op, op'] [b, c] pos) (tE w xw C W (.chn o o' x y z)) :=
  peI (pe_chain ho ho' ha hb hc hm) fun σ H Q ⟨φ, env, S, m, g⟩ => by
    refine tE.then m g fun v d S1 φ1 H1 l1 m1 r1 g => ?_
    refine tE.then m1 g fun u d2 S2 φ2 H2 l2 m2 r2 g => ?_
    obtain ⟨k, hk, g⟩ := g.ofb
    refine ⟨φ2, S2, d, d2, m2.o, r1.lat l2, r2, k, hk, k, rfl, ?_⟩
    cases k with
    | false => exact fBl g m2.o
    | true =>
      refine tE.then m2 g fun u' d3 S3 φ3 H3 l3 m3 r3 g => ?_
      obtain ⟨k, hk, g⟩ := g.ofb
      exact ⟨φ3, S3, d2, d3, m3.o, r2.lat l3, r3, k, hk, fBl g m3.o⟩
theorem st_chn {op op' : CmpOp} {o o' : Cop} (ho : OpR X (compareOp op) (rC w o)) (ho' : OpR X (compareOp op') (rC w o')) (ha : PE X a (tE w xw C W x)) (hb : PE X b (tE w xw C W y)) (hc : PE X c (tE w xw C W z))
    (hm : lastMarks [op, op'] [b, c] = false) : PT X (.Compare a [op, op'] [b, c] pos) (tT w xw C W (.val (.chn o o' x y z))) :=
  ptI (pt_chain ho ho' ha hb hc hm) fun σ H Q ⟨φ, env, S, m, g⟩ => by
    have g : Rg w xw W σ RB φ S H ((evE C (.chn o o' x y z) env S).bind fun x S => Res.of (truth S x) S) Q := g
    have e : ((evE C (.chn o o' x y z) env S).bind fun x S => Res.of (truth S x) S) = (evE C x env S).bind fun x S => (evE C y env S).bind fun y S => (Res.of (cmpD S o x y) S).bind fun k S =>
        if k then (evE C z env S).bind fun z S => (Res.of (cmpD S o' y z) S).bind fun k S => .ok k S else .ok false S := by
      show (((evE C x env S).bind fun x S => (evE C y env S).bind fun y S => (Res.of (cmpD S o x y) S).bind fun k S => if k then (evE C z env S).bind fun z S => (Res.of (cmpD S o' y z) S).bind fun k S => Res.ok (.bl k) S else .ok (.bl false) S).bind fun x S => Res.of (truth S x) S) = _
      cases evE C x env S with
      | ok d S =>
        show ((evE C y env S).bind _).bind _ = (evE C y env S).bind _
        cases evE C y env S with
        | ok d2 S =>
          show ((Res.of (cmpD S o d d2) S).bind _).bind _ = (Res.of (cmpD S o d d2) S).bind _
          cases cmpD S o d d2 with
          | none => rfl
          | some k => cases k with
            | false => rfl
            | true =>
              show ((evE C z env S).bind _).bind _ = (evE C z env S).bind _
              cases evE C z env S with
              | ok d3 S =>
                show ((Res.of (cmpD S o' d2 d3) S).bind _).bind _ = (Res.of (cmpD S o' d2 d3) S).bind _
                cases cmpD S o' d2 d3 <;> rfl
              | _ => rfl
        | _ => rfl
      | _ => rfl
    rw [e] at g
    refine tE.then m g fun v d S1 φ1 H1 l1 m1 r1 g => ?_
    refine tE.then m1 g fun u d2 S2 φ2 H2 l2 m2 r2 g => ?_
    obtain ⟨k, hk, g⟩ := g.ofb
    refine ⟨φ2, S2, d, d2, m2.o, r1.lat l2, r2, k, hk, k, rfl, ?_⟩
    cases k with
    | false => exact ⟨false, rfl, fB g m2.o⟩
    | true =>
      refine tE.then m2 g fun u' d3 S3 φ3 H3 l3 m3 r3 g => ?_
      obtain ⟨k, hk, g⟩ := g.ofb
      exact ⟨φ3, S3, d2, d3, m3.o, r2.lat l3, r3, k, hk, k, rfl, fB g m3.o⟩
theorem se_ife {t : Tst} (ht : PT X c (tT w xw C W t)) (ha : PE X a (tE w xw C W x)) (hb : PE X b (tE w xw C W y)) : PE X (.IfExp c a b pos) (tE w xw C W (.ife t x y)) :=
  peI (pe_ifExp ht ha hb) fun σ H Q ⟨φ, env, S, m, g⟩ => tT.then m g fun k S1 φ1 H1 l1 m1 g => by
    cases k with
    | true => exact ⟨φ1, env, S1, m1, g⟩
    | false => exact ⟨φ1, env, S1, m1, g⟩
theorem se_idx (hK : w.K = X.K) (ha : PE X a (tE w xw C W x)) (hb : PE X b (tE w xw C W y)) (hs : PlainIx b) : PE X (.Subscript a b pos) (tE w xw C W (.idx x y)) :=
  peI (pe_ix (ixR hK) ha hb hs) fun σ H Q ⟨φ, env, S, m, g⟩ => tE.then m g fun v d S1 φ1 H1 l1 m1 r1 g => tE.then m1 g fun u d2 S2 φ2 H2 l2 m2 r2 g => ⟨φ2, S2, d, d2, m2.o, r1.lat l2, r2, g.g0⟩
/-! ### tests -/
theorem st_not {t : Tst} (h : PT X a (tT w xw C W t)) : PT X (.UnaryOp .Not a pos) (tT w xw C W (.not t)) :=
  ptI (pt_not h) fun σ H Q ⟨φ, env, S, m, g⟩ => tT.then m g fun k S1 φ1 H1 l1 m1 g => fB g m1.o
theorem st_and {t u : Tst} {rest : List Expr} (ha : PT X a (tT w xw C W t)) (hb : PW X (.BoolOp .And (b :: rest) pos) (tT w xw C W u)) : PW X (.BoolOp .And (a :: b :: rest) pos) (tT w xw C W (.and t u)) :=
  ⟨fun whole pins s σ H Q I q => (pw_and ha hb).run whole pins s σ H Q I (by
    obtain ⟨φ, env, S, m, g⟩ := q
    exact tT.then m g fun k S1 φ1 H1 l1 m1 g => by
      cases k with
      | true => exact ⟨φ1, env, S1, m1, g⟩
      | false => exact fB g m1.o)⟩
theorem st_or {t u : Tst} {rest : List Expr} (ha : PT X a (tT w xw C W t)) (hb : PW X (.BoolOp .Or (b :: rest) pos) (tT w xw C W u)) : PW X (.BoolOp .Or (a :: b :: rest) pos) (tT w xw C W (.or t u)) :=
  ⟨fun whole pins s σ H Q I q => (pw_or ha hb).run whole pins s σ H Q I (by
    obtain ⟨φ, env, S, m, g⟩ := q
    exact tT.then m g fun k S1 φ1 H1 l1 m1 g => by
      cases k with
      | false => exact ⟨φ1, env, S1, m1, g⟩
      | true => exact fB g m1.o)⟩
theorem truV_of {φ : Nat → Addr} {H : Hp} {S : Store} {v : V} {d : D} {k : Bool} (hK : w.K = X.K) (so : SimO w.K φ w.ex H S) (r : Rp w.K φ w.ex H v d) (h : truth S d = some k) : TruV X.K v H k := by
  cases d with
  | non => cases r; cases h; rfl
  | bl b => cases r; cases h; rfl
  | int i => cases r; cases h; show decide (i ≠ 0) = (i != 0); rw [bne, Bool.beq_eq_decide_eq]; simp
  | str s =>
    obtain ⟨z, rfl, rfl⟩ := rp_inv r
    have h : (if z.cps.toList.length ≤ line then some (!z.cps.toList.isEmpty) else none) = some k := h
    split at h
    · rename_i hl
      cases h
      refine ⟨?_, ?_⟩
      · rw [str_len, line_eq]; exact hl
      · rw [str_len]
        cases z.cps.toList with
        | nil => rfl
        | cons c t =>
          have : ((c :: t).length : Int) ≠ 0 := by simp only [List.length_cons]; omega
          simp [this]
          omega
    · cases h
  | tup ds =>
    cases r with
    | tup h1 r1 =>
      cases h
      rw [hK] at h1
      refine .inr (.inl ⟨_, h1, ?_⟩)
      cases r1 <;> rfl
  | obj n =>
    cases r
    simp only [truth] at h
    split at h
    · rename_i xs e
      cases h
      obtain ⟨vs, h1, r1⟩ := so.ob n _ e
      refine .inl ⟨vs, SqL.of h1, ?_⟩
      cases r1 <;> rfl
    · rename_i xs e
      cases h
      obtain ⟨vs, h1, r1⟩ := so.ob n _ e
      refine .inl ⟨vs, h1.sq, ?_⟩
      cases r1 <;> rfl
    · rename_i xs e
      cases h
      obtain ⟨ws, h1, r1, _⟩ := so.ob n _ e
      refine .inr (.inr ⟨ws, h1, ?_⟩)
      have := r1.length
      cases ws <;> cases xs <;> first | rfl | (simp at this)
    · cases h
  | exc c fs => cases h
theorem st_val (hK : w.K = X.K) (ha : PE X a (tE w xw C W x)) (he : ∀ whole, isTrue a X.env whole = (do let v ← whole; standAt a.pos; holding [v] (truthy v))) : PT X a (tT w xw C W (.val x)) :=
  ptI (pt_truth ha he) fun σ H Q ⟨φ, env, S, m, g⟩ => tE.then m g fun v d S1 φ1 H1 l1 m1 r1 g => by
    obtain ⟨k, hk, g⟩ := g.of
    exact ⟨k, truV_of hK m1.o r1.1 hk, fB g m1.o⟩
end
end Pw
end
section
set_option Elab.async false
set_option linter.all false
set_option maxRecDepth 100000
set_option maxHeartbeats 1000000
set_option autoImplicit false
/-! Pw9: rows: arguments, displays, comprehensions, sources -/
namespace Pw
open PySem PySem.Spec PyProof.Rows L2
theorem bels_lat {φ φ1 : Nat → Addr} {S S1 : Store} {H H1 : Hp} {ds : List D} (b : D.bels S.length ds = true) (l : Lat φ φ1 S S1 H H1) : D.bels S1.length ds = true := D.bels_mono l.le _ b
section
variable {K : PySem.W.Frag} {φ φ0 : Nat → Addr} {ex : Ex1} {H H0 : Hp} {S S0 : Store}
theorem ObR.some {a : Addr} {o : SO} (x : ObR K φ ex H a o) : ∃ u, H a = some u := by
  cases o with
  | lst ds => obtain ⟨vs, e, _⟩ := x; exact ⟨_, e⟩
  | ro ds => obtain ⟨vs, ⟨o, e⟩, _⟩ := x; exact ⟨_, e⟩
  | dct kvs => obtain ⟨vs, e, _⟩ := x; exact ⟨_, e⟩
  | set _ => exact x.elim
  | ins _ _ => exact x.elim
theorem SimO.ne (x : SimO K φ ex H S) {p : Addr} (hp : H p = none) (n : Nat) (hn : n < S.length) : φ n ≠ p := fun z => by
  obtain ⟨o, e⟩ := get_some hn
  obtain ⟨u, h⟩ := (x.ob n o e).some
  rw [z, hp] at h
  cases h
/-- a thing that stands beside the store is taken into it -/
theorem SimO.adoptO (x : SimO K φ ex H S) {p : Addr} {q0 : SO} (l : Lat φ0 φ S0 S H0 H) (hp : H0 p = none) (hH : ObR K φ ex H p q0) (hn : ∀ n, n < S.length → φ n ≠ p) (b : q0.bel S.length = true) :
    ∃ φ', Lat φ0 φ' S0 (q0 :: S) H0 H ∧ φ' S.length = p ∧ SimO K φ' ex H (q0 :: S) := by
  have sm : ∀ m, m < S.length → (if m = S.length then p else φ m) = φ m := fun m h => if_neg (by omega)
  refine ⟨fun n => if n = S.length then p else φ n, ⟨by have := l.le; simp only [List.length_cons]; omega, fun m h => ?_, l.kp, l.fr, fun n h1 h2 => ?_, l.no⟩, if_pos rfl, fun n q e => ?_, fun n q e => ?_, fun m n om on em en mm mn e => ?_⟩
  · have := l.le
    rw [sm m (by omega)]; exact l.same m h
  · show H0 (if n = S.length then p else φ n) = none
    by_cases z : n = S.length
    · rw [if_pos z]; exact hp
    · rw [if_neg z]
      simp only [List.length_cons] at h2
      exact l.nw n h1 (by omega)
  · show ObR K _ ex H (if n = S.length then p else φ n) q
    by_cases z : n = S.length
    · subst z
      rw [get_new] at e
      cases e
      rw [if_pos rfl]
      exact hH.lat b sm Kp.refl fun _ u eu => eu
    · have hn := get_lt e
      simp only [List.length_cons] at hn
      rw [get_old (by omega)] at e
      rw [if_neg z]
      exact (x.ob n q e).lat (x.wf n q e) sm Kp.refl fun _ u eu => eu
  · have hn := get_lt e
    simp only [List.length_cons] at hn ⊢
    by_cases z : n = S.length
    · subst z
      rw [get_new] at e
      cases e
      exact SO.bel_mono (Nat.le_succ _) _ b
    · rw [get_old (by omega)] at e
      exact SO.bel_mono (Nat.le_succ _) _ (x.wf n q e)
  · have h1 := get_lt em
    have h2 := get_lt en
    simp only [List.length_cons] at h1 h2
    have e : (if m = S.length then p else φ m) = (if n = S.length then p else φ n) := e
    by_cases zm : m = S.length
    · by_cases zn : n = S.length
      · rw [zm, zn]
      · rw [if_pos zm, if_neg zn] at e
        exact absurd e.symm (hn n (by omega))
    · by_cases zn : n = S.length
      · rw [if_neg zm, if_pos zn] at e
        exact absurd e (hn m (by omega))
      · rw [if_neg zm, if_neg zn] at e
        rw [get_old (by omega)] at em en
        exact x.inj m n om on em en mm mn e
theorem SimO.adopt (x : SimO K φ ex H S) {p : Addr} {vs : List V} {ds : List D} (l : Lat φ0 φ S0 S H0 H) (hp : H0 p = none) (hH : H p = some (.lst vs)) (hn : ∀ n, n < S.length → φ n ≠ p) (r : RpA K φ ex H vs ds) (b : D.bels S.length ds = true) :
    ∃ φ', Lat φ0 φ' S0 (.lst ds :: S) H0 H ∧ φ' S.length = p ∧ SimO K φ' ex H (.lst ds :: S) := x.adoptO l hp ⟨vs, hH, r⟩ hn b
end
variable {w : Wo} {xw : Xw} {C : Ctx} {W : WX} {X : Cx}
section
variable {e a b c : Expr} {es : List Expr} {x y z : Exp} {xs : List Exp} {pos p : Pos}
/-! ### arguments -/
theorem sa_nil : PA X [] (tEs w xw C W []) := paI pa_nil fun σ H Q ⟨φ, env, S, m, g⟩ => Rg.fin (a := ([] : List D)) (b := ([] : List V)) g m.o ⟨.nil, rfl⟩
theorem sa_cons (ha : PE X a (tE w xw C W x)) (hr : PA X es (tEs w xw C W xs)) (h : okX a = true) : PA X (a :: es) (tEs w xw C W (x :: xs)) :=
  paI (pa_cons ha hr (star_ok h)) fun σ H Q ⟨φ, env, S, m, g⟩ => by
    refine tE.then m g fun v d S1 φ1 H1 l1 m1 r1 g => ?_
    refine tEs.then m1 g fun vs ds S2 φ2 H2 l2 m2 r2 g => ?_
    exact Rg.fin (a := d :: ds) (b := v :: vs) g m2.o ⟨.cons (r1.lat l2).1 r2.1, by
      show (D.bel S2.length d && D.bels S2.length ds) = true
      rw [(r1.lat l2).2, r2.2]; rfl⟩
theorem evEs_len : ∀ (xs : List Exp) (env : Env) (S : Store) (ds : List D) (S' : Store), evEs C xs env S = .ok ds S' → ds.length = xs.length
  | [], env, S, ds, S', h => by cases h; rfl
  | x :: xs, env, S, ds, S', h => by
    have h : ((evE C x env S).bind fun d S => (evEs C xs env S).bind fun ds S => .ok (d :: ds) S) = .ok ds S' := h
    cases e1 : evE C x env S with
    | ok d S1 =>
      rw [e1] at h
      have h : ((evEs C xs env S1).bind fun ds S => .ok (d :: ds) S) = .ok ds S' := h
      cases e2 : evEs C xs env S1 with
      | ok ds2 S2 =>
        rw [e2] at h
        cases h
        simp [evEs_len xs env S1 ds2 _ e2]
      | exc _ _ _ => rw [e2] at h; cases h
      | bad => rw [e2] at h; cases h
    | exc _ _ _ => rw [e1] at h; cases h
    | bad => rw [e1] at h; cases h
/-- as tEs.then, with the number of arguments -/
theorem tEs.thenL {γ δ : Type} {R2 : (Nat → Addr) → Hp → Store → δ → γ → Prop} {φ : Nat → Addr} {S : Store} {H : Hp} {σ : L2.St} {env : Env} {x : List Exp} {k : List D → Store → Res γ} {Q : δ → Hp → Prop} {Q' : List V → Hp → Prop} (m : Sim w.K φ w.ex H S σ env) (h : Rg w xw W σ R2 φ S H ((evEs C x env S).bind k) Q)
    (f : ∀ v d S1 φ1 H1, d.length = x.length → Lat φ φ1 S S1 H H1 → Sim w.K φ1 w.ex H1 S1 σ env → REs w φ1 H1 S1 v d → Rg w xw W σ R2 φ1 S1 H1 (k d S1) Q → Q' v H1) : tEs w xw C W x σ H Q' := by
  refine ⟨φ, env, S, m, ?_⟩
  cases e : evEs C x env S with
  | ok d S' => rw [e] at h; exact fun b φ' H' l so ra => f b d S' φ' H' (evEs_len _ _ _ _ _ e) l (m.lat l so) ra (Rg.later (r := k d S') h l)
  | exc c fs S' => rw [e] at h; exact h
  | bad => rw [e] at h; exact h
/-! ### a tuple, a list of written items -/
theorem se_tup {x1 : Nat} (h : PA X es (tEs w xw C W xs)) (hl : xs.length ≤ sizeLine) : PE X (.Tuple es x1 pos) (tE w xw C W (.tup xs)) :=
  peI (pe_tup h) fun σ H Q ⟨φ, env, S, m, g⟩ => by
    refine tEs.thenL m g fun vs ds S1 φ1 H1 hd l1 m1 r1 g => ⟨by rw [r1.1.length, hd]; exact hl, fun p hp => ?_⟩
    exact g.g0.tup m1.o r1.1 r1.2 hp
/-- a new list that stands beside the store -/
def RN (w : Wo) (H0 : Hp) (φ : Nat → Addr) (H : Hp) (S : Store) (v : V) (p : List D × Option Nat) : Prop :=
  D.bels S.length p.1 = true ∧ ∃ a vs, v = .ref a ∧ H0 a = none ∧ H a = some (.lst vs) ∧ RpA w.K φ w.ex H vs p.1 ∧ ∀ n, n < S.length → φ n ≠ a
def tN (w : Wo) (xw : Xw) (C : Ctx) (W : WX) (l : Src) : TE := fun σ H Q => ∃ φ env S, Sim w.K φ w.ex H S σ env ∧ Rg w xw W σ (RN w H) φ S H (evL C l env S) Q
theorem sn_disp (h : PA X es (tEs w xw C W xs)) (hl : xs.length ≤ sizeLine) : PE X (.List es pos) (tN w xw C W (.disp xs)) :=
  peI (pe_lst h) fun σ H Q ⟨φ, env, S, m, g⟩ => by
    refine tEs.thenL m g fun vs ds S1 φ1 H1 hd l1 m1 r1 g => ⟨by rw [r1.1.length, hd]; exact hl, fun p hp => ?_⟩
    refine g _ φ1 _ (Lat.newT hp) (m1.o.new hp) ⟨r1.2, p, vs, rfl, l1.no p hp, upd_same, r1.1.mono r1.2 (fun _ _ => rfl) (Kp.new hp), fun n hn z => ?_⟩
    exact m1.o.ne hp n hn z
/-- the new list as a value -/
theorem se_ls {l : Src} (h : PE X e (tN w xw C W l)) : PE X e (tE w xw C W (.ls l)) :=
  peI h fun σ H Q ⟨φ, env, S, m, g⟩ => by
    refine ⟨φ, env, S, m, ?_⟩
    have g : Rg w xw W σ (RE w) φ S H ((evL C l env S).bind fun p S => .ok (.obj S.length) (.lst p.1 :: S)) Q := g
    cases e : evL C l env S with
    | ok p S' =>
      rw [e] at g
      intro v φ' H' l1 so r
      obtain ⟨b, a, vs, rfl, h0, h1, rv, hn⟩ := r
      obtain ⟨φ2, l2, e2, so2⟩ := so.adopt l1 h0 h1 hn rv b
      refine g _ φ2 H' l2 so2 ⟨?_, ?_⟩
      · have := Rp.obj (K := w.K) (φ := φ2) (ex := w.ex) (H := H') S'.length
        rw [e2] at this
        exact this
      · show Nat.blt S'.length (S'.length + 1) = true
        exact Nat.ble_eq_true_of_le (Nat.le_refl _)
    | exc c fs S' => rw [e] at g; exact g
    | bad => rw [e] at g; exact g
/-! ### sources that are walked -/
/-- an iterator that hands out ds while gd stands -/
def ItR (w : Wo) (J : It) (ds : List D) (gd : Store → Bool) (φ0 : Nat → Addr) (S0 : Store) (H0 : Hp) : Prop := ∀ i φ S H, LatW φ0 φ S0 S H0 H → SimO w.K φ w.ex H S → gd S = true →
  (ds.length ≤ i → J.stop i H) ∧ ∀ d, ds[i]? = some d → J.go i H ∧ ∀ x H', J.yld i H x H' → Lat φ φ S S H H' ∧ SimO w.K φ w.ex H' S ∧ Rp w.K φ w.ex H' x d
def RI (w : Wo) (φ : Nat → Addr) (H : Hp) (S : Store) (J : It) (p : List D × Option Nat) : Prop := D.bels S.length p.1 = true ∧ ItR w J p.1 (stands p.2 (obAt p.2 S)) φ S H
def tI (w : Wo) (xw : Xw) (C : Ctx) (W : WX) (l : Src) : TI := fun σ H R => ∃ φ env S, Sim w.K φ w.ex H S σ env ∧ Rg w xw W σ (RI w) φ S H (evL C l env S) R
theorem piI {tg : Expr} {t t' : TI} (h : PI X tg e t) (f : ∀ σ H Q, t' σ H Q → t σ H Q) : PI X tg e t' := ⟨fun pins s σ H R I q => h.run pins s σ H R I (f _ _ _ q)⟩
theorem piOr {tg : Expr} {t u : TI} (h : PI X tg e t) (k : PI X tg e u) : PI X tg e (fun σ H R => t σ H R ∨ u σ H R) := ⟨fun pins s σ H R I q => q.elim (h.run pins s σ H R I) (k.run pins s σ H R I)⟩
section
variable {φ φ1 : Nat → Addr} {S S1 : Store} {H H1 : Hp}
theorem rng_at {n i k : Nat} (h : (List.range n)[i]? = some k) : i < n ∧ k = i := by
  by_cases hi : i < n
  · rw [List.getElem?_range hi] at h
    cases h; exact ⟨hi, rfl⟩
  · rw [List.getElem?_eq_none (by simp; omega)] at h; cases h
theorem itr_rng {lo : Int} {n : Nat} {gd : Store → Bool} : ItR w (Itr lo n) ((List.range n).map fun i => .int (lo + (i : Nat))) gd φ S H := fun i φ' S' H' l so _ =>
  ⟨fun h => by have : n ≤ i := by simpa using h
               exact this, fun d hd => by
    simp only [List.getElem?_map, Option.map_eq_some_iff] at hd
    obtain ⟨k, hk, rfl⟩ := hd
    obtain ⟨hi, rfl⟩ := rng_at hk
    exact ⟨hi, fun x H2 ⟨e1, e2⟩ => by subst e1 e2; exact ⟨Lat.refl, so, .int _⟩⟩⟩
theorem itr_rngC {lo c : Int} {n : Nat} {gd : Store → Bool} : ItR w (Itc lo c n) ((List.range n).map fun i => .int (lo + (i : Nat) * c)) gd φ S H := fun i φ' S' H' l so _ =>
  ⟨fun h => by have : n ≤ i := by simpa using h
               exact this, fun d hd => by
    simp only [List.getElem?_map, Option.map_eq_some_iff] at hd
    obtain ⟨k, hk, rfl⟩ := hd
    obtain ⟨hi, rfl⟩ := rng_at hk
    exact ⟨hi, fun x H2 ⟨e1, e2⟩ => by subst e1 e2; exact ⟨Lat.refl, so, .int _⟩⟩⟩
theorem itr_sql {a : Addr} {ds : List D} {gd : Store → Bool} (h : ∀ φ' S' H', LatW φ φ' S S' H H' → SimO w.K φ' w.ex H' S' → gd S' = true → ∃ vs, SqL w.K H' a vs ∧ RpA w.K φ' w.ex H' vs ds) : ItR w (Itl w.K a) ds gd φ S H := fun i φ' S' H' l so g => by
  obtain ⟨vs, h1, r1⟩ := h φ' S' H' l so g
  refine ⟨fun hi => ⟨vs, h1, by rw [r1.length]; exact hi⟩, fun d hd => ?_⟩
  obtain ⟨v, hv, rv⟩ := r1.get d hd
  refine ⟨⟨vs, v, h1, hv⟩, fun x H2 ⟨e1, e2⟩ => ?_⟩
  subst e1
  have := (e2 vs h1).symm.trans hv
  cases this
  exact ⟨Lat.refl, so, rv⟩
theorem itr_sqt {a : Addr} {vs : List V} {ds : List D} {gd : Store → Bool} (h : SqT w.K H a vs) (r : RpA w.K φ w.ex H vs ds) (b : D.bels S.length ds = true) : ItR w (Itt w.K a) ds gd φ S H := fun i φ' S' H' l so g => by
  have h1 := sqT_kp h l.kp
  have r1 := r.mono b l.same l.kp
  refine ⟨fun hi => ⟨vs, h1, by rw [r1.length]; exact hi⟩, fun d hd => ?_⟩
  obtain ⟨v, hv, rv⟩ := r1.get d hd
  refine ⟨⟨vs, v, h1, hv⟩, fun x H2 ⟨e1, e2⟩ => ?_⟩
  subst e1
  have := (e2 vs h1).symm.trans hv
  cases this
  exact ⟨Lat.refl, so, rv⟩
theorem itr_str {x : Str} {gd : Store → Bool} : ItR w (Its x) (x.cps.toList.map fun c => .str [c]) gd φ S H := fun i φ' S' H' l so _ =>
  ⟨fun h => by have : x.cps.size ≤ i := by simpa using h
               exact this, fun d hd => by
    simp only [List.getElem?_map, Option.map_eq_some_iff] at hd
    obtain ⟨k, hk, rfl⟩ := hd
    have hk' : x.cps[i]? = some k := by rw [← Array.getElem?_toList]; exact hk
    refine ⟨?_, fun y H2 ⟨e1, c, e2, e3⟩ => ?_⟩
    · by_cases z : i < x.cps.size
      · exact z
      · rw [Array.getElem?_eq_none (by omega)] at hk'; cases hk'
    · subst e1 e3
      rw [hk'] at e2
      cases e2
      exact ⟨Lat.refl, so, rp_str rfl⟩⟩
end
/-- for .. in e, by what e is -/
theorem si_val {tg : Expr} (hK : w.K = X.K) (h : PE X e (tE w xw C W x)) : PI X tg e (tI w xw C W (.val x)) := by
  refine piI (piOr (piOr (pi_list h) (pi_tup h)) (pi_str h)) fun σ H R ⟨φ, env, S, m, g⟩ => ?_
  have g : Rg w xw W σ (RI w) φ S H ((evE C x env S).bind fun x S => Res.of (items x S) S) R := g
  cases e1 : evE C x env S with
  | bad => rw [e1] at g; exact g.elim
  | exc c fs S' =>
    rw [e1] at g
    refine .inr ⟨φ, env, S, m, ?_⟩
    rw [e1]
    exact g
  | ok d S' =>
    rw [e1] at g
    have g : Rg w xw W σ (RI w) φ S H (Res.of (items d S') S') R := g
    obtain ⟨p, hp, g⟩ := g.of
    cases d with
    | str s =>
      cases hp
      refine .inr ⟨φ, env, S, m, ?_⟩
      rw [e1]
      intro v φ' H' l so r
      obtain ⟨z, rfl, rfl⟩ := rp_inv r.1
      exact ⟨z, rfl, g _ φ' H' l so ⟨bels_all.mpr fun d hd => by
        obtain ⟨c, _, rfl⟩ := List.mem_map.mp hd
        rfl, itr_str⟩⟩
    | tup ds =>
      cases hp
      refine .inl (.inr ⟨φ, env, S, m, ?_⟩)
      rw [e1]
      intro v φ' H' l so r
      have hb : D.bels S'.length ds = true := by have := r.2; simpa [D.bel] using this
      cases r.1 with
      | tup h1 r1 => exact ⟨_, rfl, ⟨_, hK ▸ h1⟩, hK ▸ g _ φ' H' l so ⟨hb, itr_sqt h1 r1 hb⟩⟩
    | obj n =>
      refine .inl (.inl ⟨φ, env, S, m, ?_⟩)
      rw [e1]
      intro v φ' H' l so r
      cases r.1
      simp only [items] at hp
      split at hp
      · rename_i xs en
        cases hp
        obtain ⟨vs, h1, r1⟩ := so.ob n _ en
        refine ⟨_, rfl, ⟨vs, SqL.of h1⟩, hK ▸ g _ φ' H' l so ⟨so.wf n _ en, itr_sql fun φ2 S2 H2 l2 so2 g2 => ?_⟩⟩
        have hn : n < S'.length := get_lt en
        have eg : get S2 n = some (.lst xs) := by
          have : get S2 n = obAt (some n) S' := of_decide_eq_true g2
          rw [this]; exact en
        obtain ⟨vs2, h2, r2⟩ := so2.ob n _ eg
        rw [← l2.same n hn]
        exact ⟨vs2, SqL.of h2, r2⟩
      · rename_i xs en
        cases hp
        obtain ⟨vs, h1, r1⟩ := so.ob n _ en
        refine ⟨_, rfl, ⟨vs, h1.sq⟩, hK ▸ g _ φ' H' l so ⟨so.wf n _ en, itr_sql fun φ2 S2 H2 l2 so2 g2 => ?_⟩⟩
        have hn : n < S'.length := get_lt en
        have eg : get S2 n = some (.ro xs) := by
          have : get S2 n = obAt (some n) S' := of_decide_eq_true g2
          rw [this]; exact en
        obtain ⟨vs2, h2, r2⟩ := so2.ob n _ eg
        rw [← l2.same n hn]
        exact ⟨vs2, h2.sq, r2⟩
      · cases hp
    | _ => cases hp
end
end Pw
end
section
set_option Elab.async false
set_option linter.all false
set_option maxRecDepth 100000
set_option maxHeartbeats 1000000
set_option autoImplicit false
/-! Pw10: ranges, targets, comprehensions -/
namespace Pw
open PySem PySem.Spec PyProof.Rows L2
variable {w : Wo} {xw : Xw} {C : Ctx} {W : WX} {X : Cx}
section
variable {e a b c tg : Expr} {es : List Expr} {x y z : Exp} {xs : List Exp} {pos p : Pos}
theorem small_ok {i : Int} (h : small i = true) : -(2 ^ 62) ≤ i ∧ i < 2 ^ 62 := by
  unfold small at h
  simp only [Bool.and_eq_true, decide_eq_true_eq] at h
  exact h
theorem bels_map {n : Nat} {α : Type} {l : List α} {f : α → D} (h : ∀ a, D.bel n (f a) = true) : D.bels n (l.map f) = true := bels_all.mpr fun d hd => by
  obtain ⟨c, _, rfl⟩ := List.mem_map.mp hd
  exact h c
theorem si_rng (hg : Gl X "range") (hm : X.mg "range" = none) (ha : PE X a (tE w xw C W x)) (h : okX a = true) : PI X tg (.Call (.Name "range" p) [a] [] pos) (tI w xw C W (.rng x)) :=
  piI (pi_range1 hg hm (pa_cons ha pa_nil (star_ok h)) (star_ok h)) fun σ H R ⟨φ, env, S, m, g⟩ => by
    refine tE.then m g fun v d S1 φ1 H1 l1 m1 r1 g => ?_
    cases d <;> first | exact g.elim | skip
    rename_i i
    cases r1.1
    obtain ⟨h1, g⟩ := Rg.ite (c := small i = true) g
    obtain ⟨h1, h2⟩ := small_ok h1
    refine ⟨i, rfl, h1, h2, g _ φ1 H1 Lat.refl m1.o ⟨bels_map fun _ => rfl, ?_⟩⟩
    have e : rngL 0 i = (List.range i.toNat).map fun k => .int ((0 : Int) + (k : Nat)) := by unfold rngL; rw [Int.sub_zero]
    show ItR w (Itr 0 i.toNat) (rngL 0 i) _ _ _ _
    rw [e]
    exact itr_rng
theorem si_rng2 (hg : Gl X "range") (hm : X.mg "range" = none) (ha : PE X a (tE w xw C W x)) (hb : PE X b (tE w xw C W y)) (h : okX a = true) (h2 : okX b = true) : PI X tg (.Call (.Name "range" p) [a, b] [] pos) (tI w xw C W (.rng2 x y)) :=
  piI (pi_range2 hg hm (pa_cons ha (pa_cons hb pa_nil (star_ok h2)) (star_ok h)) ((star_ok h).trans (by rw [star_ok h2]; rfl)) (star_ok h2)) fun σ H R ⟨φ, env, S, m, g⟩ => by
    refine tE.then m g fun v d S1 φ1 H1 l1 m1 r1 g => ?_
    refine tE.then m1 g fun u d2 S2 φ2 H2 l2 m2 r2 g => ?_
    cases d with
    | int i => cases d2 with
      | int j =>
        cases r1.1
        cases r2.1
        obtain ⟨h1, g⟩ := Rg.ite (c := (small i && small j) = true) g
        simp only [Bool.and_eq_true] at h1
        have k1 := small_ok h1.1
        have k2 := small_ok h1.2
        exact ⟨i, j, rfl, ⟨k1.1, k1.2, k2.1, k2.2⟩, g _ φ2 H2 Lat.refl m2.o ⟨bels_map fun _ => rfl, itr_rng⟩⟩
      | _ => exact g.elim
    | _ => exact g.elim

theorem rgC_up {i j c : Int} (h1 : small i = true) (h2 : small j = true) (h3 : 0 < c) (h4 : c < 1073741824) : RgC i j c (if i < j then ((j - i - 1) / c + 1).toNat else 0) := by
  have k1 := small_ok h1
  have k2 := small_ok h2
  have e : Builtin.Range.rangeSize i j c = if i < j then (j - i - 1) / c + 1 else 0 := by
    unfold Builtin.Range.rangeSize
    rw [if_pos h3]
  have d0 : i < j → 0 ≤ (j - i - 1) / c := fun h => Int.ediv_nonneg (by omega) (by omega)
  have d1 : i < j → (j - i - 1) / c ≤ j - i - 1 := fun h => Int.ediv_le_self _ (by omega)
  refine ⟨by omega, by omega, ?_, ?_⟩
  · unfold Builtin.Range.small
    rw [e]
    simp only [Builtin.Range.rangeFitsLong, Bool.and_eq_true, Bool.or_eq_true, decide_eq_true_eq, beq_iff_eq, if_pos h3]
    split
    · have := d0 (by assumption)
      have := d1 (by assumption)
      omega
    · omega
  · rw [e]
    split
    · have := d0 (by assumption)
      omega
    · rfl
theorem si_rng3 (hg : Gl X "range") (hm : X.mg "range" = none) (ha : PE X a (tE w xw C W x)) (hb : PE X b (tE w xw C W y)) (hc : PE X c (tE w xw C W z)) (h : okX a = true) (h2 : okX b = true) (h3 : okX c = true) : PI X tg (.Call (.Name "range" p) [a, b, c] [] pos) (tI w xw C W (.rng3 x y z)) :=
  piI (pi_range3 hg hm (pa_cons ha (pa_cons hb (pa_cons hc pa_nil (star_ok h3)) (star_ok h2)) (star_ok h)) (star_ok h) (plainArgs_ok (by simp [h2, h3]))) fun σ H R ⟨φ, env, S, m, g⟩ => by
    refine tE.then m g fun v d S1 φ1 H1 l1 m1 r1 g => ?_
    refine tE.then m1 g fun u d2 S2 φ2 H2 l2 m2 r2 g => ?_
    refine tE.then m2 g fun u d3 S3 φ3 H3 l3 m3 r3 g => ?_
    cases d with
    | int i => cases d2 with
      | int j => cases d3 with
        | int k =>
          cases r1.1
          cases r2.1
          cases r3.1
          obtain ⟨h1, g⟩ := Rg.ite (c := (small i && small j && (decide (k = -1) || (decide (0 < k) && decide (k < 1073741824)))) = true) g
          simp only [Bool.and_eq_true, Bool.or_eq_true, decide_eq_true_eq] at h1
          obtain ⟨⟨s1, s2⟩, h1⟩ := h1
          refine ⟨i, j, k, (if k = -1 then (i - j).toNat else if i < j then ((j - i - 1) / k + 1).toNat else 0), rfl, ?_, g _ φ3 H3 Lat.refl m3.o ⟨bels_map fun _ => rfl, itr_rngC⟩⟩
          rcases h1 with rfl | ⟨h3, h4⟩
          · rw [if_pos rfl]
            have k1 := small_ok s1
            have k2 := small_ok s2
            exact RgC.neg k1.1 k1.2 k2.1 k2.2
          · rw [if_neg (by omega)]
            exact rgC_up s1 s2 h3 h4
        | _ => exact g.elim
      | _ => exact g.elim
    | _ => exact g.elim
/-! ### targets -/
/-- slots outside is as before -/
def Same (is : List Nat) (σ σ' : L2.St) : Prop := σ'.length = σ.length ∧ ∀ i, i ∉ is → σ'[i]? = σ[i]?
theorem wipe_at {σ : L2.St} {i : Nat} : ∀ {vs : List Nat}, i ∈ vs → i < σ.length → (wipe σ vs)[i]? = some none
  | v :: vs, h, hl => by
    unfold wipe
    by_cases z : v = i
    · subst z
      rw [List.getElem?_set_self (by rw [wipe_length]; exact hl)]
    · rw [List.getElem?_set_ne z]
      have : i ∈ vs := by
        rcases List.mem_cons.mp h with e | e
        · exact absurd e.symm z
        · exact e
      exact wipe_at this hl
theorem wipe_same {vs : List Nat} {σ σ' : L2.St} (h : Same vs σ σ') : wipe σ' vs = wipe σ vs := by
  apply List.ext_getElem?
  intro i
  by_cases hi : i ∈ vs
  · by_cases hl : i < σ.length
    · rw [wipe_at hi hl, wipe_at hi (by rw [h.1]; exact hl)]
    · rw [List.getElem?_eq_none (by rw [wipe_length, h.1]; omega), List.getElem?_eq_none (by rw [wipe_length]; omega)]
  · rw [wipe_out hi, wipe_out hi, h.2 i hi]
theorem wipe_wipe {vs : List Nat} {σ : L2.St} : wipe (wipe σ vs) vs = wipe σ vs := by
  refine wipe_same ⟨wipe_length _ _, fun i hi => wipe_out hi⟩
def gT (w : Wo) (t : Tg) : TG := fun v σ H Q => ∃ φ S env d env', Sim w.K φ w.ex H S σ env ∧ RE w φ H S v d ∧ bind1 t d env = some env' ∧ ∀ σ', Sim w.K φ w.ex H S σ' env' → Same t.ix σ σ' → Q σ' H
theorem pgI {tg : Expr} {t t' : TG} (h : PG X tg t) (f : ∀ v σ H Q, t' v σ H Q → t v σ H Q) : PG X tg t' := ⟨fun pins s σ H v u Q I r q => h.run pins s σ H v u Q I r (f _ _ _ _ q)⟩
section
variable {φ : Nat → Addr} {S : Store} {H : Hp} {σ : L2.St} {env : Env} {v : V} {d : D}
theorem SimE.set {K : PySem.W.Frag} {ex : Ex1} {n : Nat} (m : SimE K φ ex H n σ env) (r : Rp K φ ex H v d) (b : D.bel n d = true) (i : Nat) (hx : ∀ a j fs, ex = some (a, j, fs) → i ≠ j) : SimE K φ ex H n (σ.set i (some v)) (env.set i (some d)) := by
  refine ⟨by simp [m.len], fun j u h => ?_, fun a j fs e => by rw [List.getElem?_set_ne (hx a j fs e)]; exact m.xs a j fs e, m.xd⟩
  by_cases z : i = j
  · subst z
    by_cases hl : i < env.length
    · rw [List.getElem?_set_self hl] at h
      cases h
      exact ⟨v, List.getElem?_set_self (by rw [m.len]; exact hl), r, b⟩
    · rw [List.getElem?_eq_none (by simpa using hl)] at h; cases h
  · rw [List.getElem?_set_ne z] at h
    obtain ⟨u2, h1, h2⟩ := m.at_ j u h
    exact ⟨u2, by rw [List.getElem?_set_ne z]; exact h1, h2⟩
theorem SimE.non {K : PySem.W.Frag} {ex : Ex1} {n : Nat} (m : SimE K φ ex H n σ env) (i : Nat) : SimE K φ ex H n σ (env.set i .none) := by
  refine ⟨by simp [m.len], fun j u h => ?_, m.xs, m.xd⟩
  by_cases z : i = j
  · subst z
    by_cases hl : i < env.length
    · rw [List.getElem?_set_self hl] at h; cases h
    · rw [List.getElem?_eq_none (by simpa using hl)] at h; cases h
  · rw [List.getElem?_set_ne z] at h
    exact m.at_ j u h
theorem SimE.kill {K : PySem.W.Frag} {ex : Ex1} {n : Nat} : ∀ (ks : List Nat) {env : Env}, SimE K φ ex H n σ env → SimE K φ ex H n σ (Pw.kill ks env)
  | [], _, m => m
  | k :: ks, _, m => SimE.kill ks (m.non k)
theorem kill_at : ∀ (ks : List Nat) {env : Env} {i : Nat} {d : D}, (Pw.kill ks env)[i]? = some (some d) → env[i]? = some (some d) ∧ i ∉ ks
  | [], _, _, _, h => ⟨h, by simp⟩
  | k :: ks, env, i, d, h => by
    obtain ⟨h1, h2⟩ := kill_at ks h
    by_cases z : k = i
    · subst z
      by_cases hl : k < env.length
      · rw [List.getElem?_set_self hl] at h1; cases h1
      · rw [List.getElem?_eq_none (by simpa using hl)] at h1; cases h1
    · rw [List.getElem?_set_ne z] at h1
      exact ⟨h1, by simp only [List.mem_cons, not_or]; exact ⟨fun e => z e.symm, h2⟩⟩
theorem kill_len : ∀ (ks : List Nat) (env : Env), (Pw.kill ks env).length = env.length
  | [], _ => rfl
  | k :: ks, env => by
    show (Pw.kill ks (env.set k .none)).length = _
    rw [kill_len ks, List.length_set]
theorem SimE.wipe {K : PySem.W.Frag} {ex : Ex1} {n : Nat} (m : SimE K φ ex H n σ env) (vs : List Nat) (hx : ex = none) : SimE K φ ex H n (wipe σ vs) (Pw.kill vs env) := by
  refine ⟨by rw [wipe_length, kill_len, m.len], fun j u h => ?_, fun a j fs e => (by rw [hx] at e; cases e), m.xd⟩
  obtain ⟨h1, h2⟩ := kill_at vs h
  rw [wipe_out h2]
  exact m.at_ j u h1
end
theorem sg_v {i : Nat} {n : Str} (he : ∀ a j fs, w.ex = some (a, j, fs) → i ≠ j) (hN : X.N.Nodup) (hi : X.N[i]? = some n) (hx : Loc X.env.scope n) (hf : X.fn n = true ∨ X.env.scope.names.lookup n = some .local) : PG X (.Name n pos) (gT w (.v i)) :=
  pgI (pg_name hN hi hx hf) fun v σ H Q ⟨φ, S, env, d, env', m, r, h, q⟩ => by
    cases h
    exact q _ ⟨m.o, m.e.set r.1 r.2 i he⟩ ⟨by simp, fun j hj => List.getElem?_set_ne (fun z => hj (by simp [Tg.ix, z]))⟩
/-- several slots -/
def sets (σ : L2.St) : List (Nat × V) → L2.St
  | [] => σ
  | p :: r => sets (σ.set p.1 (some p.2)) r
def gNs : List Nat → TGs
  | [] => gNil
  | i :: is => gCons (gName i) (gNs is)
theorem gNs_ok : ∀ (is : List Nat) (vs : List V) (σ : L2.St) (H : Hp) (Q : L2.St → Hp → Prop), vs.length = is.length → Q (sets σ (is.zip vs)) H → gNs is vs σ H Q
  | [], [], σ, H, Q, _, q => ⟨rfl, q⟩
  | i :: is, v :: vs, σ, H, Q, h, q => ⟨v, vs, rfl, gNs_ok is vs _ H Q (by simpa using h) q⟩
theorem SimE.sets {K : PySem.W.Frag} {ex : Ex1} {φ : Nat → Addr} {H : Hp} {n : Nat} : ∀ (is : List Nat) {vs : List V} {ds : List D} {σ : L2.St} {env : Env}, SimE K φ ex H n σ env → RpA K φ ex H vs ds → D.bels n ds = true → ex = none →
    SimE K φ ex H n (Pw.sets σ (is.zip vs)) ((is.zip ds).foldl (fun e p => e.set p.1 (some p.2)) env)
  | [], _, _, _, _, m, _, _, _ => m
  | i :: is, _, _, _, _, m, .nil, _, _ => m
  | i :: is, _, _, _, _, m, .cons q r, b, he => by
    simp only [D.bels, Bool.and_eq_true] at b
    exact SimE.sets is (m.set q b.1 i fun a j fs e => by rw [he] at e; cases e) r b.2 he
theorem sets_same : ∀ (is : List Nat) (vs : List V) (σ : L2.St), Same is σ (sets σ (is.zip vs))
  | [], _, σ => ⟨rfl, fun _ _ => rfl⟩
  | _ :: _, [], σ => ⟨rfl, fun _ _ => rfl⟩
  | i :: is, v :: vs, σ => by
    obtain ⟨h1, h2⟩ := sets_same is vs (σ.set i (some v))
    refine ⟨h1.trans (by simp), fun j hj => ?_⟩
    simp only [List.mem_cons, not_or] at hj
    exact (h2 j hj.2).trans (List.getElem?_set_ne (fun z => hj.1 z.symm))
theorem sg_tup {es : List Expr} {k : Nat} {is : List Nat} (he : w.ex = none) (hK : w.K = X.K) (hc : X.calm = true) (h : PGs X es (gNs is)) (hn : (assignEach es X.env).length = is.length) (hst : (assignEach es X.env).findIdx? (·.1) = none) : PG X (.Tuple es k pos) (gT w (.tup is)) :=
  pgI (pg_tup hc h hn hst) fun v σ H Q ⟨φ, S, env, d, env', m, r, h, q⟩ => by
    cases d <;> first | cases h; done | skip
    rename_i ds
    have h : (if is.length = ds.length then some ((is.zip ds).foldl (fun e p => e.set p.1 (some p.2)) env) else none) = some env' := h
    split at h
    · rename_i hl
      cases h
      have hb : D.bels S.length ds = true := by have := r.2; simpa [D.bel] using this
      obtain ⟨r, _⟩ := r
      cases r with
      | @tup a vs _ h1 r1 =>
        have hv : vs.length = is.length := by rw [r1.length, hl]
        exact ⟨a, vs, rfl, hK ▸ h1, hv, gNs_ok is vs σ H Q hv (q _ ⟨m.o, m.e.sets is r1 hb he⟩ (sets_same is vs σ))⟩
    · cases h
end
end Pw
end
section
set_option Elab.async false
set_option linter.all false
set_option maxRecDepth 100000
set_option maxHeartbeats 1000000
set_option autoImplicit false
/-! Pw11: comprehensions -/
namespace Pw
open PySem PySem.Spec PyProof.Rows L2
variable {w : Wo} {xw : Xw} {C : Ctx} {W : WX} {X : Cx}
/-- nothing may leave a comprehension's block -/
def W0 : WX := fun _ _ _ _ => False
def tTs (w : Wo) (xw : Xw) (C : Ctx) (W : WX) (ts : List Tst) : TT := fun σ H Q => ∃ φ env S, Sim w.K φ w.ex H S σ env ∧ Rg w xw W σ RB φ S H (evTs C ts env S) Q
theorem sts_nil : PTs X [] (tTs w xw C W []) := ⟨fun pins s σ H Q I ⟨φ, env, S, m, g⟩ => pts_nil.run pins s σ H Q I (fB g m.o)⟩
theorem sts_one {c : Expr} {t : Tst} (h : PT X c (tT w xw C W t)) : PTs X [c] (tTs w xw C W [t]) := ⟨fun pins s σ H Q I ⟨φ, env, S, m, g⟩ => (pts_one h).run pins s σ H Q I (by
  refine ⟨φ, env, S, m, ?_⟩
  have g : Rg w xw W σ RB φ S H ((evT C t env S).bind fun k S => if k then .ok true S else .ok false S) Q := g
  have e : ((evT C t env S).bind fun k S => if k then .ok true S else .ok false S) = evT C t env S := by
    cases evT C t env S with
    | ok k S => cases k <;> rfl
    | _ => rfl
  rw [e] at g
  exact g)⟩
/-- one turn of a comprehension -/
def compF (C : Ctx) (e : Exp) (t : Tg) (ifs : List Tst) (env : Env) (x : D) (S : Store) : Res (Option D) := match bind1 t x (kill t.ix env) with
  | some env => (match evTs C ifs env S with
    | .ok true S => (match evE C e env S with
      | .ok y S => .ok (some y) S
      | _ => .bad)
    | .ok false S => .ok none S
    | _ => .bad)
  | none => .bad
theorem drop_at {α : Type} {l : List α} {i : Nat} {x : α} {r : List α} (h : l.drop i = x :: r) : l[i]? = some x ∧ l.drop (i + 1) = r ∧ i < l.length := by
  have hl : i < l.length := by
    by_cases z : i < l.length
    · exact z
    · rw [List.drop_eq_nil_of_le (by omega)] at h; cases h
  rw [List.drop_eq_getElem_cons hl] at h
  cases h
  exact ⟨List.getElem?_eq_getElem hl, rfl, hl⟩
theorem comp_rd {e : Exp} {t : Tg} {l : Src} {ts : List Tst} (hx : w.ex = none) {σ : L2.St} {H : Hp} {Q : VK} (q : tN w xw C W (.comp e t l ts) σ H Q) : tLc (tI w xw C W l) (gT w t) (tTs w xw C W0 ts) (tE w xw C W0 e) t.ix σ H Q := by
  obtain ⟨φ, env, S, m, g⟩ := q
  refine ⟨φ, env, S, m, ?_⟩
  have g : Rg w xw W σ (RN w H) φ S H ((evL C l env S).bind fun p S => if p.1.length ≤ line then (compL (compF C e t ts env) (stands p.2 (obAt p.2 S)) p.1 S).bind fun ys S => .ok (ys, none) S else .bad) Q := g
  cases ev : evL C l env S with
  | bad => rw [ev] at g; exact g.elim
  | exc c fs S' => rw [ev] at g; exact g
  | ok p S1 =>
    rw [ev] at g
    intro J φ1 H1 l1 so1 r1 Lp hD
    have g : Rg w xw W σ (RN w H) φ S H (if p.1.length ≤ line then (compL (compF C e t ts env) (stands p.2 (obAt p.2 S1)) p.1 S1).bind fun ys S => .ok (ys, none) S else .bad) Q := g
    obtain ⟨hl, g⟩ := Rg.ite g
    obtain ⟨b1, it⟩ := r1
    generalize hgd : stands p.2 (obAt p.2 S1) = gd at g it
    generalize hds : p.1 = ds at g it b1 hl
    refine ⟨fun i mm H' => mm = ds.length - i ∧ ∃ φ2 S2 vs acc, Lat φ1 φ2 S1 S2 H1 H' ∧ SimO w.K φ2 w.ex H' S2 ∧ H' Lp = some (.lst vs) ∧ RpA w.K φ2 w.ex H' vs acc ∧ D.bels S2.length acc = true ∧ (∀ n, n < S2.length → φ2 n ≠ Lp) ∧ acc.length ≤ i ∧
      Rg w xw W σ (RN w H) φ S H ((compL (compF C e t ts env) gd (ds.drop i) S2).bind fun ys S => .ok (acc ++ ys, none) S) Q, ⟨ds.length, by simp, φ1, S1, [], [], Lat.newT hD, so1.new hD, upd_same, .nil, rfl, so1.ne hD, Nat.le_refl _, by simpa using g⟩, ?_⟩
    rintro i mm H' ⟨rfl, φ2, S2, vs, acc, l2, so2, hH, ra, ba, hn, ha, g⟩
    cases hdr : ds.drop i with
    | nil =>
      rw [hdr] at g
      have g : Rg w xw W σ (RN w H) φ S H ((if gd S2 then Res.ok [] S2 else Res.bad).bind fun ys S => .ok (acc ++ ys, none) S) Q := g
      cases hgS : gd S2 with
      | false => rw [hgS] at g; exact g.elim
      | true =>
        rw [hgS] at g
        have hi' : ds.length ≤ i := by
          have := congrArg List.length hdr
          simp only [List.length_drop, List.length_nil] at this
          omega
        refine .inl ⟨((it i φ2 S2 H' l2.w so2 hgS).1 hi'), ?_⟩
        have g : Rg w xw W σ (RN w H) φ S H (.ok (acc ++ [], none) S2) Q := g
        rw [List.append_nil] at g
        exact g (.ref Lp) φ2 H' (l1.trans l2) so2 ⟨ba, Lp, vs, rfl, l1.no Lp hD, hH, ra, hn⟩
    | cons d rest =>
      obtain ⟨hd, hrest, hil⟩ := drop_at hdr
      rw [hdr] at g
      have g : Rg w xw W σ (RN w H) φ S H ((if gd S2 then (match compF C e t ts env d S2 with
        | Res.ok o S => (compL (compF C e t ts env) gd rest S).bind fun ys S => .ok (match o with | some y => y :: ys | none => ys) S
        | _ => Res.bad) else Res.bad).bind fun ys S => .ok (acc ++ ys, none) S) Q := g
      cases hgS : gd S2 with
      | false => rw [hgS] at g; exact g.elim
      | true =>
        rw [hgS, if_pos rfl] at g
        obtain ⟨hgo, hy⟩ := (it i φ2 S2 H' l2.w so2 hgS).2 d hd
        refine .inr ⟨hgo, fun H2 => ∃ φ2 S2 vs acc, Lat φ1 φ2 S1 S2 H1 H2 ∧ SimO w.K φ2 w.ex H2 S2 ∧ H2 Lp = some (.lst vs) ∧ RpA w.K φ2 w.ex H2 vs acc ∧ D.bels S2.length acc = true ∧ (∀ n, n < S2.length → φ2 n ≠ Lp) ∧ acc.length ≤ i + 1 ∧
          Rg w xw W σ (RN w H) φ S H ((compL (compF C e t ts env) gd rest S2).bind fun ys S => .ok (acc ++ ys, none) S) Q, fun H2 q => ⟨ds.length - (i + 1), by omega, rfl, by rw [hrest]; exact q⟩, fun x H3 y => ?_⟩
        obtain ⟨l3, so3, rx⟩ := hy x H3 y
        have hD3 : H3 Lp = some (.lst vs) := l3.fr Lp _ hH hn
        have ra3 := ra.lat ba l3
        have bd : D.bel S2.length d = true := D.bel_mono l2.le _ (bels_all.mp b1 d (List.mem_of_getElem? hd))
        cases hF : compF C e t ts env d S2 with
        | bad => rw [hF] at g; exact g.elim
        | exc c fs S' => rw [hF] at g; exact g.elim
        | ok o S4 =>
          rw [hF] at g
          unfold compF at hF
          cases hb : bind1 t d (kill t.ix env) with
          | none => rw [hb] at hF; cases hF
          | some env2 =>
            rw [hb] at hF
            have m3 : Sim w.K φ2 w.ex H3 S2 (wipe σ t.ix) (kill t.ix env) := ⟨so3, ((m.e.lat l1).lat (l2.trans l3)).wipe _ hx⟩
            refine ⟨φ2, S2, kill t.ix env, d, env2, m3, ⟨rx, bd⟩, hb, fun σ2 m4 sm => ⟨(wipe_same sm).trans wipe_wipe, ?_⟩⟩
            refine ⟨φ2, env2, S2, m4, ?_⟩
            dsimp only at hF
            cases hT : evTs C ts env2 S2 with
            | bad => rw [hT] at hF; cases hF
            | exc c fs S' => rw [hT] at hF; cases hF
            | ok k S5 =>
              rw [hT] at hF
              intro kb φ5 H5 l5 so5 rk
              cases rk
              cases k with
              | false =>
                cases hF
                rw [if_neg (by simp)]
                refine ⟨φ5, S4, vs, acc, l2.trans (l3.trans l5), so5, l5.fr Lp _ hD3 hn, ra3.lat ba l5, bels_lat ba l5, fun n hn' z => ?_, by omega, ?_⟩
                · by_cases hs : n < S2.length
                  · rw [l5.same n hs] at z; exact hn n hs z
                  · have := l5.nw n (by omega) hn'
                    rw [z, hD3] at this; cases this
                · have e0 : ((compL (compF C e t ts env) gd rest S4).bind fun ys S => Res.ok (match (none : Option D) with | some y => y :: ys | none => ys) S) = compL (compF C e t ts env) gd rest S4 := by
                    cases compL (compF C e t ts env) gd rest S4 <;> rfl
                  have g : Rg w xw W σ (RN w H) φ S H (((compL (compF C e t ts env) gd rest S4).bind fun ys S => Res.ok (match (none : Option D) with | some y => y :: ys | none => ys) S).bind fun ys S => .ok (acc ++ ys, none) S) Q := g
                  rw [e0] at g
                  exact g
              | true =>
                dsimp only at hF
                rw [if_pos rfl]
                refine ⟨φ5, env2, S5, m4.lat l5 so5, ?_⟩
                cases hE : evE C e env2 S5 with
                | bad => rw [hE] at hF; cases hF
                | exc c fs S' => rw [hE] at hF; cases hF
                | ok y S6 =>
                  rw [hE] at hF
                  cases hF
                  intro yv φ6 H6 l6 so6 ry
                  have l56 := l5.trans l6
                  have hD6 : H6 Lp = some (.lst vs) := l56.fr Lp _ hD3 hn
                  have hn6 : ∀ n, n < S4.length → φ6 n ≠ Lp := fun n hn' z => by
                    by_cases hs : n < S2.length
                    · rw [l56.same n hs] at z; exact hn n hs z
                    · have := l56.nw n (by omega) hn'
                      rw [z, hD3] at this; cases this
                  have kp : Kp H6 (upd H6 Lp (.lst (vs ++ [yv]))) := Kp.set hD6 trivial
                  refine ⟨vs, hD6, by rw [ra.length, line_eq]; omega, φ6, S4, vs ++ [yv], acc ++ [y], ?_, ?_, upd_same, ((ra3.lat ba l56).append (.cons ry.1 .nil)).mono (n := S4.length) ?_ (fun _ _ => rfl) kp, ?_, hn6, by simp; omega, ?_⟩
                  · have l7 := l2.trans (l3.trans l56)
                    refine ⟨l7.le, l7.same, l7.kp.trans kp, fun a o ha2 hna => ?_, l7.nw, fun a ha2 => l7.no a (by
                      by_cases z : a = Lp
                      · rw [z, upd_same] at ha2; cases ha2
                      · rw [upd_ne z] at ha2; exact ha2)⟩
                    have : a ≠ Lp := fun z => by rw [z, hD] at ha2; cases ha2
                    rw [upd_ne this]
                    exact l7.fr a o ha2 hna
                  · refine so6.heap kp fun n o en _ u eu => ?_
                    rw [upd_ne (hn6 n (get_lt en))]
                    exact eu
                  · exact bels_all.mpr fun d hd => (List.mem_append.mp hd).elim (bels_all.mp (bels_lat ba l56) d) (fun z => by rw [List.mem_singleton.mp z]; exact ry.2)
                  · exact bels_all.mpr fun d hd => (List.mem_append.mp hd).elim (bels_all.mp (bels_lat ba l56) d) (fun z => by rw [List.mem_singleton.mp z]; exact ry.2)
                  · have e0 : (((compL (compF C e t ts env) gd rest S4).bind fun ys S => Res.ok (match (some y : Option D) with | some y => y :: ys | none => ys) S).bind fun ys S => Res.ok (acc ++ ys, (none : Option Nat)) S) = (compL (compF C e t ts env) gd rest S4).bind fun ys S => .ok (acc ++ [y] ++ ys, none) S := by
                      cases compL (compF C e t ts env) gd rest S4 with
                      | ok ys S => show Res.ok (acc ++ y :: ys, none) S = Res.ok (acc ++ [y] ++ ys, none) S; rw [List.append_assoc]; rfl
                      | _ => rfl
                    have g : Rg w xw W σ (RN w H) φ S H (((compL (compF C e t ts env) gd rest S4).bind fun ys S => Res.ok (match (some y : Option D) with | some y => y :: ys | none => ys) S).bind fun ys S => .ok (acc ++ ys, none) S) Q := g
                    rw [e0] at g
                    exact g
theorem sn_comp {elt tg iter : Expr} {ifs : List Expr} {scope : Scope} {own : List (Str × Nat)} {pos : Pos} {e : Exp} {t : Tg} {l : Src} {ts : List Tst} (hx : w.ex = none) (hc : X.calm = true) (hN : X.N.Nodup) (hi : PI X tg iter (tI w xw C W l)) (ok : BlkOk X.N X.env.scope scope own) (hv : own.map (·.2) = t.ix)
    (hg : ∀ (s : Shared) (H : Hp) (D : Addr) (cl : List (Str × Addr)) (fp : List Addr), PG (X.blk s H scope (compEnvC scope cl D X.env) fp) tg (gT w t))
    (ht : ∀ (s : Shared) (H : Hp) (D : Addr) (cl : List (Str × Addr)) (fp : List Addr), PTs (X.blk s H scope (compEnvC scope cl D X.env) fp) ifs (tTs w xw C W0 ts))
    (he : ∀ (s : Shared) (H : Hp) (D : Addr) (cl : List (Str × Addr)) (fp : List Addr), PE (X.blk s H scope (compEnvC scope cl D X.env) fp) elt (tE w xw C W0 e)) (hs : ∀ x, foldedSetIterable iter X.env x = pure x) :
    PE X (.ListComp elt [⟨tg, iter, ifs, 0⟩] scope pos) (tN w xw C W (.comp e t l ts)) :=
  peI (pe_lc hc hN hi ok hg ht he hs) fun σ H Q q => by rw [hv]; exact comp_rd hx q
end Pw
end
section
set_option Elab.async false
set_option linter.all false
set_option maxRecDepth 100000
set_option maxHeartbeats 1000000
set_option autoImplicit false
/-! Pw12: calls of own defs, of built-ins -/
namespace Pw
open PySem PySem.Spec PyProof.Rows L2
variable {w : Wo} {xw : Xw} {C : Ctx} {W : WX} {X : Cx}
section
variable {e a b c : Expr} {es : List Expr} {x y z : Exp} {xs : List Exp} {pos p : Pos}
/-- f(e, ..) -/
theorem se_call {pr : Prg} {nm : Nm} {k i : Nat} {n : Str} (hC : C.Φ none = den pr k none) (tk : L2N.Takes X W) (fx : Fx w xw pr nm k X) (hi : nm.fns[i]? = some n) (hg : Gl X n) (ha : PA X (a :: es) (tEs w xw C W xs)) (hdb : okName n = true) (h1 : okX a = true) (h2 : es.all okX = true) :
    PE X (.Call (.Name n p) (a :: es) [] pos) (tE w xw C W (.call i xs)) := by
  obtain ⟨f, fd, ps, hm, hk, F, hb⟩ := fx.gd.fn i n hi
  rw [fx.hK] at hk F hb
  refine peI (pe_callS (E := WE W) F fx.room hg hm hk hb (L2N.passAt tk) ha (okName_ok hdb).1 (star_ok h1) (plainArgs_ok h2)) fun σ H Q ⟨φ, env, S, m, g⟩ => ?_
  have g : Rg w xw W σ (RE w) φ S H ((evEs C xs env S).bind fun ds S => C.Φ none i ds S) Q := g
  rw [hC] at g
  exact tEs.then m g fun vs ds S1 φ1 H1 l1 m1 r1 g => ⟨φ1, S1, ds, m1.o, r1, by
    cases e : den pr k none i ds S1 with
    | ok d S' => rw [e] at g; exact g
    | exc c fs S' => rw [e] at g; exact g
    | bad => rw [e] at g; exact g⟩
theorem cb1 {n : Str} {id : String} {t : TE} {r : List V → Hp → VK → Prop} (hc : CallR X (.builtin id) r) (hg : Gl X n) (hm : X.mg n = none) (hv : bootBuiltins n = some (.builtin id)) (ha : PE X a t) (hn : okName n = true) (h1 : okX a = true) : PE X (.Call (.Name n p) [a] [] pos) (tCB r (tCons t tNil)) :=
  pe_callB hc hg hm hv (pa_cons ha pa_nil (star_ok h1)) (okName_ok hn).2.2 (okName_ok hn).1 (star_ok h1) rfl
theorem ct1 {n : Str} {id : String} {t : TE} {r : List V → Hp → VK → Prop} (hc : CallR X (.type id) r) (hg : Gl X n) (hm : X.mg n = none) (hv : bootBuiltins n = some (.type id)) (ha : PE X a t) (hn : okName n = true) (h1 : okX a = true) : PE X (.Call (.Name n p) [a] [] pos) (tCB r (tCons t tNil)) :=
  pe_callTy hc hg hm hv (pa_cons ha pa_nil (star_ok h1)) (okName_ok hn).2.2 (okName_ok hn).1 (star_ok h1) rfl
theorem cb2 {n : Str} {id : String} {t u : TE} {r : List V → Hp → VK → Prop} (hc : CallR X (.builtin id) r) (hg : Gl X n) (hm : X.mg n = none) (hv : bootBuiltins n = some (.builtin id)) (ha : PE X a t) (hb : PE X b u) (hn : okName n = true) (h1 : okX a = true) (h2 : okX b = true) : PE X (.Call (.Name n p) [a, b] [] pos) (tCB r (tCons t (tCons u tNil))) :=
  pe_callB hc hg hm hv (pa_cons ha (pa_cons hb pa_nil (star_ok h2)) (star_ok h1)) (okName_ok hn).2.2 (okName_ok hn).1 (star_ok h1) (plainArgs_ok (by simp [h2]))
theorem rds1 {φ : Nat → Addr} {H : Hp} {S : Store} {v : V} {d : D} (r : RE w φ H S v d) : REs w φ H S [v] [d] := ⟨.cons r.1 .nil, by show (D.bel S.length d && true) = true; rw [r.2]; rfl⟩
theorem rds2 {φ : Nat → Addr} {H : Hp} {S : Store} {v u : V} {d d2 : D} (r : RE w φ H S v d) (q : RE w φ H S u d2) : REs w φ H S [v, u] [d, d2] := ⟨.cons r.1 (.cons q.1 .nil), by show (D.bel S.length d && (D.bel S.length d2 && true)) = true; rw [r.2, q.2]; rfl⟩
/-- some values, by what the evaluator does to them -/
def rF1 (w : Wo) (f : D → Store → Res D) : List V → Hp → VK → Prop := fun xs H Q => ∃ d, rF w [d] (f d) xs H Q
def rF2 (w : Wo) (f : D → D → Store → Res D) : List V → Hp → VK → Prop := fun xs H Q => ∃ d d2, rF w [d, d2] (f d d2) xs H Q
theorem crF1 {v : Value} {f : D → Store → Res D} (h : ∀ d, CallR X v (rF w [d] (f d))) : CallR X v (rF1 w f) := fun pins s σ H xs us Q I r ⟨d, q⟩ => h d pins s σ H xs us Q I r q
theorem crF2 {v : Value} {f : D → D → Store → Res D} (h : ∀ d d2, CallR X v (rF w [d, d2] (f d d2))) : CallR X v (rF2 w f) := fun pins s σ H xs us Q I r ⟨d, d2, q⟩ => h d d2 pins s σ H xs us Q I r q
theorem rd1 {f : D → Store → Res D} {ev : Env → Store → Res D} (he : ∀ env S, ev env S = (evE C x env S).bind f) : ∀ σ H Q, (∃ φ env S, Sim w.K φ w.ex H S σ env ∧ Rg w xw W σ (RE w) φ S H (ev env S) Q) → tCB (rF1 w f) (tCons (tE w xw C W x) tNil) σ H Q := fun σ H Q ⟨φ, env, S, m, g⟩ => by
  rw [he] at g
  exact tE.then m g fun v d S1 φ1 H1 l1 m1 r1 g => ⟨d, φ1, S1, m1.o, rds1 r1, g.g0⟩
theorem rd2 {f : D → D → Store → Res D} {ev : Env → Store → Res D} (he : ∀ env S, ev env S = (evE C x env S).bind fun d S => (evE C y env S).bind fun d2 S => f d d2 S) : ∀ σ H Q, (∃ φ env S, Sim w.K φ w.ex H S σ env ∧ Rg w xw W σ (RE w) φ S H (ev env S) Q) → tCB (rF2 w f) (tCons (tE w xw C W x) (tCons (tE w xw C W y) tNil)) σ H Q := fun σ H Q ⟨φ, env, S, m, g⟩ => by
  rw [he] at g
  refine tE.then m g fun v d S1 φ1 H1 l1 m1 r1 g => ?_
  refine tE.then m1 g fun u d2 S2 φ2 H2 l2 m2 r2 g => ?_
  exact ⟨d, d2, φ2, S2, m2.o, rds2 (r1.lat l2) r2, g.g0⟩
theorem bb_len : bootBuiltins "len" = some (.builtin "len") := by decide +kernel
theorem bb_abs : bootBuiltins "abs" = some (.builtin "abs") := by decide +kernel
theorem bb_min : bootBuiltins "min" = some (.builtin "min") := by decide +kernel
theorem bb_max : bootBuiltins "max" = some (.builtin "max") := by decide +kernel
theorem bb_int : bootBuiltins "int" = some (.type "int") := by decide +kernel
theorem bb_str : bootBuiltins "str" = some (.type "str") := by decide +kernel
theorem bb_all : bootBuiltins "all" = some (.builtin "all") := by decide +kernel
theorem bb_any : bootBuiltins "any" = some (.builtin "any") := by decide +kernel
theorem bb_sum : bootBuiltins "sum" = some (.builtin "sum") := by decide +kernel
theorem bb_sorted : bootBuiltins "sorted" = some (.builtin "sorted") := by decide +kernel
theorem bb_tuple : bootBuiltins "tuple" = some (.type "tuple") := by decide +kernel
theorem bb_list : bootBuiltins "list" = some (.type "list") := by decide +kernel
theorem bb_isi : bootBuiltins "isinstance" = some (.builtin "isinstance") := by decide +kernel
variable (hg : ∀ n ∈ freeNames, X.mg n = none)
theorem se_len (hK : w.K = X.K) (gl : Gl X "len") (hm : X.mg "len" = none) (ha : PE X a (tE w xw C W x)) (h1 : okX a = true) : PE X (.Call (.Name "len" p) [a] [] pos) (tE w xw C W (.f1 .len x)) :=
  peI (cb1 (crF1 fun d => callR_len hK d) gl hm bb_len ha (by decide) h1) (rd1 fun _ _ => rfl)
theorem se_abs (gl : Gl X "abs") (hm : X.mg "abs" = none) (ha : PE X a (tE w xw C W x)) (h1 : okX a = true) : PE X (.Call (.Name "abs" p) [a] [] pos) (tE w xw C W (.f1 .abs x)) :=
  peI (cb1 (crF1 fun d => callR_abs d) gl hm bb_abs ha (by decide) h1) (rd1 fun _ _ => rfl)
theorem se_int (gl : Gl X "int") (hm : X.mg "int" = none) (ha : PE X a (tE w xw C W x)) (h1 : okX a = true) : PE X (.Call (.Name "int" p) [a] [] pos) (tE w xw C W (.f1 .int x)) :=
  peI (ct1 (crF1 fun d => callR_int d) gl hm bb_int ha (by decide) h1) (rd1 fun _ _ => rfl)
theorem se_str (gl : Gl X "str") (hm : X.mg "str" = none) (ha : PE X a (tE w xw C W x)) (h1 : okX a = true) : PE X (.Call (.Name "str" p) [a] [] pos) (tE w xw C W (.f1 .str x)) :=
  peI (ct1 (crF1 fun d => callR_str d) gl hm bb_str ha (by decide) h1) (rd1 fun _ _ => rfl)
theorem se_min (hc : X.calm = true) (gl : Gl X "min") (hm : X.mg "min" = none) (ha : PE X a (tE w xw C W x)) (hb : PE X b (tE w xw C W y)) (h1 : okX a = true) (h2 : okX b = true) : PE X (.Call (.Name "min" p) [a, b] [] pos) (tE w xw C W (.f2 .min x y)) :=
  peI (cb2 (crF2 fun d d2 => callR_min hc d d2) gl hm bb_min ha hb (by decide) h1 h2) (rd2 fun _ _ => rfl)
theorem se_max (hc : X.calm = true) (gl : Gl X "max") (hm : X.mg "max" = none) (ha : PE X a (tE w xw C W x)) (hb : PE X b (tE w xw C W y)) (h1 : okX a = true) (h2 : okX b = true) : PE X (.Call (.Name "max" p) [a, b] [] pos) (tE w xw C W (.f2 .max x y)) :=
  peI (cb2 (crF2 fun d d2 => callR_max hc d d2) gl hm bb_max ha hb (by decide) h1 h2) (rd2 fun _ _ => rfl)
/-! ### rows as arguments -/
def RS (w : Wo) (H0 : Hp) (φ : Nat → Addr) (H : Hp) (S : Store) (v : V) (p : List D × Option Nat) : Prop := D.bels S.length p.1 = true ∧ ∃ a vs, v = .ref a ∧ (SqL w.K H a vs ∨ SqT w.K H a vs) ∧ RpA w.K φ w.ex H vs p.1
def tS (w : Wo) (xw : Xw) (C : Ctx) (W : WX) (l : Src) : TE := fun σ H Q => ∃ φ env S, Sim w.K φ w.ex H S σ env ∧ Rg w xw W σ (RS w H) φ S H (evL C l env S) Q
theorem Rg.weak {α β : Type} {σ : L2.St} {R R' : (Nat → Addr) → Hp → Store → β → α → Prop} {φ : Nat → Addr} {S : Store} {H : Hp} {r : Res α} {Q : β → Hp → Prop} (h : Rg w xw W σ R φ S H r Q) (f : ∀ φ H S b a, R' φ H S b a → R φ H S b a) : Rg w xw W σ R' φ S H r Q := by
  cases r with
  | ok a S' => exact fun b φ' H' l so r => h b φ' H' l so (f _ _ _ _ _ r)
  | exc c fs S' => exact h
  | bad => exact h
theorem ss_new {l : Src} (h : PE X e (tN w xw C W l)) : PE X e (tS w xw C W l) := peI h fun σ H Q ⟨φ, env, S, m, g⟩ => ⟨φ, env, S, m, g.weak fun φ H S b p ⟨h1, a, vs, h2, _, h3, h4, _⟩ => ⟨h1, a, vs, h2, .inl (SqL.of h3), h4⟩⟩
/-- a value that is a row -/
theorem seq_of {φ : Nat → Addr} {H : Hp} {S : Store} {v : V} {d : D} {xs : List D} (so : SimO w.K φ w.ex H S) (r : RE w φ H S v d) (h : seqD d S = some xs) : D.bels S.length xs = true ∧ ∃ a vs, v = .ref a ∧ (SqL w.K H a vs ∨ SqT w.K H a vs) ∧ RpA w.K φ w.ex H vs xs := by
  obtain ⟨r, b⟩ := r
  cases d with
  | tup ds =>
    cases h
    cases r with
    | tup h1 r1 => exact ⟨by simpa [D.bel] using b, _, _, rfl, .inr h1, r1⟩
  | obj n =>
    cases r
    simp only [seqD] at h
    split at h
    · rename_i ys e
      cases h
      obtain ⟨vs, h1, r1⟩ := so.ob n _ e
      exact ⟨so.wf n _ e, _, vs, rfl, .inl (SqL.of h1), r1⟩
    · rename_i ys e
      cases h
      obtain ⟨vs, h1, r1⟩ := so.ob n _ e
      exact ⟨so.wf n _ e, _, vs, rfl, .inl h1.sq, r1⟩
    · cases h
  | _ => cases h
theorem ss_val (h : PE X e (tE w xw C W x)) : PE X e (tS w xw C W (.seq x)) := peI h fun σ H Q ⟨φ, env, S, m, g⟩ => by
  refine tE.then m g fun v d S1 φ1 H1 l1 m1 r1 g => ?_
  obtain ⟨p, hp, g⟩ := g.of
  obtain ⟨xs, hx, rfl⟩ := Option.map_eq_some_iff.mp hp
  exact g v φ1 H1 Lat.refl m1.o (seq_of m1.o r1 hx)
theorem tS.then {γ δ : Type} {R2 : (Nat → Addr) → Hp → Store → δ → γ → Prop} {φ : Nat → Addr} {S : Store} {H : Hp} {σ : L2.St} {env : Env} {l : Src} {k : List D × Option Nat → Store → Res γ} {Q : δ → Hp → Prop} {Q' : VK} (m : Sim w.K φ w.ex H S σ env) (h : Rg w xw W σ R2 φ S H ((evL C l env S).bind k) Q)
    (f : ∀ v p S1 φ1 H1, Lat φ φ1 S S1 H H1 → Sim w.K φ1 w.ex H1 S1 σ env → RS w H φ1 H1 S1 v p → Rg w xw W σ R2 φ1 S1 H1 (k p S1) Q → Q' v H1) : tS w xw C W l σ H Q' :=
  ⟨φ, env, S, m, h.bind fun v d S1 φ1 H1 l so r g => f v d S1 φ1 H1 l (m.lat l so) r g⟩
theorem se_tupOf {l : Src} (hK : w.K = X.K) (gl : Gl X "tuple") (hm : X.mg "tuple" = none) (ha : PE X a (tS w xw C W l)) (h1 : okX a = true) : PE X (.Call (.Name "tuple" p) [a] [] pos) (tE w xw C W (.tupOf l)) :=
  peI (ct1 call_tuple_of gl hm bb_tuple ha (by decide) h1) fun σ H Q ⟨φ, env, S, m, g⟩ => by
    refine tS.then m g fun v q S1 φ1 H1 l1 m1 r1 g => ?_
    obtain ⟨b, a, vs, rfl, h, r⟩ := r1
    refine ⟨a, vs, rfl, ?_⟩
    rcases h with h | h
    · exact .inl ⟨hK ▸ h, fun l hl => g.g0.tup m1.o r b hl⟩
    · exact .inr ⟨hK ▸ h, fE g m1.o (.tup h r) b⟩
theorem sn_list {l : Src} (hK : w.K = X.K) (gl : Gl X "list") (hm : X.mg "list" = none) (ha : PE X a (tS w xw C W l)) (h1 : okX a = true) : PE X (.Call (.Name "list" p) [a] [] pos) (tN w xw C W l) :=
  peI (ct1 call_list_of gl hm bb_list ha (by decide) h1) fun σ H Q ⟨φ, env, S, m, g⟩ => by
    refine ⟨φ, env, S, m, ?_⟩
    cases ev : evL C l env S with
    | bad => rw [ev] at g; exact g
    | exc c fs S' => rw [ev] at g; exact g
    | ok q S' =>
      rw [ev] at g
      intro v φ1 H1 l1 so r1
      obtain ⟨b, a, vs, rfl, h, r⟩ := r1
      refine ⟨a, vs, rfl, hK ▸ h, fun l hl => ?_⟩
      exact g (.ref l) φ1 _ (l1.trans (Lat.newT hl)) (so.new hl) ⟨b, l, vs, rfl, l1.no l hl, upd_same, r.mono b (fun _ _ => rfl) (Kp.new hl), so.ne hl⟩
/-- the bools of a row -/
theorem bls_of {φ : Nat → Addr} {H : Hp} : ∀ {ds : List D} {vs : List V} {bs : List Bool}, RpA w.K φ w.ex H vs ds → bls ds = some bs → vs = bs.map V.bl
  | [], _, _, .nil, h => by cases h; rfl
  | d :: ds, _, bs, .cons q r, h => by
    cases d with
    | bl b =>
      obtain ⟨bs', hb, rfl⟩ := Option.map_eq_some_iff.mp (show (bls ds).map (b :: ·) = some bs from h)
      cases q
      rw [bls_of r hb]; rfl
    | _ => cases h
/-- a row that is a list (a new one, or a list's) -/
def RL (w : Wo) (H0 : Hp) (φ : Nat → Addr) (H : Hp) (S : Store) (v : V) (p : List D × Option Nat) : Prop := D.bels S.length p.1 = true ∧ ∃ a vs, v = .ref a ∧ SqL w.K H a vs ∧ RpA w.K φ w.ex H vs p.1
def tL (w : Wo) (xw : Xw) (C : Ctx) (W : WX) (l : Src) : TE := fun σ H Q => ∃ φ env S, Sim w.K φ w.ex H S σ env ∧ Rg w xw W σ (RL w H) φ S H (evL C l env S) Q
theorem tL.then {γ δ : Type} {R2 : (Nat → Addr) → Hp → Store → δ → γ → Prop} {φ : Nat → Addr} {S : Store} {H : Hp} {σ : L2.St} {env : Env} {l : Src} {k : List D × Option Nat → Store → Res γ} {Q : δ → Hp → Prop} {Q' : VK} (m : Sim w.K φ w.ex H S σ env) (h : Rg w xw W σ R2 φ S H ((evL C l env S).bind k) Q)
    (f : ∀ v p S1 φ1 H1, Lat φ φ1 S S1 H H1 → Sim w.K φ1 w.ex H1 S1 σ env → RL w H φ1 H1 S1 v p → Rg w xw W σ R2 φ1 S1 H1 (k p S1) Q → Q' v H1) : tL w xw C W l σ H Q' :=
  ⟨φ, env, S, m, h.bind fun v d S1 φ1 H1 l so r g => f v d S1 φ1 H1 l (m.lat l so) r g⟩
theorem sl_new {l : Src} (h : PE X e (tN w xw C W l)) : PE X e (tL w xw C W l) := peI h fun σ H Q ⟨φ, env, S, m, g⟩ => ⟨φ, env, S, m, g.weak fun φ H S b p ⟨h1, a, vs, h2, _, h3, h4, _⟩ => ⟨h1, a, vs, h2, SqL.of h3, h4⟩⟩
theorem se_all {l : Src} (hK : w.K = X.K) (hc : X.calm = true) (gl : Gl X "all") (hm : X.mg "all" = none) (ha : PE X a (tL w xw C W l)) (h1 : okX a = true) : PE X (.Call (.Name "all" p) [a] [] pos) (tE w xw C W (.allOf l)) :=
  peI (cb1 (cr_all hc) gl hm bb_all ha (by decide) h1) fun σ H Q ⟨φ, env, S, m, g⟩ => by
    refine tL.then m g fun v q S1 φ1 H1 l1 m1 r1 g => ?_
    obtain ⟨b, a, vs, rfl, h, r⟩ := r1
    obtain ⟨bs, hb, g⟩ := g.ofb
    have e := bls_of r hb
    subst e
    exact ⟨a, bs, rfl, hK ▸ h, fBl g m1.o⟩
theorem se_any {l : Src} (hK : w.K = X.K) (hc : X.calm = true) (gl : Gl X "any") (hm : X.mg "any" = none) (ha : PE X a (tL w xw C W l)) (h1 : okX a = true) : PE X (.Call (.Name "any" p) [a] [] pos) (tE w xw C W (.anyOf l)) :=
  peI (cb1 (cr_any hc) gl hm bb_any ha (by decide) h1) fun σ H Q ⟨φ, env, S, m, g⟩ => by
    refine tL.then m g fun v q S1 φ1 H1 l1 m1 r1 g => ?_
    obtain ⟨b, a, vs, rfl, h, r⟩ := r1
    obtain ⟨bs, hb, g⟩ := g.ofb
    have e := bls_of r hb
    subst e
    exact ⟨a, bs, rfl, hK ▸ h, fBl g m1.o⟩
end
end Pw
end
section
set_option Elab.async false
set_option linter.all false
set_option maxRecDepth 100000
set_option maxHeartbeats 1000000
set_option autoImplicit false
/-! Pw13: methods, slices, isinstance, sums -/
namespace Pw
open PySem PySem.Spec PyProof.Rows L2
variable {w : Wo} {xw : Xw} {C : Ctx} {W : WX} {X : Cx}
section
variable {e a b c o : Expr} {es : List Expr} {x y z : Exp} {xs : List Exp} {pos p apos : Pos}
theorem few_ok {cpos : Pos} {env : PySem.Env} (h1 : okX a = true) : ((backTo cpos (starEach [a] env)).all (fun x => !x.1) && (backToKw cpos (keywordEach [] env)).all (fun x => x.1.isSome)
      && decide ([a].length + ([] : List Keyword).length + (if ([] : List Keyword).isEmpty then 0 else 1) < 30)) = true := by
  rw [star_ok h1]; rfl
/-! ### lists that are written -/
theorem isL_ok {φ : Nat → Addr} {H : Hp} {S : Store} {v : V} {d : D} (so : SimO w.K φ w.ex H S) (r : RE w φ H S v d) (h : isL d S = true) : ∃ n ds vs, d = .obj n ∧ v = .ref (φ n) ∧ get S n = some (.lst ds) ∧ H (φ n) = some (.lst vs) ∧ RpA w.K φ w.ex H vs ds := by
  obtain ⟨r, b⟩ := r
  cases d with
  | obj n =>
    cases r
    simp only [isL] at h
    split at h
    · rename_i xs e
      obtain ⟨vs, h1, r1⟩ := so.ob n _ e
      exact ⟨n, xs, vs, rfl, rfl, e, h1, r1⟩
    · cases h
  | _ => cases h
theorem fW {φ φ' : Nat → Addr} {S S' : Store} {H H' : Hp} {σ : L2.St} {d : D} {v : V} {Q : VK} (g : Rg w xw W σ (RE w) φ S H (.ok d S') Q) (l : Lat φ φ' S S' H H') (so : SimO w.K φ' w.ex H' S') (r : Rp w.K φ' w.ex H' v d) (b : D.bel S'.length d = true) : Q v H' := g v φ' H' l so ⟨r, b⟩
theorem se_app (hK : w.K = X.K) (ho : PE X o (tE w xw C W x)) (ha : PE X a (tE w xw C W y)) (h1 : okX a = true) (hb : attributeBase o "append" X.env (eval o X.env) = eval o X.env) (hl : (apos.endLine == pos.line) = true) :
    PE X (.Call (.Attribute o "append" apos) [a] [] pos) (tE w xw C W (.app x y)) :=
  peI (pe_bm PySem.F.plainAttrs_list PySem.F.slot_list_append PySem.F.type_list_append mt_append ho (pa_cons ha pa_nil (star_ok h1)) hb (few_ok h1) hl (star_ok h1) rfl) fun σ H Q ⟨φ, env, S, m, g⟩ => by
    refine tE.then m g fun v d S1 φ1 H1 l1 m1 r1 g => ?_
    obtain ⟨hi, g⟩ := Rg.ite (c := isL d S1 = true) g
    obtain ⟨n, ds, vs, rfl, rfl, en, hH, rv⟩ := isL_ok m1.o r1 hi
    refine ⟨.inl ⟨rfl, vs, SqL.of hH⟩, ?_⟩
    refine tE.then m1 g fun u d2 S2 φ2 H2 l2 m2 r2 g => ?_
    have g : Rg w xw W σ (RE w) φ2 S2 H2 (match get S2 n with
      | some (.lst xs) => if xs.length < line then .ok .non (put S2 n (.lst (xs ++ [d2]))) else .bad
      | _ => .bad) Q := g
    split at g
    · rename_i ys e2
      obtain ⟨hl2, g⟩ := Rg.ite g
      obtain ⟨us, h2, ru⟩ := m2.o.ob n _ e2
      have hn : n < S1.length := get_lt en
      rw [l2.same n hn] at h2
      have b3 : D.bels S2.length (ys ++ [d2]) = true := bels_all.mpr fun d hd => (List.mem_append.mp hd).elim (bels_all.mp (m2.o.wf n _ e2) d) (fun z => by rw [List.mem_singleton.mp z]; exact r2.2)
      obtain ⟨lw, sw⟩ := m2.o.write (n := n) (o := .lst ys) (o' := .lst (ys ++ [d2])) (u := .lst (us ++ [u])) e2 rfl b3 fun w' hw => ⟨us ++ [u], upd_same, (ru.append (.cons r2.1 .nil)).mono b3 (fun _ _ => rfl) (Kp.set hw (by rw [l2.same n hn, h2] at hw; cases hw; trivial))⟩
      rw [l2.same n hn] at lw sw
      exact ⟨φ1 n, us, u, rfl, rfl, h2, by rw [ru.length, line_eq]; exact hl2, fW g lw sw .non rfl⟩
    · exact g.elim
theorem se_ext (hK : w.K = X.K) (ho : PE X o (tE w xw C W x)) (ha : PE X a (tE w xw C W y)) (h1 : okX a = true) (hb : attributeBase o "extend" X.env (eval o X.env) = eval o X.env) (hl : (apos.endLine == pos.line) = true) :
    PE X (.Call (.Attribute o "extend" apos) [a] [] pos) (tE w xw C W (.ext x y)) :=
  peI (pe_bm PySem.F.plainAttrs_list PySem.F.slot_list_extend PySem.F.type_list_extend mt_extend ho (pa_cons ha pa_nil (star_ok h1)) hb (few_ok h1) hl (star_ok h1) rfl) fun σ H Q ⟨φ, env, S, m, g⟩ => by
    refine tE.then m g fun v d S1 φ1 H1 l1 m1 r1 g => ?_
    obtain ⟨hi, g⟩ := Rg.ite (c := isL d S1 = true) g
    obtain ⟨n, ds, vs, rfl, rfl, en, hH, rv⟩ := isL_ok m1.o r1 hi
    refine ⟨.inl ⟨rfl, vs, SqL.of hH⟩, ?_⟩
    refine tE.then m1 g fun u d2 S2 φ2 H2 l2 m2 r2 g => ?_
    cases d2 <;> first | exact g.elim | skip
    rename_i k
    have g : Rg w xw W σ (RE w) φ2 S2 H2 (match get S2 n, get S2 k with
      | some (.lst xs), some (.lst ys) => if xs.length + ys.length ≤ line then .ok .non (put S2 n (.lst (xs ++ ys))) else .bad
      | _, _ => .bad) Q := g
    split at g
    · rename_i ys zs e2 e3
      obtain ⟨hl2, g⟩ := Rg.ite g
      obtain ⟨us, h2, ru⟩ := m2.o.ob n _ e2
      obtain ⟨ws, h3, rw3⟩ := m2.o.ob k _ e3
      cases r2.1
      have hn : n < S1.length := get_lt en
      rw [l2.same n hn] at h2
      have b3 : D.bels S2.length (ys ++ zs) = true := bels_all.mpr fun d hd => (List.mem_append.mp hd).elim (bels_all.mp (m2.o.wf n _ e2) d) (bels_all.mp (m2.o.wf k _ e3) d)
      obtain ⟨lw, sw⟩ := m2.o.write (n := n) (o := .lst ys) (o' := .lst (ys ++ zs)) (u := .lst (us ++ ws)) e2 rfl b3 fun w' hw => ⟨us ++ ws, upd_same, (ru.append rw3).mono b3 (fun _ _ => rfl) (Kp.set hw (by rw [l2.same n hn, h2] at hw; cases hw; trivial))⟩
      rw [l2.same n hn] at lw sw
      exact ⟨φ1 n, φ2 k, us, ws, rfl, rfl, h2, h3, by rw [ru.length, rw3.length, line_eq]; exact hl2, fW g lw sw .non rfl⟩
    · exact g.elim
theorem se_pop (hK : w.K = X.K) (ho : PE X o (tE w xw C W x)) (hb : attributeBase o "pop" X.env (eval o X.env) = eval o X.env) (hl : (apos.endLine == pos.line) = true) :
    PE X (.Call (.Attribute o "pop" apos) [] [] pos) (tE w xw C W (.pop x)) :=
  peI (pe_bm0 PySem.F.plainAttrs_list PySem.F.slot_list_pop PySem.F.type_list_pop mt_pop ho hb hl) fun σ H Q ⟨φ, env, S, m, g⟩ => by
    refine tE.then m g fun v d S1 φ1 H1 l1 m1 r1 g => ?_
    obtain ⟨hi, g⟩ := Rg.ite (c := isL d S1 = true) g
    obtain ⟨n, ds, vs, rfl, rfl, en, hH, rv⟩ := isL_ok m1.o r1 hi
    refine ⟨.inl ⟨rfl, vs, SqL.of hH⟩, ?_⟩
    have g : Rg w xw W σ (RE w) φ1 S1 H1 (match get S1 n with
      | some (.lst xs) => (match xs.getLast? with
        | some v => .ok v (put S1 n (.lst xs.dropLast))
        | none => .bad)
      | _ => .bad) Q := g
    rw [en] at g
    dsimp only at g
    cases eg : ds.getLast? with
    | none => rw [eg] at g; exact g.elim
    | some d2 =>
      rw [eg] at g
      rw [List.getLast?_eq_getElem?] at eg
      obtain ⟨u, hu, ru⟩ := rv.get d2 eg
      have bd : D.bels S1.length ds = true := m1.o.wf n _ en
      have b3 : D.bels S1.length ds.dropLast = true := bels_all.mpr fun d hd => bels_all.mp bd d (List.dropLast_subset _ hd)
      have rdl : RpA w.K φ1 w.ex H1 vs.dropLast ds.dropLast := by
        rw [List.dropLast_eq_take, List.dropLast_eq_take, rv.length]
        exact rv.take _
      obtain ⟨lw, sw⟩ := m1.o.write (n := n) (o := .lst ds) (o' := .lst ds.dropLast) (u := .lst vs.dropLast) en rfl b3 fun w' hw => ⟨vs.dropLast, upd_same, rdl.mono b3 (fun _ _ => rfl) (Kp.set hw (by rw [hH] at hw; cases hw; trivial))⟩
      have bu : D.bel S1.length d2 = true := bels_all.mp bd d2 (List.mem_of_getElem? eg)
      exact ⟨φ1 n, vs, u, rfl, rfl, hH, by rw [rv.length]; exact hu, fW g lw sw (ru.lat bu lw) (by rw [put_length]; exact bu)⟩
/-! ### texts -/
theorem isS_ok {φ : Nat → Addr} {H : Hp} {S : Store} {v : V} {d : D} (r : RE w φ H S v d) (h : isS d = true) : ∃ t : Str, d = .str t.cps.toList ∧ v = .str t := by
  cases d with
  | str t =>
    obtain ⟨z, rfl, rfl⟩ := rp_inv r.1
    exact ⟨z, rfl, rfl⟩
  | _ => cases h
theorem sw_ok (x y : Str) : Txt.startswith x y = y.cps.toList.isPrefixOf x.cps.toList := by
  unfold Txt.startswith
  rw [StrLaws.subAt_eq, List.drop_zero, str_len, str_len]
  rw [Bool.eq_iff_iff]
  simp only [Bool.and_eq_true, decide_eq_true_eq, beq_iff_eq, List.isPrefixOf_iff_prefix]
  constructor
  · rintro ⟨_, h⟩
    rw [← h]
    exact List.take_prefix _ _
  · intro h
    exact ⟨by have := h.length_le; omega, (List.prefix_iff_eq_take.mp h).symm⟩
theorem se_sw (ho : PE X o (tE w xw C W x)) (ha : PE X a (tE w xw C W y)) (h1 : okX a = true) (hb : attributeBase o "startswith" X.env (eval o X.env) = eval o X.env) (hl : (apos.endLine == pos.line) = true) :
    PE X (.Call (.Attribute o "startswith" apos) [a] [] pos) (tE w xw C W (.sw x y)) :=
  peI (pe_bm PySem.F.plainAttrs_str PySem.F.slot_str_startswith PySem.F.type_str_startswith mt_startswith ho (pa_cons ha pa_nil (star_ok h1)) hb (few_ok h1) hl (star_ok h1) rfl) fun σ H Q ⟨φ, env, S, m, g⟩ => by
    refine tE.then m g fun v d S1 φ1 H1 l1 m1 r1 g => ?_
    obtain ⟨hi, g⟩ := Rg.ite (c := isS d = true) g
    obtain ⟨t, rfl, rfl⟩ := isS_ok r1 hi
    refine ⟨rfl, ?_⟩
    refine tE.then m1 g fun u d2 S2 φ2 H2 l2 m2 r2 g => ?_
    obtain ⟨k, hk, g⟩ := g.ofb
    cases d2 <;> first | cases hk; done | skip
    obtain ⟨z, rfl, rfl⟩ := rp_inv r2.1
    cases hk
    refine ⟨t, z, rfl, rfl, ?_⟩
    rw [sw_ok]
    exact fBl g m2.o
theorem strs_of {φ : Nat → Addr} {H : Hp} : ∀ {ds : List D} {vs : List V} {ts : List (List Nat)}, RpA w.K φ w.ex H vs ds → strsD ds = some ts → ∃ ys : List Str, vs = ys.map V.str ∧ ts = ys.map fun y => y.cps.toList
  | [], _, _, .nil, h => by cases h; exact ⟨[], rfl, rfl⟩
  | d :: ds, _, ts, .cons q r, h => by
    cases d with
    | str s =>
      obtain ⟨ts', hb, rfl⟩ := Option.map_eq_some_iff.mp (show (strsD ds).map (s :: ·) = some ts from h)
      obtain ⟨ys, rfl, rfl⟩ := strs_of r hb
      obtain ⟨z, rfl, rfl⟩ := rp_inv q
      exact ⟨z :: ys, rfl, rfl⟩
    | _ => cases h
theorem join_ok (s : Str) : ∀ ys : List Str, (Txt.join s ys).cps.toList = joinS s.cps.toList (ys.map fun y => y.cps.toList) := by
  intro ys
  show (Builtin.Str.glued s ys).cps.toList = _
  rw [StrLaws.glued_eq_join]
  induction ys with
  | nil => rfl
  | cons y r ih => cases r with
    | nil => rfl
    | cons y2 r =>
      show ((y ++ s ++ Str.join s (y2 :: r) : Str)).cps.toList = _
      rw [toList_app, toList_app, ih]
      rfl
theorem se_join {l : Src} (hK : w.K = X.K) (ho : PE X o (tE w xw C W x)) (ha : PE X a (tS w xw C W l)) (h1 : okX a = true) (hb : attributeBase o "join" X.env (eval o X.env) = eval o X.env) (hl : (apos.endLine == pos.line) = true) :
    PE X (.Call (.Attribute o "join" apos) [a] [] pos) (tE w xw C W (.join x l)) :=
  peI (pe_bm PySem.F.plainAttrs_str PySem.F.slot_str_join PySem.F.type_str_join mt_join ho (pa_cons ha pa_nil (star_ok h1)) hb (few_ok h1) hl (star_ok h1) rfl) fun σ H Q ⟨φ, env, S, m, g⟩ => by
    refine tE.then m g fun v d S1 φ1 H1 l1 m1 r1 g => ?_
    obtain ⟨hi, g⟩ := Rg.ite (c := isS d = true) g
    obtain ⟨t, rfl, rfl⟩ := isS_ok r1 hi
    refine ⟨rfl, ?_⟩
    refine tS.then m1 g fun u q S2 φ2 H2 l2 m2 r2 g => ?_
    obtain ⟨bb, a', vs, rfl, hs, rv⟩ := r2
    cases et : strsD q.1 with
    | none => rw [et] at g; exact g.elim
    | some ts =>
      rw [et] at g
      obtain ⟨hl2, g⟩ := Rg.ite (c := (ts.map (·.length)).sum + ts.length * t.cps.toList.length ≤ line) g
      obtain ⟨ys, rfl, rfl⟩ := strs_of rv et
      refine ⟨t, a', ys, rfl, rfl, hK ▸ hs, ?_, fE g m2.o (rp_str (join_ok t ys)) rfl⟩
      rw [List.map_map, List.length_map] at hl2
      have e1 : (List.length ∘ fun y : Str => y.cps.toList) = fun y : Str => y.length := by funext y; exact (str_len y).symm
      rw [e1, ← str_len] at hl2
      exact hl2
end
end Pw
end
section
set_option Elab.async false
set_option linter.all false
set_option maxRecDepth 100000
set_option maxHeartbeats 1000000
set_option autoImplicit false
/-! Pw14: slices, isinstance, sums, sorting -/
namespace Pw
open PySem PySem.Spec PyProof.Rows L2
variable {w : Wo} {xw : Xw} {C : Ctx} {W : WX} {X : Cx}
section
variable {e a b c o : Expr} {es : List Expr} {x y z : Exp} {xs : List Exp} {pos p apos p2 : Pos}
/-! ### slices -/
def tO (w : Wo) (xw : Xw) (C : Ctx) (W : WX) (x : Option Exp) : TO := fun σ H Q => ∃ φ env S, Sim w.K φ w.ex H S σ env ∧ Rg w xw W σ (fun φ H S (v : Option Int) (d : Option D) => d = v.map .int) φ S H (evO C x env S) Q
theorem so_none : PO X none (tO w xw C W none) := ⟨fun pins s σ H Q I ⟨φ, env, S, m, g⟩ => po_none.run pins s σ H Q I (g none φ H Lat.refl m.o rfl)⟩
theorem so_some (h : PE X a (tE w xw C W x)) : PO X (some a) (tO w xw C W (some x)) := ⟨fun pins s σ H Q I ⟨φ, env, S, m, g⟩ => (po_some h).run pins s σ H Q I (by
  refine tE.then m g fun v d S1 φ1 H1 l1 m1 r1 g => ?_
  cases d <;> first | exact g.elim | skip
  rename_i i
  cases r1.1
  exact ⟨i, rfl, g (some i) φ1 H1 Lat.refl m1.o rfl⟩)⟩
theorem tO.then {γ δ : Type} {R2 : (Nat → Addr) → Hp → Store → δ → γ → Prop} {φ : Nat → Addr} {S : Store} {H : Hp} {σ : L2.St} {env : Env} {l : Option Exp} {k : Option D → Store → Res γ} {Q : δ → Hp → Prop} {Q' : Option Int → Hp → Prop} (m : Sim w.K φ w.ex H S σ env) (h : Rg w xw W σ R2 φ S H ((evO C l env S).bind k) Q)
    (f : ∀ (v : Option Int) S1 φ1 H1, Lat φ φ1 S S1 H H1 → Sim w.K φ1 w.ex H1 S1 σ env → Rg w xw W σ R2 φ1 S1 H1 (k (v.map .int) S1) Q → Q' v H1) : tO w xw C W l σ H Q' :=
  ⟨φ, env, S, m, h.bind fun v d S1 φ1 H1 l so r g => f v S1 φ1 H1 l (m.lat l so) (by cases r; exact g)⟩
theorem se_sl {lo hi : Option Expr} {xl xh : Option Exp} (hK : w.K = X.K) (ha : PE X a (tE w xw C W x)) (hl : PO X lo (tO w xw C W xl)) (hh : PO X hi (tO w xw C W xh)) : PE X (.Subscript a (.Slice lo hi none p2) pos) (tE w xw C W (.sl x xl xh)) :=
  peI (pe_slice (slR hK) ha hl hh) fun σ H Q ⟨φ, env, S, m, g⟩ => by
    refine tE.then m g fun v d S1 φ1 H1 l1 m1 r1 g => ?_
    refine tO.then m1 g fun lo' S2 φ2 H2 l2 m2 g => ?_
    refine tO.then m2 g fun hi' S3 φ3 H3 l3 m3 g => ?_
    exact ⟨φ3, S3, d, m3.o, r1.lat (l2.trans l3), g.g0⟩
/-! ### isinstance -/
def tyN (S : Store) : D → Option String
  | .non => some "NoneType"
  | .bl _ => some "bool"
  | .int _ => some "int"
  | .str _ => some "str"
  | .tup _ => some "tuple"
  | .obj n => (match get S n with
    | some (.lst _) => some "list"
    | some (.ro _) => some "list"
    | some (.dct _) => some "dict"
    | _ => none)
  | .exc _ _ => none
theorem tyX_of {φ : Nat → Addr} {H : Hp} {S : Store} {v : V} {d : D} {n : String} (so : SimO w.K φ w.ex H S) (r : Rp w.K φ w.ex H v d) (h : tyN S d = some n) : TyX w.K H v (.type n) := by
  cases d with
  | non => cases r; cases h; exact .base .non
  | bl b => cases r; cases h; exact .base (.bl _)
  | int i => cases r; cases h; exact .base (.int _)
  | str s =>
    obtain ⟨z, rfl, rfl⟩ := rp_inv r
    cases h; exact .base (.str _)
  | tup ds =>
    cases r with
    | tup h1 r1 =>
      cases h
      rcases h1 with (h1 | ⟨o, h1⟩) | ⟨o, its, n, h1, h2, _⟩
      · exact .base (.tup h1)
      · exact .fTuple h1
      · exact .kTuple h1 h2
  | obj k =>
    cases r
    simp only [tyN] at h
    split at h
    · rename_i xs e
      obtain ⟨vs, h1, _⟩ := so.ob k _ e
      cases h; exact .base (.lst h1)
    · rename_i xs e
      obtain ⟨vs, ⟨o, h1⟩, _⟩ := so.ob k _ e
      cases h; exact .base (.frz h1)
    · rename_i xs e
      obtain ⟨ws, h1, _⟩ := so.ob k _ e
      cases h; exact .base (.dK h1)
    · cases h
  | exc c fs => cases h
def kdN : Kd → Option String
  | .int => some "int" | .bool => some "bool" | .str => some "str" | .tuple => some "tuple" | .list => some "list" | .dict => some "dict" | .set => none | .own _ => none
theorem tyN_some {φ : Nat → Addr} {H : Hp} {S : Store} {v : V} {d : D} (so : SimO w.K φ w.ex H S) (r : RE w φ H S v d) (he : ∀ c fs, d ≠ .exc c fs) : ∃ n, tyN S d = some n := by
  cases d with
  | obj n =>
    have hn : n < S.length := by have := r.2; simpa [D.bel] using this
    obtain ⟨o, e⟩ := get_some hn
    have ho := so.ob n o e
    simp only [tyN, e]
    cases o with
    | lst xs => exact ⟨_, rfl⟩
    | ro xs => exact ⟨_, rfl⟩
    | dct xs => exact ⟨_, rfl⟩
    | set xs => exact ho.elim
    | ins _ _ => exact ho.elim
  | exc c fs => exact absurd rfl (he c fs)
  | _ => exact ⟨_, rfl⟩
theorem kd_ok {Cl : Classes} {S : Store} {d : D} {k : Kd} {T n : String} {r : Bool} (hT : kdN k = some T) (h : isKd Cl S d k = some r) (hn : tyN S d = some n) : kitB n T = some r := by
  cases d with
  | obj m =>
    simp only [tyN] at hn
    split at hn
    all_goals first | (cases hn; done) | skip
    all_goals (rename_i e; cases hn)
    all_goals (cases k <;> first | (cases hT; done) | skip)
    all_goals (cases hT; simp only [isKd, e] at h; cases h; decide +kernel)
  | exc c fs => cases hn
  | _ =>
    cases hn
    cases k <;> first | (cases hT; done) | (cases hT; cases h; decide +kernel)
theorem bt_int : bootBuiltins "int" = some (.type "int") := bb_int
theorem bt_bool : bootBuiltins "bool" = some (.type "bool") := by decide +kernel
theorem bt_dict : bootBuiltins "dict" = some (.type "dict") := by decide +kernel
theorem pe_ty {n : Str} {T : String} (hg : Gl X n) (hm : X.mg n = none) (hv : bootBuiltins n = some (.type T)) (hn : okName n = true) : PE X (.Name n p) (tC (.ty T)) := pe_bltn hg hm hv rfl (okName_ok hn).2.2 (okName_ok hn).1
theorem se_isB {n : Str} {k : Kd} {T : String} {p1 : Pos} (hK : w.K = X.K) (gl : Gl X "isinstance") (hm : X.mg "isinstance" = none) (ha : PE X a (tE w xw C W x)) (hg : Gl X n) (hmn : X.mg n = none) (hv : bootBuiltins n = some (.type T)) (hT : kdN k = some T) (hn : okName n = true) (h1 : okX a = true) :
    PE X (.Call (.Name "isinstance" p) [a, .Name n p1] [] pos) (tE w xw C W (.isI x [k])) :=
  peI (cb2 call_isi gl hm bb_isi ha (pe_ty hg hmn hv hn) (by decide) h1 rfl) fun σ H Q ⟨φ, env, S, m, g⟩ => by
    refine tE.then m g fun v d S1 φ1 H1 l1 m1 r1 g => ?_
    obtain ⟨r, hr, g⟩ := g.ofb
    have hr : ((isKd C.Cl S1 d k).bind fun b => if b then some true else some false) = some r := hr
    cases ek : isKd C.Cl S1 d k with
    | none => rw [ek] at hr; cases hr
    | some r' =>
      rw [ek] at hr
      have : r' = r := by cases r' <;> (cases hr; rfl)
      subst this
      obtain ⟨nm, h2⟩ := tyN_some m1.o r1 fun c fs z => by subst z; cases k <;> first | (cases hT; done) | (cases ek; done)
      have h3 := kd_ok hT ek h2
      exact ⟨v, .ty T, .type nm, .type T, r', rfl, .ty T, hK ▸ tyX_of m1.o r1.1 h2, kit_ty h3, fBl g m1.o⟩
/-! ### sums -/
theorem ints_of {φ : Nat → Addr} {H : Hp} : ∀ {ds : List D} {vs : List V} {ns : List Int}, RpA w.K φ w.ex H vs ds → intsD ds = some ns → vs = ns.map V.int ∧ ds = ns.map .int
  | [], _, _, .nil, h => by cases h; exact ⟨rfl, rfl⟩
  | d :: ds, _, ns, .cons q r, h => by
    cases d with
    | int i =>
      obtain ⟨ns', hb, rfl⟩ := Option.map_eq_some_iff.mp (show (intsD ds).map (i :: ·) = some ns from h)
      obtain ⟨rfl, rfl⟩ := ints_of r hb
      cases q
      exact ⟨rfl, rfl⟩
    | _ => cases h
theorem se_sum {l : Src} (hK : w.K = X.K) (hc : X.calm = true) (gl : Gl X "sum") (hm : X.mg "sum" = none) (ha : PE X a (tL w xw C W l)) (h1 : okX a = true) : PE X (.Call (.Name "sum" p) [a] [] pos) (tE w xw C W (.sumOf l)) :=
  peI (cb1 (cr_sum hc) gl hm bb_sum ha (by decide) h1) fun σ H Q ⟨φ, env, S, m, g⟩ => by
    refine tL.then m g fun v q S1 φ1 H1 l1 m1 r1 g => ?_
    obtain ⟨b, a, vs, rfl, h, r⟩ := r1
    obtain ⟨ns, hb, g⟩ := g.ofb
    obtain ⟨rfl, _⟩ := ints_of r hb
    exact ⟨a, ns, rfl, hK ▸ h, fInt g m1.o⟩
theorem foldl_max_mem : ∀ (l : List Int) (x : Int), l.foldl max x ∈ x :: l
  | [], x => by simp
  | y :: l, x => by
    have := foldl_max_mem l (max x y)
    simp only [List.foldl_cons, List.mem_cons] at this ⊢
    rcases this with h | h
    · by_cases z : x ≤ y
      · right; left; rw [h]; omega
      · left; rw [h]; omega
    · exact .inr (.inr h)
theorem foldl_max_le : ∀ (l : List Int) (x : Int), ∀ y ∈ x :: l, y ≤ l.foldl max x
  | [], x, y, h => by simp at h; simp [h]
  | z :: l, x, y, h => by
    have k := foldl_max_le l (max x z)
    simp only [List.mem_cons, List.foldl_cons] at h k ⊢
    rcases h with rfl | rfl | h
    · have := k _ (.inl rfl); omega
    · have := k _ (.inl rfl); omega
    · exact k _ (.inr h)
theorem foldl_min_mem : ∀ (l : List Int) (x : Int), l.foldl min x ∈ x :: l
  | [], x => by simp
  | y :: l, x => by
    have := foldl_min_mem l (min x y)
    simp only [List.foldl_cons, List.mem_cons] at this ⊢
    rcases this with h | h
    · by_cases z : x ≤ y
      · left; rw [h]; omega
      · right; left; rw [h]; omega
    · exact .inr (.inr h)
theorem foldl_min_le : ∀ (l : List Int) (x : Int), ∀ y ∈ x :: l, l.foldl min x ≤ y
  | [], x, y, h => by simp at h; simp [h]
  | z :: l, x, y, h => by
    have k := foldl_min_le l (min x z)
    simp only [List.mem_cons, List.foldl_cons] at h k ⊢
    rcases h with rfl | rfl | h
    · have := k _ (.inl rfl); omega
    · have := k _ (.inl rfl); omega
    · exact k _ (.inr h)
theorem se_maxL {l : Src} (hK : w.K = X.K) (hc : X.calm = true) (gl : Gl X "max") (hm : X.mg "max" = none) (ha : PE X a (tL w xw C W l)) (h1 : okX a = true) : PE X (.Call (.Name "max" p) [a] [] pos) (tE w xw C W (.maxOf l)) :=
  peI (cb1 (cr_max hc) gl hm bb_max ha (by decide) h1) fun σ H Q ⟨φ, env, S, m, g⟩ => by
    refine tL.then m g fun v q S1 φ1 H1 l1 m1 r1 g => ?_
    obtain ⟨b, a, vs, rfl, h, r⟩ := r1
    cases e : intsD q.1 with
    | none => rw [e] at g; exact g.elim
    | some ns => cases ns with
      | nil => rw [e] at g; exact g.elim
      | cons x t =>
        rw [e] at g
        obtain ⟨rfl, _⟩ := ints_of r e
        refine ⟨a, x :: t, rfl, hK ▸ h, by simp, fun mx h2 h3 => ?_⟩
        have : mx = t.foldl max x := by
          have k1 := h3 _ (foldl_max_mem t x)
          have k2 := foldl_max_le t x _ h2
          omega
        subst this
        exact fInt g m1.o
/-! ### a list's value -/
theorem sl_val (h : PE X e (tE w xw C W x)) : PE X e (tL w xw C W (.lis x)) := peI h fun σ H Q ⟨φ, env, S, m, g⟩ => by
  refine tE.then m g fun v d S1 φ1 H1 l1 m1 r1 g => ?_
  obtain ⟨hi, g⟩ := Rg.ite (c := isLs d S1 = true) g
  obtain ⟨p, hp, g2⟩ := g.of
  obtain ⟨xs, hx, rfl⟩ := Option.map_eq_some_iff.mp hp
  obtain ⟨n, rfl⟩ : ∃ n, d = .obj n := by cases d <;> first | exact ⟨_, rfl⟩ | (cases hi; done)
  refine g2 v φ1 H1 Lat.refl m1.o ?_
  cases r1.1
  simp only [seqD] at hx
  split at hx
  · rename_i ys e
    cases hx
    obtain ⟨vs, h1, r1⟩ := m1.o.ob n _ e
    exact ⟨m1.o.wf n _ e, _, vs, rfl, SqL.of h1, r1⟩
  · rename_i ys e
    cases hx
    obtain ⟨vs, h1, r1⟩ := m1.o.ob n _ e
    exact ⟨m1.o.wf n _ e, _, vs, rfl, h1.sq, r1⟩
  · cases hx
end
end Pw
end
section
set_option Elab.async false
set_option linter.all false
set_option maxRecDepth 100000
set_option maxHeartbeats 1000000
set_option autoImplicit false
/-! Pw15: sorting, dicts -/
namespace Pw
open PySem PySem.Spec PyProof.Rows L2
variable {w : Wo} {xw : Xw} {C : Ctx} {W : WX} {X : Cx}
section
variable {e a b c o : Expr} {es : List Expr} {x y z : Exp} {xs : List Exp} {pos p apos p2 : Pos}
theorem sort_ints {ns ns' : List Int} (h1 : ns'.Perm ns) (h2 : ns'.Pairwise (· ≤ ·)) : ns' = ns.mergeSort fun a b => decide (a ≤ b) := by
  have h3 : (ns.mergeSort fun a b => decide (a ≤ b)).Pairwise (· ≤ ·) :=
    (List.pairwise_mergeSort (le := fun a b : Int => decide (a ≤ b)) (fun a b c h1 h2 => by simp only [decide_eq_true_eq] at *; omega) (fun a b => by simp only [Bool.or_eq_true, decide_eq_true_eq]; omega) ns).imp fun h => of_decide_eq_true h
  exact List.Perm.eq_of_pairwise (le := (· ≤ ·)) (fun a b _ _ h1 h2 => by omega) h2 h3 (h1.trans (List.mergeSort_perm _ _).symm)
theorem ltCps_eq : ∀ a b : List Nat, ltCps a b = decide (a < b)
  | [], [] => by simp [ltCps]
  | [], _ :: _ => by simp [ltCps]
  | _ :: _, [] => by simp [ltCps]
  | a :: r, b :: t => by
    unfold ltCps
    rw [ltCps_eq r t, Bool.eq_iff_iff]
    simp only [Bool.or_eq_true, Bool.and_eq_true, decide_eq_true_eq, beq_iff_eq, List.cons_lt_cons_iff]
theorem pairwise_of_sortedS : ∀ l : List Str, sortedS l = true → l.Pairwise fun a b => ¬ b.cps.toList < a.cps.toList
  | [], _ => .nil
  | x :: r, h => by
    have key : ∀ (r : List Str) (x : Str), risingS x r = true → (x :: r).Pairwise fun a b => ¬ b.cps.toList < a.cps.toList := by
      intro r
      induction r with
      | nil => intro x _; exact List.pairwise_singleton _ _
      | cons y r ih =>
        intro x h
        have h : (!ltCps y.cps.toList x.cps.toList && risingS y r) = true := h
        simp only [Bool.and_eq_true, Bool.not_eq_true', ltCps_eq, decide_eq_false_iff_not] at h
        have h2 := ih y h.2
        refine List.pairwise_cons.mpr ⟨fun z hz => ?_, h2⟩
        rcases List.mem_cons.mp hz with rfl | hz
        · exact h.1
        · have h3 := List.rel_of_pairwise_cons h2 hz
          rw [List.not_lt] at h3 ⊢
          exact List.le_trans (List.not_lt.mp h.1) h3
    exact key r x h
theorem sort_strs {xs ys : List Str} (h1 : ys.Perm xs) (h2 : sortedS ys = true) : ys.map (fun y => y.cps.toList) = (xs.map fun y => y.cps.toList).mergeSort leL := by
  have h3 : ((xs.map fun y => y.cps.toList).mergeSort leL).Pairwise (fun a b => ¬ b < a) :=
    (List.pairwise_mergeSort (le := leL) (fun a b c h1 h2 => by
      simp only [leL, Bool.not_eq_true', decide_eq_false_iff_not, List.not_lt] at *
      exact List.le_trans h1 h2) (fun a b => by
      simp only [leL, Bool.or_eq_true, Bool.not_eq_true', decide_eq_false_iff_not, List.not_lt]
      exact List.le_total a b) _).imp fun h => by simpa [leL] using h
  have h4 : (ys.map fun y => y.cps.toList).Pairwise (fun a b => ¬ b < a) := List.pairwise_map.mpr (pairwise_of_sortedS ys h2)
  refine List.Perm.eq_of_pairwise (le := fun a b : List Nat => ¬ b < a) (fun a b _ _ h1 h2 => ?_) h4 h3 ((h1.map _).trans (List.mergeSort_perm _ _).symm)
  exact List.le_antisymm (List.not_lt.mp h1) (List.not_lt.mp h2)
theorem se_sorted {l : Src} (hK : w.K = X.K) (gl : Gl X "sorted") (hm : X.mg "sorted" = none) (ha : PE X a (tL w xw C W l)) (h1 : okX a = true) : PE X (.Call (.Name "sorted" p) [a] [] pos) (tE w xw C W (.sorted l)) :=
  peI (cb1 (r := fun xs H Q => rSortedI X.K xs H Q ∨ rSortedS X.K xs H Q) (fun pins s σ H xs us Q I r h => h.elim (cr_sortedI pins s σ H xs us Q I r) (cr_sortedS pins s σ H xs us Q I r)) gl hm bb_sorted ha (by decide) h1) fun σ H Q ⟨φ, env, S, m, g⟩ => by
    refine tL.then m g fun v q S1 φ1 H1 l1 m1 r1 g => ?_
    obtain ⟨b, a, vs, rfl, h, r⟩ := r1
    cases e : intsD q.1 with
    | some ns =>
      have es : sortD q.1 = some ((ns.mergeSort fun a b => decide (a ≤ b)).map .int) := by unfold sortD; rw [e]
      rw [es] at g
      obtain ⟨rfl, _⟩ := ints_of r e
      refine .inl ⟨a, ns, rfl, hK ▸ h, fun ns' p h2 h3 hp => ?_⟩
      rw [sort_ints h2 h3]
      refine Rg0.lst g.g0 m1.o ?_ (bels_map fun _ => rfl) hp
      generalize (ns.mergeSort fun a b => decide (a ≤ b)) = l
      induction l with
      | nil => exact .nil
      | cons n l ih => exact .cons (.int _) ih
    | none => cases e2 : strsD q.1 with
      | none =>
        have es : sortD q.1 = none := by unfold sortD; rw [e, e2]
        rw [es] at g
        exact g.elim
      | some ts =>
        have es : sortD q.1 = if ts.length < 64 then some ((ts.mergeSort leL).map .str) else none := by unfold sortD; rw [e, e2]
        rw [es] at g
        split at g
        · rename_i y heq
          split at heq
          · rename_i h64
            cases heq
            obtain ⟨ys, rfl, rfl⟩ := strs_of r e2
            rw [List.length_map] at h64
            refine .inr ⟨a, ys, rfl, hK ▸ h, h64, fun ys' p h2 h3 hp => ?_⟩
            rw [← sort_strs h2 h3] at g
            refine Rg0.lst g.g0 m1.o ?_ (bels_map fun _ => rfl) hp
            rw [List.map_map]
            clear g h2 h3
            induction ys' with
            | nil => exact .nil
            | cons n l ih => exact .cons (.str _) ih
          · cases heq
        · exact g.elim
end
end Pw
end
section
set_option Elab.async false
set_option linter.all false
set_option maxRecDepth 100000
set_option maxHeartbeats 1000000
set_option autoImplicit false
/-! Pw16: statements -/
namespace Pw
open PySem PySem.Spec PyProof.Rows L2
variable {w : Wo} {xw : Xw} {C : Ctx} {W : WX} {X : Cx}
/-- what a statement's end is to reach -/
def RgS (w : Wo) (xw : Xw) (W : WX) (φ : Nat → Addr) (S : Store) (H : Hp) (r : Res Pw.Flow) (D0 : Ends) : Prop := match r with
  | .ok (.nx env) S' => ∀ φ' H' σ', Lat φ φ' S S' H H' → Sim w.K φ' w.ex H' S' σ' env → D0.nx σ' H'
  | .ok (.bk env) S' => ∀ φ' H' σ', Lat φ φ' S S' H H' → Sim w.K φ' w.ex H' S' σ' env → D0.bk σ' H'
  | .ok (.ct env) S' => ∀ φ' H' σ', Lat φ φ' S S' H H' → Sim w.K φ' w.ex H' S' σ' env → D0.ct σ' H'
  | .ok (.rt d) S' => ∀ v φ' H', Lat φ φ' S S' H H' → SimO w.K φ' w.ex H' S' → RE w φ' H' S' v d → D0.rt v H'
  | .ok (.ex c fs env) S' => ∀ φ' H' σ' cls dd, Lat φ φ' S S' H H' → Sim w.K φ' w.ex H' S' σ' env → XR w xw φ' H' S' c fs cls dd → W cls dd σ' H'
  | _ => False
def tSt (w : Wo) (xw : Xw) (C : Ctx) (W : WX) (s : Stm) : TS := fun D0 σ H => ∃ φ env S, Sim w.K φ w.ex H S σ env ∧ RgS w xw W φ S H (evS C s env S) D0
def tSts (w : Wo) (xw : Xw) (C : Ctx) (W : WX) (s : List Stm) : TS := fun D0 σ H => ∃ φ env S, Sim w.K φ w.ex H S σ env ∧ RgS w xw W φ S H (evSs C s env S) D0
section
variable {φ φ1 : Nat → Addr} {S S1 : Store} {H H1 : Hp} {D0 : Ends} {σ : L2.St} {env : Env}
theorem RgS.later {r : Res Pw.Flow} (h : RgS w xw W φ S H r D0) (l : Lat φ φ1 S S1 H H1) : RgS w xw W φ1 S1 H1 r D0 := by
  cases r with
  | ok f S' => cases f with
    | nx env => exact fun φ' H' σ' l2 => h φ' H' σ' (l.trans l2)
    | bk env => exact fun φ' H' σ' l2 => h φ' H' σ' (l.trans l2)
    | ct env => exact fun φ' H' σ' l2 => h φ' H' σ' (l.trans l2)
    | rt d => exact fun v φ' H' l2 => h v φ' H' (l.trans l2)
    | ex c fs env => exact fun φ' H' σ' cls dd l2 => h φ' H' σ' cls dd (l.trans l2)
  | exc c fs S' => exact h
  | bad => exact h
/-- an expression within a statement -/
theorem RgS.st {α β : Type} {R : (Nat → Addr) → Hp → Store → β → α → Prop} {r : Res α} {k : α → Store → Res Pw.Flow} {Q' : β → Hp → Prop} (m : Sim w.K φ w.ex H S σ env) (h : RgS w xw W φ S H (r.st env k) D0)
    (f : ∀ b a S1 φ1 H1, Lat φ φ1 S S1 H H1 → Sim w.K φ1 w.ex H1 S1 σ env → R φ1 H1 S1 b a → RgS w xw W φ1 S1 H1 (k a S1) D0 → Q' b H1) : Rg w xw W σ R φ S H r Q' := by
  cases r with
  | ok a S' => exact fun b φ' H' l so ra => f b a S' φ' H' l (m.lat l so) ra (RgS.later (r := k a S') h l)
  | exc c fs S' => exact fun φ' H' cls dd l so x => h φ' H' σ cls dd l (m.lat l so) x
  | bad => exact h
theorem sE.then {x : Exp} {k : D → Store → Res Pw.Flow} {Q' : VK} (m : Sim w.K φ w.ex H S σ env) (h : RgS w xw W φ S H ((evE C x env S).st env k) D0)
    (f : ∀ v d S1 φ1 H1, Lat φ φ1 S S1 H H1 → Sim w.K φ1 w.ex H1 S1 σ env → RE w φ1 H1 S1 v d → RgS w xw W φ1 S1 H1 (k d S1) D0 → Q' v H1) : tE w xw C W x σ H Q' :=
  ⟨φ, env, S, m, h.st m f⟩
theorem sT.then {x : Tst} {k : Bool → Store → Res Pw.Flow} {Q' : Bool → Hp → Prop} (m : Sim w.K φ w.ex H S σ env) (h : RgS w xw W φ S H ((evT C x env S).st env k) D0)
    (f : ∀ b S1 φ1 H1, Lat φ φ1 S S1 H H1 → Sim w.K φ1 w.ex H1 S1 σ env → RgS w xw W φ1 S1 H1 (k b S1) D0 → Q' b H1) : tT w xw C W x σ H Q' :=
  ⟨φ, env, S, m, h.st m fun b a S1 φ1 H1 l m1 r g => by cases r; exact f _ S1 φ1 H1 l m1 g⟩
theorem RgS.nx {S' : Store} (h : RgS w xw W φ S H (.ok (.nx env) S') D0) (l : Lat φ φ1 S S' H H1) (m : Sim w.K φ1 w.ex H1 S' σ env) : D0.nx σ H1 := h φ1 H1 σ l m
end
theorem psI {st : Stmt} {t t' : TS} (h : PS X st t) (f : ∀ D0 σ H, t' D0 σ H → t D0 σ H) : PS X st t' := ⟨fun pins s σ H D0 I q => h.run pins s σ H D0 I (f _ _ _ q)⟩
theorem pssI {st : List Stmt} {t t' : TS} (h : PSs X st t) (f : ∀ D0 σ H, t' D0 σ H → t D0 σ H) : PSs X st t' := ⟨fun pins s σ H D0 I q => h.run pins s σ H D0 I (f _ _ _ q)⟩
section
variable {e a b c o : Expr} {es : List Expr} {x y z : Exp} {xs : List Exp} {pos p apos p2 : Pos} {st : Stmt} {sts : List Stmt} {s : Stm} {ss : List Stm}
theorem sss_nil : PSs X [] (tSts w xw C W []) := pssI pss_nil fun D0 σ H ⟨φ, env, S, m, g⟩ => RgS.nx g Lat.refl m
theorem sss_cons (h1 : PS X st (tSt w xw C W s)) (h2 : PSs X sts (tSts w xw C W ss)) : PSs X (st :: sts) (tSts w xw C W (s :: ss)) :=
  pssI (pss_cons h1 h2) fun D0 σ H ⟨φ, env, S, m, g⟩ => by
    refine ⟨φ, env, S, m, ?_⟩
    have g : RgS w xw W φ S H ((evS C s env S).bind fun fl S => match fl with
      | .nx env => evSs C ss env S
      | fl => .ok fl S) D0 := g
    cases r : evS C s env S with
    | ok f S' =>
      rw [r] at g
      cases f with
      | nx env2 => exact fun φ' H' σ' l m' => ⟨φ', env2, S', m', RgS.later (r := evSs C ss env2 S') g l⟩
      | bk env2 => exact g
      | ct env2 => exact g
      | rt d => exact g
      | ex c fs env2 => exact g
    | exc c fs S' => rw [r] at g; exact g
    | bad => rw [r] at g; exact g
theorem sst_pass : PS X (.Pass pos) (tSt w xw C W .pass) := psI ps_pass fun D0 σ H ⟨φ, env, S, m, g⟩ => RgS.nx g Lat.refl m
theorem sst_brk : PS X (.Break pos) (tSt w xw C W .brk) := psI ps_break fun D0 σ H ⟨φ, env, S, m, g⟩ => g φ H σ Lat.refl m
theorem sst_cont : PS X (.Continue pos) (tSt w xw C W .cont) := psI ps_continue fun D0 σ H ⟨φ, env, S, m, g⟩ => g φ H σ Lat.refl m
theorem sst_ex (ha : PE X a (tE w xw C W x)) (hs : swapsWith a none pos.line X.env = pure false) : PS X (.Expr a pos) (tSt w xw C W (.ex x)) :=
  psI (ps_expr ha hs) fun D0 σ H ⟨φ, env, S, m, g⟩ => sE.then m g fun v d S1 φ1 H1 l1 m1 r1 g => RgS.nx g Lat.refl m1
theorem sst_ret (ha : PE X a (tE w xw C W x)) : PS X (.Return (some a) pos) (tSt w xw C W (.ret x)) :=
  psI (ps_ret ha) fun D0 σ H ⟨φ, env, S, m, g⟩ => sE.then m g fun v d S1 φ1 H1 l1 m1 r1 g => g v φ1 H1 Lat.refl m1.o r1
theorem sst_retN : PS X (.Return none pos) (tSt w xw C W (.ret (.c .non))) :=
  psI ps_retN fun D0 σ H ⟨φ, env, S, m, g⟩ => g .non φ H Lat.refl m.o ⟨.non, rfl⟩
theorem sst_if {t : Tst} {sa sb : List Stm} {ta tb : List Stmt} (hc : PT X c (tT w xw C W t)) (ha : PSs X ta (tSts w xw C W sa)) (hb : PSs X tb (tSts w xw C W sb)) : PS X (.If c ta tb pos) (tSt w xw C W (.ite t sa sb)) :=
  psI (ps_if hc ha hb) fun D0 σ H ⟨φ, env, S, m, g⟩ => sT.then m g fun k S1 φ1 H1 l1 m1 g => by
    cases k with
    | true => exact ⟨φ1, env, S1, m1, g⟩
    | false => exact ⟨φ1, env, S1, m1, g⟩
/-- name = value, a, b = value -/
theorem sst_set {tg : Expr} {t : Tg} (ha : PE X a (tE w xw C W x)) (hg : PG X tg (gT w t)) (hs : swapsWithSole [tg] a pos.line X.env = pure false) (hw : swappedStores [tg] a X.env = pure none)
    (h1 : (assignEach [tg] X.env).map (·.2) = [assign tg X.env]) : PS X (.Assign [tg] a pos) (tSt w xw C W (.set t x)) :=
  psI (ps_asg ha hg hs hw h1) fun D0 σ H ⟨φ, env, S, m, g⟩ => sE.then m g fun v d S1 φ1 H1 l1 m1 r1 g => by
    cases hb : bind1 t d env with
    | none => rw [hb] at g; exact g.elim
    | some env2 =>
      rw [hb] at g
      exact ⟨φ1, S1, env, d, env2, m1, r1, hb, fun σ' m' _ => RgS.nx g Lat.refl m'⟩
/-- o[i] = value -/
def setR (w : Wo) : TSet := fun o i v H Q => ∃ φ S do' di dv, SimO w.K φ w.ex H S ∧ RE w φ H S o do' ∧ RE w φ H S i di ∧ RE w φ H S v dv ∧ ∃ S', setIxD do' di dv S = some S' ∧ ∀ H', Lat φ φ S S' H H' → SimO w.K φ w.ex H' S' → Q H'
theorem sst_setIx (hst : PSet X (setR w)) (ho : PE X o (tE w xw C W x)) (hi : PE X b (tE w xw C W y)) (ha : PE X a (tE w xw C W z)) (hs : swapsWithSole [.Subscript o b p] a pos.line X.env = pure false) (hw : swappedStores [.Subscript o b p] a X.env = pure none)
    (h1 : (assignEach [.Subscript o b p] X.env).map (·.2) = [assign (.Subscript o b p) X.env])
    (h2 : ∀ v, assign (.Subscript o b p) X.env v = (do
      let ov ← holding [v] (eval o X.env)
      let iv ← holding [v, ov] (eval b X.env)
      standAt p
      holding [v, ov, iv] (setItem ov iv v)
      release [v, ov, iv] [])) : PS X (.Assign [.Subscript o b p] a pos) (tSt w xw C W (.setIx x y z)) :=
  psI (ps_asg ha (pg_sub ho hi hst h2) hs hw h1) fun D0 σ H ⟨φ, env, S, m, g⟩ => by
    refine sE.then m g fun v d S1 φ1 H1 l1 m1 r1 g => ?_
    refine sE.then m1 g fun u d2 S2 φ2 H2 l2 m2 r2 g => ?_
    refine sE.then m2 g fun u3 d3 S3 φ3 H3 l3 m3 r3 g => ?_
    cases hb : setIxD d2 d3 d S3 with
    | none => rw [hb] at g; exact g.elim
    | some S4 =>
      rw [hb] at g
      exact ⟨φ3, S3, d2, d3, d, m3.o, r2.lat l3, r3, r1.lat (l2.trans l3), S4, hb, fun H' l so => RgS.nx g l (m3.lat l so)⟩
end
end Pw
end
section
set_option Elab.async false
set_option linter.all false
set_option maxRecDepth 100000
set_option maxHeartbeats 1000000
set_option autoImplicit false
/-! Pw17: loops -/
namespace Pw
open PySem PySem.Spec PyProof.Rows L2
variable {w : Wo} {xw : Xw} {C : Ctx} {W : WX} {X : Cx}
theorem okOld_ok {n : Nat} : ∀ {S T : Store}, okOld n S T = true → T.length = S.length ∧ ∀ m o, get T m = some o → get S m = some o ∨ o.bel n = true
  | [], [], _ => ⟨rfl, fun m o h => by cases h⟩
  | [], _ :: _, h => by cases h
  | _ :: _, [], h => by cases h
  | a :: r, b :: t, h => by
    simp only [okOld, Bool.and_eq_true, Bool.or_eq_true, decide_eq_true_eq] at h
    obtain ⟨h1, h2⟩ := okOld_ok h.2
    refine ⟨by simp [h1], fun m o hm => ?_⟩
    simp only [get] at hm ⊢
    rw [h1] at hm
    split at hm
    · rename_i e
      cases hm
      rw [if_pos e]
      exact h.1.imp (fun e => by rw [e]) id
    · rename_i e
      rw [if_neg e]
      exact h2 m o hm
section
variable {K : PySem.W.Frag} {ex : Ex1} {φ φ' : Nat → Addr} {S S' : Store} {H H' : Hp} {σ : L2.St} {env : Env}
/-- what was laid since S is forgotten -/
theorem SimO.drop (x : SimO K φ' ex H' S') (so : SimO K φ ex H S) (h : okOld S.length S (S'.drop (S'.length - S.length)) = true) : SimO K φ' ex H' (S'.drop (S'.length - S.length)) := by
  obtain ⟨hl, hb⟩ := okOld_ok h
  refine ⟨fun n o e => x.ob n o (by rw [← get_drop (get_lt e)]; exact e), fun n o e => ?_, fun m n om on em en => x.inj m n om on (by rw [← get_drop (get_lt em)]; exact em) (by rw [← get_drop (get_lt en)]; exact en)⟩
  rw [hl]
  rcases hb n o e with h1 | h1
  · exact so.wf n o h1
  · exact h1
theorem Lat.drop (l : Lat φ φ' S S' H H') {T : Store} (h : T.length = S.length) : Lat φ φ' S T H H' :=
  ⟨by rw [h]; exact Nat.le_refl _, l.same, l.kp, l.fr, fun n h1 h2 => absurd h2 (by omega), l.no⟩
theorem trim_ok (so : SimO K φ ex H S) (l : Lat φ φ' S S' H H') (m : Sim K φ' ex H' S' σ env) : Lat φ φ' S (trim S S' env) H H' ∧ Sim K φ' ex H' (trim S S' env) σ env := by
  unfold trim
  split
  · exact ⟨l, m⟩
  · split
    · rename_i h1 h2
      simp only [Bool.and_eq_true] at h2
      obtain ⟨hl, _⟩ := okOld_ok h2.2
      refine ⟨l.drop hl, m.o.drop so h2.2, m.e.len, fun i d hd => ?_, m.e.xs, m.e.xd⟩
      obtain ⟨v, h3, h4, h5⟩ := m.e.at_ i d hd
      refine ⟨v, h3, h4, ?_⟩
      rw [hl]
      have h6 := h2.1
      unfold envBel at h6
      rw [List.all_eq_true] at h6
      exact h6 _ (List.mem_of_getElem? hd)
    · exact ⟨l, m⟩
theorem Sim.kill (m : Sim K φ ex H S σ env) (ks : List Nat) : Sim K φ ex H S σ (Pw.kill ks env) := ⟨m.o, m.e.kill ks⟩
end
section
variable {e a b c o : Expr} {es : List Expr} {x y z : Exp} {xs : List Exp} {pos p apos p2 : Pos} {st : Stmt} {sts : List Stmt} {s : Stm} {ss : List Stm}
/-- a turn's end -/
theorem turn_end {φ φ1 : Nat → Addr} {S S1 : Store} {H H1 : Hp} {σ : L2.St} {env : Env} {D0 : Ends} {ks : List Nat} {k : Env → Store → Res Pw.Flow} {r : Res Pw.Flow} {N : L2.St → Hp → Prop} (m : Sim w.K φ w.ex H S σ env) (l1 : Lat φ φ1 S S1 H H1)
    (g : RgS w xw W φ S H (r.bind fun fl S' => match fl with
      | .nx env => k (kill ks env) (trim S S' (kill ks env))
      | .ct env => k (kill ks env) (trim S S' (kill ks env))
      | .bk env => .ok (.nx (kill ks env)) S'
      | .rt d => .ok (.rt d) S'
      | .ex c fs env => .ok (.ex c fs env) S') D0)
    (hN : ∀ φ' σ' H' S' env', Lat φ φ' S S' H H' → Sim w.K φ' w.ex H' S' σ' env' → RgS w xw W φ' S' H' (k env' S') D0 → N σ' H') :
    RgS w xw W φ1 S1 H1 r { D0 with nx := N, ct := N, bk := D0.nx } := by
  cases r with
  | exc c fs S' => exact g.elim
  | bad => exact g.elim
  | ok f S' => cases f with
    | nx env2 =>
      intro φ' H' σ' l m'
      obtain ⟨l3, m3⟩ := trim_ok m.o (l1.trans l) (m'.kill ks)
      exact hN _ _ _ _ _ l3 m3 (RgS.later (r := k (kill ks env2) (trim S S' (kill ks env2))) g l3)
    | ct env2 =>
      intro φ' H' σ' l m'
      obtain ⟨l3, m3⟩ := trim_ok m.o (l1.trans l) (m'.kill ks)
      exact hN _ _ _ _ _ l3 m3 (RgS.later (r := k (kill ks env2) (trim S S' (kill ks env2))) g l3)
    | bk env2 => exact fun φ' H' σ' l m' => g φ' H' σ' (l1.trans l) (m'.kill ks)
    | rt d => exact fun v φ' H' l so r => g v φ' H' (l1.trans l) so r
    | ex c fs env2 => exact fun φ' H' σ' cls dd l m' x => g φ' H' σ' cls dd (l1.trans l) m' x
theorem sst_whl {t : Tst} {ks : List Nat} (hp : PassesOwn (model X.prog X.w) X.A X.env X.xe) (hc : PT X c (tT w xw C W t)) (hb : PSs X sts (tSts w xw C W ss)) : PS X (.While c sts [] pos) (tSt w xw C W (.whl t ss ks)) :=
  psI (ps_while hp hc hb) fun D0 σ H ⟨φ, env, S, m, g⟩ => by
    refine ⟨fun n σ H => ∃ φ env S, Sim w.K φ w.ex H S σ env ∧ RgS w xw W φ S H (whlL (evT C t) (evSs C ss) ks n env S) D0, ⟨turns, φ, env, S, m, g⟩, ?_⟩
    rintro n σ H ⟨φ, env, S, m, g⟩
    cases n with
    | zero => exact g.elim
    | succ n =>
      refine ⟨φ, env, S, m, ?_⟩
      have g : RgS w xw W φ S H ((evT C t env S).st env fun k S1 => if k then (evSs C ss env S1).bind fun fl S' => (match fl with
        | .nx env => whlL (evT C t) (evSs C ss) ks n (kill ks env) (trim S S' (kill ks env))
        | .ct env => whlL (evT C t) (evSs C ss) ks n (kill ks env) (trim S S' (kill ks env))
        | .bk env => .ok (.nx (kill ks env)) S'
        | .rt d => .ok (.rt d) S'
        | .ex c fs env => .ok (.ex c fs env) S') else .ok (.nx env) S1) D0 := g
      cases e : evT C t env S with
      | bad => rw [e] at g; exact g
      | exc c fs S' => rw [e] at g; exact fun φ' H' cls dd l so x => g φ' H' σ cls dd l (m.lat l so) x
      | ok k S1 =>
        rw [e] at g
        intro b φ1 H1 l1 so1 rb
        cases rb
        cases k with
        | false => exact g φ1 H1 σ l1 (m.lat l1 so1)
        | true =>
          rw [if_pos rfl]
          refine ⟨fun σ' H' => ∃ φ env S, Sim w.K φ w.ex H' S σ' env ∧ RgS w xw W φ S H' (whlL (evT C t) (evSs C ss) ks n env S) D0, fun σ' H' q => ⟨n, Nat.lt_succ_self n, q⟩, φ1, env, S1, m.lat l1 so1, ?_⟩
          exact turn_end (k := fun env S => whlL (evT C t) (evSs C ss) ks n env S) m l1 g fun φ' σ' H' S' env' l m' g' => ⟨φ', env', S', m', g'⟩
theorem sst_for {tg iter : Expr} {t : Tg} {l : Src} {ks : List Nat} (hp : PassesOwn (model X.prog X.w) X.A X.env X.xe) (hc : X.calm = true) (hi : PI X tg iter (tI w xw C W l)) (hg : PG X tg (gT w t)) (hb : PSs X sts (tSts w xw C W ss))
    (hps : PS X (.For tg iter sts [] pos) (tFor (tI w xw C W l) (gT w t) (tSts w xw C W ss))) : PS X (.For tg iter sts [] pos) (tSt w xw C W (.forS t l ss ks)) :=
  psI hps fun D0 σ H ⟨φ, env, S, m, g⟩ => by
    refine ⟨φ, env, S, m, ?_⟩
    have g : RgS w xw W φ S H ((evL C l env S).st env fun p S => loopL (fun x env S => match bind1 t x env with
      | some env => evSs C ss env S
      | none => .bad) ks (stands p.2 (obAt p.2 S)) p.1 env S) D0 := g
    cases ev : evL C l env S with
    | bad => rw [ev] at g; exact g
    | exc c fs S' => rw [ev] at g; exact fun φ' H' cls dd l so x => g φ' H' σ cls dd l (m.lat l so) x
    | ok p S1 =>
      rw [ev] at g
      intro J φ1 H1 l1 so1 r1
      obtain ⟨b1, it⟩ := r1
      have g : RgS w xw W φ S H (loopL (fun x env S => match bind1 t x env with
        | some env => evSs C ss env S
        | none => .bad) ks (stands p.2 (obAt p.2 S1)) p.1 env S1) D0 := g
      generalize hgd : stands p.2 (obAt p.2 S1) = gd at g it
      generalize hds : p.1 = ds at g it b1
      generalize hf : (fun (x : D) (env : Env) (S : Store) => match bind1 t x env with
        | some env => evSs C ss env S
        | none => Res.bad) = f at g
      refine ⟨fun i mm σ H' => mm = ds.length - i ∧ ∃ φ2 env2 S2, Lat φ1 φ2 S1 S2 H1 H' ∧ Sim w.K φ2 w.ex H' S2 σ env2 ∧ RgS w xw W φ2 S2 H' (loopL f ks gd (ds.drop i) env2 S2) D0, ⟨ds.length, by simp, φ1, env, S1, Lat.refl, m.lat l1 so1, RgS.later g l1⟩, ?_⟩
      rintro i mm σ H' ⟨rfl, φ2, env2, S2, l2, m2, g⟩
      cases hdr : ds.drop i with
      | nil =>
        rw [hdr] at g
        have g : RgS w xw W φ2 S2 H' (if gd S2 then .ok (.nx env2) S2 else .bad) D0 := g
        cases hgS : gd S2 with
        | false => rw [hgS] at g; exact g.elim
        | true =>
          rw [hgS] at g
          have hi' : ds.length ≤ i := by
            have := congrArg List.length hdr
            simp only [List.length_drop, List.length_nil] at this
            omega
          exact .inl ⟨(it i φ2 S2 H' l2.w m2.o hgS).1 hi', g φ2 H' σ Lat.refl m2⟩
      | cons d rest =>
        obtain ⟨hd, hrest, hil⟩ := drop_at hdr
        rw [hdr] at g
        have g : RgS w xw W φ2 S2 H' (if gd S2 then (f d env2 S2).bind fun fl S' => (match fl with
          | .nx env => loopL f ks gd rest (kill ks env) (trim S2 S' (kill ks env))
          | .ct env => loopL f ks gd rest (kill ks env) (trim S2 S' (kill ks env))
          | .bk env => .ok (.nx (kill ks env)) S'
          | .rt d => .ok (.rt d) S'
          | .ex c fs env => .ok (.ex c fs env) S') else .bad) D0 := g
        cases hgS : gd S2 with
        | false => rw [hgS] at g; exact g.elim
        | true =>
          rw [hgS, if_pos rfl] at g
          obtain ⟨hgo, hy⟩ := (it i φ2 S2 H' l2.w m2.o hgS).2 d hd
          refine .inr ⟨hgo, fun σ3 H3 => ∃ φ3 env3 S3, Lat φ1 φ3 S1 S3 H1 H3 ∧ Sim w.K φ3 w.ex H3 S3 σ3 env3 ∧ RgS w xw W φ3 S3 H3 (loopL f ks gd rest env3 S3) D0, fun σ3 H3 q => ⟨ds.length - (i + 1), by omega, rfl, by rw [hrest]; exact q⟩, fun x H3 y => ?_⟩
          obtain ⟨l3, so3, rx⟩ := hy x H3 y
          have bd : D.bel S2.length d = true := D.bel_mono l2.le _ (bels_all.mp b1 d (List.mem_of_getElem? hd))
          cases hbi : bind1 t d env2 with
          | none =>
            have : f d env2 S2 = .bad := by rw [← hf]; show (match bind1 t d env2 with | some env => evSs C ss env S2 | none => Res.bad) = _; rw [hbi]
            rw [this] at g; exact g.elim
          | some env3 =>
            have ef : f d env2 S2 = evSs C ss env3 S2 := by rw [← hf]; show (match bind1 t d env2 with | some env => evSs C ss env S2 | none => Res.bad) = _; rw [hbi]
            rw [ef] at g
            refine ⟨φ2, S2, env2, d, env3, m2.lat l3 so3, ⟨rx, bd⟩, hbi, fun σ4 m4 _ => ⟨φ2, env3, S2, m4, ?_⟩⟩
            exact turn_end (k := fun env S => loopL f ks gd rest env S) m2 l3 g fun φ' σ' H5 S' env' l m' g' => ⟨φ', env', S', l2.trans l, m', g'⟩
end
end Pw
end
section
set_option Elab.async false
set_option linter.all false
set_option maxRecDepth 100000
set_option maxHeartbeats 1000000
set_option autoImplicit false
/-! Pw18: more statements: name = [..], o[i] = v, raise, try -/
namespace Pw
open PySem PySem.Spec PyProof.Rows L2
variable {w : Wo} {xw : Xw} {C : Ctx} {W : WX} {X : Cx}
section
variable {e a b c o : Expr} {es : List Expr} {x y z : Exp} {xs : List Exp} {pos p apos p2 : Pos} {st : Stmt} {sts : List Stmt} {s : Stm} {ss : List Stm}
theorem setLc_rd {i : Nat} {l : Src} {D0 : Ends} {σ : L2.St} {H : Hp} (hx : w.ex = none) (q : tSt w xw C W (.set (.v i) (.ls l)) D0 σ H) : tN w xw C W l σ H (fun v H1 => D0.nx (σ.set i (some v)) H1) := by
  obtain ⟨φ, env, S, m, g⟩ := q
  refine ⟨φ, env, S, m, ?_⟩
  have g : RgS w xw W φ S H (((evL C l env S).bind fun p S => Res.ok (.obj S.length) (.lst p.1 :: S)).st env fun x S => .ok (.nx (env.set i (some x))) S) D0 := g
  cases ev : evL C l env S with
  | bad => rw [ev] at g; exact g
  | exc c fs S' => rw [ev] at g; exact fun φ' H' cls dd l so x => g φ' H' σ cls dd l (m.lat l so) x
  | ok p S' =>
    rw [ev] at g
    intro v φ' H' l1 so r
    obtain ⟨b, a, vs, rfl, h0, h1, rv, hn⟩ := r
    obtain ⟨φ2, l2, e2, so2⟩ := so.adopt l1 h0 h1 hn rv b
    have rr : Rp w.K φ2 w.ex H' (.ref a) (.obj S'.length) := by
      have := Rp.obj (K := w.K) (φ := φ2) (ex := w.ex) (H := H') S'.length
      rw [e2] at this
      exact this
    have bb : D.bel (SO.lst p.1 :: S').length (.obj S'.length) = true := by
      show Nat.blt S'.length (S'.length + 1) = true
      exact Nat.ble_eq_true_of_le (Nat.le_refl _)
    exact g φ2 H' _ l2 ⟨so2, (m.e.lat l2).set rr bb i fun a j fs e => by rw [hx] at e; cases e⟩
theorem sst_setLc {i : Nat} {n : Str} {py : Pos} {elt tg iter : Expr} {ifs : List Expr} {scope : Scope} {own : List (Str × Nat)} {spos : Pos} {e : Exp} {t : Tg} {l : Src} {ts : List Tst} (hx : w.ex = none) (hc : X.calm = true) (hN : X.N.Nodup) (hy : X.N[i]? = some n) (hyl : X.env.scope.names.lookup n = some .local)
    (hsw : swapsWith (.ListComp elt [⟨tg, iter, ifs, 0⟩] scope pos) (some (.Name n py)) spos.line X.env = pure true) (hi : PI X tg iter (tI w xw C W l)) (ok : BlkOk X.N X.env.scope scope own) (hv : own.map (·.2) = t.ix)
    (hg : ∀ (s : Shared) (H : Hp) (D : Addr) (cl : List (Str × Addr)) (fp : List Addr), PG (X.blk s H scope (compEnvC scope cl D X.env) fp) tg (gT w t))
    (ht : ∀ (s : Shared) (H : Hp) (D : Addr) (cl : List (Str × Addr)) (fp : List Addr), PTs (X.blk s H scope (compEnvC scope cl D X.env) fp) ifs (tTs w xw C W0 ts))
    (he : ∀ (s : Shared) (H : Hp) (D : Addr) (cl : List (Str × Addr)) (fp : List Addr), PE (X.blk s H scope (compEnvC scope cl D X.env) fp) elt (tE w xw C W0 e)) (hs : ∀ x, foldedSetIterable iter X.env x = pure x) :
    PS X (.Assign [.Name n py] (.ListComp elt [⟨tg, iter, ifs, 0⟩] scope pos) spos) (tSt w xw C W (.set (.v i) (.ls (.comp e t l ts)))) :=
  psI (ps_setLc hc hN hy hyl hsw hi ok hg ht he hs) fun D0 σ H q => by rw [hv]; exact comp_rd hx (setLc_rd hx q)
/-! ### o[i] = v -/
def keyD : Key → D
  | .inl i => .int i
  | .inr x => .str x.cps.toList
theorem rp_key {K : PySem.W.Frag} {φ : Nat → Addr} {ex : Ex1} {H : Hp} {k : Key} {d : D} (r : Rp K φ ex H (kV k) d) : d = keyD k := by
  cases k with
  | inl i => cases (show Rp K φ ex H (.int i) d from r); rfl
  | inr x => cases (show Rp K φ ex H (.str x) d from r); rfl
theorem rp_keyD {K : PySem.W.Frag} {φ : Nat → Addr} {ex : Ex1} {H : Hp} (k : Key) : Rp K φ ex H (kV k) (keyD k) := by
  cases k with
  | inl i => exact .int i
  | inr x => exact .str x
theorem keyD_inj {k k' : Key} (h : keyD k = keyD k') : k = k' := by
  cases k <;> cases k' <;> first | (cases h; done) | skip
  · cases h; rfl
  · rw [str_ext (D.str.inj h)]
theorem putK_cons {a k : Key} {u v : V} {r : List (Key × V)} (nd : ((a, u) :: r).map (·.1) |>.Nodup) : putK ((a, u) :: r) k v = if a = k then (a, v) :: r else (a, u) :: putK r k v := by
  unfold putK
  by_cases h : a = k
  · subst h
    have hr : r.map (fun kv => if kv.1 = a then (kv.1, v) else kv) = r := by
      have : ∀ p ∈ r, (if p.1 = a then (p.1, v) else p) = p := fun p hp => by
        rw [if_neg]
        intro e
        simp only [List.map_cons, List.nodup_cons] at nd
        exact nd.1 (by rw [← e]; exact List.mem_map_of_mem hp)
      exact (List.map_congr_left this).trans (List.map_id _)
    simp [hr]
  · simp only [List.any_cons, decide_eq_false h, Bool.false_or, List.map_cons, if_neg h]
    split <;> rfl
theorem put_rel {K : PySem.W.Frag} {φ : Nat → Addr} {ex : Ex1} {H : Hp} {k : Key} {v : V} {dv : D} (rv : Rp K φ ex H v dv) : ∀ {kvs : List (D × D)} {ws : List (Key × V)}, RpA K φ ex H (ws.map fun p => kV p.1) (kvs.map (·.1)) → RpA K φ ex H (ws.map (·.2)) (kvs.map (·.2)) → (ws.map (·.1)).Nodup →
    RpA K φ ex H ((putK ws k v).map fun p => kV p.1) ((putD (keyD k) dv kvs).map (·.1)) ∧ RpA K φ ex H ((putK ws k v).map (·.2)) ((putD (keyD k) dv kvs).map (·.2)) ∧ ((putK ws k v).map (·.1)).Nodup ∧ ∀ x ∈ (putK ws k v).map (·.1), x = k ∨ x ∈ ws.map (·.1)
  | [], [], _, _, _ => by
    refine ⟨.cons (rp_keyD k) .nil, .cons rv .nil, by simp [putK], fun x hx => ?_⟩
    simp [putK] at hx
    exact .inl hx
  | (a, u) :: r, [], h, _, _ => by cases h
  | [], (a, u) :: t, h, _, _ => by cases h
  | (da, du) :: r, (a, u) :: t, h1, h2, nd => by
    simp only [List.map_cons] at h1 h2
    cases h1 with
    | cons q1 r1 => cases h2 with
      | cons q2 r2 =>
        have ea := rp_key q1
        subst ea
        rw [putK_cons nd]
        have nd' := nd
        simp only [List.map_cons, List.nodup_cons] at nd'
        by_cases h : a = k
        · subst h
          have e : putD (keyD a) dv ((keyD a, du) :: r) = (keyD a, dv) :: r := by unfold putD; rw [if_pos rfl]
          rw [if_pos rfl, e]
          exact ⟨.cons q1 r1, .cons rv r2, nd, fun x hx => .inr hx⟩
        · have e : putD (keyD k) dv ((keyD a, du) :: r) = (keyD a, du) :: putD (keyD k) dv r := by
            unfold putD
            rw [if_neg (fun z => h (keyD_inj z))]
            cases r <;> rfl
          obtain ⟨i1, i2, i3, i4⟩ := put_rel (k := k) rv r1 r2 nd'.2
          rw [if_neg h, e]
          refine ⟨.cons q1 i1, .cons q2 i2, ?_, fun x hx => ?_⟩
          · simp only [List.map_cons, List.nodup_cons]
            exact ⟨fun hm => (i4 a hm).elim h nd'.1, i3⟩
          · simp only [List.map_cons, List.mem_cons] at hx ⊢
            rcases hx with rfl | hx
            · exact .inr (.inl rfl)
            · exact (i4 x hx).imp id .inr
theorem bels_putD {n : Nat} {k v : D} (hk : D.bel n k = true) (hv : D.bel n v = true) : ∀ {kvs : List (D × D)}, (SO.dct kvs).bel n = true → (SO.dct (putD k v kvs)).bel n = true
  | [], _ => by
    show (D.bel n k && true && (D.bel n v && true)) = true
    rw [hk, hv]; rfl
  | (a, u) :: r, h => by
    have h' : D.bel n a = true ∧ D.bel n u = true ∧ (SO.dct r).bel n = true := by
      simp only [SO.bel, List.map_cons, D.bels, Bool.and_eq_true] at h ⊢
      exact ⟨h.1.1, h.2.1, h.1.2, h.2.2⟩
    unfold putD
    split
    · simp only [SO.bel, List.map_cons, D.bels, Bool.and_eq_true] at h ⊢
      exact ⟨h.1, hv, h.2.2⟩
    · have := bels_putD hk hv h'.2.2
      simp only [SO.bel, List.map_cons, D.bels, Bool.and_eq_true] at this ⊢
      exact ⟨⟨h'.1, this.1⟩, h'.2.1, this.2⟩
theorem psetR (hu : X.A.units + 1 < cLine) : PSet X (setR w) := by
  intro pins s σ H o i v ov iv u Q I ro ri rv h
  obtain ⟨φ, S, do', di, dv, so, r1, r2, r3, S', hS, q⟩ := h
  cases do' with
  | obj n =>
    cases r1.1
    simp only [setIxD] at hS
    split at hS
    · rename_i xs e
      cases di with
      | int k =>
        cases r2.1
        obtain ⟨j, hj, rfl⟩ := Option.map_eq_some_iff.mp hS
        obtain ⟨vs, hH, rr⟩ := so.ob n _ e
        have b3 : D.bels S.length (xs.set j dv) = true := bels_all.mpr fun d hd => by
          rcases List.mem_or_eq_of_mem_set hd with h | h
          · exact bels_all.mp (so.wf n _ e) d h
          · rw [h]; exact r3.2
        obtain ⟨lw, sw⟩ := so.write (n := n) (o := .lst xs) (o' := .lst (xs.set j dv)) (u := .lst (vs.set j v)) e rfl b3 fun w' hw => ⟨vs.set j v, upd_same, (rr.set r3.1 j).mono b3 (fun _ _ => rfl) (Kp.set hw (by rw [hH] at hw; cases hw; trivial))⟩
        exact set_list pins s σ H _ _ v ov iv u Q I ro ri rv ⟨φ n, vs, k, j, rfl, rfl, hH, by rw [rr.length, ← place_ix]; exact hj, q _ lw sw⟩
      | _ => cases hS
    · rename_i kvs e
      split at hS
      · rename_i hc
        cases hS
        simp only [Bool.and_eq_true, decide_eq_true_eq] at hc
        obtain ⟨ws, hH, k1, k2, nd⟩ := so.ob n _ e
        obtain ⟨k, hk, hi⟩ : ∃ k : Key, di = keyD k ∧ i = kV k := by
          cases di <;> first | (cases hc.1; done) | skip
          · cases r2.1; exact ⟨.inl _, rfl, rfl⟩
          · obtain ⟨z, rfl, rfl⟩ := rp_inv r2.1; exact ⟨.inr z, rfl, rfl⟩
        subst hk hi
        have hb := bels_putD r2.2 r3.2 (so.wf n _ e)
        have lw := so.write (n := n) (o := .dct kvs) (o' := .dct (putD (keyD k) dv kvs)) (u := .dK (putK ws k v)) e rfl hb fun w' hw => by
          have kp : Kp H (upd H (φ n) (.dK (putK ws k v))) := Kp.set hw (by rw [hH] at hw; cases hw; trivial)
          obtain ⟨j1, j2, j3, _⟩ := put_rel (k := k) r3.1 k1 k2 nd
          simp only [SO.bel, Bool.and_eq_true] at hb
          exact ⟨putK ws k v, upd_same, j1.mono hb.1 (fun _ _ => rfl) kp, j2.mono hb.2 (fun _ _ => rfl) kp, j3⟩
        have hl : ws.length < sizeLine := by
          have := k2.length
          simp only [List.length_map] at this
          rw [this, sizeLine_eq]; omega
        exact set_dict hu pins s σ H _ _ v ov iv u Q I ro ri rv ⟨φ n, _, rfl, DPut.k hH hl, q _ lw.1 lw.2⟩
      · cases hS
    · cases hS
  | _ => cases hS
/-! ### raise -/
theorem sst_raise0 {k : Nat} (hc : X.calm = true) (tk : L2N.Takes X W) (he : L2N.PMk X e (fun _ H Q => Q (xw.cA k) none H)) (hf : xw.fl k = []) (hn : k < xw.n) : PS X (.Raise (some e) none pos) (tSt w xw C W (.rais k [])) :=
  psI (L2N.ps_raise hc tk he) fun D0 σ H ⟨φ, env, S, m, g⟩ => g φ H σ _ _ Lat.refl m ⟨hn, rfl, rfl, by rw [hf]; rfl, .inl ⟨hf, rfl⟩⟩
theorem sEs.then {φ : Nat → Addr} {S : Store} {H : Hp} {D0 : Ends} {σ : L2.St} {env : Env} {xs : List Exp} {k : List D → Store → Res Pw.Flow} {Q' : List V → Hp → Prop} (m : Sim w.K φ w.ex H S σ env) (h : RgS w xw W φ S H ((evEs C xs env S).st env k) D0)
    (f : ∀ vs ds S1 φ1 H1, ds.length = xs.length → Lat φ φ1 S S1 H H1 → Sim w.K φ1 w.ex H1 S1 σ env → REs w φ1 H1 S1 vs ds → RgS w xw W φ1 S1 H1 (k ds S1) D0 → Q' vs H1) : tEs w xw C W xs σ H Q' := by
  refine ⟨φ, env, S, m, ?_⟩
  cases r : evEs C xs env S with
  | ok ds S' =>
    rw [r] at h
    exact fun b φ' H' l so ra => f b ds S' φ' H' (evEs_len _ _ _ _ _ r) l (m.lat l so) ra (RgS.later (r := k ds S') h l)
  | exc c fs S' =>
    rw [r] at h
    exact fun φ' H' cls dd l so x => h φ' H' σ cls dd l (m.lat l so) x
  | bad =>
    rw [r] at h
    exact h
theorem fld_ints {K : PySem.W.Frag} {φ : Nat → Addr} {ex : Ex1} {H : Hp} : ∀ {ds : List D} {vs : List V}, fldOk ds = true → RpA K φ ex H vs ds → ∃ is : List Int, ds = is.map .int ∧ vs = is.map .int ∧ ∀ i ∈ is, i.natAbs.log2 < 1920
  | [], _, _, .nil => ⟨[], rfl, rfl, fun _ h => by cases h⟩
  | d :: ds, _, h, .cons q r => by
    have h : fldOk (d :: ds) = true := h
    unfold fldOk at h
    rw [List.all_cons, Bool.and_eq_true] at h
    obtain ⟨is, e1, e2, e3⟩ := fld_ints h.2 r
    cases d with
    | int i =>
      cases q
      exact ⟨i :: is, by rw [e1]; rfl, by rw [e2]; rfl, fun j hj => (List.mem_cons.mp hj).elim (fun z => by rw [z]; exact of_decide_eq_true h.1) (e3 j)⟩
    | _ => cases h.1
theorem vI_ints (is : List Int) : (is.map D.int).map vI = is.map V.int := by
  rw [List.map_map]; rfl
theorem sst_raiseA {x : Str} {k : Nat} {A D1 f : Addr} {fd : FuncData} {ps : List Str} (hc : X.calm = true) (tk : L2N.Takes X W) (hA : xw.cA k = .ref A) (hk : k < xw.n) (hf : xw.fl k ≠ []) (T : IniC X.K A D1 f (xw.fl k)) (hps : ps.length = (xw.fl k).length + 1)
    (F1 : FnOk X.prog X.w X.K X.mg X.base (L2N.CX X.prog X.w) 1 f fd ps (spI X.K D1 f (xw.fl k))) (hr : Room 2 X.A) (hb : Binds X.K fd ps []) (hz : (xw.fl k).length ≤ 900)
    (hg : Gl X x) (hm : X.mg x = some (.ref A)) (ha : PA X (e :: es) (tEs w xw C W xs)) (hl : xs.length = (xw.fl k).length) (hdb : okName x = true) (h1 : okX e = true) (h2 : es.all okX = true) :
    PS X (.Raise (some (.Call (.Name x p) (e :: es) [] p2)) none pos) (tSt w xw C W (.rais k xs)) :=
  psI (L2N.ps_raise hc tk (pmk_ini T F1 hr hb tk hg hm ha (okName_ok hdb).1 (star_ok h1) (plainArgs_ok h2))) fun D0 σ H ⟨φ, env, S, m, g⟩ => by
    have g : RgS w xw W φ S H ((evEs C xs env S).st env fun ds S => if fldOk ds then .ok (.ex k ds env) S else .bad) D0 := g
    refine sEs.then m g fun vs ds S1 φ1 H1 hln l1 m1 r1 g => ?_
    by_cases hfo : fldOk ds = true
    · rw [if_pos hfo] at g
      obtain ⟨is, e1, e2, e3⟩ := fld_ints hfo r1.1
      have hlen : is.length = (xw.fl k).length := by rw [← hl, ← hln, e1, List.length_map]
      refine ⟨by rw [e2, List.length_map, hlen]; omega, fun a na => ⟨a, A, is, by rw [e2, List.append_nil], hlen, e3, T, upd_same, fun dx H' h1 h2 h3 h4 h5 => ⟨rfl, dx, _, h3, h4, ?_, ?_⟩⟩⟩
      · rw [upd_ne h2] at h1
        exact h1
      · have hd : H1 dx = none := by rw [upd_ne h2] at h1; exact h1
        have eH : upd (del H' a) dx (.xd ((xw.fl k).zip (is.map V.int)).reverse) = upd H1 dx (.xd ((xw.fl k).zip (is.map V.int)).reverse) := by
          funext b
          by_cases z : b = dx
          · rw [z, upd_same, upd_same]
          · rw [upd_ne z, upd_ne z]
            by_cases y : b = a
            · rw [y, del_same, na]
            · rw [del_ne y, h5 b y z, upd_ne y]
        rw [eH, ← hA]
        refine g φ1 _ σ _ _ (Lat.newT hd) (m1.lat (Lat.newT hd) (m1.o.new hd)) ⟨hk, rfl, hfo, by rw [e1, List.length_map, hlen], .inr ⟨hf, dx, rfl, ?_⟩⟩
        rw [e1, vI_ints]
        exact upd_same
    · rw [if_neg hfo] at g
      exact g.elim
/-! ### try -/
def Wo.at (w : Wo) (a : Addr) (i : Nat) (x : Option (Addr × List (Str × V))) : Wo := { w with ex := some (a, i, x) }
mutual
theorem rp_ex {K : PySem.W.Frag} {φ : Nat → Addr} {ex ex' : Ex1} {H : Hp} : ∀ {v : V} {d : D}, Rp K φ ex H v d → Rp K φ ex' H v d
  | _, _, .non => .non
  | _, _, .bl b => .bl b
  | _, _, .int i => .int i
  | _, _, .str x => .str x
  | _, _, .tup h r => .tup h (rpA_ex r)
  | _, _, .obj m => .obj m
  | _, _, .exc h => h.elim
theorem rpA_ex {K : PySem.W.Frag} {φ : Nat → Addr} {ex ex' : Ex1} {H : Hp} : ∀ {vs : List V} {ds : List D}, RpA K φ ex H vs ds → RpA K φ ex' H vs ds
  | _, _, .nil => .nil
  | _, _, .cons r t => .cons (rp_ex r) (rpA_ex t)
end
theorem ob_ex {K : PySem.W.Frag} {φ : Nat → Addr} {ex ex' : Ex1} {H : Hp} {a : Addr} {o : SO} (x : ObR K φ ex H a o) : ObR K φ ex' H a o := by
  cases o with
  | lst ds => obtain ⟨vs, e, r⟩ := x; exact ⟨vs, e, rpA_ex r⟩
  | ro ds => obtain ⟨vs, e, r⟩ := x; exact ⟨vs, e, rpA_ex r⟩
  | dct kvs => obtain ⟨ws, e, r1, r2, nd⟩ := x; exact ⟨ws, e, rpA_ex r1, rpA_ex r2, nd⟩
  | set _ => exact x.elim
  | ins _ _ => exact x.elim
theorem so_ex {K : PySem.W.Frag} {φ : Nat → Addr} {ex ex' : Ex1} {H : Hp} {S : Store} (x : SimO K φ ex H S) : SimO K φ ex' H S := ⟨fun n o e => ob_ex (x.ob n o e), x.wf, x.inj⟩
/-- what the suite is to do with the exception at hand -/
def tsX (w : Wo) (xw : Xw) (C : Ctx) (i : Nat) (suite : List Stm) : Addr → Value → Option Addr → TS := fun a cls dd D0 σ H => ∃ c fs φ env S, XR w xw φ H S c fs cls dd ∧ Sim w.K φ (w.at a i (xdO xw c fs dd)).ex H S σ env ∧ RgS (w.at a i (xdO xw c fs dd)) xw W0 φ S H (evSs { C with exn := some (c, fs) } suite env S) D0
theorem xdO_ok {φ : Nat → Addr} {H : Hp} {S : Store} {c : Nat} {fs : List D} {cls : Value} {dd : Option Addr} (xr : XR w xw φ H S c fs cls dd) {a a' d : Addr} {i j : Nat} {l : List (Str × V)} (e : (w.at a i (xdO xw c fs dd)).ex = some (a', j, some (d, l))) : H d = some (.xd l) := by
  obtain ⟨_, _, _, _, x⟩ := xr
  rcases x with ⟨_, rfl⟩ | ⟨_, d0, rfl, h⟩
  · cases e
  · cases e
    exact h
end
end Pw
end
section
set_option Elab.async false
set_option linter.all false
set_option maxRecDepth 100000
set_option maxHeartbeats 2000000
set_option autoImplicit false
/-! Pw18a: while an exception is handled: any(list), isinstance -/
namespace Pw
open PySem PySem.Spec PyProof.Rows L2
section
variable {prog : Program} {wd : World} {A : Around} {E : Value → Shared → Prop} {s : Shared}
/-- a list's iterator at its end, an exception being handled -/
theorem listEndHot {it l x1 : Addr} {i : Nat} {items : Array Value} {Q : Option Value → Shared → Prop} (hot : HotX.HotAt A x1 s.heap) (hx1 : x1 ≠ it) (hit : s.heap.IsListIter it l i) (hl : s.heap.IsList l items) (hx : items[i]? = none)
    (hQ : ∀ h', (∀ b o, b ≠ it → s.heap.get? b = some o → h'.get? b = some o) → Q none { s with heap := h' }) : wpAny (model prog wd) A (pyNext (.ref it)) Q E s := by
  obtain ⟨ob, kob, _, kd⟩ := id hit
  obtain ⟨ol, kol, _, nl, kdl⟩ := hl
  obtain ⟨hh, o1, vs1, e1, d1, c1⟩ := hot
  unfold pyNext
  refine wpAny_bind (wpAny_attempt (wpAny_callSpecial?_slot (name := Str.ofString "__next__") hit.typeIs slot_listiter_next (wpAny_call_entry slot_listiter_next hit.typeIs entry_listiter_next ?_ (args_listiter_next _))))
  (show wpAny _ _ (field (.ref it) 0 >>= _) _ _ s; refine wpAny_bind (wpAny_field kob kd (x := .ref l) rfl ?_))
  (show wpAny _ _ (if (Value.ref l == Value.none) = true then _ else _) _ _ s; rw [if_neg (show ¬ ((Value.ref l == Value.none) = true) from Bool.false_ne_true)])
  (show wpAny _ _ (field (.ref it) 1 >>= _) _ _ s; refine wpAny_bind (wpAny_field kob kd (x := .int i 0) rfl ?_))
  (show wpAny _ _ (seqItems? (.ref l) >>= _) _ _ s; refine wpAny_bind (wpAny_seqItems kol kdl ?_))
  simp only [Int.toNat_natCast, hx]
  refine wpAny_bind (wpAny_rule (wpAny_bind (wpAny_setField kob kd (by simp) ?_)))
  (show wpAny _ _ (newExc (.type "StopIteration") [] >>= _) _ _ _; refine wpAny_bind ?_)
  simp only [newExc, newTuple]
  (refine wpAny_bind (wpAny_newObj_type ?_ (by size_fits)); refine wpAny_bind (m := firstArgMember _ _) (wpAny_of_eq (a := Value.none) (by first | rfl | (simp only [firstArgMember]; rfl)) ?_))
  refine (wpAny_newObj_type ?_ (by size_fits))
  have up : ∀ b o, b ≠ it → s.heap.get? b = some o → (s.heap.update it (Obj.mapFields (·.setIfInBounds 0 .none))).get? b = some o := fun b o hb eb => (Heap.get?_update_other _ _ (Ne.symm hb)).trans eb
  refine HotX.raiseNew_hot (x1 := x1) ⟨hh, o1, vs1, Heap.get?_push_of_some _ (Heap.get?_push_of_some _ ?_), d1, c1⟩ ?_ (Heap.get?_push_size _ rfl) rfl (by first | (simp; done) | (simp; omega) | (simp only [Array.size_append]; simp; omega)) ?_
  · exact up x1 o1 hx1 e1
  · exact Nat.ne_of_lt (Heap.lt_size (Heap.get?_push_of_some _ (up x1 o1 hx1 e1)))
  · refine wpAny_bind (wpAny_isInstance (T := "StopIteration") (b := true) ⟨_, (Heap.get?_update_self _ (Heap.get?_push_size _ rfl) rfl), rfl⟩ isSubtype_stop ?_)
    refine wpAny_pure (hQ _ fun b o hb eb => ?_)
    have kb := up b o hb eb
    exact (Heap.get?_update_other _ _ (Nat.ne_of_gt (Heap.lt_size (Heap.get?_push_of_some _ kb)))).trans (Heap.get?_push_of_some _ (Heap.get?_push_of_some _ kb))
/-- the walk over a list, an exception being handled -/
theorem listWalkHot {x1 I l : Addr} {items : Array Value} (h1 : x1 ≠ I) (hne : l ≠ I) : Walks prog wd A I [I, l, x1] [I] items.size (fun i v => items[i]? = some v) (fun i h => h.IsListIter I l i ∧ h.IsList l items ∧ HotX.HotAt A x1 h) where
  sub := fun b hb => by simp at hb; simp [hb]
  frame := fun i h h' st hk => ⟨st.1.at fun o e => hk I (by simp) o e, st.2.1.at fun o e => hk l (by simp) o e, by
    obtain ⟨a1, o, vs, a2, a3, a4⟩ := st.2.2
    exact ⟨a1, o, vs, hk x1 (by simp) o a2, a3, a4⟩⟩
  item := fun i s Q E hi st hQ => by
    refine wpAny_pyNext_list_item st.1 st.2.1 (x := items[i]) (by simp [hi]) fun h' it2 same => ?_
    refine hQ _ h' s.toks (by simp [hi]) ⟨it2, st.2.1.extBut same.extBut hne, ?_⟩ fun b o hb e => same.extBut b o (fun z => hb (by simp [z])) e
    obtain ⟨a1, o, vs, a2, a3, a4⟩ := st.2.2
    exact ⟨a1, o, vs, same.extBut x1 o h1 a2, a3, a4⟩
  done := fun s Q E st hQ => listEndHot st.2.2 h1 st.1 st.2.1 (by simp) fun h' he => hQ h' s.toks fun b o hb e => he b o (fun z => hb (by simp [z])) e
  self := fun _ _ _ _ st hQ => wpAny_pyIter_listiter st.1 hQ
end
theorem cr_anyHot {X : Cx} (hc : L2H.HotC X) : CallR X (.builtin "any") (rAny X.K) := by
  intro pins s σ H vs us Q I r h
  obtain ⟨a, bs, rfl, hs, q⟩ := h
  obtain ⟨its, rv, hl, _⟩ := I.list hs
  rw [Vals.ref1 r]
  have hb := rv.bls
  obtain ⟨x1, hot⟩ := hc.at I
  have hlt : x1 < s.heap.objs.size := by obtain ⟨_, o, vs, e, _⟩ := hot; exact Heap.lt_size e
  refine call_any_walk (iter_any hl.isList fun s2 e2 st hne => ?_)
  subst e2
  have hot2 : HotX.HotAt X.A.in1 x1 (s.heap.push { cls := .type "list_iterator", data := .fields #[.ref a, .int 0 0] }) := by
    obtain ⟨a1, o, vs, a2, a3, a4⟩ := hot
    exact ⟨a1, o, vs, Heap.get?_push_of_some _ a2, a3, a4⟩
  refine ⟨_, _, _, _, _, _, _, rfl, listWalkHot (A := X.A.in1) (items := its.toArray) (Nat.ne_of_lt hlt) hne, ⟨st.1, st.2, hot2⟩, truth_bools hb, fun h' tk hk => ⟨.bl _, H, I.kept fun b o eo => hk b o (fun hm => ?_) (Heap.get?_push_of_some _ eo), ?_, q⟩⟩
  · rcases List.mem_cons.mp hm with e1 | hm
    · exact absurd (e1 ▸ Heap.lt_size eo) (Nat.lt_irrefl _)
    · cases hm
  · show Value.bool _ = Value.bool _
    rw [← L2.any_range, hb, List.size_toArray, List.length_map]
end Pw
end
section
set_option Elab.async false
set_option linter.all false
set_option maxRecDepth 100000
set_option maxHeartbeats 2000000
set_option autoImplicit false
/-! Pw18b: the exception at hand: isinstance, calls with it -/
namespace Pw
open PySem PySem.Spec PyProof.Rows L2
/-! ### isinstance of an exception that may have its dict -/
section
open PySem.W
variable {prog : Program} {w : World} {A : Around} {E : Value → Shared → Prop} {s : Shared} {K : PySem.W.Frag} {e B : Addr} {oe : Obj} {dx : Option Obj}
theorem find_cls (T : ExcC K B) : findObj K B dx "__class__" = some (.bind (.builtin "getset_descriptor.__get__") (.builtin "object.__class__")) := by
  obtain ⟨cb, hcb, _⟩ := any_some T.hd
  unfold findObj
  rw [hcb, Option.bind_some, T.ha, Option.bind_some]
  simp [T.hn, T.ht]
theorem cls_of_exc {Q : Option Value → Shared → Prop} (T : ExcC K B) (X : K.In s.heap) (I : InstAt s.heap e oe B dx) (h : Q (some (.ref B)) { s with toks := s.toks + 1 }) : wpAny (model prog w) A (getAttr? (.ref e) "__class__") Q E s := by
  obtain ⟨hp, gg, dd, tt, os⟩ := s
  have t0 := I.type (M := model prog w)
  have t1 := looks_findIn (M := model prog w) X T.hg
  have t2 := looks_findIn (M := model prog w) X T.hk
  have t3 := looks_find (M := model prog w) X I (find_cls T)
  have t4 : Looks (model prog w) hp (isInstance (.ref e) (.type "BaseException")) true := t0.andThen (looks_subIn X T.hs)
  have b0 : (false && onTheHeap (Value.builtin "BaseException.__getattribute__")) = false := rfl
  have b1 : (onTheHeap (Value.ref B) && Value.builtin "BaseException.__getattribute__" == Value.builtin "object.__getattribute__") = false := by
    rw [show (Value.builtin "BaseException.__getattribute__" == Value.builtin "object.__getattribute__") = false by decide +kernel]; rfl
  unfold getAttr? getAttrBy? getAttrBy
  refine wpAny_bind (wpAny_mkText (wpAny_bind (wpAny_attempt (wpAny_holding (wpAny_bind (t0.at (wpAny_bind (t1.at ?_))))))))
  show wpAny _ _ (if (onTheHeap (Value.ref B) && Value.builtin "BaseException.__getattribute__" == Value.builtin "object.__getattribute__") = true then _ else _) _ _ _
  rw [b1, if_neg Bool.false_ne_true]
  unfold getAttrByItsOwn hookBefore
  refine wpAny_bind ?_
  rw [if_pos (show onTheHeap (Value.ref B) = true from rfl)]
  refine t2.at (wpAny_bind (wpAny_attempt (wpAny_holding ?_)))
  unfold callGetattribute
  rw [b0, if_neg Bool.false_ne_true]
  unfold boundAndCalled
  rw [PySem.F.excAttr_ValueError.ga.bind (.ref e)]
  refine wpAny_bind (wpAny_pure ?_)
  show wpAny _ _ (call (.builtin "BaseException.__getattribute__") [.ref e, .str "__class__" tt]) _ _ _
  refine wpAny_call (codeAny_call_builtin PySem.F.excAttr_ValueError.ga.plain PySem.F.entry_bexc_ga ?_)
  refine @check_slot (model prog w) _ _ ⟨hp, gg, dd, tt + 1, os⟩ "BaseException.__getattribute__" "BaseException" "__getattribute__" (.ref e) [.str "__class__" tt] [] _ (by decide +kernel) (by decide +kernel) t4 (PySem.F.args_bexc_ga (.ref e) (.str "__class__" tt)) ?_
  unfold Builtin.«object.__getattribute__»
  refine wpAny_bind (wpAny_of_eq (a := ((Value.ref e : Value), [Value.str "__class__" tt])) (by first | rfl | (simp only [slotArgs]; rfl)) ?_)
  refine wpAny_bind (wpAny_pure (wpAny_bind (t0.at (wpAny_bind (t3.at ?_)))))
  show wpAny _ _ (holding [Value.builtin "object.__class__"] (call (.builtin "getset_descriptor.__get__") [.builtin "object.__class__", .ref e, .ref B]) >>= ret) _ _ _
  refine wpAny_bind (wpAny_holding (wpAny_call (class_get (s := ⟨hp, gg, dd, tt + 1, os⟩) (ox := oe) (od := dx) X I T.hm ?_)))
  refine wpAny_pure ?_
  show wpAny _ _ (handedOut (.ref B)) _ _ _
  rw [handedOut_of (v := .ref B) rfl]
  first | exact wpAny_pure (wpAny_pure h) | exact wpAny_pure h | exact wpAny_pure (wpAny_bind (wpAny_pure (wpAny_pure h)))
theorem kitx_e (T : ExcC K B) : KitX K (.ref e) (.ref B) (fun h => InstAt h e oe B dx) := by
  have Z : KitX K (.ref e) (.ref B) (fun h => InstAt h e oe B none) := handS_kitx_exc T.hg T.hk T.hs T.hd T.ha T.hn T.ht T.hm
  refine { ty := fun _ _ _ I => I.type, it := fun _ h X _ => ?_, ne := Z.ne, ca := fun X I k => cls_of_exc T X I k }
  obtain ⟨cb, hcb, _⟩ := any_some T.hd
  unfold clsIn at hcb
  split at hcb
  · rename_i lk
    intro A1 Q1 E1 s1 st q1
    unfold isType loadHead
    exact wpAny_bind (wpAny_loadPart (st _ _ (X _ _ lk)) (wpAny_pure q1))
  · cases hcb
end
section
variable {X : Cx} {a D0 : Addr} {oe : Obj}
/-- isinstance(e, (C1, ..)) -/
def rIsET (K : PySem.W.Frag) (D0 a : Addr) : List V → Hp → VK → Prop := fun xs H Q => ∃ (tp : Addr) (cs : List V) (us : List Value) (b : Bool), xs = [.ref a, .ref tp] ∧ H tp = some (.tup cs) ∧ Paired ClsV cs us ∧ PySem.W.kitAny K (.ref D0) us = some b ∧ Q (.bl b) H
/-- the exception's dict stands -/
def XdAt (dd : Option Addr) (H : Hp) : Prop := ∀ d, dd = some d → ∃ fs, H d = some (.xd fs)
theorem instAt_of {pins : List (Addr × Obj)} {σ : L2.St} {H : Hp} {s : Shared} {dd : Option Addr} (I : Inv X pins σ H s) (hp : (a, oe) ∈ X.pn) (hz : Zc (.ref D0) dd oe) (hf : ∃ vs, oe.data = .fields vs) (hd : XdAt dd H) : ∃ od, PySem.W.InstAt s.heap a oe D0 od := by
  obtain ⟨g, _⟩ := I.pin (a, oe) (List.mem_append_left _ hp)
  obtain ⟨vs, hv⟩ := hf
  obtain ⟨oc, od, oda, osl⟩ := oe
  obtain ⟨z1, z2⟩ := hz
  dsimp only at z1 z2 hv
  subst z1 z2 hv
  cases od with
  | none => exact ⟨none, ⟨g, rfl, rfl, trivial⟩⟩
  | some d =>
    obtain ⟨fs, hx⟩ := hd d rfl
    obtain ⟨mA, ⟨o, es, ep, e1, _⟩, _⟩ := (show ObjOk X.prog X.w H s.heap d (.xd fs) from I.hok d _ hx)
    exact ⟨some o, ⟨g, rfl, rfl, e1⟩⟩
theorem cr_isX {dd : Option Addr} (C : ExcC X.K D0) (hp : (a, oe) ∈ X.pn) (hz : Zc (.ref D0) dd oe) (hf : ∃ vs, oe.data = .fields vs) : CallR X (.builtin "isinstance") (fun xs H Q => XdAt dd H ∧ rIsE X.K D0 a xs H Q) := by
  intro pins s σ H xs us Q I r h
  obtain ⟨hd, c, cv, b, rfl, hcv, e, q⟩ := h
  obtain ⟨od, hI⟩ := instAt_of I hp hz hf hd
  obtain ⟨u1, u2, rfl, r1, r2⟩ := Vals.two r
  cases (show u1 = Value.ref a from r1)
  obtain rfl := hcv _ r2
  exact PySem.W.kia_one (kitx_e C) I.kIn hI e (fun z => nomatch z) fun tk => ⟨.bl b, H, I.tok tk, rfl, q⟩
theorem cr_isXT {dd : Option Addr} (C : ExcC X.K D0) (hp : (a, oe) ∈ X.pn) (hz : Zc (.ref D0) dd oe) (hf : ∃ vs, oe.data = .fields vs) : CallR X (.builtin "isinstance") (fun xs H Q => XdAt dd H ∧ rIsET X.K D0 a xs H Q) := by
  intro pins s σ H xs us Q I r h
  obtain ⟨hd, tp, cs, ws, b, rfl, hT, k, e, q⟩ := h
  obtain ⟨od, hI⟩ := instAt_of I hp hz hf hd
  obtain ⟨u1, u2, rfl, r1, r2⟩ := Vals.two r
  cases (show u1 = Value.ref a from r1)
  cases (show u2 = Value.ref tp from r2)
  obtain ⟨_, its, rv, o, h1, h2, n, h3⟩ := (show ObjOk X.prog X.w H s.heap tp (.tup cs) from I.hok tp _ hT)
  have e3 := ClsV.all k rv
  subst e3
  obtain ⟨oc, od, dt, sl⟩ := o
  simp only at h2 h3
  subst h2 h3
  exact PySem.W.kia_tup (kitx_e C) I.kIn hI h1 e (fun z => nomatch z) fun tk => ⟨.bl b, H, I.tok tk, rfl, q⟩
end
variable {w : Wo} {xw : Xw} {C : Ctx} {W : WX} {X : Cx} {p : Prg}
/-- what is known where an exception is at hand -/
structure Hx (w : Wo) (xw : Xw) (p : Prg) (n : Nat) (C : Ctx) (sl : Option Nat) (X : Cx) : Prop where
  ex : ∃ (a : Addr) (oe : Obj) (i c : Nat) (D0 : Addr) (fs : List D) (dd : Option Addr), w.ex = some (a, i, xdO xw c fs dd) ∧ sl = some i ∧ C.exn = some (c, fs) ∧ c < xw.n ∧ xw.cA c = .ref D0 ∧ (a, oe) ∈ X.pn ∧ L2N.Zn (.ref D0) dd oe ∧ (∃ vs, oe.data = .fields vs) ∧ ExcC X.K D0 ∧
    X.A.handled = some (.ref a) ∧ fldOk fs = true ∧ fs.length = (xw.fl c).length ∧ (dd = none ↔ xw.fl c = []) ∧ ∀ g ∈ xw.fl c, PySem.W.findIn X.K (.ref D0) g = some none
  un : L2H.RoomH n X.A
theorem xdAt_of {φ : Nat → Addr} {H : Hp} {k : Nat} {σ : L2.St} {env : Env} {a : Addr} {i c : Nat} {fs : List D} {dd : Option Addr} (m : SimE w.K φ w.ex H k σ env) (he : w.ex = some (a, i, xdO xw c fs dd)) : XdAt dd H := fun d hd => by
  subst hd
  exact ⟨_, m.xd a i d _ he⟩
theorem xr_of {φ φ' : Nat → Addr} {H : Hp} {k : Nat} {σ : L2.St} {env : Env} {a : Addr} {i c : Nat} {fs : List D} {dd : Option Addr} {w' : Wo} {S : Store} {cls : Value} (m : SimE w.K φ w.ex H k σ env) (he : w.ex = some (a, i, xdO xw c fs dd)) (hc : c < xw.n) (hD : xw.cA c = cls) (h1 : fldOk fs = true) (h2 : fs.length = (xw.fl c).length) (h3 : dd = none ↔ xw.fl c = []) : XR w' xw φ' H S c fs cls dd := by
  refine ⟨hc, hD.symm, h1, h2, ?_⟩
  cases dd with
  | none => exact .inl ⟨h3.mp rfl, rfl⟩
  | some d => exact .inr ⟨fun z => (by cases h3.mpr z), d, rfl, m.xd a i d _ he⟩
theorem Hx.hot {n : Nat} {sl : Option Nat} (h : Hx w xw p n C sl X) : L2H.HotC X := by
  obtain ⟨a, oe, i, c, D0, _, _, _, _, _, _, _, hp, hz, ⟨vs, hv⟩, _, hh, _⟩ := h.ex
  exact ⟨(a, oe), ⟨hh, vs, hv, hz.2.2 vs hv⟩, hp⟩
section
variable {e t : Expr} {x : Exp} {pos q q1 q2 : Pos} {n : Nat} {sl : Option Nat}
/-- the name of the exception -/
theorem pe_exn {i : Nat} {y : Str} (hN : X.N[i]? = some y) (hv : Vis X.env.scope y) (h : okName y = true) : PE X (.Name y pos) (tVar i) := pe_var hN hv (okName_ok h).1 (okName_ok h).2.1
theorem pe_tst {k : Nat} {x : Str} {cv : Value} (h : TstOk xw X.K X.mg p k x cv) (hg : Gl X x) (hn : okName x = true) : ∃ v, PE X (.Name x pos) (tC v) ∧ ClsV v cv := by
  rcases h.nm with ⟨a, rfl, hm⟩ | ⟨T, rfl, hm, hb⟩
  · exact ⟨.ref a, pe_glob hg hm rfl (okName_ok hn).1, .own a⟩
  · exact ⟨.ty T, pe_bltn hg hm hb rfl (okName_ok hn).2.2 (okName_ok hn).1, .ty T⟩
theorem se_isX {i k : Nat} {y x : Str} {cv : Value} (hK : w.K = X.K) (hx : Hx w xw p n C sl X) (hs : sl = some i) (hC : C.Cl = p.Cl) (gl : Gl X "isinstance") (hm : X.mg "isinstance" = none) (hN : X.N[i]? = some y) (hv : Vis X.env.scope y) (hy : okName y = true)
    (ht : TstOk xw X.K X.mg p k x cv) (hg : Gl X x) (hn : okName x = true) : PE X (.Call (.Name "isinstance" q) [.Name y q1, .Name x q2] [] pos) (tE w xw C W (.isX [k])) := by
  obtain ⟨v, hpe, hcv⟩ := pe_tst (pos := q2) ht hg hn
  obtain ⟨a, oe, i', c, D0, fs0, dd, he, hs', hc, hcn, hD, hp, hz, hf, hE, _⟩ := hx.ex
  rw [hs] at hs'
  cases hs'
  refine peI (cb2 (cr_isX hE hp hz.zc hf) gl hm bb_isi (pe_exn hN hv hy) hpe (by decide) rfl rfl) fun σ H Q ⟨φ, env, S, m, g⟩ => ?_
  refine ⟨.ref a, m.e.xs a i _ he, xdAt_of m.e he, v, cv, ?_⟩
  obtain ⟨bs, hb, hk, _⟩ := ht.kit c hcn
  have g : Rg w xw W σ (RE w) φ S H (match C.exn with
    | some (c, _) => (match C.Cl[c]? with
      | some bs => .ok (.bl ([k].any fun k => bs.contains k)) S
      | none => .bad)
    | none => .bad) Q := g
  rw [hc] at g
  dsimp only at g
  rw [hC, hb] at g
  rw [hD] at hk
  refine ⟨bs.contains k, rfl, fun u r => hcv.eq r, hk, ?_⟩
  have g : Rg w xw W σ (RE w) φ S H (.ok (.bl (bs.contains k || false)) S) Q := g
  rw [Bool.or_false] at g
  exact fBl g m.o
theorem se_anyH (hK : w.K = X.K) (hx : Hx w xw p n C sl X) (gl : Gl X "any") (hm : X.mg "any" = none) (ha : PE X e (tE w xw C W x)) (h1 : okX e = true) (cr : CallR X (.builtin "any") (rAny X.K)) : PE X (.Call (.Name "any" q) [e] [] pos) (tE w xw C W (.anyH x)) :=
  peI (cb1 cr gl hm bb_any ha (by decide) h1) fun σ H Q ⟨φ, env, S, m, g⟩ => by
    refine tE.then m g fun v d S1 φ1 H1 l1 m1 r1 g => ?_
    obtain ⟨bs, hb, g2⟩ := g.ofb
    obtain ⟨k, rfl⟩ : ∃ k, d = .obj k := by cases d <;> first | exact ⟨_, rfl⟩ | (cases hb; done)
    simp only [lbls] at hb
    split at hb
    · rename_i ys en
      obtain ⟨vs, h2, r2⟩ := m1.o.ob k _ en
      have e2 := bls_of r2 hb
      subst e2
      cases r1.1
      exact ⟨φ1 k, bs, rfl, SqL.of h2, fBl g2 m1.o⟩
    · cases hb
theorem cx_never {P : Program} {wd : World} {outer : List PySem.Env} {H : Hp} {s s' : Shared} {u : Value} (h : L2N.CX P wd outer H s (fun _ _ _ => False) u s') : False := by
  obtain ⟨_, _, _, _, _, _, _, _, _, _, _, _, z⟩ := h
  exact z
/-- f(e) -/
theorem se_hot {i j : Nat} {y x z : Str} {f : Addr} {fd : FuncData} (hK : w.K = X.K) (hx : Hx w xw p n C sl X) (hs : sl = some i) (hC : ∀ ex, C.Φ ex = den p n ex) (hg : Gl X x) (hn : okName x = true) (hN : X.N[i]? = some y) (hv : Vis X.env.scope y) (hy : okName y = true)
    (hmg : X.mg x = some (.ref f)) (hk : PySem.W.keepIn X.K (.ref f) = true) (F : FnHp X.prog X.w X.K X.mg X.base (L2N.CX X.prog X.w) n f fd [z] (spX ⟨X.K, none⟩ xw p n j)) (hb : Binds X.K fd [z] []) :
    PE X (.Call (.Name x q) [.Name y q1] [] pos) (tE w xw C W (.hot j)) := by
  obtain ⟨a, oe, i', c, D0, fs0, dd, he, hs', hc, hcn, hD, hp, hz, ⟨vs, hvs⟩, hE, hh, hfo, hfl, hdn, _⟩ := hx.ex
  rw [hs] at hs'
  cases hs'
  refine ⟨fun pins s σ H Q I ⟨φ, env, S, m, g⟩ => ?_⟩
  have ha : PA X [.Name y q1] (tCons (tVar i) tNil) := pa_cons (pe_exn hN hv hy) pa_nil rfl
  refine wpAny_Call_Name_kw (ld_glob I hg hmg ?_ (okName_ok hn).1)
  refine PySem.W.callWith_K (h₀ := X.base) I.ok.mod.kin hk (thn (ha.run pos pins s σ H (fun xs H1 => xs = [.ref a] ∧ H1 = H) I ⟨.ref a, m.e.xs a i _ he, rfl, rfl⟩) fun us s1 ⟨xs, H1, I1, r, ex, eH⟩ => ⟨I1.kIn, ?_⟩) rfl rfl
  subst ex eH
  have hl : us.length = 1 := r.length.symm
  have b := hb s1 us I1.kIn (by rw [List.append_nil]; exact hl)
  rw [List.append_nil] at b
  have P1 := I1.pin (a, oe) (List.mem_append_left _ hp)
  have hpin : L2H.PinOk X.stack H1 s1 (a, oe) := ⟨P1.1, P1.2.1, fun hm => (List.mem_cons.mp (I1.stkSub a hm)).elim P1.2.2.1 P1.2.2.2.1, P1.2.2.2.2⟩
  have g : Rg w xw W σ (RE w) φ S H1 (if C.exn.isSome then (match C.Φ C.exn j [] S with
    | .ok d S => .ok d S
    | _ => .bad) else .bad) Q := g
  rw [hc] at g
  have g : Rg w xw W σ (RE w) φ S H1 (match C.Φ (some (c, fs0)) j [] S with
    | .ok d S => .ok d S
    | _ => .bad) Q := g
  rw [hC] at g
  have sp0 : spX ⟨X.K, none⟩ xw p n j a (.ref D0) dd [.ref a] H1 (fun v H' => ∃ φ' S' d, SimO w.K φ' w.ex H' S' ∧ RE w φ' H' S' v d ∧ Q v H') (fun _ _ _ => False) := by
    refine ⟨rfl, c, fs0, φ, S, xr_of m.e he hcn hD hfo hfl hdn, hK ▸ so_ex m.o, ?_⟩
    cases e : den p n (some (c, fs0)) j [] S with
    | bad => rw [e] at g; exact g
    | exc c' fs S' => rw [e] at g; exact g.elim
    | ok d S' =>
      rw [e] at g
      intro v φ' H' l so rv
      have so' : SimO w.K φ' w.ex H' S' := hK ▸ so_ex so
      have rv' : RE w φ' H' S' v d := ⟨hK ▸ rp_ex rv.1, rv.2⟩
      exact ⟨φ', S', d, so', rv', g v φ' H' l so' rv'⟩
  refine wpAny_call (codeAny_mono (F.run X.A X.stack s1 H1 ⟨us, []⟩ us [.ref a] _ _ (a, oe) (.ref D0) dd hx.un ⟨hh, vs, hvs, hz.2.2 vs hvs⟩ hpin hz I1.env0 b r sp0) fun rr s' hq => ?_)
  cases rr with
  | error e => exact (cx_never hq).elim
  | ok fl => cases fl with
    | ret u =>
      obtain ⟨v, H', Iv, rvu, _, _, _, _, _, qv⟩ := I1.after hq
      exact ⟨v, H', Iv, rvu, qv⟩
    | next => exact False.elim hq
    | brk => exact False.elim hq
    | cont => exact False.elim hq
/-- e.f -/
theorem fld_at {c : Nat} {fs : List D} {f : Str} {k : Nat} {d : D} (h1 : fldOk fs = true) (hN : (xw.fl c).Nodup) (hf : (xw.fl c)[k]? = some f) (hd : fs[k]? = some d) : ∃ i : Int, d = .int i ∧ ((xw.fl c).zip (fs.map vI)).reverse.lookup f = some (.int i) := by
  have hm := List.mem_of_getElem? hd
  have := List.all_eq_true.mp h1 d hm
  obtain ⟨i, rfl⟩ : ∃ i, d = .int i := by cases d <;> first | exact ⟨_, rfl⟩ | cases this
  refine ⟨i, rfl, ?_⟩
  have e : (fs.map vI)[k]? = some (.int i) := by rw [List.getElem?_map, hd]; rfl
  generalize xw.fl c = l at hN hf
  generalize fs.map vI = vs at e
  clear hm this h1 hd
  induction l generalizing k vs with
  | nil => cases hf
  | cons x r ih => cases vs with
    | nil => cases e
    | cons v t =>
      rw [List.zip_cons_cons, List.reverse_cons, List.lookup_append]
      cases k with
      | zero =>
        cases hf
        cases e
        have : (r.zip t).reverse.lookup f = none := by
          cases z : (r.zip t).reverse.lookup f with
          | none => rfl
          | some u =>
            have := PySem.mem_of_lookup z
            exact absurd (List.of_mem_zip (List.mem_reverse.mp this)).1 (List.nodup_cons.mp hN).1
        rw [this]
        simp [List.lookup]
      | succ k =>
        rw [ih (List.nodup_cons.mp hN).2 (by simpa using hf) t (by simpa using e)]
        rfl
theorem se_xf {k : Nat} {cs : List Nat} {y f : Str} {i : Nat} (hK : w.K = X.K) (hx : Hx w xw p n C sl X) (hs : sl = some i) (hN : X.N[i]? = some y) (hv : Vis X.env.scope y) (hy : okName y = true) (hfl : ∀ c ∈ cs, c < xw.n → (xw.fl c).Nodup ∧ (xw.fl c)[k]? = some f) (hb : attributeBase (.Name y q) f X.env (eval (.Name y q) X.env) = eval (.Name y q) X.env) :
    PE X (.Attribute (.Name y q) f pos) (tE w xw C W (.xf cs k)) := by
  obtain ⟨a, oe, i', c, D0, fs0, dd, he, hs', hc, hcn, hD, hp, hz, hf, hE, hh, hfo, hl, hdn, hno⟩ := hx.ex
  rw [hs] at hs'
  cases hs'
  refine ⟨fun pins s σ H Q I ⟨φ, env, S, m, g⟩ => ?_⟩
  refine attr_of hb (thn ((pe_exn hN hv hy).run pins s σ H (fun x H1 => x = .ref a ∧ H1 = H) I ⟨.ref a, m.e.xs a i _ he, rfl, rfl⟩) fun u s1 hh => ?_)
  obtain ⟨x, H1, I1, rx, ex, eH⟩ := hh
  subst ex eH
  obtain rfl : u = Value.ref a := rx
  have g : Rg w xw W σ (RE w) φ S H1 (match C.exn with
    | some (c, fs) => if cs.contains c then Res.of fs[k]? S else .bad
    | none => .bad) Q := g
  rw [hc] at g
  obtain ⟨hcs, g⟩ := Rg.ite (c := cs.contains c = true) g
  obtain ⟨h1, h2⟩ := hfl c (by simpa using hcs) hcn
  obtain ⟨d, hd, g⟩ := Rg.of g
  obtain ⟨v, rfl, hlk⟩ := fld_at hfo h1 h2 hd
  cases dd with
  | none =>
    rw [hdn.mp rfl] at h2
    cases h2
  | some dx =>
    have hxd := m.e.xd a i dx _ he
    obtain ⟨ha, _⟩ := I1.pin (a, oe) (List.mem_append_left _ hp)
    obtain ⟨vs, hvs⟩ := hf
    have hx2 : ObjOk X.prog X.w H1 s1.heap dx (.xd ((xw.fl c).zip (fs0.map vI)).reverse) := I1.hok dx _ hxd
    obtain ⟨mA, hns, hr⟩ := hx2
    obtain ⟨od, ho, hlo⟩ := lookIn_ns hns
    obtain ⟨u, hu, ru⟩ := RelO.some_of (v := .int v) (o := mA f) (by rw [← hlk]; exact hr f)
    have J : PySem.W.InstAt s1.heap a oe D0 (some od) := ⟨ha, hz.1, by unfold PySem.W.notCls; rw [hvs] <;> rfl, by rw [hz.2.1]; exact ho⟩
    exact HandSPX.exc_get I1.kIn J hE.hg hE.hk hE.hs (PySem.W.findObj_own hE.hd (hno f (List.mem_of_getElem? h2)) rfl (by rw [hlo, hu])) (handed_of ru) ⟨.int v, H1, I1.tok _, ru, g.fin m.o ⟨.int v, rfl⟩⟩
end
end Pw
end
section
set_option Elab.async false
set_option linter.all false
set_option maxRecDepth 100000
set_option maxHeartbeats 2000000
set_option autoImplicit false
/-! Pw18c: dict displays, the keys of a dict in order -/
namespace Pw
open PySem PySem.Spec PyProof.Rows L2
variable {w : Wo} {xw : Xw} {C : Ctx} {W : WX} {X : Cx} {p : Prg}
def trP (w : Wo) (xw : Xw) (C : Ctx) (W : WX) : List Exp → List (TE × TE)
  | k :: v :: r => (tE w xw C W k, tE w xw C W v) :: trP w xw C W r
  | _ => []
def flatP : List (V × V) → List V
  | [] => []
  | (a, b) :: r => a :: b :: flatP r
theorem pairs_rd {σ : L2.St} : ∀ (es : List Exp) {H : Hp} {Q : List (V × V) → Hp → Prop}, es.length % 2 = 0 → tEs w xw C W es σ H (fun vs H2 => ∀ ps, flatP ps = vs → Q ps H2) → tPairs (trP w xw C W es) σ H Q
  | [], H, Q, _, ⟨φ, env, S, m, g⟩ => Rg.fin (a := ([] : List D)) (b := ([] : List V)) g m.o ⟨.nil, rfl⟩ [] rfl
  | [_], H, Q, h, _ => by simp at h
  | k :: v :: r, H, Q, h, ⟨φ, env, S, m, g⟩ => by
    refine tE.then m g fun a d S1 φ1 H1 l1 m1 r1 g => ?_
    have g : Rg w xw W σ (REs w) φ1 S1 H1 (((evE C v env S1).bind fun x S => (evEs C r env S).bind fun xs S => .ok (x :: xs) S).bind fun xs S => .ok (d :: xs) S) (fun vs H2 => ∀ ps, flatP ps = vs → Q ps H2) := g
    have e : (((evE C v env S1).bind fun x S => (evEs C r env S).bind fun xs S => Res.ok (x :: xs) S).bind fun xs S => Res.ok (d :: xs) S) = (evE C v env S1).bind fun x S => (evEs C r env S).bind fun xs S => .ok (d :: x :: xs) S := by
      cases evE C v env S1 with
      | ok x S => show ((evEs C r env S).bind _).bind _ = (evEs C r env S).bind _; cases evEs C r env S <;> rfl
      | _ => rfl
    rw [e] at g
    refine tE.then m1 g fun b d2 S2 φ2 H2 l2 m2 r2 g => ?_
    refine pairs_rd (Q := fun ps H2 => Q ((a, b) :: ps) H2) r (by simp only [List.length_cons] at h; omega) (tEs.then m2 g fun vs ds S3 φ3 H3 l3 m3 r3 g => fun ps hps => ?_)
    subst hps
    refine Rg.fin (a := d :: d2 :: ds) (b := a :: b :: flatP ps) g m3.o ?_ ((a, b) :: ps) rfl
    exact ⟨.cons (r1.lat (l2.trans l3)).1 (.cons (r2.lat l3).1 r3.1), by
      show (D.bel S3.length d && (D.bel S3.length d2 && D.bels S3.length ds)) = true
      rw [(r1.lat (l2.trans l3)).2, (r2.lat l3).2, r3.2]; rfl⟩
theorem pairsD_rd {K : PySem.W.Frag} {φ : Nat → Addr} {ex : Ex1} {H : Hp} {n : Nat} : ∀ {ds : List D} {ps : List (V × V)} {m : List (D × D)}, RpA K φ ex H (flatP ps) ds → pairsD ds = some m → D.bels n ds = true →
    ∃ kvs : List (Key × V), ps = kvs.map (fun kv => (kV kv.1, kv.2)) ∧ m.map (·.1) = kvs.map (fun kv => keyD kv.1) ∧ RpA K φ ex H (kvs.map (·.2)) (m.map (·.2)) ∧ D.bels n (m.map (·.1)) = true ∧ D.bels n (m.map (·.2)) = true
  | [], [], m, _, h, _ => by cases h; exact ⟨[], rfl, rfl, .nil, rfl, rfl⟩
  | [], _ :: _, m, r, h, _ => by cases r
  | [d], ps, m, r, h, _ => by cases h
  | d :: e :: ds, [], m, r, h, _ => by cases r
  | d :: e :: ds, (a, b) :: ps, m, r, h, hb => by
    cases r with
    | cons q1 r => cases r with
      | cons q2 r =>
        have h : (if isKey d then (pairsD ds).map ((d, e) :: ·) else none) = some m := h
        split at h
        · rename_i hk
          obtain ⟨m', hm, rfl⟩ := Option.map_eq_some_iff.mp h
          simp only [D.bels, Bool.and_eq_true] at hb
          obtain ⟨kvs, e1, e2, e3, e4, e5⟩ := pairsD_rd r hm hb.2.2
          obtain ⟨k, hk1, hk2⟩ : ∃ k : Key, d = keyD k ∧ a = kV k := by
            cases d <;> first | (cases hk; done) | skip
            · cases q1; exact ⟨.inl _, rfl, rfl⟩
            · obtain ⟨z, rfl, rfl⟩ := rp_inv q1; exact ⟨.inr z, rfl, rfl⟩
          subst hk1 hk2 e1
          refine ⟨(k, b) :: kvs, rfl, by simp [e2], .cons q2 e3, ?_, ?_⟩
          · simp only [List.map_cons, D.bels, hb.1, e4, Bool.true_and]
          · simp only [List.map_cons, D.bels, hb.2.1, e5, Bool.true_and]
        · cases h
theorem merge_rel {K : PySem.W.Frag} {φ : Nat → Addr} {ex : Ex1} {H : Hp} {n : Nat} : ∀ {more : List (Key × V)} {m : List (D × D)} {kvs : List (D × D)} {ws : List (Key × V)}, m.map (·.1) = more.map (fun kv => keyD kv.1) → RpA K φ ex H (more.map (·.2)) (m.map (·.2)) →
    D.bels n (m.map (·.1)) = true → D.bels n (m.map (·.2)) = true → (SO.dct kvs).bel n = true →
    RpA K φ ex H (ws.map fun p => kV p.1) (kvs.map (·.1)) → RpA K φ ex H (ws.map (·.2)) (kvs.map (·.2)) → (ws.map (·.1)).Nodup →
    RpA K φ ex H ((mergeK ws more).map fun p => kV p.1) ((m.foldl (fun m p => putD p.1 p.2 m) kvs).map (·.1)) ∧ RpA K φ ex H ((mergeK ws more).map (·.2)) ((m.foldl (fun m p => putD p.1 p.2 m) kvs).map (·.2)) ∧ ((mergeK ws more).map (·.1)).Nodup ∧ (SO.dct (m.foldl (fun m p => putD p.1 p.2 m) kvs)).bel n = true
  | [], [], _, _, _, _, _, _, b, r1, r2, nd => ⟨r1, r2, nd, b⟩
  | [], _ :: _, _, _, e, _, _, _, _, _, _, _ => by simp at e
  | _ :: _, [], _, _, e, _, _, _, _, _, _, _ => by simp at e
  | (k, v) :: more, (dk, dv) :: m, kvs, ws, e, rv, b1, b2, b, r1, r2, nd => by
    simp only [List.map_cons, List.cons.injEq] at e
    obtain ⟨rfl, e⟩ := e
    simp only [List.map_cons, D.bels, Bool.and_eq_true] at b1 b2
    cases rv with
    | cons q rv =>
      obtain ⟨i1, i2, i3, _⟩ := put_rel (k := k) q r1 r2 nd
      exact merge_rel (more := more) (m := m) (kvs := putD (keyD k) dv kvs) (ws := putK ws k v) e rv b1.2 b2.2 (bels_putD b1.1 b2.1 b) i1 i2 i3
theorem dct_rd {es : List Exp} {σ : L2.St} {H : Hp} {Q : VK} (h2 : es.length % 2 = 0) (q : tE w xw C W (.dct es) σ H Q) (pp : Addr) (hp : H pp = none) :
    tPairs (trP w xw C W es) σ (upd H pp (.dK [])) fun ps H2 => H2 pp = some (.dK []) ∧ ∃ kvs : List (Key × V), ps = kvs.map (fun kv => (kV kv.1, kv.2)) ∧ kvs.length ≤ 15 ∧ Q (.ref pp) (upd H2 pp (.dK (mergeK [] kvs))) := by
  obtain ⟨φ, env, S, m, g⟩ := q
  have l0 : Lat φ φ S S H (upd H pp (.dK [])) := Lat.newT hp
  have m0 := m.lat l0 (m.o.new hp)
  have g : Rg w xw W σ (RE w) φ S H ((evEs C es env S).bind fun ds S => (match pairsD ds with
    | some m => if ds.length ≤ 30 then .ok (.obj S.length) (.dct (m.foldl (fun m p => putD p.1 p.2 m) []) :: S) else .bad
    | none => .bad)) Q := g
  refine pairs_rd es h2 ⟨φ, env, S, m0, ?_⟩
  cases e : evEs C es env S with
  | bad => rw [e] at g; exact g
  | exc c fs S' => rw [e] at g; exact fun φ' H' cls dd l so x => g φ' H' cls dd (l0.trans l) so x
  | ok ds S' =>
    rw [e] at g
    intro vs φ' H' l so r ps hps
    subst hps
    have hpp : H' pp = some (.dK []) := l.fr pp _ upd_same fun n hn => m.o.ne hp n hn
    refine ⟨hpp, ?_⟩
    have g : Rg w xw W σ (RE w) φ S H (match pairsD ds with
      | some m => if ds.length ≤ 30 then .ok (.obj S'.length) (.dct (m.foldl (fun m p => putD p.1 p.2 m) []) :: S') else .bad
      | none => .bad) Q := g
    cases em : pairsD ds with
    | none => rw [em] at g; exact g.elim
    | some mm =>
      rw [em] at g
      obtain ⟨h30, g⟩ := Rg.ite (c := ds.length ≤ 30) g
      obtain ⟨kvs, rfl, e2, e3, e4, e5⟩ := pairsD_rd r.1 em r.2
      have hlen : kvs.length ≤ 15 := by
        have h1 := r.1.length
        have h3 : ∀ l : List (Key × V), (flatP (l.map fun kv => (kV kv.1, kv.2))).length = 2 * l.length := fun l => by
          induction l with
          | nil => rfl
          | cons q l ih => simp only [List.map_cons, flatP, List.length_cons, ih]; omega
        rw [h3] at h1
        omega
      refine ⟨kvs, rfl, hlen, ?_⟩
      have hn : ∀ n, n < S'.length → φ' n ≠ pp := fun n hn z => by
        by_cases hs : n < S.length
        · rw [l.same n hs] at z; exact m.o.ne hp n hs z
        · have := l.nw n (by omega) hn
          rw [z, upd_same] at this; cases this
      have kp : Kp H' (upd H' pp (.dK (mergeK [] kvs))) := Kp.set hpp trivial
      obtain ⟨i1, i2, i3, i4⟩ := merge_rel (n := S'.length) (kvs := []) (ws := []) e2 e3 e4 e5 rfl .nil .nil List.nodup_nil
      have so2 : SimO w.K φ' w.ex (upd H' pp (.dK (mergeK [] kvs))) S' := so.heap kp fun n o en _ u eu => by rw [upd_ne (hn n (get_lt en))]; exact eu
      have l2 : Lat φ φ' S S' H (upd H' pp (.dK (mergeK [] kvs))) := by
        have l7 := l0.trans l
        refine ⟨l7.le, l7.same, l7.kp.trans kp, fun a o ha hna => ?_, l7.nw, fun a ha => l7.no a (by
          by_cases z : a = pp
          · rw [z, upd_same] at ha; cases ha
          · rw [upd_ne z] at ha; exact ha)⟩
        have : a ≠ pp := fun z => by rw [z, hp] at ha; cases ha
        rw [upd_ne this]
        exact l7.fr a o ha hna
      have i4' := i4
      simp only [SO.bel, Bool.and_eq_true] at i4'
      obtain ⟨φ3, l3, e6, so3⟩ := so2.adoptO l2 hp (q0 := .dct (mm.foldl (fun m p => putD p.1 p.2 m) [])) ⟨mergeK [] kvs, upd_same, i1.mono i4'.1 (fun _ _ => rfl) kp, i2.mono i4'.2 (fun _ _ => rfl) kp, i3⟩ hn i4
      refine g _ φ3 _ l3 so3 ⟨?_, ?_⟩
      · rw [← e6]; exact .obj _
      · show Nat.blt S'.length (S'.length + 1) = true
        exact Nat.ble_eq_true_of_le (Nat.le_refl _)
end Pw
namespace Pw
open PySem PySem.Spec PyProof.Rows L2
variable {w : Wo} {xw : Xw} {C : Ctx} {W : WX} {X : Cx}
section
variable {e a : Expr} {x : Exp} {es : List Exp} {pos p : Pos}
theorem se_dct0 : PE X (.Dict [] [] pos) (tE w xw C W (.dct [])) := peI pe_dnewK fun σ H Q q pp hp => by
  obtain ⟨_, kvs, e1, _, g⟩ := dct_rd rfl q pp hp
  have : kvs = [] := by
    cases kvs with
    | nil => rfl
    | cons q l => simp at e1
  subst this
  rw [upd_upd] at g
  exact g
theorem se_dct {keys : List (Option Expr)} {vals : List Expr} (h : PPs X pos keys vals (trP w xw C W es)) (h2 : es.length % 2 = 0) (hall : keys.all (·.isSome) = true) (hl : keys.length = vals.length) (h0 : keys ≠ []) (h15 : keys.length ≤ 15) : PE X (.Dict keys vals pos) (tE w xw C W (.dct es)) :=
  peI (pe_disp h hall hl h0 h15) fun σ H Q q pp hp => dct_rd h2 q pp hp
/-- the keys of a dict -/
theorem keys_of {φ : Nat → Addr} {H : Hp} : ∀ {kvs : List (D × D)} {ws : List (Key × V)}, RpA w.K φ w.ex H (ws.map fun p => kV p.1) (kvs.map (·.1)) → kvs.map (·.1) = ws.map fun p => keyD p.1
  | [], [], _ => rfl
  | [], _ :: _, r => by cases r
  | _ :: _, [], r => by cases r
  | (a, b) :: r, (k, v) :: t, h => by
    cases h with
    | cons q h =>
      simp only [List.map_cons]
      have q' : a = keyD k := rp_key q
      rw [keys_of h, q']
theorem strs_keys : ∀ {ks : List Key} {ts : List (List Nat)}, strsD (ks.map keyD) = some ts → ∃ ys : List Str, ks = ys.map Sum.inr ∧ ts = ys.map fun y => y.cps.toList
  | [], _, h => by cases h; exact ⟨[], rfl, rfl⟩
  | .inl i :: ks, _, h => by cases h
  | .inr y :: ks, ts, h => by
    obtain ⟨ts', h1, rfl⟩ := Option.map_eq_some_iff.mp (show (strsD (ks.map keyD)).map (y.cps.toList :: ·) = some ts from h)
    obtain ⟨ys, rfl, rfl⟩ := strs_keys h1
    exact ⟨y :: ys, rfl, rfl⟩
theorem ints_keys : ∀ {ks : List Key} {ns : List Int}, intsD (ks.map keyD) = some ns → ks = ns.map Sum.inl
  | [], _, h => by cases h; rfl
  | .inr i :: ks, _, h => by cases h
  | .inl y :: ks, ns, h => by
    obtain ⟨ns', h1, rfl⟩ := Option.map_eq_some_iff.mp (show (intsD (ks.map keyD)).map (y :: ·) = some ns from h)
    rw [ints_keys h1]; rfl
theorem se_sortedK (hK : w.K = X.K) (hc : X.calm = true) (gl : Gl X "sorted") (hm : X.mg "sorted" = none) (ha : PE X a (tE w xw C W x)) (h1 : okX a = true) : PE X (.Call (.Name "sorted" p) [a] [] pos) (tE w xw C W (.sorted (.keys x))) :=
  peI (cb1 (r := fun xs H Q => (∃ (a : Addr) (kvs : List (Key × V)) (ks : List Str), xs = [.ref a] ∧ Rd H a (.dK kvs) ∧ kvs.map (·.1) = ks.map Sum.inr ∧ ks.length < 64 ∧ ∀ ys p, ys.Perm ks → sortedS ys = true → H p = none → Q (.ref p) (upd H p (.lst (ys.map V.str)))) ∨
    (∃ (a : Addr) (kvs : List (Key × V)) (ks : List Int), xs = [.ref a] ∧ Rd H a (.dK kvs) ∧ kvs.map (·.1) = ks.map Sum.inl ∧ ks.length < 64 ∧ ∀ (ys : List Int) (p : Addr), ys.Perm ks → ys.Pairwise (· ≤ ·) → H p = none → Q (.ref p) (upd H p (.lst (ys.map V.int)))))
    (fun pins s σ H xs us Q I r h => h.elim (call_sortedD hc pins s σ H xs us Q I r) (call_sortedDI hc pins s σ H xs us Q I r)) gl hm bb_sorted ha (by decide) h1) fun σ H Q ⟨φ, env, S, m, g⟩ => by
    have g : Rg w xw W σ (RE w) φ S H (((evE C x env S).bind fun x S => Res.of ((keysD x S).map fun xs => (xs, (none : Option Nat))) S).bind fun p S => (match sortD p.1 with
      | some ys => .ok (.obj S.length) (.lst ys :: S)
      | none => .bad)) Q := g
    have e : (((evE C x env S).bind fun x S => Res.of ((keysD x S).map fun xs => (xs, (none : Option Nat))) S).bind fun p S => (match sortD p.1 with
      | some ys => Res.ok (D.obj S.length) (.lst ys :: S)
      | none => .bad)) = (evE C x env S).bind fun x S => (Res.of ((keysD x S).map fun xs => (xs, (none : Option Nat))) S).bind fun p S => (match sortD p.1 with
      | some ys => .ok (.obj S.length) (.lst ys :: S)
      | none => .bad) := by cases evE C x env S <;> rfl
    rw [e] at g
    refine tE.then m g fun v d S1 φ1 H1 l1 m1 r1 g => ?_
    obtain ⟨q, hq, g2⟩ := g.ofb
    obtain ⟨ds, hd, rfl⟩ := Option.map_eq_some_iff.mp hq
    obtain ⟨k, rfl⟩ : ∃ k, d = .obj k := by cases d <;> first | exact ⟨_, rfl⟩ | (cases hd; done)
    simp only [keysD] at hd
    split at hd
    · rename_i kvs en
      split at hd
      · rename_i h64
        cases hd
        obtain ⟨ws, hH, k1, k2, nd⟩ := m1.o.ob k _ en
        cases r1.1
        have ek := keys_of k1
        have hlw : ws.length = kvs.length := by have := k2.length; simpa using this
        dsimp only at g2
        rw [ek] at g2
        have ek2 : (ws.map fun p => keyD p.1) = (ws.map (·.1)).map keyD := by rw [List.map_map]; rfl
        rw [ek2] at g2
        cases ei : intsD ((ws.map (·.1)).map keyD) with
        | some ns =>
          have es : sortD ((ws.map (·.1)).map keyD) = some ((ns.mergeSort fun a b => decide (a ≤ b)).map .int) := by unfold sortD; rw [ei]
          rw [es] at g2
          have hk := ints_keys ei
          have hl : ns.length < 64 := by have := congrArg List.length hk; simp only [List.length_map] at this; omega
          refine .inr ⟨φ1 k, ws, ns, rfl, .inl hH, hk, hl, fun ns' p h2 h3 hp => ?_⟩
          rw [sort_ints h2 h3]
          refine Rg0.lst g2.g0 m1.o ?_ (bels_map fun _ => rfl) hp
          generalize (ns.mergeSort fun a b => decide (a ≤ b)) = l
          induction l with
          | nil => exact .nil
          | cons n l ih => exact .cons (.int _) ih
        | none => cases e2 : strsD ((ws.map (·.1)).map keyD) with
          | none =>
            have es : sortD ((ws.map (·.1)).map keyD) = none := by unfold sortD; rw [ei, e2]
            rw [es] at g2
            exact g2.elim
          | some ts =>
            obtain ⟨ys, hk, rfl⟩ := strs_keys e2
            have hl : ys.length < 64 := by have := congrArg List.length hk; simp only [List.length_map] at this; omega
            have es : sortD ((ws.map (·.1)).map keyD) = some (((ys.map fun y => y.cps.toList).mergeSort leL).map .str) := by unfold sortD; rw [ei, e2]; dsimp only; rw [if_pos (by simpa using hl)]
            rw [es] at g2
            refine .inl ⟨φ1 k, ws, ys, rfl, .inl hH, hk, hl, fun ys' p h2 h3 hp => ?_⟩
            rw [← sort_strs h2 h3] at g2
            refine Rg0.lst g2.g0 m1.o ?_ (bels_map fun _ => rfl) hp
            rw [List.map_map]
            clear g2 h2 h3 g e
            induction ys' with
            | nil => exact .nil
            | cons n l ih => exact .cons (.str _) ih
      · cases hd
    · cases hd
end
end Pw
end
section
set_option Elab.async false
set_option linter.all false
set_option maxRecDepth 100000
set_option maxHeartbeats 2000000
set_option autoImplicit false
/-! Pw18d: x[::-1] -/
namespace Pw
open PySem PySem.Spec PyProof.Rows L2
section
variable {prog : Program} {wd : World} {A : Around} {E : Value → Shared → Prop} {s : Shared}
theorem places_down (n : Nat) : Builtin.Slice.slicePlaces ((n : Int) - 1) (-1) (-1) = n := by
  unfold Builtin.Slice.slicePlaces
  have h1 : ¬ ((-1 : Int) > 0) := by omega
  simp only [h1, if_false, show (- -1 : Int) = 1 by decide, Int.ediv_one]
  split <;> omega
theorem pick_down (xs : Array Value) : ((List.range xs.size).filterMap fun (k : Nat) => xs[(((xs.size : Int) - 1) + (k : Int) * (-1)).toNat]?).toArray = xs.toList.reverse.toArray := by
  have e : ((List.range xs.size).filterMap fun (k : Nat) => xs[(((xs.size : Int) - 1) + (k : Int) * (-1)).toNat]?) = ((List.range xs.size).map fun k => xs.size - 1 - k).filterMap (xs[·]?) := by
    rw [List.filterMap_map]
    have key : ∀ l : List Nat, (∀ k ∈ l, k < xs.size) → (l.filterMap fun (k : Nat) => xs[(((xs.size : Int) - 1) + (k : Int) * (-1)).toNat]?) = l.filterMap ((xs[·]?) ∘ fun k => xs.size - 1 - k) := fun l => by
      induction l with
      | nil => intro _; rfl
      | cons a l ih =>
        intro hl
        have ha := hl a List.mem_cons_self
        have e1 : (((xs.size : Int) - 1) + (a : Int) * (-1)).toNat = xs.size - 1 - a := by omega
        rw [List.filterMap_cons, List.filterMap_cons, ih fun k hk => hl k (List.mem_cons_of_mem _ hk), e1]
        rfl
    exact key _ fun k hk => List.mem_range.mp hk
  rw [e, PySem.W.krv_range, List.filterMap_reverse, PySem.W.krv_all]
theorem tuple_rev {t sl : Addr} {items : Array Value} {vl vu vs : Value} {Q : Value → Shared → Prop} (ht : IsTup s.heap t items) (hs : s.heap.IsSliceOf sl vl vu vs) (pl : IsPart vl none) (pu : IsPart vu none) (ps : IsPart vs (some (-1)))
    (h : Q (.ref s.heap.objs.size) { s with heap := s.heap.push { cls := .type "tuple", data := .seq items.toList.reverse.toArray } }) (hsz : items.size ≤ sizeLine) : wpAny (model prog wd) A (getItem (.ref t) (.ref sl)) Q E s := by
  have hok : sizeOk (.seq items.toList.reverse.toArray) := by
    show items.toList.reverse.toArray.size ≤ sizeLine
    simpa using hsz
  obtain ⟨os, k1, k2, k3⟩ := id hs
  have hT : s.TypeIs (.ref sl) "slice" := ⟨os, k1, k2⟩
  unfold getItem
  try with_reducible refine wpAny_holding ?_
  first | refine wpAny_bind (wpAny_pure ?_) | skip
  refine wpAny_bind (wpAny_sequenceKey ht.typeIs (by decide) (wpAny_bind (wpAny_callSpecial?_slot (name := Str.ofString "__getitem__") ht.typeIs PyProof.Rows.slot_tuple_getitem (wpAny_call_entry PyProof.Rows.slot_tuple_getitem ht.typeIs entry_tuple_getitem ?_ (args_tuple_getitem _ _)))))
  (show wpAny _ _ (Builtin.Tuple.tupleItemsOf (.ref t) >>= _) _ _ s; refine wpAny_bind (tupleItemsOf_ ht (wpAny_bind (wpAny_typeOf hT ?_))))
  rw [if_pos (by decide)]
  have app : ∀ {R : Int × Int × Nat → Shared → Prop}, R ((items.size : Int) - 1, -1, items.size) s → wpAny (model prog wd) A.in1 (Builtin.Slice.sliceApplied (.ref sl) (pure (items.size : Int))) R E s := fun {R} hR => by
    unfold Builtin.Slice.sliceApplied Builtin.Slice.sliceFields
    refine wpAny_bind (wpAny_bind (wpAny_field k1 k3 (x := vl) rfl (wpAny_bind (wpAny_field k1 k3 (x := vu) rfl (wpAny_bind (wpAny_field k1 k3 (x := vs) rfl (wpAny_pure ?_)))))))
    refine wpAny_bind (HT.slicePart_ ps ?_)
    (show wpAny _ _ (if ((-1 : Int) == 0) = true then _ else _) _ _ s; rw [if_neg (by decide)])
    refine wpAny_bind (HT.slicePart_ pl (wpAny_bind (HT.slicePart_ pu (wpAny_bind (wpAny_pure ?_)))))
    show wpAny _ _ (pure ((items.size : Int) - 1, (-1 : Int), Builtin.Slice.slicePlaces ((items.size : Int) - 1) (-1) (-1))) _ _ s
    rw [places_down]
    exact wpAny_pure hR
  refine wpAny_bind (app ?_)
  have hno : ¬ ((((items.size : Int) - 1) == 0 && (-1 : Int) == 1 && items.size == items.size) = true) := by simp
  show wpAny _ _ (if (((items.size : Int) - 1) == 0 && (-1 : Int) == 1 && items.size == items.size) = true then _ else _) _ _ s
  rw [if_neg hno, pick_down]
  first
    | exact wpAny_bind (m := Builtin.Tuple.tupleExact _) (wpAny_newObj_type (wpAny_pure ⟨_, rfl, wpAny_pure h⟩) hok)
    | exact wpAny_bind (wpAny_newObj_type (wpAny_pure ⟨_, rfl, wpAny_pure h⟩) hok)
end
end Pw
namespace Pw
open PySem PySem.Spec PyProof.Rows L2
variable {w : Wo} {xw : Xw} {C : Ctx} {W : WX} {X : Cx}
/-- x[::-1] of a list, a tuple -/
def tRev (K : PySem.W.Frag) (te : TE) : TE := fun σ H Q => te σ H fun x H1 => ∃ a xs, x = .ref a ∧ ((SqL K H1 a xs ∧ ∀ p, H1 p = none → Q (.ref p) (upd H1 p (.lst xs.reverse))) ∨ (SqT K H1 a xs ∧ ∀ p, H1 p = none → Q (.ref p) (upd H1 p (.tup xs.reverse))))
theorem pe_rev2 {e : Expr} {te : TE} {k : Nat} {p1 p2 p3 pos : Pos} (he : PE X e te) : PE X (.Subscript e (.Slice none none (some (.UnaryOp .USub (.Constant (.int 1) k p1) p2)) p3) pos) (tRev X.K te) := by
  refine ⟨fun pins s σ H Q I h => Subscript_ (thn (he.run pins s σ H _ I h) fun v s1 ⟨x, H1, I1, r1, a, xs, ex, hq⟩ => ?_)⟩
  subst ex
  cases r1
  have step : PO X (some (.UnaryOp .USub (.Constant (.int 1) k p1) p2)) (tPart (tUn (rU fun i => .int (-i)) (tC (.int 1)))) := po_some (pe_un un_neg pe_int)
  refine wpAny_Slice (thn (po_none.run pins s1 σ H1 (fun o H2 => o = none ∧ H2 = H1) I1 ⟨rfl, rfl⟩) fun vl s2 ⟨l, H2, I2, pl, e1, e2⟩ => ?_)
  subst e1 e2
  refine thn (po_none.run pins s2 σ H2 (fun o H3 => o = none ∧ H3 = H2) I2 ⟨rfl, rfl⟩) fun vu s3 ⟨u, H3, I3, pu, e1, e3⟩ => ?_
  subst e1 e3
  refine thn (step.run pins s3 σ H3 (fun o H4 => o = some (-1) ∧ H4 = H3) I3 ⟨1, rfl, -1, rfl, rfl, rfl⟩) fun vs s4 ⟨o, H4, I4, ps, e1, e4⟩ => ?_
  subst e1 e4
  have J : Inv X pins σ H4 { s4 with heap := s4.heap.push { cls := .type "slice", data := .fields #[vl, vu, vs] } } := I4.kept (t' := s4.toks) fun b ob q => Heap.get?_push_of_some _ q
  rcases hq with ⟨hx, q⟩ | ⟨hx, q⟩
  · obtain ⟨its, r, ht, hz⟩ := J.list hx
    have hlen := r.length
    refine tail_any (ops := [.ref a, .ref s4.heap.objs.size]) ht.isList.typeIs (PySem.slot_list_getitem.lookup) (wpAny_getItem_list_slice ht.isList (Heap.IsSliceOf.new _ vl vu vs) pl pu ps (by decide) ?_ (by rw [List.size_toArray]; omega)) (by with_unfolding_all rfl)
    rw [PySem.W.krv_pick]
    exact ⟨.ref _, _, J.laid (t' := s4.toks) (o := .lst xs.reverse) (fun b ob q => Heap.get?_push_of_some _ q) (Nat.le_refl _) ⟨by rw [List.length_reverse]; exact hz, _, 0, r.reverse, Heap.get?_push_size _ rfl⟩, rfl, q _ (J.hok.fresh (Nat.le_refl _))⟩
  · obtain ⟨its, r, ht, hz⟩ := J.tuple hx
    have hlen := r.length
    refine tail_any (ops := [.ref a, .ref s4.heap.objs.size]) ht.typeIs (PyProof.Rows.slot_tuple_getitem.lookup) (tuple_rev ht (Heap.IsSliceOf.new _ vl vu vs) pl pu ps ?_ (by rw [List.size_toArray]; omega)) (by with_unfolding_all rfl)
    exact ⟨.ref _, _, J.laid (t' := s4.toks) (o := .tup xs.reverse) (fun b ob q => Heap.get?_push_of_some _ q) (Nat.le_refl _) ⟨by rw [List.length_reverse]; exact hz, _, r.reverse, ⟨_, Heap.get?_push_size _ rfl, rfl, _, rfl⟩⟩, rfl, q _ (J.hok.fresh (Nat.le_refl _))⟩
theorem RpA.rev {K : PySem.W.Frag} {φ : Nat → Addr} {ex : Ex1} {H : Hp} {vs : List V} {ds : List D} (r : RpA K φ ex H vs ds) : RpA K φ ex H vs.reverse ds.reverse := r.reverse
theorem se_rev {e : Expr} {x : Exp} {k : Nat} {p1 p2 p3 pos : Pos} (hK : w.K = X.K) (he : PE X e (tE w xw C W x)) : PE X (.Subscript e (.Slice none none (some (.UnaryOp .USub (.Constant (.int 1) k p1) p2)) p3) pos) (tE w xw C W (.rev x)) :=
  peI (pe_rev2 he) fun σ H Q ⟨φ, env, S, m, g⟩ => by
    refine tE.then m g fun v d S1 φ1 H1 l1 m1 r1 g => ?_
    obtain ⟨r1, b1⟩ := r1
    cases d with
    | tup ds =>
      have hb : D.bels S1.length ds = true := by simpa [D.bel] using b1
      cases r1 with
      | tup h1 rr =>
        refine ⟨_, _, rfl, .inr ⟨hK ▸ h1, fun p hp => ?_⟩⟩
        exact Rg0.tup g.g0 m1.o rr.reverse (bels_all.mpr fun d hd => bels_all.mp hb d (List.mem_reverse.mp hd)) hp
    | obj n =>
      have g2 : Rg w xw W σ (RE w) φ1 S1 H1 (match get S1 n with
        | some (.lst xs) => .ok (.obj S1.length) (.lst xs.reverse :: S1)
        | _ => .bad) Q := g
      cases r1
      split at g2
      · rename_i xs en
        obtain ⟨vs, h1, rr⟩ := m1.o.ob n _ en
        have hb : D.bels S1.length xs = true := m1.o.wf n _ en
        refine ⟨_, vs, rfl, .inl ⟨SqL.of h1, fun p hp => ?_⟩⟩
        exact Rg0.lst g2.g0 m1.o rr.reverse (bels_all.mpr fun d hd => bels_all.mp hb d (List.mem_reverse.mp hd)) hp
      · exact g2.elim
    | _ => exact g.elim
end Pw
end
section
set_option Elab.async false
set_option linter.all false
set_option maxRecDepth 100000
set_option maxHeartbeats 2000000
set_option autoImplicit false
/-! Pw18e: comprehensions of two clauses -/
namespace Pw
open PySem PySem.Spec PyProof.Rows L2
variable {w : Wo} {xw : Xw} {C : Ctx} {W : WX} {X : Cx}
/-- the list that grows: where it stands, what it holds -/
structure Acc (w : Wo) (φ1 : Nat → Addr) (S1 : Store) (H1 : Hp) (Lp : Addr) (φ2 : Nat → Addr) (S2 : Store) (H2 : Hp) (vs : List V) (acc : List D) : Prop where
  lat : Lat φ1 φ2 S1 S2 H1 H2
  so : SimO w.K φ2 w.ex H2 S2
  at_ : H2 Lp = some (.lst vs)
  ra : RpA w.K φ2 w.ex H2 vs acc
  ba : D.bels S2.length acc = true
  ne : ∀ n, n < S2.length → φ2 n ≠ Lp
section
variable {φ1 φ2 φ3 : Nat → Addr} {S1 S2 S3 : Store} {H1 H2 H3 : Hp} {Lp : Addr} {vs : List V} {acc : List D}
theorem Acc.step (a : Acc w φ1 S1 H1 Lp φ2 S2 H2 vs acc) (l : Lat φ2 φ3 S2 S3 H2 H3) (so : SimO w.K φ3 w.ex H3 S3) : Acc w φ1 S1 H1 Lp φ3 S3 H3 vs acc :=
  ⟨a.lat.trans l, so, l.fr Lp _ a.at_ a.ne, a.ra.lat a.ba l, bels_lat a.ba l, fun n hn' z => by
    by_cases hs : n < S2.length
    · rw [l.same n hs] at z; exact a.ne n hs z
    · have := l.nw n (by omega) hn'
      rw [z, a.at_] at this; cases this⟩
theorem Acc.add (a : Acc w φ1 S1 H1 Lp φ2 S2 H2 vs acc) (hD : H1 Lp = none) {yv : V} {y : D} (ry : RE w φ2 H2 S2 yv y) : Acc w φ1 S1 H1 Lp φ2 S2 (upd H2 Lp (.lst (vs ++ [yv]))) (vs ++ [yv]) (acc ++ [y]) := by
  have kp : Kp H2 (upd H2 Lp (.lst (vs ++ [yv]))) := Kp.set a.at_ trivial
  have l7 := a.lat
  have hb : D.bels S2.length (acc ++ [y]) = true := bels_all.mpr fun d hd => (List.mem_append.mp hd).elim (bels_all.mp a.ba d) (fun z => by rw [List.mem_singleton.mp z]; exact ry.2)
  refine ⟨⟨l7.le, l7.same, l7.kp.trans kp, fun b o ha2 hna => ?_, l7.nw, fun b ha2 => l7.no b (by
    by_cases z : b = Lp
    · rw [z, upd_same] at ha2; cases ha2
    · rw [upd_ne z] at ha2; exact ha2)⟩, a.so.heap kp fun n o en _ u eu => ?_, upd_same, (a.ra.append (.cons ry.1 .nil)).mono (n := S2.length) hb (fun _ _ => rfl) kp, hb, a.ne⟩
  · have : b ≠ Lp := fun z => by rw [z, hD] at ha2; cases ha2
    rw [upd_ne this]
    exact l7.fr b o ha2 hna
  · rw [upd_ne (a.ne n (get_lt en))]
    exact eu
end
theorem LatW.refl {φ : Nat → Addr} {S : Store} {H : Hp} : LatW φ φ S S H H := ⟨Nat.le_refl _, fun _ _ => rfl, Kp.refl⟩
theorem LatW.trans {φ φ1 φ' : Nat → Addr} {S S1 S' : Store} {H H1 H' : Hp} (a : LatW φ φ1 S S1 H H1) (b : LatW φ1 φ' S1 S' H1 H') : LatW φ φ' S S' H H' := ⟨Nat.le_trans a.le b.le, fun m hm => (b.same m (Nat.lt_of_lt_of_le hm a.le)).trans (a.same m hm), a.kp.trans b.kp⟩
theorem SimE.latW {K : PySem.W.Frag} {φ φ' : Nat → Addr} {ex : Ex1} {S S' : Store} {H H' : Hp} {σ : L2.St} {env : Env} (e : SimE K φ ex H S.length σ env) (l : LatW φ φ' S S' H H') : SimE K φ' ex H' S'.length σ env :=
  ⟨e.len, fun i d h => let ⟨v, h1, h2, h3⟩ := e.at_ i d h; ⟨v, h1, h2.mono h3 l.same l.kp, D.bel_mono l.le d h3⟩, e.xs, fun a i d fs h => l.kp.xd _ _ (e.xd a i d fs h)⟩
theorem Same.mono {is js : List Nat} {σ σ' : L2.St} (h : Same is σ σ') (k : ∀ i ∈ is, i ∈ js) : Same js σ σ' := ⟨h.1, fun i hi => h.2 i fun z => hi (k i z)⟩
/-- one inner turn -/
def compF1 (C : Ctx) (e : Exp) (t1 : Tg) (ifs1 : List Tst) (env : Env) (x : D) (S : Store) : Res (Option D) := match bind1 t1 x (kill t1.ix env) with
  | some env => (match evTs C ifs1 env S with
    | .ok true S => (match evE C e env S with
      | .ok y S => .ok (some y) S
      | _ => .bad)
    | .ok false S => .ok none S
    | _ => .bad)
  | none => .bad
/-- one outer turn -/
def compF2 (C : Ctx) (e : Exp) (t : Tg) (ifs : List Tst) (t1 : Tg) (l1 : Src) (ifs1 : List Tst) (env : Env) (x : D) (S : Store) : Res (List D) := match bind1 t x (kill (t.ix ++ t1.ix) env) with
  | some env => (match evTs C ifs env S with
    | .ok true S => (match evL C l1 env S with
      | .ok p1 S => if p1.1.length ≤ line then compL (compF1 C e t1 ifs1 env) (stands p1.2 (obAt p1.2 S)) p1.1 S else .bad
      | _ => .bad)
    | .ok false S => .ok [] S
    | _ => .bad)
  | none => .bad
def comp2K (acc : List D) (ys : List D) (S : Store) : Res (List D × Option Nat) := if (acc ++ ys).length ≤ line then .ok (acc ++ ys, none) S else .bad
/-- a comprehension's own walks raise nothing -/
theorem compL_noX {f : D → Store → Res (Option D)} {g : Store → Bool} : ∀ (xs : List D) (S : Store) {c fs S'}, compL f g xs S ≠ .exc c fs S'
  | [], S, c, fs, S', h => by
    simp only [compL] at h
    split at h <;> cases h
  | x :: r, S, c, fs, S', h => by
    simp only [compL] at h
    split at h
    · split at h
      · cases hr : compL f g r (by assumption) with
        | ok ys S2 => rw [hr] at h; cases h
        | exc c2 fs2 S2 => exact compL_noX r _ hr
        | bad => rw [hr] at h; cases h
      · cases h
    · cases h
theorem compL2_noX {f : D → Store → Res (List D)} {g : Store → Bool} : ∀ (xs : List D) (S : Store) {c fs S'}, compL2 f g xs S ≠ .exc c fs S'
  | [], S, c, fs, S', h => by
    simp only [compL2] at h
    split at h <;> cases h
  | x :: r, S, c, fs, S', h => by
    simp only [compL2] at h
    split at h
    · split at h
      · cases hr : compL2 f g r (by assumption) with
        | ok ys S2 => rw [hr] at h; cases h
        | exc c2 fs2 S2 => exact compL2_noX r _ hr
        | bad => rw [hr] at h; cases h
      · cases h
    · cases h
theorem comp2_rd {e : Exp} {t : Tg} {l : Src} {ts : List Tst} {t1 : Tg} {l1 : Src} {ts1 : List Tst} (hx : w.ex = none) {σ : L2.St} {H : Hp} {Q : VK} (q : tN w xw C W (.comp2 e t l ts t1 l1 ts1) σ H Q) :
    tLc2 (tI w xw C W l) (gT w t) (tTs w xw C W0 ts) (tI w xw C W0 l1) (gT w t1) (tTs w xw C W0 ts1) (tE w xw C W0 e) (t.ix ++ t1.ix) t1.ix σ H Q := by
  obtain ⟨φ, env, S, m, g⟩ := q
  refine ⟨φ, env, S, m, ?_⟩
  have g : Rg w xw W σ (RN w H) φ S H ((evL C l env S).bind fun p S => if p.1.length ≤ line then (compL2 (compF2 C e t ts t1 l1 ts1 env) (stands p.2 (obAt p.2 S)) p.1 S).bind fun ys S => comp2K [] ys S else .bad) Q := g
  cases ev : evL C l env S with
  | bad => rw [ev] at g; exact g.elim
  | exc c fs S' => rw [ev] at g; exact g
  | ok p S1 =>
    rw [ev] at g
    intro J φ1 H1 l1' so1 r1 Lp hD
    have g : Rg w xw W σ (RN w H) φ S H (if p.1.length ≤ line then (compL2 (compF2 C e t ts t1 l1 ts1 env) (stands p.2 (obAt p.2 S1)) p.1 S1).bind fun ys S => comp2K [] ys S else .bad) Q := g
    obtain ⟨hl, g⟩ := Rg.ite g
    obtain ⟨b1, it⟩ := r1
    generalize hgd : stands p.2 (obAt p.2 S1) = gd at g it
    generalize hds : p.1 = ds at g it b1 hl
    refine ⟨fun i mm H' => mm = ds.length - i ∧ ∃ φ2 S2 vs acc, Acc w φ1 S1 H1 Lp φ2 S2 H' vs acc ∧
      Rg w xw W σ (RN w H) φ S H ((compL2 (compF2 C e t ts t1 l1 ts1 env) gd (ds.drop i) S2).bind fun ys S => comp2K acc ys S) Q, ⟨ds.length, by simp, φ1, S1, [], [], ⟨Lat.newT hD, so1.new hD, upd_same, .nil, rfl, so1.ne hD⟩, by simpa using g⟩, ?_⟩
    rintro i mm H' ⟨rfl, φ2, S2, vs, acc, A, g⟩
    cases hdr : ds.drop i with
    | nil =>
      rw [hdr] at g
      have g : Rg w xw W σ (RN w H) φ S H ((if gd S2 then Res.ok [] S2 else Res.bad).bind fun ys S => comp2K acc ys S) Q := g
      cases hgS : gd S2 with
      | false => rw [hgS] at g; exact g.elim
      | true =>
        rw [hgS] at g
        have hi' : ds.length ≤ i := by
          have := congrArg List.length hdr
          simp only [List.length_drop, List.length_nil] at this
          omega
        refine .inl ⟨((it i φ2 S2 H' A.lat.w A.so hgS).1 hi'), ?_⟩
        have g : Rg w xw W σ (RN w H) φ S H (if (acc ++ []).length ≤ line then .ok (acc ++ [], none) S2 else .bad) Q := g
        obtain ⟨_, g⟩ := Rg.ite g
        rw [List.append_nil] at g
        exact g (.ref Lp) φ2 H' (l1'.trans A.lat) A.so ⟨A.ba, Lp, vs, rfl, l1'.no Lp hD, A.at_, A.ra, A.ne⟩
    | cons d rest =>
      obtain ⟨hd, hrest, hil⟩ := drop_at hdr
      rw [hdr] at g
      have g : Rg w xw W σ (RN w H) φ S H ((if gd S2 then (match compF2 C e t ts t1 l1 ts1 env d S2 with
        | Res.ok zs S => (compL2 (compF2 C e t ts t1 l1 ts1 env) gd rest S).bind fun ys S => .ok (zs ++ ys) S
        | _ => Res.bad) else Res.bad).bind fun ys S => comp2K acc ys S) Q := g
      cases hgS : gd S2 with
      | false => rw [hgS] at g; exact g.elim
      | true =>
        rw [hgS, if_pos rfl] at g
        obtain ⟨hgo, hy⟩ := (it i φ2 S2 H' A.lat.w A.so hgS).2 d hd
        refine .inr ⟨hgo, fun H2 => ∃ φ2 S2 vs acc, Acc w φ1 S1 H1 Lp φ2 S2 H2 vs acc ∧
          Rg w xw W σ (RN w H) φ S H ((compL2 (compF2 C e t ts t1 l1 ts1 env) gd rest S2).bind fun ys S => comp2K acc ys S) Q, fun H2 q => ⟨ds.length - (i + 1), by omega, rfl, by rw [hrest]; exact q⟩, fun x H3 y => ?_⟩
        obtain ⟨l3, so3, rx⟩ := hy x H3 y
        have A3 := A.step l3 so3
        have bd : D.bel S2.length d = true := D.bel_mono A.lat.le _ (bels_all.mp b1 d (List.mem_of_getElem? hd))
        cases hF : compF2 C e t ts t1 l1 ts1 env d S2 with
        | bad => rw [hF] at g; exact g.elim
        | exc c fs S' => rw [hF] at g; exact g.elim
        | ok zs S4 =>
          rw [hF] at g
          unfold compF2 at hF
          cases hb : bind1 t d (kill (t.ix ++ t1.ix) env) with
          | none => rw [hb] at hF; cases hF
          | some env2 =>
            rw [hb] at hF
            have m3 : Sim w.K φ2 w.ex H3 S2 (wipe σ (t.ix ++ t1.ix)) (kill (t.ix ++ t1.ix) env) := ⟨so3, ((m.e.lat l1').lat (A.lat.trans l3)).wipe _ hx⟩
            refine ⟨φ2, S2, kill (t.ix ++ t1.ix) env, d, env2, m3, ⟨rx, bd⟩, hb, fun σ2 m4 sm => ⟨(wipe_same (sm.mono fun i hi => List.mem_append_left _ hi)).trans wipe_wipe, ?_⟩⟩
            refine ⟨φ2, env2, S2, m4, ?_⟩
            dsimp only at hF
            cases hT : evTs C ts env2 S2 with
            | bad => rw [hT] at hF; cases hF
            | exc c fs S' => rw [hT] at hF; cases hF
            | ok k S5 =>
              rw [hT] at hF
              intro kb φ5 H5 l5 so5 rk
              cases rk
              have A5 := A3.step l5 so5
              cases k with
              | false =>
                cases hF
                rw [if_neg (by simp)]
                refine ⟨φ5, S4, vs, acc, A5, ?_⟩
                have e0 : ((compL2 (compF2 C e t ts t1 l1 ts1 env) gd rest S4).bind fun ys S => Res.ok ([] ++ ys) S) = compL2 (compF2 C e t ts t1 l1 ts1 env) gd rest S4 := by
                  cases compL2 (compF2 C e t ts t1 l1 ts1 env) gd rest S4 <;> rfl
                have g : Rg w xw W σ (RN w H) φ S H (((compL2 (compF2 C e t ts t1 l1 ts1 env) gd rest S4).bind fun ys S => Res.ok ([] ++ ys) S).bind fun ys S => comp2K acc ys S) Q := g
                rw [e0] at g
                exact g
              | true =>
                dsimp only at hF
                rw [if_pos rfl]
                refine ⟨φ5, env2, S5, m4.lat l5 so5, ?_⟩
                cases hL : evL C l1 env2 S5 with
                | bad => rw [hL] at hF; cases hF
                | exc c fs S' => rw [hL] at hF; cases hF
                | ok p1 S6 =>
                  rw [hL] at hF
                  dsimp only at hF
                  intro J1 φ6 H6 l6 so6 r6
                  obtain ⟨b6, it6⟩ := r6
                  have A6 := A5.step l6 so6
                  by_cases hl6 : p1.1.length ≤ line
                  · rw [if_pos hl6] at hF
                    generalize hgd1 : stands p1.2 (obAt p1.2 S6) = gd1 at hF it6
                    generalize hds1 : p1.1 = ds1 at hF it6 b6 hl6
                    have m6 : Sim w.K φ6 w.ex H6 S6 σ2 env2 := (m4.lat l5 so5).lat l6 so6
                    refine ⟨fun j kk H' => kk = ds1.length - j ∧ ∃ φ7 S7 vs7 acc7, Acc w φ1 S1 H1 Lp φ7 S7 H' vs7 acc7 ∧ LatW φ6 φ7 S6 S7 H6 H' ∧
                      Rg w xw W σ (RN w H) φ S H ((compL (compF1 C e t1 ts1 env2) gd1 (ds1.drop j) S7).bind fun zs S => (compL2 (compF2 C e t ts t1 l1 ts1 env) gd rest S).bind fun ys S => comp2K acc7 (zs ++ ys) S) Q, ⟨ds1.length, by simp, φ6, S6, vs, acc, A6, LatW.refl, ?_⟩, ?_⟩
                    · rw [List.drop_zero, hF]
                      show Rg w xw W σ (RN w H) φ S H ((compL2 (compF2 C e t ts t1 l1 ts1 env) gd rest S4).bind fun ys S => comp2K acc (zs ++ ys) S) Q
                      have e0 : (((compL2 (compF2 C e t ts t1 l1 ts1 env) gd rest S4).bind fun ys S => Res.ok (zs ++ ys) S).bind fun ys S => comp2K acc ys S) = (compL2 (compF2 C e t ts t1 l1 ts1 env) gd rest S4).bind fun ys S => comp2K acc (zs ++ ys) S := by
                        cases compL2 (compF2 C e t ts t1 l1 ts1 env) gd rest S4 <;> rfl
                      rw [← e0]
                      exact g
                    · clear g hF
                      rintro j kk H7 ⟨rfl, φ7, S7, vs7, acc7, A7, W7, g7⟩
                      cases hdr1 : ds1.drop j with
                      | nil =>
                        rw [hdr1] at g7
                        have g7 : Rg w xw W σ (RN w H) φ S H ((if gd1 S7 then Res.ok [] S7 else Res.bad).bind fun zs S => (compL2 (compF2 C e t ts t1 l1 ts1 env) gd rest S).bind fun ys S => comp2K acc7 (zs ++ ys) S) Q := g7
                        cases hg1 : gd1 S7 with
                        | false => rw [hg1] at g7; exact g7.elim
                        | true =>
                          rw [hg1] at g7
                          have hj' : ds1.length ≤ j := by
                            have := congrArg List.length hdr1
                            simp only [List.length_drop, List.length_nil] at this
                            omega
                          exact .inl ⟨(it6 j φ7 S7 H7 W7 A7.so hg1).1 hj', φ7, S7, vs7, acc7, A7, g7⟩
                      | cons d1 rest1 =>
                        obtain ⟨hd1, hrest1, hjl⟩ := drop_at hdr1
                        rw [hdr1] at g7
                        have g7 : Rg w xw W σ (RN w H) φ S H ((if gd1 S7 then (match compF1 C e t1 ts1 env2 d1 S7 with
                          | Res.ok o S => (compL (compF1 C e t1 ts1 env2) gd1 rest1 S).bind fun ys S => .ok (match o with | some y => y :: ys | none => ys) S
                          | _ => Res.bad) else Res.bad).bind fun zs S => (compL2 (compF2 C e t ts t1 l1 ts1 env) gd rest S).bind fun ys S => comp2K acc7 (zs ++ ys) S) Q := g7
                        cases hg1 : gd1 S7 with
                        | false => rw [hg1] at g7; exact g7.elim
                        | true =>
                          rw [hg1, if_pos rfl] at g7
                          obtain ⟨hgo1, hy1⟩ := (it6 j φ7 S7 H7 W7 A7.so hg1).2 d1 hd1
                          refine .inr ⟨hgo1, fun H8 => ∃ φ8 S8 vs8 acc8, Acc w φ1 S1 H1 Lp φ8 S8 H8 vs8 acc8 ∧ LatW φ6 φ8 S6 S8 H6 H8 ∧
                            Rg w xw W σ (RN w H) φ S H ((compL (compF1 C e t1 ts1 env2) gd1 rest1 S8).bind fun zs S => (compL2 (compF2 C e t ts t1 l1 ts1 env) gd rest S).bind fun ys S => comp2K acc8 (zs ++ ys) S) Q, fun H8 q => ⟨ds1.length - (j + 1), by omega, rfl, by rw [hrest1]; exact q⟩, fun x1 H8 y1 => ?_⟩
                          obtain ⟨l8, so8, rx1⟩ := hy1 x1 H8 y1
                          have A8 := A7.step l8 so8
                          have W8 := W7.trans l8.w
                          have bd1 : D.bel S7.length d1 = true := D.bel_mono W7.le _ (bels_all.mp b6 d1 (List.mem_of_getElem? hd1))
                          cases hF1 : compF1 C e t1 ts1 env2 d1 S7 with
                          | bad => rw [hF1] at g7; exact g7.elim
                          | exc c fs S' => rw [hF1] at g7; exact g7.elim
                          | ok o S9 =>
                            rw [hF1] at g7
                            unfold compF1 at hF1
                            cases hb1 : bind1 t1 d1 (kill t1.ix env2) with
                            | none => rw [hb1] at hF1; cases hF1
                            | some env3 =>
                              rw [hb1] at hF1
                              have m8 : Sim w.K φ7 w.ex H8 S7 (wipe σ2 t1.ix) (kill t1.ix env2) := ⟨so8, (m6.e.latW W8).wipe _ hx⟩
                              refine ⟨φ7, S7, kill t1.ix env2, d1, env3, m8, ⟨rx1, bd1⟩, hb1, fun σ3 m9 sm1 => ⟨(wipe_same sm1).trans wipe_wipe, ?_⟩⟩
                              refine ⟨φ7, env3, S7, m9, ?_⟩
                              dsimp only at hF1
                              cases hT1 : evTs C ts1 env3 S7 with
                              | bad => rw [hT1] at hF1; cases hF1
                              | exc c fs S' => rw [hT1] at hF1; cases hF1
                              | ok k1 S10 =>
                                rw [hT1] at hF1
                                intro kb1 φ11 H11 l11 so11 rk1
                                cases rk1
                                have A11 := A8.step l11 so11
                                have W11 := W8.trans l11.w
                                cases k1 with
                                | false =>
                                  cases hF1
                                  rw [if_neg (by simp)]
                                  refine ⟨φ11, S9, vs7, acc7, A11, W11, ?_⟩
                                  have e0 : ((compL (compF1 C e t1 ts1 env2) gd1 rest1 S9).bind fun ys S => Res.ok (match (none : Option D) with | some y => y :: ys | none => ys) S) = compL (compF1 C e t1 ts1 env2) gd1 rest1 S9 := by
                                    cases compL (compF1 C e t1 ts1 env2) gd1 rest1 S9 <;> rfl
                                  have g7 : Rg w xw W σ (RN w H) φ S H (((compL (compF1 C e t1 ts1 env2) gd1 rest1 S9).bind fun ys S => Res.ok (match (none : Option D) with | some y => y :: ys | none => ys) S).bind fun zs S => (compL2 (compF2 C e t ts t1 l1 ts1 env) gd rest S).bind fun ys S => comp2K acc7 (zs ++ ys) S) Q := g7
                                  rw [e0] at g7
                                  exact g7
                                | true =>
                                  dsimp only at hF1
                                  rw [if_pos rfl]
                                  refine ⟨φ11, env3, S10, m9.lat l11 so11, ?_⟩
                                  cases hE : evE C e env3 S10 with
                                  | bad => rw [hE] at hF1; cases hF1
                                  | exc c fs S' => rw [hE] at hF1; cases hF1
                                  | ok y S12 =>
                                    rw [hE] at hF1
                                    cases hF1
                                    intro yv φ13 H13 l13 so13 ry
                                    have A13 := A11.step l13 so13
                                    have W13 := W11.trans l13.w
                                    have g7 : Rg w xw W σ (RN w H) φ S H (((compL (compF1 C e t1 ts1 env2) gd1 rest1 S9).bind fun ys S => Res.ok (y :: ys) S).bind fun zs S => (compL2 (compF2 C e t ts t1 l1 ts1 env) gd rest S).bind fun ys S => comp2K acc7 (zs ++ ys) S) Q := g7
                                    have key : acc7.length < sizeLine ∧ Rg w xw W σ (RN w H) φ S H ((compL (compF1 C e t1 ts1 env2) gd1 rest1 S9).bind fun zs S => (compL2 (compF2 C e t ts t1 l1 ts1 env) gd rest S).bind fun ys S => comp2K (acc7 ++ [y]) (zs ++ ys) S) Q := by
                                      cases hc : compL (compF1 C e t1 ts1 env2) gd1 rest1 S9 with
                                      | bad => rw [hc] at g7; exact g7.elim
                                      | exc c fs S' => exact absurd hc (compL_noX _ _)
                                      | ok zs1 S13 =>
                                        rw [hc] at g7
                                        have g7 : Rg w xw W σ (RN w H) φ S H ((compL2 (compF2 C e t ts t1 l1 ts1 env) gd rest S13).bind fun ys S => comp2K acc7 (y :: zs1 ++ ys) S) Q := g7
                                        show _ ∧ Rg w xw W σ (RN w H) φ S H ((compL2 (compF2 C e t ts t1 l1 ts1 env) gd rest S13).bind fun ys S => comp2K (acc7 ++ [y]) (zs1 ++ ys) S) Q
                                        have e1 : ∀ ys, acc7 ++ (y :: zs1 ++ ys) = acc7 ++ [y] ++ (zs1 ++ ys) := fun ys => by simp
                                        have e2 : (fun (ys : List D) (S : Store) => comp2K acc7 (y :: zs1 ++ ys) S) = fun ys S => comp2K (acc7 ++ [y]) (zs1 ++ ys) S := by
                                          funext ys S
                                          unfold comp2K
                                          rw [e1]
                                        refine ⟨?_, by rw [← e2]; exact g7⟩
                                        cases hc2 : compL2 (compF2 C e t ts t1 l1 ts1 env) gd rest S13 with
                                        | bad => rw [hc2] at g7; exact g7.elim
                                        | exc c fs S' => exact absurd hc2 (compL2_noX _ _)
                                        | ok ys S14 =>
                                          rw [hc2] at g7
                                          have g7 : Rg w xw W σ (RN w H) φ S H (if (acc7 ++ (y :: zs1 ++ ys)).length ≤ line then .ok (acc7 ++ (y :: zs1 ++ ys), none) S14 else .bad) Q := g7
                                          obtain ⟨hl, _⟩ := Rg.ite g7
                                          simp only [List.length_append, List.length_cons] at hl
                                          rw [line_eq]; omega
                                    have A14 := A13.add hD ry
                                    exact ⟨vs7, A13.at_, by rw [A13.ra.length]; exact key.1, φ13, S9, vs7 ++ [yv], acc7 ++ [y], A14, W13.trans ⟨Nat.le_refl _, fun _ _ => rfl, Kp.set A13.at_ trivial⟩, key.2⟩
                  · rw [if_neg hl6] at hF; cases hF
theorem sn_comp2 {elt tg iter tg1 iter1 : Expr} {ifs ifs1 : List Expr} {scope : Scope} {own : List (Str × Nat)} {pos : Pos} {e : Exp} {t : Tg} {l : Src} {ts : List Tst} {t1 : Tg} {l1 : Src} {ts1 : List Tst} (hx : w.ex = none) (hc : X.calm = true) (hN : X.N.Nodup) (hi : PI X tg iter (tI w xw C W l)) (ok : BlkOk X.N X.env.scope scope own) (hv : own.map (·.2) = t.ix ++ t1.ix)
    (hg : ∀ (s : Shared) (H : Hp) (D : Addr) (cl : List (Str × Addr)) (fp : List Addr), PG (X.blk s H scope (compEnvC scope cl D X.env) fp) tg (gT w t))
    (ht : ∀ (s : Shared) (H : Hp) (D : Addr) (cl : List (Str × Addr)) (fp : List Addr), PTs (X.blk s H scope (compEnvC scope cl D X.env) fp) ifs (tTs w xw C W0 ts))
    (hi1 : ∀ (s : Shared) (H : Hp) (D : Addr) (cl : List (Str × Addr)) (fp : List Addr), PI (X.blk s H scope (compEnvC scope cl D X.env) fp) tg1 iter1 (tI w xw C W0 l1))
    (hg1 : ∀ (s : Shared) (H : Hp) (D : Addr) (cl : List (Str × Addr)) (fp : List Addr), PG (X.blk s H scope (compEnvC scope cl D X.env) fp) tg1 (gT w t1))
    (ht1 : ∀ (s : Shared) (H : Hp) (D : Addr) (cl : List (Str × Addr)) (fp : List Addr), PTs (X.blk s H scope (compEnvC scope cl D X.env) fp) ifs1 (tTs w xw C W0 ts1))
    (he : ∀ (s : Shared) (H : Hp) (D : Addr) (cl : List (Str × Addr)) (fp : List Addr), PE (X.blk s H scope (compEnvC scope cl D X.env) fp) elt (tE w xw C W0 e)) (hs : ∀ x, foldedSetIterable iter X.env x = pure x) (hs1 : ∀ env x, foldedSetIterable iter1 env x = pure x) :
    PE X (.ListComp elt [⟨tg, iter, ifs, 0⟩, ⟨tg1, iter1, ifs1, 0⟩] scope pos) (tN w xw C W (.comp2 e t l ts t1 l1 ts1)) :=
  peI (pe_lc2 (vs1 := t1.ix) hc hN hi ok (fun i hi => by rw [hv]; exact List.mem_append_right _ hi) hg ht hi1 hg1 ht1 he hs hs1) fun σ H Q q => by rw [hv]; exact comp2_rd hx q
end Pw
end
section
set_option Elab.async false
set_option linter.all false
set_option maxRecDepth 100000
set_option maxHeartbeats 2000000
set_option autoImplicit false
/-! Pw18f: min() of a list of like values -/
namespace Pw
open PySem PySem.Spec PyProof.Rows L2
open PySem.W (keyToks keyToksAll dataLt alike alikeAll minD AlikeAll min_list_data reads_keeps)
mutual
def toDa : D → PyData
  | .bl b => .bool b
  | .int i => .int i
  | .str s => .str ⟨s.toArray⟩
  | .tup xs => .tuple (toDas xs)
  | _ => .none
def toDas : List D → List PyData
  | [] => []
  | x :: r => toDa x :: toDas r
end
theorem toDas_map : ∀ xs : List D, toDas xs = xs.map toDa
  | [] => by rw [toDas]; rfl
  | x :: r => by rw [toDas, toDas_map r]; rfl
mutual
theorem toks_eq : ∀ d : D, keyToks (toDa d) = toksD d
  | .non => by simp [toDa, toksD, keyToks]
  | .bl b => by simp [toDa, toksD, keyToks]
  | .int i => by simp [toDa, toksD, keyToks]
  | .str s => by simp [toDa, toksD, keyToks]
  | .tup xs => by simp only [toDa, toksD, keyToks]; exact toks_eqs xs
  | .obj n => by simp [toDa, toksD, keyToks]
  | .exc c fs => by simp [toDa, toksD, keyToks]
theorem toks_eqs : ∀ xs : List D, keyToksAll (toDas xs) = toksDs xs
  | [] => by simp [toDas, toksDs, keyToksAll]
  | x :: r => by simp only [toDas, toksDs, keyToksAll]; rw [toks_eq x, toks_eqs r]
end
theorem itLt_eq (a b : Int ⊕ List Nat) : itemLt a b = itLt a b := by
  cases a <;> cases b <;> rfl
theorem lexT_eq : ∀ a b : List (Int ⊕ List Nat), PyProof.Rows.lexLt itemOrd a b = lexT a b
  | [], [] => rfl
  | [], _ :: _ => rfl
  | _ :: _, [] => rfl
  | x :: r, y :: t => by
    rw [lex_cons, lexT, lexT_eq r t]
    show (itemLt x y || (!itemLt y x && _)) = _
    rw [itLt_eq, itLt_eq]
theorem ltT_eq (a b : D) : dataLt (toDa a) (toDa b) = ltT a b := by
  unfold dataLt ltT
  rw [toks_eq, toks_eq, lexT_eq]
mutual
theorem like_eq : ∀ a b : D, likeD a b = true → alike (toDa a) (toDa b) = true
  | .bl _, b, h => by cases b <;> first | (simp [likeD] at h; done) | (simp [toDa, alike])
  | .int _, b, h => by cases b <;> first | (simp [likeD] at h; done) | (simp [toDa, alike])
  | .str _, b, h => by cases b <;> first | (simp [likeD] at h; done) | (simp [toDa, alike])
  | .tup xs, b, h => by
    cases b with
    | tup ys => simp only [toDa, alike]; exact like_eqs xs ys (by simpa [likeD] using h)
    | _ => simp [likeD] at h
  | .non, b, h => by cases b <;> simp [likeD] at h
  | .obj _, b, h => by cases b <;> simp [likeD] at h
  | .exc _ _, b, h => by cases b <;> simp [likeD] at h
theorem like_eqs : ∀ a b : List D, likeDs a b = true → alikeAll (toDas a) (toDas b) = true
  | [], b, _ => by simp [toDas, alikeAll]
  | x :: r, [], h => by simp [likeDs] at h
  | x :: r, y :: t, h => by
    simp only [likeDs, Bool.and_eq_true] at h
    simp only [toDas, alikeAll, Bool.and_eq_true]
    exact ⟨like_eq x y h.1, like_eqs r t h.2⟩
end
theorem depth_le : ∀ (n : Nat) (d : D), flatQ n d = true → (toDa d).depth ≤ n
  | n, .bl b, _ => by simp [toDa, PyData.depth]
  | n, .int b, _ => by simp [toDa, PyData.depth]
  | n, .str b, _ => by simp [toDa, PyData.depth]
  | n + 1, .tup xs, h => by
    simp only [flatQ, List.all_eq_true] at h
    have key : ∀ l : List D, (∀ x ∈ l, flatQ n x = true) → PyData.depthAll (l.map toDa) ≤ n := by
      intro l
      induction l with
      | nil => intro _; simp [PyData.depthAll]
      | cons x r ih =>
        intro hl
        rw [List.map_cons, PyData.depthAll]
        have h1 := depth_le n x (hl x (by simp))
        have h2 := ih fun y hy => hl y (by simp [hy])
        omega
    have := key xs h
    simp only [toDa, PyData.depth, toDas_map]
    omega
  | 0, .tup xs, h => by simp [flatQ] at h
  | n, .non, h => by cases n <;> simp [flatQ] at h
  | n, .obj _, h => by cases n <;> simp [flatQ] at h
  | n, .exc _ _, h => by cases n <;> simp [flatQ] at h
theorem toDa_inj : ∀ (n : Nat) (a b : D), flatQ n a = true → flatQ n b = true → toDa a = toDa b → a = b
  | n, .bl x, b, _, hb, h => by
    cases b <;> first | (simp [toDa] at h; done) | (simp [toDa] at h; rw [h])
  | n, .int x, b, _, hb, h => by
    cases b <;> first | (simp [toDa] at h; done) | (simp [toDa] at h; rw [h])
  | n, .str x, b, _, hb, h => by
    cases b <;> first | (simp [toDa] at h; done) | (simp [toDa] at h; rw [h])
  | n + 1, .tup xs, b, ha, hb, h => by
    cases b with
    | tup ys =>
      simp only [flatQ, List.all_eq_true] at ha hb
      simp only [toDa, toDas_map] at h
      injection h with h
      have key : ∀ l m : List D, (∀ x ∈ l, flatQ n x = true) → (∀ x ∈ m, flatQ n x = true) → l.map toDa = m.map toDa → l = m := by
        intro l
        induction l with
        | nil => intro m _ _ h; cases m with
          | nil => rfl
          | cons => cases h
        | cons x r ih => intro m h1 h2 h; cases m with
          | nil => cases h
          | cons y t =>
            rw [List.map_cons, List.map_cons] at h
            injection h with h3 h4
            rw [toDa_inj n x y (h1 x (by simp)) (h2 y (by simp)) h3, ih t (fun z hz => h1 z (by simp [hz])) (fun z hz => h2 z (by simp [hz])) h4]
      rw [key xs ys ha hb h]
    | _ => simp [toDa] at h
  | 0, .tup xs, _, h, _, _ => by simp [flatQ] at h
  | n, .non, _, h, _, _ => by cases n <;> simp [flatQ] at h
  | n, .obj _, _, h, _, _ => by cases n <;> simp [flatQ] at h
  | n, .exc _ _, _, h, _, _ => by cases n <;> simp [flatQ] at h
theorem minT_eq (x : D) (xs : List D) : minD (toDa x) (xs.map toDa) = toDa (minT x xs) := by
  unfold minD minT
  induction xs generalizing x with
  | nil => rfl
  | cons y r ih =>
    rw [List.map_cons, List.foldl_cons, List.foldl_cons, ltT_eq]
    rw [← ih]
    split <;> rfl
theorem minT_mem : ∀ (xs : List D) (x : D), minT x xs ∈ x :: xs
  | [], x => by simp [minT]
  | y :: r, x => by
    have := minT_mem r (if ltT y x = true then y else x)
    unfold minT at this ⊢
    rw [List.foldl_cons]
    rw [List.mem_cons] at this ⊢
    rcases this with h | h
    · rw [h]; split
      · exact .inr (by simp)
      · exact .inl rfl
    · exact .inr (by simp [h])
section
variable {K : PySem.W.Frag} {φ : Nat → Addr} {ex : Ex1} {H : Hp}
mutual
theorem dp_of : ∀ (n : Nat) (d : D) (v : V), flatQ n d = true → Rp K φ ex H v d → Dp K H v (toDa d)
  | n, .bl b, v, _, r => by cases r; simp only [toDa]; exact .bl b
  | n, .int i, v, _, r => by cases r; simp only [toDa]; exact .int i
  | n, .str s, v, _, r => by
    obtain ⟨x, rfl, rfl⟩ := rp_inv r
    simp only [toDa]
    exact .str x
  | n + 1, .tup xs, v, h, r => by
    cases r with
    | tup h1 r1 =>
      simp only [toDa]
      simp only [flatQ, List.all_eq_true] at h
      exact .tup h1 (dps_of n xs _ h r1)
  | 0, .tup xs, _, h, _ => by simp [flatQ] at h
  | n, .non, _, h, _ => by cases n <;> simp [flatQ] at h
  | n, .obj _, _, h, _ => by cases n <;> simp [flatQ] at h
  | n, .exc _ _, _, h, _ => by cases n <;> simp [flatQ] at h
theorem dps_of : ∀ (n : Nat) (ds : List D) (vs : List V), (∀ d ∈ ds, flatQ n d = true) → RpA K φ ex H vs ds → DpAll K H vs (toDas ds)
  | n, [], _, _, .nil => by rw [toDas]; exact .nil
  | n, d :: ds, _, h, .cons r rs => by
    rw [toDas]
    exact .cons (dp_of n d _ (h d (by simp)) r) (dps_of n ds _ (fun x hx => h x (by simp [hx])) rs)
end
end
def rMinD (K : PySem.W.Frag) : List V → Hp → VK → Prop := fun vs H Q => ∃ (a : Addr) (xs : List V) (x : PyData) (ds : List PyData), vs = [V.ref a] ∧ SqL K H a xs ∧ DpAll K H xs (x :: ds) ∧ AlikeAll (x :: ds) ∧ PyData.depthAll (x :: ds) ≤ 60 ∧
  ∀ (i : Nat) v d, xs[i]? = some v → (x :: ds)[i]? = some d → d = minD x ds → Q v H
theorem vals_at : ∀ {xs : List V} {us : List Value}, Vals xs us → ∀ (i : Nat) (u : Value), us[i]? = some u → ∃ v, xs[i]? = some v ∧ RelV v u
  | _, _, .nil, i, u, h => by simp at h
  | _, _, .cons r rs, 0, u, h => by
    have e := Option.some.inj (show some _ = some u from h)
    subst e
    exact ⟨_, rfl, r⟩
  | _, _, .cons r rs, i + 1, u, h => vals_at rs i u (by simpa using h)
theorem dpAll_at {K : PySem.W.Frag} {H : Hp} : ∀ {xs : List V} {ds : List PyData}, DpAll K H xs ds → ∀ (i : Nat) v, xs[i]? = some v → ∃ d, ds[i]? = some d ∧ Dp K H v d
  | _, _, .nil, i, v, h => by simp at h
  | _, _, .cons r rs, 0, v, h => by
    have e := Option.some.inj (show some _ = some v from h)
    subst e
    exact ⟨_, rfl, r⟩
  | _, _, .cons r rs, i + 1, v, h => dpAll_at rs i v (by simpa using h)
variable {w : Wo} {xw : Xw} {C : Ctx} {W : WX} {X : Cx}
theorem cr_minD (hc : X.calm = true) (hu : X.A.units + 65 < cLine) : CallR X (.builtin "min") (rMinD X.K) := by
  intro pins s σ H vs us Q I r h
  obtain ⟨a, xs, x, ds, rfl, hs, hd, ha, hdep, q⟩ := h
  obtain ⟨its, rv, hl, _⟩ := I.list hs
  rw [Vals.ref1 r]
  obtain ⟨as, hr⟩ := Dp.readsAll I _ _ _ hd rv
  refine min_list_data (I.ok.hd hc) hl.isList hr ha (by omega) fun i u h' tk bs hv hrd hk => ?_
  have hv' : its[i]? = some u := by simpa using hv
  obtain ⟨v, hx, rvu⟩ := vals_at rv i u hv'
  obtain ⟨d, hdi, dpv⟩ := dpAll_at hd i v hx
  obtain ⟨as2, r2⟩ := Dp.reads I d v u dpv rvu
  have e := (PyProof.Rows.reads_det (fun _ _ e _ => e) (reads_keeps hk r2) hrd).1
  exact ⟨v, H, I.kept hk, rvu, q i v d hx hdi e.symm⟩
theorem se_minG {a : Expr} {p pos : Pos} {l : Src} (hK : w.K = X.K) (hc : X.calm = true) (hu : X.A.units + 65 < cLine) (gl : Gl X "min") (hm : X.mg "min" = none) (ha : PE X a (tL w xw C W l)) (h1 : okX a = true) : PE X (.Call (.Name "min" p) [a] [] pos) (tE w xw C W (.minOf l)) :=
  peI (cb1 (r := fun xs H Q => rMin X.K xs H Q ∨ rMinD X.K xs H Q) (fun pins s σ H xs us Q I r h => h.elim (cr_min hc pins s σ H xs us Q I r) (cr_minD hc hu pins s σ H xs us Q I r)) gl hm bb_min ha (by decide) h1) fun σ H Q ⟨φ, env, S, m, g⟩ => by
    refine tL.then m g fun v q S1 φ1 H1 l1 m1 r1 g => ?_
    obtain ⟨b, a, vs, rfl, h, r⟩ := r1
    have data : intsD q.1 = none ∨ intsD q.1 = some [] → rMin X.K [V.ref a] H1 Q ∨ rMinD X.K [V.ref a] H1 Q := fun e => by
      have g : Rg w xw W σ (RE w) φ1 S1 H1 (match q.1 with
        | x :: r => if minLk (x :: r) = true then .ok (minT x r) S1 else .bad
        | [] => .bad) Q := by
        rcases e with e | e <;> (rw [e] at g; exact g)
      cases hq : q.1 with
      | nil => rw [hq] at g; exact g.elim
      | cons x t =>
        rw [hq] at g r b
        obtain ⟨hk, g⟩ := Rg.ite g
        simp only [minLk, List.all_eq_true, Bool.and_eq_true] at hk
        refine .inr ⟨a, vs, toDa x, t.map toDa, rfl, hK ▸ h, ?_, ?_, ?_, fun i v d hv hd e => ?_⟩
        · have := dps_of (K := w.K) 8 (x :: t) vs (fun d hd => (hk d hd).1) r
          rw [toDas, toDas_map] at this
          exact hK ▸ this
        · refine ⟨fun y hy z hz => ?_, fun y hy => ?_⟩
          · rw [← List.map_cons, List.mem_map] at hy hz
            obtain ⟨y', hy', rfl⟩ := hy
            obtain ⟨z', hz', rfl⟩ := hz
            exact like_eq y' z' ((hk y' hy').2 z' hz')
          · rw [← List.map_cons, List.mem_map] at hy
            obtain ⟨y', hy', rfl⟩ := hy
            have := (hk y' hy').1
            cases y' <;> first | (simp [flatQ] at this; done) | (simp [toDa])
        · rw [← List.map_cons]
          have : ∀ l : List D, (∀ d ∈ l, flatQ 8 d = true) → PyData.depthAll (l.map toDa) ≤ 8 := by
            intro l hl
            induction l with
            | nil => simp [PyData.depthAll]
            | cons x r ih =>
              rw [List.map_cons, PyData.depthAll]
              have h1 := depth_le 8 x (hl x (by simp))
              have h2 := ih fun y hy => hl y (by simp [hy])
              omega
          have := this (x :: t) fun d hd => (hk d hd).1
          omega
        · rw [minT_eq] at e
          rw [← List.map_cons, List.getElem?_map] at hd
          obtain ⟨y, hy, rfl⟩ := Option.map_eq_some_iff.mp hd
          have hym := List.mem_of_getElem? hy
          have := toDa_inj 8 y (minT x t) (hk y hym).1 (hk _ (minT_mem t x)).1 e
          obtain ⟨v2, hv2, rv2⟩ := r.get y hy
          have : v2 = v := by rw [hv] at hv2; exact (Option.some.inj hv2).symm
          subst this
          subst_vars
          exact g v2 φ1 H1 Lat.refl m1.o ⟨rv2, bels_all.mp b _ hym⟩
    cases e : intsD q.1 with
    | none => exact data (.inl e)
    | some ns => cases ns with
      | nil => exact data (.inr e)
      | cons x t =>
        rw [e] at g
        obtain ⟨rfl, _⟩ := ints_of r e
        refine .inl ⟨a, x :: t, rfl, hK ▸ h, by simp, fun mx h2 h3 => ?_⟩
        have : mx = t.foldl min x := by
          have k1 := h3 _ (foldl_min_mem t x)
          have k2 := foldl_min_le t x _ h2
          omega
        subst this
        exact fInt g m1.o
end Pw
end
section
set_option Elab.async false
set_option linter.all false
set_option maxRecDepth 100000
set_option maxHeartbeats 1000000
set_option autoImplicit false
/-! Pw18g: zip of two tuples, the sum of a list or of a tuple -/
namespace Pw
open PySem PySem.Spec PyProof.Rows L2
variable {w : Wo} {xw : Xw} {C : Ctx} {W : WX} {X : Cx}
section
variable {a b : Expr} {x y : Exp} {l : Src} {pos p tpos : Pos} {elts : List Expr} {kk : Nat}
theorem RpA.zipAt {K : PySem.W.Frag} {φ : Nat → Addr} {ex : Ex1} {H : Hp} {vs us : List V} {ds es : List D} (r : RpA K φ ex H vs ds) (q : RpA K φ ex H us es) (i : Nat) (d : D) (h : ((ds.zip es).map fun z => D.tup [z.1, z.2])[i]? = some d) :
    ∃ v u d1 d2, vs[i]? = some v ∧ us[i]? = some u ∧ d = .tup [d1, d2] ∧ ds[i]? = some d1 ∧ es[i]? = some d2 ∧ Rp K φ ex H v d1 ∧ Rp K φ ex H u d2 := by
  rw [List.getElem?_map] at h
  obtain ⟨⟨d1, d2⟩, hz, rfl⟩ := Option.map_eq_some_iff.mp h
  rw [List.getElem?_zip_eq_some] at hz
  obtain ⟨v, hv, rv⟩ := r.get d1 hz.1
  obtain ⟨u, hu, ru⟩ := q.get d2 hz.2
  exact ⟨v, u, d1, d2, hv, hu, rfl, hz.1, hz.2, rv, ru⟩
theorem itr_zip {φ : Nat → Addr} {S : Store} {H : Hp} {p q : Addr} {vs us : List V} {ds es : List D} {gd : Store → Bool} (h1 : SqT w.K H p vs) (h2 : SqT w.K H q us) (r1 : RpA w.K φ w.ex H vs ds) (r2 : RpA w.K φ w.ex H us es) (b1 : D.bels S.length ds = true) (b2 : D.bels S.length es = true) :
    ItR w (RZ.ItzT w.K p q) ((ds.zip es).map fun z => D.tup [z.1, z.2]) gd φ S H := fun i φ' S' H' l so _ => by
  have h1 := sqT_kp h1 l.kp
  have h2 := sqT_kp h2 l.kp
  have r1 := r1.mono b1 l.same l.kp
  have r2 := r2.mono b2 l.same l.kp
  refine ⟨fun hi => ⟨vs, us, h1, h2, ?_⟩, fun d hd => ?_⟩
  · rw [r1.length, r2.length]
    simp only [List.length_map, List.length_zip] at hi
    omega
  · obtain ⟨v, u, d1, d2, hv, hu, rfl, e1, e2, rv, ru⟩ := r1.zipAt r2 i d hd
    refine ⟨⟨vs, us, v, u, h1, h2, hv, hu⟩, fun x H2 ⟨T, x', y', e3, hT, e4, f1, f2⟩ => ?_⟩
    subst e3 e4
    have e5 := (f1 vs h1).symm.trans hv
    have e6 := (f2 us h2).symm.trans hu
    cases e5
    cases e6
    have bd1 : D.bel S'.length d1 = true := D.bel_mono l.le _ (bels_all.mp b1 d1 (List.mem_of_getElem? e1))
    have bd2 : D.bel S'.length d2 = true := D.bel_mono l.le _ (bels_all.mp b2 d2 (List.mem_of_getElem? e2))
    have k : Kp H' (upd H' T (.tup [v, u])) := Kp.new hT
    exact ⟨Lat.newT hT, so.new hT, .tup (.inl (.inl upd_same)) (.cons (rv.mono bd1 (fun _ _ => rfl) k) (.cons (ru.mono bd2 (fun _ _ => rfl) k) .nil))⟩
theorem si_zip (hK : w.K = X.K) (hg : Gl X "zip") (hm : X.mg "zip" = none) (ha : PE X a (tE w xw C W x)) (hb : PE X b (tE w xw C W y)) (h : okX a = true) (h2 : okX b = true) : PI X (.Tuple elts kk tpos) (.Call (.Name "zip" p) [a, b] [] pos) (tI w xw C W (.zip x y)) :=
  piI (RZ.pi_zipA hg hm (pa_cons ha (pa_cons hb pa_nil (star_ok h2)) (star_ok h)) (star_ok h) (plainArgs_ok (by simp [h2]))) fun σ H R ⟨φ, env, S, m, g⟩ => by
    refine tE.then m g fun v d S1 φ1 H1 l1 m1 r1 g => ?_
    refine tE.then m1 g fun u d2 S2 φ2 H2 l2 m2 r2 g => ?_
    cases d with
    | tup ds => cases d2 with
      | tup es =>
        obtain ⟨r1, b1⟩ := r1.lat l2
        obtain ⟨r2, b2⟩ := r2
        cases r1 with
        | tup h1 r1 => cases r2 with
          | tup h2 r2 =>
            have b1 : D.bels S2.length ds = true := by simpa [D.bel] using b1
            have b2 : D.bels S2.length es = true := by simpa [D.bel] using b2
            refine ⟨_, _, _, _, rfl, .inr ⟨hK ▸ h1, hK ▸ h2, g _ φ2 H2 Lat.refl m2.o ⟨bels_all.mpr fun d hd => ?_, hK ▸ itr_zip h1 h2 r1 r2 b1 b2⟩⟩⟩
            rw [List.mem_map] at hd
            obtain ⟨⟨z1, z2⟩, hz, rfl⟩ := hd
            have k1 := bels_all.mp b1 z1 (List.of_mem_zip hz).1
            have k2 := bels_all.mp b2 z2 (List.of_mem_zip hz).2
            simp [D.bel, D.bels, k1, k2]
      | _ => exact g.elim
    | _ => exact g.elim
def rSumO (K : PySem.W.Frag) : List V → Hp → VK → Prop := fun vs H Q => rSum K vs H Q ∨ rSumT K vs H Q
theorem cr_sumO (hc : X.calm = true) : CallR X (.builtin "sum") (rSumO X.K) := fun pins s σ H vs us Q I r h => h.elim (cr_sum hc pins s σ H vs us Q I r) (cr_sumT hc pins s σ H vs us Q I r)
theorem se_sumS (hK : w.K = X.K) (hc : X.calm = true) (gl : Gl X "sum") (hm : X.mg "sum" = none) (ha : PE X a (tS w xw C W l)) (h1 : okX a = true) : PE X (.Call (.Name "sum" p) [a] [] pos) (tE w xw C W (.sumOf l)) :=
  peI (cb1 (cr_sumO hc) gl hm bb_sum ha (by decide) h1) fun σ H Q ⟨φ, env, S, m, g⟩ => by
    refine tS.then m g fun v q S1 φ1 H1 l1 m1 r1 g => ?_
    obtain ⟨b, a, vs, rfl, h, r⟩ := r1
    obtain ⟨ns, hb, g⟩ := g.ofb
    obtain ⟨rfl, _⟩ := ints_of r hb
    rcases h with h | h
    · exact .inl ⟨a, ns, rfl, hK ▸ h, fInt g m1.o⟩
    · exact .inr ⟨a, ns, rfl, hK ▸ h, fInt g m1.o⟩
end
end Pw
end
section
set_option Elab.async false
set_option linter.all false
set_option maxRecDepth 100000
set_option maxHeartbeats 4000000
/-! Pw18t: try with any row of clauses, each with a name or without -/
namespace PwT
open PySem PySem.Spec PyProof.Rows L2
abbrev HT := Addr → Value → Option Addr → TS
/-- one clause: the class, the slot of its name, what its suite needs -/
abbrev Cl1 := Value × Option Nat × HT
/-- the ends of a suite whose name is put away -/
def offE (i : Nat) (D : Ends) : Ends := ⟨fun σ H => D.nx (σ.set i none) H, D.rt, fun σ H => D.bk (σ.set i none) H, fun σ H => D.ct (σ.set i none) H⟩
/-- what one clause's suite is asked where it catches -/
def takesAt (D : Ends) (q : Cl1) (cls : Value) (d : Option Addr) (σ : L2.St) (H : Hp) (a : Addr) : Prop := match q.2.1 with
  | none => q.2.2 a cls d D σ H
  | some i => q.2.2 a cls d (offE i D) (σ.set i (some (.ref a))) H
def wMix (K : PySem.W.Frag) (Wout : L2.WX) (D : Ends) : List Cl1 → L2.WX
  | [] => Wout
  | q :: r => fun cls d σ H => ∃ b, PySem.W.exmOne K cls q.1 = some b ∧ (b = true → ∀ a, H a = none → takesAt D q cls d σ H a) ∧ (b = false → wMix K Wout D r cls d σ H)
/-- a suite that does what is asked -/
abbrev SuOk (X : Cx) (su : List Stmt) (ts : HT) : Prop := ∀ (a : Addr) (oe : Obj) (cls : Value) (d : Option Addr) (pn : List (Addr × Obj)), L2N.Zn cls d oe → (∃ vs, oe.data = .fields vs) → PSs (X.suite a ((a, oe) :: pn)) su (ts a cls d)
inductive MixOk (X : Cx) : List ExceptHandler → List Cl1 → Prop
  | nil : MixOk X [] []
  | plain {x : Str} {c : Value} {ts : HT} {b0 : Stmt} {su : List Stmt} {np ps : Pos} {hds : List ExceptHandler} {l : List Cl1} (hc : Names X x c) (hsu : SuOk X (b0 :: su) ts) (r : MixOk X hds l) :
      MixOk X (.ExceptHandler (some (.Name x np)) none (b0 :: su) ps :: hds) ((c, none, ts) :: l)
  | named {x n : Str} {i : Nat} {c : Value} {ts : HT} {b0 : Stmt} {su : List Stmt} {np ps : Pos} {hds : List ExceptHandler} {l : List Cl1} (hc : Names X x c) (hi : X.N[i]? = some n) (hln : X.env.kindOf n = some .local) (hsu : SuOk X (b0 :: su) ts) (r : MixOk X hds l) :
      MixOk X (.ExceptHandler (some (.Name x np)) (some n) (b0 :: su) ps :: hds) ((c, some i, ts) :: l)
section
variable {X : Cx} {pins : List (Addr × Obj)} {D : Ends} {Wout : L2.WX}
theorem sp_out {xe : Value → Shared → Prop} (ok : X.Ok) {f : PySem.Flow} {s1 : Shared} (q : SP (X.tr (X.pn ++ pins) xe) [] D f s1) : SP X pins D f s1 := by
  cases f with
  | ret u => exact q.elim fun v q => q.elim fun t q => q.elim fun K q => ⟨v, t, K, q.1.ofTry ok, q.2⟩
  | next => exact q.elim fun t q => q.elim fun K q => ⟨t, K, q.1.ofTry ok, q.2⟩
  | brk => exact q.elim fun t q => q.elim fun K q => ⟨t, K, q.1.ofTry ok, q.2⟩
  | cont => exact q.elim fun t q => q.elim fun K q => ⟨t, K, q.1.ofTry ok, q.2⟩
theorem sp_su {a : Addr} {q0 : Addr × Obj} (ok : X.Ok) {f : PySem.Flow} {s1 : Shared} (q : SP (X.suite a (q0 :: (X.pn ++ pins))) [] D f s1) : SP X pins D f s1 := by
  cases f with
  | ret u => exact q.elim fun v q => q.elim fun t q => q.elim fun K q => ⟨v, t, K, q.1.unsuite ok, q.2⟩
  | next => exact q.elim fun t q => q.elim fun K q => ⟨t, K, q.1.unsuite ok, q.2⟩
  | brk => exact q.elim fun t q => q.elim fun K q => ⟨t, K, q.1.unsuite ok, q.2⟩
  | cont => exact q.elim fun t q => q.elim fun K q => ⟨t, K, q.1.unsuite ok, q.2⟩
/-- what holds of the exception when its clauses are looked at -/
structure Land (X : Cx) (pins : List (Addr × Obj)) (B : Heap) (a : Addr) (cls : Value) (d : Option Addr) (sI s1 : Shared) (σ : L2.St) (H : Hp) : Prop where
  ok : X.Ok
  hs : X.stack = X.env :: X.outer
  hf : X.env.frame = some X.env.locals
  hN : X.N.Nodup
  J : Inv X pins σ H sI
  nb : ∀ b o, sI.heap.get? b = some o → b ∉ frs X.stack → B.get? b = some o
  na : H a = none
  up : sI.heap.UpToSlots s1.heap
  os : s1.os = sI.os
  ag : AllBare s1.gens
  fl : HandSPX.FlyingZ B (X.env :: X.outer) a (L2N.Zn cls d) s1.heap
  nL : a ≠ X.env.locals
  nF : a ∉ X.fs
namespace Land
variable {B : Heap} {a : Addr} {cls : Value} {d : Option Addr} {sI s1 : Shared} {σ : L2.St} {H : Hp}
theorem inv (l : Land X pins B a cls d sI s1 σ H) : Inv X pins σ H s1 := l.J.landed l.nb l.fl.1 l.up l.os l.ag
/-- no clause is left: it goes on -/
theorem none_left (l : Land X pins B a cls d sI s1 σ H) (tk : L2N.Takes X Wout) (w : Wout cls d σ H) : wpAny (model X.prog X.w) X.A (handleBy (.ref a) X.env []) (SP X pins D) X.xe s1 := by
  have go : wpAny (model X.prog X.w) X.A (setFlight (.ref a) X.env.frame) (fun _ t => wpAny (model X.prog X.w) X.A (throw (.ref a) : Sem Flow) (SP X pins D) X.xe t) X.xe s1 := by
    rw [l.hf]
    exact HandSPX.setFlight_upZ l.fl fun h4 hh up4 => wpAny_throw (tk _ _ ⟨a, B, sI, pins, σ, H, cls, d, rfl, l.J, l.nb, l.up.trans up4, .inr (.inr (by rw [l.hs]; exact hh)), l.na, l.os, l.ag, w⟩)
  obtain ⟨_, _, _, oe, vs, T, oT, ts, he, hz, hd, h1, _⟩ := id l.fl
  refine wpAny_handleBy_nil ?_
  unfold PySem.passOn
  refine wpAny_bind (wpAny_field he hd h1 ?_)
  rw [if_neg (by simp)]
  first
    | exact wpAny_bind go
    | exact wpAny_bind (wpAny_pure (wpAny_bind go))
/-- the clause's class is found -/
theorem test (l : Land X pins B a cls d sI s1 σ H) {x : Str} {np : Pos} {c : Value} {Q : Value → Shared → Prop} {E : Value → Shared → Prop} (hc : Names X x c) (q : Q c s1) : wpAny (model X.prog X.w) (X.A.mark (some (.ref a))) (eval (.Name x np) X.env) Q E s1 := by
  obtain ⟨oe, vs, he, hz, hd⟩ := l.fl.there
  have S := l.inv.suite he hd l.na l.nL l.nF
  rcases hc with ⟨hg, hdb, hm | ⟨hm, hv, hn⟩⟩
  · exact ld_glob (X := X.suite a ((a, oe) :: (X.pn ++ pins))) S hg hm q hdb
  · exact ld_blt (X := X.suite a ((a, oe) :: (X.pn ++ pins))) S hg hm hv q hn hdb
theorem catch_ (l : Land X pins B a cls d sI s1 σ H) {b : Bool} {c : Value} (hb : PySem.W.exmOne X.K cls c = some b) {A : Around} {Q : Bool → Shared → Prop} {E : Value → Shared → Prop} (q : Q b s1) : wpAny (model X.prog X.w) A (excMatches (.ref a) c) Q E s1 := by
  obtain ⟨oe, vs, he, hz, hd⟩ := l.fl.there
  have ty : PySem.W.Looks (model X.prog X.w) s1.heap (typeOf (.ref a)) cls := fun A Q E s k q => wpAny_typeOf_ref (k _ _ he) (by rw [hz.1]; exact q)
  exact (PySem.W.exm_one l.inv.kIn ty hb).here q
theorem go (tk : L2N.Takes X Wout) {hds : List ExceptHandler} {l : List Cl1} (hk : MixOk X hds l) {s2 : Shared} (L : Land X pins B a cls d sI s2 σ H) (w : wMix X.K Wout D l cls d σ H) : wpAny (model X.prog X.w) X.A (handleBy (.ref a) X.env hds) (SP X pins D) X.xe s2 := by
  induction hk with
  | nil => exact L.none_left tk w
  | plain hc hsu r ih =>
    obtain ⟨b, hb, yes, no⟩ := w
    refine wpAny_handleBy_cons (codeAny_handlers_test ?_) (by intro q; cases q)
    refine L.test hc (L.catch_ hb ?_)
    cases b with
    | false => exact ih (no rfl)
    | true =>
      refine codeAny_handlers_suite (HandSPX.lands_againZ L.fl fun h4 fl4 up4 => ?_)
      obtain ⟨oe, vs, he, hz, hd⟩ := fl4.there
      have J4 : Inv X pins σ H { s2 with heap := h4 } := L.J.landed L.nb fl4.1 (L.up.trans up4) L.os L.ag
      exact wpAny_mono ((hsu a oe cls d (X.pn ++ pins) hz ⟨_, hd⟩).run [] _ _ H _ (J4.suite he hd L.na L.nL L.nF) (yes rfl a L.na)) (fun f s6 q => sp_su L.ok q) fun _ _ z => z.elim
  | named hc hi hln hsu r ih =>
    obtain ⟨b, hb, yes, no⟩ := w
    refine wpAny_handleBy_cons (codeAny_handlers_test ?_) (by intro q; cases q)
    refine L.test hc (L.catch_ hb ?_)
    cases b with
    | false => exact ih (no rfl)
    | true =>
      refine codeAny_handlers_suite_as (HandSPX.lands_againZ L.fl fun h4 fl4 up4 => ?_)
      obtain ⟨oe, vs, he, hz, hd⟩ := fl4.there
      have J4 : Inv X pins σ H { s2 with heap := h4 } := L.J.landed L.nb fl4.1 (L.up.trans up4) L.os L.ag
      refine store_ok (X := X.suite a ((a, oe) :: (X.pn ++ pins))) (v := .ref a) (J4.suite he hd L.na L.nL L.nF) L.hN hi (.inl hln) rfl (fun s5 J5 => ?_) (.inr hln)
      refine wpAny_mono ((hsu a oe cls d (X.pn ++ pins) hz ⟨_, hd⟩).run [] s5 _ H _ J5 (yes rfl a L.na)) (fun f s6 q => ?_) fun _ _ z => z.elim
      cases f with
      | ret u => exact q.elim fun v q => q.elim fun t q => q.elim fun K q => gone_ok (q.1.unsuite L.ok) L.hN hi hln fun s7 J7 => ⟨v, _, K, J7, q.2⟩
      | next => exact q.elim fun t q => q.elim fun K q => gone_ok (q.1.unsuite L.ok) L.hN hi hln fun s7 J7 => ⟨_, K, J7, q.2⟩
      | brk => exact q.elim fun t q => q.elim fun K q => gone_ok (q.1.unsuite L.ok) L.hN hi hln fun s7 J7 => ⟨_, K, J7, q.2⟩
      | cont => exact q.elim fun t q => q.elim fun K q => gone_ok (q.1.unsuite L.ok) L.hN hi hln fun s7 J7 => ⟨_, K, J7, q.2⟩
end Land
/-- an exception of the body, before its clauses -/
theorem caught {hds : List ExceptHandler} {l : List Cl1} (ok : X.Ok) (hs : X.stack = X.env :: X.outer) (hf : X.env.frame = some X.env.locals) (hN : X.N.Nodup) (tk : L2N.Takes X Wout) (hk : MixOk X hds l) {xe : Value → Shared → Prop} {u : Value} {s1 : Shared}
    (x : L2N.XE (X.tr (X.pn ++ pins) xe) (wMix X.K Wout D l) u s1) :
    wpAny (model X.prog X.w) X.A (noteFrame u X.env) (fun _ s2 => wpAny (model X.prog X.w) X.A (setFlight u none) (fun _ s3 => wpAny (model X.prog X.w) X.A (handleBy u X.env hds) (SP X pins D) X.xe s3) X.xe s2) X.xe s1 := by
  obtain ⟨a, B, sI, pins1, σ, H, cls, d, rfl, J1, nb, up, sky, na, os, ag, w⟩ := x
  have J : Inv X pins σ H sI := J1.ofTry ok
  refine L2N.Sky.land (B := B) L2N.Zn.steady (by rw [ok.frames, hs]) hf (show Sky B (X.env :: X.outer) a (L2N.Zn cls d) X.env.locals s1.heap by rw [← hs]; exact sky) fun h3 fl up3 => ?_
  have nfr : a ∉ frs (X.env :: X.outer) := fun hm => by
    obtain ⟨oe, vs, he, hz, hd⟩ := fl.there
    obtain ⟨_, o, e, hn⟩ := fl.2.2.1.mem hm
    rw [he] at e
    cases e
    exact hn _ hd
  refine Land.go (B := B) (cls := cls) (d := d) (sI := sI) tk hk ⟨ok, hs, hf, hN, J, nb, na, up.trans up3, os, ag, fl, fun z => ?_, fun hm => ?_⟩ w
  · exact nfr (List.mem_filterMap.mpr ⟨X.env, List.mem_cons_self, by rw [hf, z]⟩)
  · obtain ⟨e, he, q⟩ := List.mem_filterMap.mp hm
    exact nfr (List.mem_filterMap.mpr ⟨e, List.mem_cons_of_mem _ he, q⟩)
theorem ps_try_mix {body : List Stmt} {h0 : ExceptHandler} {hds : List ExceptHandler} {l : List Cl1} {pos : Pos} {tb : L2.WX → TS} (hs : X.stack = X.env :: X.outer) (hf : X.env.frame = some X.env.locals) (hN : X.N.Nodup) (tk : L2N.Takes X Wout)
    (hb : ∀ (W : L2.WX) (pn : List (Addr × Obj)) (xe : Value → Shared → Prop), L2N.Takes (X.tr pn xe) W → PassesOwn (model X.prog X.w) X.A X.env xe → PSs (X.tr pn xe) body (tb W))
    (hk : MixOk X (h0 :: hds) l) : PS X (.Try body (h0 :: hds) [] [] pos) (fun D σ H => tb (wMix X.K Wout D l) D σ H) := by
  refine ⟨fun pins s σ H D I h => wpAny_Try_except (wpAny_mono ((hb _ (X.pn ++ pins) _ (fun u s1 x => caught (pins := pins) I.ok hs hf hN tk hk x) PassesOwn.looking).run [] s σ H D (I.toTry _) h) (fun f s1 q => ?_) fun _ _ q => q)⟩
  have q := sp_out I.ok q
  cases f with
  | next => exact wpAny_execs_nil q
  | brk => exact q
  | cont => exact q
  | ret u => exact q
end
end PwT
end
section
set_option Elab.async false
set_option linter.all false
set_option maxRecDepth 100000
set_option maxHeartbeats 4000000
set_option autoImplicit false
/-! Pw18u: try with several clauses: named ones, and unnamed ones whose suite gives a value -/
namespace Pw
open PySem PySem.Spec PyProof.Rows L2
variable {w : Wo} {xw : Xw} {C : Ctx} {W : WX} {X : Cx}
abbrev Hd := List Nat × Option Nat × List Stm
/-- the clauses of the small language and those of the text -/
inductive Meets (w : Wo) (xw : Xw) (C : Ctx) (X : Cx) : List Hd → List PwT.Cl1 → Prop
  | nil : Meets w xw C X [] []
  | named {cs : List Nat} {i : Nat} {suite : List Stm} {cv : Value} {hs : List Hd} {l : List PwT.Cl1} (hex : ∀ k, k < xw.n → PySem.W.exmOne X.K (xw.cA k) cv = some (catches C.Cl k cs)) (r : Meets w xw C X hs l) :
      Meets w xw C X ((cs, some i, suite) :: hs) ((cv, some i, tsX w xw C i suite) :: l)
  | plain {cs : List Nat} {x : Exp} {d : D} {cv : Value} {hs : List Hd} {l : List PwT.Cl1} (hxd : ∀ (C : Ctx) (env : Env) (S : Store), evE C x env S = .ok d S) (hex : ∀ k, k < xw.n → PySem.W.exmOne X.K (xw.cA k) cv = some (catches C.Cl k cs)) (r : Meets w xw C X hs l) :
      Meets w xw C X ((cs, none, [.ret x]) :: hs) ((cv, none, fun _ _ _ => tSts w xw C W0 [.ret x]) :: l)
theorem meets_ok (hx : w.ex = none) {hs : List Hd} {l : List PwT.Cl1} (hm : Meets w xw C X hs l) {φ φ' : Nat → Addr} {S S' : Store} {H H' : Hp} {D0 : Ends} {c : Nat} {fs : List D} {env2 : Env} {σ' : L2.St} {cls : Value} {dd : Option Addr}
    (g : RgS w xw W φ S H (evH C hs c fs env2 S') D0) (la : Lat φ φ' S S' H H') (m' : Sim w.K φ' w.ex H' S' σ' env2) (xr : XR w xw φ' H' S' c fs cls dd) : PwT.wMix X.K W D0 l cls dd σ' H' := by
  have hcls : cls = xw.cA c := xr.2.1
  induction hm with
  | nil =>
    rw [evH] at g
    exact g φ' H' σ' cls dd la m' xr
  | @named cs i suite cv hs l hex r ih =>
    rw [evH] at g
    refine ⟨catches C.Cl c cs, by rw [hcls]; exact hex c xr.1, fun hb a ha => ?_, fun hb => ?_⟩
    · rw [if_pos hb] at g
      have g : RgS w xw W φ S H (if i < env2.length then (evSs { C with exn := some (c, fs) } suite (env2.set i none) S').bind fun fl S => (match fl with
            | .nx env => .ok (.nx (env.set i none)) S
            | .rt d => .ok (.rt d) S
            | _ => .bad) else .bad) D0 := g
      by_cases hl : i < env2.length
      · rw [if_pos hl] at g
        have g := RgS.later g la
        refine ⟨c, fs, φ', env2.set i none, S', xr, ⟨so_ex m'.o, by simp [m'.e.len], fun j d hd => ?_, fun a' j fs' e => ?_, fun a' j d' fs' e => xdO_ok xr e⟩, ?_⟩
        · by_cases z : i = j
          · subst z
            rw [List.getElem?_set_self hl] at hd; cases hd
          · rw [List.getElem?_set_ne z] at hd ⊢
            obtain ⟨v, h1, h2, h3⟩ := m'.e.at_ j d hd
            exact ⟨v, h1, rp_ex h2, h3⟩
        · cases e
          exact List.getElem?_set_self (by rw [m'.e.len]; exact hl)
        · cases r2 : evSs { C with exn := some (c, fs) } suite (env2.set i none) S' with
          | exc c fs S' => rw [r2] at g; exact g
          | bad => rw [r2] at g; exact g
          | ok f S2 =>
            rw [r2] at g
            cases f with
            | nx env3 =>
              intro φ3 H3 σ3 l3 m3
              refine g φ3 H3 _ l3 ⟨so_ex m3.o, by simp [m3.e.len], fun j d hd => ?_, fun a' j fs' e => (by rw [hx] at e; cases e), fun a' j d' fs' e => (by rw [hx] at e; cases e)⟩
              by_cases z : i = j
              · subst z
                by_cases hl3 : i < env3.length
                · rw [List.getElem?_set_self hl3] at hd; cases hd
                · rw [List.getElem?_eq_none (by simpa using hl3)] at hd; cases hd
              · rw [List.getElem?_set_ne z] at hd ⊢
                obtain ⟨v, h1, h2, h3⟩ := m3.e.at_ j d hd
                exact ⟨v, h1, rp_ex h2, h3⟩
            | rt d => exact fun v φ3 H3 l3 so3 r3 => g v φ3 H3 l3 (so_ex so3) ⟨rp_ex r3.1, r3.2⟩
            | bk env3 => exact g.elim
            | ct env3 => exact g.elim
            | ex c fs env3 => exact g.elim
      · rw [if_neg hl] at g; exact g.elim
    · rw [if_neg (by rw [hb]; simp)] at g
      exact ih g
  | @plain cs x d cv hs l hxd hex r ih =>
    rw [evH] at g
    refine ⟨catches C.Cl c cs, by rw [hcls]; exact hex c xr.1, fun hb a ha => ?_, fun hb => ?_⟩
    · rw [if_pos hb] at g
      refine ⟨φ', env2, S', m', ?_⟩
      have e1 : ∀ K : Ctx, evSs K [.ret x] env2 S' = .ok (.rt d) S' := fun K => by rw [evSs, evS, hxd]; rfl
      rw [e1]
      have g : RgS w xw W φ S H ((evSs { C with exn := some (c, fs) } [.ret x] env2 S').bind fun fl S => (match fl with
        | .nx env => .ok (.nx env) S
        | .rt d => .ok (.rt d) S
        | _ => .bad)) D0 := g
      rw [e1] at g
      exact (RgS.later g la : RgS w xw W φ' S' H' (.ok (.rt d) S') D0)
    · rw [if_neg (by rw [hb]; simp)] at g
      exact ih g
theorem sst_tryM {ss : List Stm} {sts : List Stmt} {hs : List Hd} {h0 : ExceptHandler} {hds : List ExceptHandler} {l : List PwT.Cl1} {pos : Pos} (hx : w.ex = none) (hs1 : X.stack = X.env :: X.outer) (hf : X.env.frame = some X.env.locals) (hN : X.N.Nodup) (tk : L2N.Takes X W)
    (hb : ∀ (W : WX) (pn : List (Addr × Obj)) (xe : Value → Shared → Prop), L2N.Takes (X.tr pn xe) W → PassesOwn (model X.prog X.w) X.A X.env xe → PSs (X.tr pn xe) sts (tSts w xw C W ss))
    (hk : PwT.MixOk X (h0 :: hds) l) (hm : Meets w xw C X hs l) : PS X (.Try sts (h0 :: hds) [] [] pos) (tSt w xw C W (.tryS ss hs)) :=
  psI (PwT.ps_try_mix (tb := fun W => tSts w xw C W ss) hs1 hf hN tk hb hk) fun D0 σ H ⟨φ, env, S, m, g⟩ => by
    refine ⟨φ, env, S, m, ?_⟩
    have g : RgS w xw W φ S H ((evSs C ss env S).bind fun fl S => match fl with
      | .ex c fs env => evH C hs c fs env S
      | fl => .ok fl S) D0 := g
    cases r : evSs C ss env S with
    | exc c fs S' => rw [r] at g; exact g
    | bad => rw [r] at g; exact g
    | ok f S' =>
      rw [r] at g
      cases f with
      | ex c fs env2 => exact fun φ' H' σ' cls dd la m' xr => meets_ok hx hm g la m' xr
      | nx env2 => exact g
      | bk env2 => exact g
      | ct env2 => exact g
      | rt d => exact g
end Pw
end
section
set_option Elab.async false
set_option linter.all false
set_option maxRecDepth 100000
set_option maxHeartbeats 2000000
set_option autoImplicit false
/-! Pw18v: isinstance(e, (C1, ..)) -/
namespace Pw
open PySem PySem.Spec PyProof.Rows L2
variable {w : Wo} {xw : Xw} {C : Ctx} {W : WX} {X : Cx} {p : Prg}
def tCs : List V → TA
  | [] => tNil
  | v :: r => tCons (tC v) (tCs r)
theorem tCs_run : ∀ (vs : List V) {σ : L2.St} {H : Hp} {Q : List V → Hp → Prop}, Q vs H → tCs vs σ H Q
  | [], _, _, _, h => h
  | v :: r, _, _, _, h => tCs_run r (Q := fun xs H2 => _) h
/-- the classes of a row of names -/
structure TstsOk (xw : Xw) (X : Cx) (p : Prg) (ks : List Nat) (es : List Expr) (vs : List V) (cvs : List Value) : Prop where
  pa : PA X es (tCs vs)
  cl : Paired ClsV vs cvs
  len : vs.length = ks.length
  kit : ∀ c, c < xw.n → ∃ bs, p.Cl[c]? = some bs ∧ PySem.W.kitAny X.K (xw.cA c) cvs = some (ks.any fun k => bs.contains k)
theorem TstsOk.nil (h : ∀ c, c < xw.n → ∃ bs, p.Cl[c]? = some bs) : TstsOk xw X p [] [] [] [] := ⟨pa_nil, .nil, rfl, fun c hc => by
  obtain ⟨bs, hb⟩ := h c hc
  exact ⟨bs, hb, rfl⟩⟩
theorem TstsOk.cons {k : Nat} {x : Str} {cv : Value} {q : Pos} {ks : List Nat} {es : List Expr} {vs : List V} {cvs : List Value} (ht : TstOk xw X.K X.mg p k x cv) (hg : Gl X x) (hn : okName x = true) (r : TstsOk xw X p ks es vs cvs) : ∃ v, TstsOk xw X p (k :: ks) (.Name x q :: es) (v :: vs) (cv :: cvs) := by
  obtain ⟨v, h1, h2⟩ := pe_tst (pos := q) ht hg hn
  refine ⟨v, pa_cons h1 r.pa rfl, .cons h2 r.cl, by simp [r.len], fun c hc => ?_⟩
  obtain ⟨bs, hb, hk, _⟩ := ht.kit c hc
  obtain ⟨bs', hb', hk'⟩ := r.kit c hc
  rw [hb] at hb'
  cases hb'
  refine ⟨bs, hb, ?_⟩
  show (match PySem.W.kitOne X.K (xw.cA c) cv with
    | some true => some true
    | some false => PySem.W.kitAny X.K (xw.cA c) cvs
    | none => none) = _
  rw [hk, hk', List.any_cons]
  cases bs.contains k <;> rfl
theorem se_isXT {n : Nat} {sl : Option Nat} {i : Nat} {y : Str} {ks : List Nat} {es : List Expr} {vs : List V} {cvs : List Value} {x1 : Nat} {q q1 q2 pos : Pos} (hK : w.K = X.K) (hx : Hx w xw p n C sl X) (hs : sl = some i) (hC : C.Cl = p.Cl) (gl : Gl X "isinstance") (hm : X.mg "isinstance" = none) (hN : X.N[i]? = some y) (hv : Vis X.env.scope y) (hy : okName y = true)
    (ht : TstsOk xw X p ks es vs cvs) (hl : ks.length ≤ 1000) : PE X (.Call (.Name "isinstance" q) [.Name y q1, .Tuple es x1 q2] [] pos) (tE w xw C W (.isX ks)) := by
  obtain ⟨a, oe, i', c, D0, fs0, dd, he, hs', hc, hcn, hD, hp, hz, hf, hE, _⟩ := hx.ex
  rw [hs] at hs'
  cases hs'
  refine peI (cb2 (cr_isXT hE hp hz.zc hf) gl hm bb_isi (pe_exn hN hv hy) (pe_tup ht.pa) (by decide) rfl rfl) fun σ H Q ⟨φ, env, S, m, g⟩ => ?_
  refine ⟨.ref a, m.e.xs a i _ he, tCs_run vs ⟨by rw [ht.len, sizeLine_eq]; omega, fun tp hp0 => ?_⟩⟩
  obtain ⟨bs, hb, hk⟩ := ht.kit c hcn
  rw [hD] at hk
  have g : Rg w xw W σ (RE w) φ S H (match C.exn with
    | some (c, _) => (match C.Cl[c]? with
      | some bs => .ok (.bl (ks.any fun k => bs.contains k)) S
      | none => .bad)
    | none => .bad) Q := g
  rw [hc] at g
  dsimp only at g
  rw [hC, hb] at g
  refine ⟨fun d hd => (xdAt_of m.e he d hd).imp fun fs z => (by rw [upd_ne (ne_of_none z hp0)]; exact z), tp, vs, cvs, ks.any fun k => bs.contains k, rfl, upd_same, ht.cl, hk, ?_⟩
  exact fBl (g.later (Lat.newT hp0)) (m.o.new hp0)
end Pw
end
section
set_option Elab.async false
set_option linter.all false
set_option maxRecDepth 100000
set_option maxHeartbeats 2000000
set_option autoImplicit false
/-! Pw18w: tuple(range(a, b, c)) -/
namespace PwR
open PySem PySem.Spec PyProof.Rows L2
variable {X : Cx} {a b c : Expr}
/-- n numbers from i on, by steps of k -/
def stepV (i k : Int) (n : Nat) : List V := (List.range n).map fun j : Nat => V.int (i + (j : Int) * k)
theorem vals_step {i k : Int} {n : Nat} {acc : Array Value} (h : ItemsOf (fun j v => ∃ t, v = .int (i + j * k) t) acc n) : Vals (stepV i k n) acc.toList := by
  have e : acc.toList.length = n := by rw [Array.length_toList]; exact h.1
  unfold stepV
  rw [← e]
  refine vals_of_get acc.toList _ fun j u hj => ?_
  obtain ⟨t, rfl⟩ := h.2 j u (by rw [← hj, Array.getElem?_toList])
  exact ⟨t, rfl⟩
def tTupStep (ta : TA) : TE := fun σ H Q => ta σ H fun vs H1 => ∃ (i j k : Int) (n : Nat), vs = [.int i, .int j, .int k] ∧ RgC i j k n ∧ n ≤ 2 ^ 24 ∧ ∀ q, H1 q = none → Q (.ref q) (upd H1 q (.tup (stepV i k n)))
theorem pe_tupStep {ta : TA} {p p2 pos pos2 : Pos} (hc : X.calm = true) (hg : Gl X "tuple") (hm : X.mg "tuple" = none) (hg2 : Gl X "range") (hm2 : X.mg "range" = none) (ha : PA X [a, b, c] ta)
    (hs : starEach [a, b, c] X.env = (false, eval a X.env) :: starEach [b, c] X.env) (hp : (backTo pos2 (starEach [b, c] X.env)).any (·.1) = false) :
    PE X (.Call (.Name "tuple" p) [.Call (.Name "range" p2) [a, b, c] [] pos2] [] pos) (tTupStep ta) := by
  refine ⟨fun pins s σ H Q I h => ?_⟩
  have rg : wpAny (model X.prog X.w) X.A (eval (.Call (.Name "range" p2) [a, b, c] [] pos2) X.env) (fun x s1 => ∃ (r : Addr) (i j k : Int) (n : Nat) (t u v : Tok) (H1 : Hp), x = .ref r ∧ IsRange s1.heap r i j k t u v ∧ Inv X pins σ H1 s1 ∧ RgC i j k n ∧ n ≤ 2 ^ 24 ∧ ∀ q, H1 q = none → Q (.ref q) (upd H1 q (.tup (stepV i k n)))) X.xe s := by
    refine Call_ (ld_blt I hg2 hm2 boot_range (PyProof.Rows.callWith_type1 (thn (ha.run pos2 pins s σ H _ I h) fun us s1 ⟨vs, H1, I1, r1, q1⟩ => ?_) hs hp))
    obtain ⟨i, j, k, n, e, rc, hn, q⟩ := q1
    subst e
    rcases r1 with _ | ⟨r, _ | ⟨r', _ | ⟨r'', rr⟩⟩⟩
    cases rr
    obtain ⟨t, rfl⟩ := r
    obtain ⟨t', rfl⟩ := r'
    obtain ⟨t'', rfl⟩ := r''
    exact call_range_3 rc.1 ⟨_, i, j, k, n, _, _, _, H1, rfl, IsRange.new _ _ _ _ _ _ _, I1.kept fun b o e => Heap.get?_push_of_some _ e, rc, hn, q⟩ (.inl (PyProof.noPylong_small rc.2.1))
  refine Call_ (ld_blt I hg hm boot_tuple (PyProof.Rows.callWith_type1 (args_cons (thn rg fun x s1 ⟨r, i, j, k, n, t, u, v, H1, ex, hr, I1, rc, hn, q⟩ => args_nil ?_) (by rfl)) (by rfl)))
  subst ex
  obtain ⟨c0, c1, c2, c3⟩ := rc
  refine call_tuple_range (n := n) (I1.ok.hd hc) hr c2 c3 hn fun h' tk acc hk hi => ?_
  have I2 : Inv X pins σ H1 { s1 with heap := h', toks := tk } := I1.kept hk
  refine ⟨.ref h'.objs.size, upd H1 h'.objs.size (.tup (stepV i k n)), I2.laid (t' := tk) (fun c o e => Heap.get?_push_of_some _ e) (Nat.le_refl _) (show ObjOk X.prog X.w _ _ _ (.tup (stepV i k n)) from ⟨?_, acc.toList, vals_step hi, ?_⟩), rfl, q _ (I2.hok.fresh (Nat.le_refl _))⟩
  · simp only [stepV, List.length_map, List.length_range]; rw [sizeLine_eq]; omega
  · rw [Array.toArray_toList]; exact IsTup.new _ _
end PwR
end
section
set_option Elab.async false
set_option linter.all false
set_option maxRecDepth 100000
set_option maxHeartbeats 2000000
set_option autoImplicit false
/-! Pw18x: tuple(range(a, b, c)) by the evaluator -/
namespace Pw
open PySem PySem.Spec PyProof.Rows L2
variable {w : Wo} {xw : Xw} {C : Ctx} {W : WX} {X : Cx}
theorem rp_step {φ : Nat → Addr} {H : Hp} (i k : Int) : ∀ (l : List Nat), RpA w.K φ w.ex H (l.map fun j : Nat => V.int (i + (j : Int) * k)) (l.map fun j : Nat => D.int (i + (j : Int) * k))
  | [] => .nil
  | j :: r => .cons (.int _) (rp_step i k r)
theorem se_tupR {a b c : Expr} {x y z : Exp} {q q2 pos pos2 : Pos} (hc : X.calm = true) (hg : Gl X "tuple") (hm : X.mg "tuple" = none) (hg2 : Gl X "range") (hm2 : X.mg "range" = none) (ha : PE X a (tE w xw C W x)) (hb : PE X b (tE w xw C W y)) (hd : PE X c (tE w xw C W z)) (h : okX a = true) (h2 : okX b = true) (h3 : okX c = true) :
    PE X (.Call (.Name "tuple" q) [.Call (.Name "range" q2) [a, b, c] [] pos2] [] pos) (tE w xw C W (.tupR x y z)) :=
  peI (PwR.pe_tupStep hc hg hm hg2 hm2 (pa_cons ha (pa_cons hb (pa_cons hd pa_nil (star_ok h3)) (star_ok h2)) (star_ok h)) (star_ok h) (plainArgs_ok (by simp [h2, h3]))) fun σ H Q ⟨φ, env, S, m, g⟩ => by
    refine tE.then m g fun v d S1 φ1 H1 l1 m1 r1 g => ?_
    refine tE.then m1 g fun u d2 S2 φ2 H2 l2 m2 r2 g => ?_
    refine tE.then m2 g fun u d3 S3 φ3 H3 l3 m3 r3 g => ?_
    cases d with
    | int i => cases d2 with
      | int j => cases d3 with
        | int k =>
          cases r1.1
          cases r2.1
          cases r3.1
          obtain ⟨h1, g⟩ := Rg.ite (c := (small i && small j && (decide (0 < k) && decide (k < 1073741824)) && decide ((rngL3 i j k).length ≤ line)) = true) g
          simp only [Bool.and_eq_true, decide_eq_true_eq] at h1
          obtain ⟨⟨⟨s1, s2⟩, k1, k2⟩, hn⟩ := h1
          have hlen : (rngL3 i j k).length = (if i < j then ((j - i - 1) / k + 1).toNat else 0) := by
            unfold rngL3
            rw [if_neg (show ¬ k = -1 by omega)]; simp
          refine ⟨i, j, k, (if i < j then ((j - i - 1) / k + 1).toNat else 0), rfl, rgC_up s1 s2 k1 k2, by rw [← hlen]; exact hn, fun p hp => ?_⟩
          have e : rngL3 i j k = (List.range (if i < j then ((j - i - 1) / k + 1).toNat else 0)).map fun t : Nat => D.int (i + (t : Int) * k) := by
            unfold rngL3
            rw [if_neg (show ¬ k = -1 by omega)]
          rw [e] at g
          exact g.g0.tup m3.o (rp_step i k _) (bels_map fun _ => rfl) hp
        | _ => exact g.elim
      | _ => exact g.elim
    | _ => exact g.elim
end Pw
end
section
set_option Elab.async false
set_option linter.all false
set_option maxRecDepth 100000
set_option maxHeartbeats 2000000
set_option autoImplicit false
/-! Pw18y: text.split(sign), "0123456789".find(digit), xs.insert(i, y), f'{a}t{b}' -/
namespace Pw
open PySem PySem.Spec PyProof.Rows L2 TL
variable {w : Wo} {xw : Xw} {C : Ctx} {W : WX} {X : Cx}
theorem spl_splC (c : Nat) : ∀ (l acc : List Nat), spl [c] 0 acc l = (splC c l).modifyHead (acc ++ ·)
  | [], acc => by rw [spl_nil]; simp [splC]
  | a :: r, acc => by
    have hp : pre [c] (a :: r) = (a == c) := by simp [pre]
    by_cases e : a = c
    · rw [spl_hit (by rw [hp]; simp [e])]
      simp only [splC, if_pos e, List.modifyHead_cons, List.append_nil]
      have := spl_splC c r []
      simp only [List.length_singleton, Nat.sub_self]
      rw [this]
      congr 1
      cases splC c r <;> rfl
    · rw [spl_miss (by rw [hp]; simpa using e), spl_splC c r]
      simp only [splC, if_neg e]
      cases splC c r with
      | nil => rfl
      | cons w ws => simp
theorem splC_ok (x y : Str) (c : Nat) (hy : y.cps.toList = [c]) (hc : c < 128) : (Txt.split x y).map tl = splC c x.cps.toList := by
  have e : tl y = [c] := hy
  have hk : y.cps.all (· < 256) = true := by
    rw [← Array.all_toList, hy]; simp; omega
  rw [split_spl x y (by rw [e]; simp) (kind_ok hk), e, spl_splC]
  show (splC c x.cps.toList).modifyHead (fun z => [] ++ z) = _
  cases splC c x.cps.toList <;> simp
theorem rp_strs {φ : Nat → Addr} {H : Hp} : ∀ (ys : List Str), RpA w.K φ w.ex H (ys.map V.str) ((ys.map tl).map D.str)
  | [] => .nil
  | y :: r => .cons (.str y) (rp_strs r)
theorem bels_st0 (n : Nat) : ∀ (l : List (List Nat)), D.bels n (l.map D.str) = true
  | [] => rfl
  | a :: r => by show (D.bel n (.str a) && D.bels n (r.map D.str)) = true; rw [bels_st0 n r]; rfl
section
variable {e a b c o : Expr} {es : List Expr} {x y z : Exp} {xs : List Exp} {pos p apos : Pos}
theorem se_split (ho : PE X o (tE w xw C W x)) (ha : PE X a (tE w xw C W y)) (h1 : okX a = true) (hb : attributeBase o "split" X.env (eval o X.env) = eval o X.env) (hl : (apos.endLine == pos.line) = true) :
    PE X (.Call (.Attribute o "split" apos) [a] [] pos) (tE w xw C W (.split x y)) :=
  peI (pe_bm PySem.F.plainAttrs_str PySem.F.slot_str_split PySem.F.type_str_split mt_split ho (pa_cons ha pa_nil (star_ok h1)) hb (few_ok h1) hl (star_ok h1) rfl) fun σ H Q ⟨φ, env, S, m, g⟩ => by
    refine tE.then m g fun v d S1 φ1 H1 l1 m1 r1 g => ?_
    obtain ⟨hi, g⟩ := Rg.ite (c := isS d = true) g
    obtain ⟨t, rfl, rfl⟩ := isS_ok r1 hi
    refine ⟨rfl, ?_⟩
    refine tE.then m1 g fun u d2 S2 φ2 H2 l2 m2 r2 g => ?_
    match d2, r2, g with
    | .str [c], r2, g =>
      obtain ⟨z, rfl, ez'⟩ := rp_inv r2.1
      obtain ⟨h2, g⟩ := Rg.ite (c := (decide (c < 128) && decide (t.cps.toList.length + 2 ≤ line)) = true) g
      simp only [Bool.and_eq_true, decide_eq_true_eq] at h2
      have hlen : z.length = 1 := by rw [str_len, ez']; rfl
      refine ⟨t, z, rfl, rfl, by rw [hlen]; rfl, by rw [str_len, line_eq]; exact h2.2, fun q hq => ?_⟩
      have e := splC_ok t z c ez' h2.1
      rw [← e] at g
      exact Rg0.lst g.g0 m2.o (rp_strs _) (bels_st0 _ _) hq
    | .str [], r2, g => exact g.elim
    | .str (_ :: _ :: _), r2, g => exact g.elim
    | .non, r2, g => exact g.elim
    | .bl _, r2, g => exact g.elim
    | .int _, r2, g => exact g.elim
    | .tup _, r2, g => exact g.elim
    | .obj _, r2, g => exact g.elim
    | .exc _ _, r2, g => exact g.elim
theorem find_ok (x y : Str) (c : Nat) (hx : x.cps.toList = [48, 49, 50, 51, 52, 53, 54, 55, 56, 57]) (hy : y.cps.toList = [c]) (h1 : 48 ≤ c) (h2 : c < 58) : Txt.find x y = (c : Int) - 48 := by
  have ex : x = ⟨[48, 49, 50, 51, 52, 53, 54, 55, 56, 57].toArray⟩ := ext_tl hx
  have ey : y = ⟨[c].toArray⟩ := ext_tl hy
  rw [ex, ey]
  have : c = 48 ∨ c = 49 ∨ c = 50 ∨ c = 51 ∨ c = 52 ∨ c = 53 ∨ c = 54 ∨ c = 55 ∨ c = 56 ∨ c = 57 := by omega
  rcases this with rfl | rfl | rfl | rfl | rfl | rfl | rfl | rfl | rfl | rfl <;> decide +kernel
theorem se_find (ho : PE X o (tE w xw C W x)) (ha : PE X a (tE w xw C W y)) (h1 : okX a = true) (hb : attributeBase o "find" X.env (eval o X.env) = eval o X.env) (hl : (apos.endLine == pos.line) = true) :
    PE X (.Call (.Attribute o "find" apos) [a] [] pos) (tE w xw C W (.find x y)) :=
  peI (pe_bm PySem.F.plainAttrs_str PySem.F.slot_str_find PySem.F.type_str_find mt_find ho (pa_cons ha pa_nil (star_ok h1)) hb (few_ok h1) hl (star_ok h1) rfl) fun σ H Q ⟨φ, env, S, m, g⟩ => by
    refine tE.then m g fun v d S1 φ1 H1 l1 m1 r1 g => ?_
    obtain ⟨hi, g⟩ := Rg.ite (c := isS d = true) g
    obtain ⟨t, rfl, rfl⟩ := isS_ok r1 hi
    refine ⟨rfl, ?_⟩
    refine tE.then m1 g fun u d2 S2 φ2 H2 l2 m2 r2 g => ?_
    match d2, r2, g with
    | .str [c], r2, g =>
      obtain ⟨z, rfl, ez'⟩ := rp_inv r2.1
      obtain ⟨h2, g⟩ := Rg.ite (c := (decide (t.cps.toList = [48, 49, 50, 51, 52, 53, 54, 55, 56, 57]) && (decide (48 ≤ c) && decide (c < 58))) = true) g
      simp only [Bool.and_eq_true, decide_eq_true_eq] at h2
      refine ⟨t, z, rfl, rfl, ?_⟩
      rw [find_ok t z c h2.1 ez' h2.2.1 h2.2.2]
      exact fInt g m2.o
    | .str [], r2, g => exact g.elim
    | .str (_ :: _ :: _), r2, g => exact g.elim
    | .non, r2, g => exact g.elim
    | .bl _, r2, g => exact g.elim
    | .int _, r2, g => exact g.elim
    | .tup _, r2, g => exact g.elim
    | .obj _, r2, g => exact g.elim
    | .exc _ _, r2, g => exact g.elim
theorem few2_ok {cpos : Pos} {env : PySem.Env} (h1 : okX a = true) (h2 : okX b = true) : ((backTo cpos (starEach [a, b] env)).all (fun x => !x.1) && (backToKw cpos (keywordEach [] env)).all (fun x => x.1.isSome)
      && decide ([a, b].length + ([] : List Keyword).length + (if ([] : List Keyword).isEmpty then 0 else 1) < 30)) = true := by
  rw [star_ok h1, star_ok h2]; rfl
theorem se_insl (hK : w.K = X.K) (ho : PE X o (tE w xw C W x)) (ha : PE X a (tE w xw C W y)) (hc : PE X b (tE w xw C W z)) (h1 : okX a = true) (h2 : okX b = true) (hb : attributeBase o "insert" X.env (eval o X.env) = eval o X.env) (hl : (apos.endLine == pos.line) = true) :
    PE X (.Call (.Attribute o "insert" apos) [a, b] [] pos) (tE w xw C W (.insl x y z)) :=
  peI (pe_bm PySem.F.plainAttrs_list PySem.F.slot_list_insert PySem.F.type_list_insert mt_insert ho (pa_cons ha (pa_cons hc pa_nil (star_ok h2)) (star_ok h1)) hb (few2_ok h1 h2) hl (star_ok h1) (plainArgs_ok (by simp [h2]))) fun σ H Q ⟨φ, env, S, m, g⟩ => by
    refine tE.then m g fun v d S1 φ1 H1 l1 m1 r1 g => ?_
    obtain ⟨hi, g⟩ := Rg.ite (c := isL d S1 = true) g
    obtain ⟨n, ds, vs, rfl, rfl, en, hH, rv⟩ := isL_ok m1.o r1 hi
    refine ⟨.inl ⟨rfl, vs, SqL.of hH⟩, ?_⟩
    refine tE.then m1 g fun u d2 S2 φ2 H2 l2 m2 r2 g => ?_
    refine tE.then m2 g fun u3 d3 S3 φ3 H3 l3 m3 r3 g => ?_
    cases d2 with
    | int k =>
      cases r2.1
      have g : Rg w xw W σ (RE w) φ3 S3 H3 (match get S3 n with
        | some (.lst xs) => if (decide (xs.length < line) && (decide (0 ≤ k) && decide (k < 2 ^ 62))) = true then .ok .non (put S3 n (.lst (xs.take k.toNat ++ [d3] ++ xs.drop k.toNat))) else .bad
        | _ => .bad) Q := g
      split at g
      · rename_i ys e2
        obtain ⟨hl2, g⟩ := Rg.ite g
        simp only [Bool.and_eq_true, decide_eq_true_eq] at hl2
        obtain ⟨us, h2, ru⟩ := m3.o.ob n _ e2
        have hn : n < S1.length := get_lt en
        have same : φ3 n = φ1 n := by rw [l3.same n (by have := l2.le; omega), l2.same n hn]
        rw [same] at h2
        have bb := bels_all.mp (m3.o.wf n _ e2)
        have b3 : D.bels S3.length (ys.take k.toNat ++ [d3] ++ ys.drop k.toNat) = true := bels_all.mpr fun d hd => by
          simp only [List.mem_append, List.mem_singleton] at hd
          rcases hd with (hd | rfl) | hd
          · exact bb d (List.mem_of_mem_take hd)
          · exact r3.2
          · exact bb d (List.mem_of_mem_drop hd)
        obtain ⟨lw, sw⟩ := m3.o.write (n := n) (o := .lst ys) (o' := .lst (ys.take k.toNat ++ [d3] ++ ys.drop k.toNat)) (u := .lst (us.take k.toNat ++ [u3] ++ us.drop k.toNat)) e2 rfl b3 fun w' hw => ⟨us.take k.toNat ++ [u3] ++ us.drop k.toNat, upd_same, (((ru.take k.toNat).append (.cons r3.1 .nil)).append (ru.drop k.toNat)).mono b3 (fun _ _ => rfl) (Kp.set hw (by rw [same, h2] at hw; cases hw; trivial))⟩
        rw [same] at lw sw
        exact ⟨φ1 n, us, k, u3, rfl, rfl, h2, by rw [ru.length, line_eq]; exact hl2.1, hl2.2.1, by omega, fW g lw sw .non rfl⟩
      · exact g.elim
    | _ => cases d3 <;> exact g.elim
/-! ### f'{a}t{b}' -/
theorem se_fs {t : List Nat} {k : Nat} {q1 q2 q3 : Pos} {st : Str} (ho : PE X a (tE w xw C W x)) (ha : PE X b (tE w xw C W y)) (ht : st.cps.toList = t) :
    PE X (.JoinedStr [.FormattedValue a (-1) none q1, .Constant (.str st) k q2, .FormattedValue b (-1) none q3] pos) (tE w xw C W (.fs x t y)) :=
  peI (pe_joined (.cons (pe_fmt ho) (.cons pe_str (.cons (pe_fmt ha) .nil)))) fun σ H Q ⟨φ, env, S, m, g⟩ => by
    refine tE.then m g fun v d S1 φ1 H1 l1 m1 r1 g => ?_
    obtain ⟨hi, g⟩ := Rg.ite (c := shortS d t = true) g
    obtain ⟨s, rfl, hi2⟩ : ∃ s, d = .str s ∧ s.length + t.length ≤ 1000 := by
      cases d with
      | str s => exact ⟨s, rfl, of_decide_eq_true hi⟩
      | _ => cases hi
    obtain ⟨z, rfl, ez'⟩ := rp_inv r1.1
    have hz : z.length = s.length := by rw [str_len, ez']
    have hs : st.length = t.length := by rw [str_len, ht]
    have hemp : (Str.empty ++ z).length = s.length := by rw [← hz, str_len, str_len]; show (tl (Str.empty ++ z)).length = _; rw [tl_append]; rfl
    have hemp2 : (Str.empty ++ z ++ st).length = s.length + t.length := by rw [← hs, ← hemp, str_len, str_len, str_len]; show (tl (Str.empty ++ z ++ st)).length = _; rw [tl_append, List.length_append]
    refine .inl ⟨z, rfl, by rw [hz, sizeLine_eq]; omega, z, rfl, by rw [hemp, sizeLine_eq]; omega, st, rfl, by rw [hemp2, sizeLine_eq]; omega, ?_⟩
    refine tE.then m1 g fun u d2 S2 φ2 H2 l2 m2 r2 g => ?_
    cases d2 with
    | int i =>
      cases r2.1
      obtain ⟨hi3, g⟩ := Rg.ite (c := i.natAbs.log2 < 1920) g
      have e := int_text_length_le (k := 1920) (by decide) hi3
      have hfin : (Str.empty ++ z ++ st ++ Str.ofString (toString i)).cps.toList = s ++ t ++ codes (toString i) := by
        show tl (Str.empty ++ z ++ st ++ Str.ofString (toString i)) = _
        rw [tl_append, tl_append, tl_append, tl_ofString]
        show ([] ++ z.cps.toList ++ st.cps.toList) ++ codes (toString i) = _
        rw [ez', ht, List.nil_append]
      refine .inr ⟨i, rfl, hi3, Str.ofString (toString i), rfl, ?_, ?_⟩
      · have : (Str.empty ++ z ++ st ++ Str.ofString (toString i)).length = s.length + t.length + (Str.ofString (toString i)).length := by
          rw [← hemp2, str_len, str_len, str_len]
          show (tl (Str.empty ++ z ++ st ++ Str.ofString (toString i))).length = _
          rw [tl_append, List.length_append]
        rw [this, PySem.ofString_length, sizeLine_eq]; omega
      · rw [← hfin] at g
        exact fE g m2.o (.str _) rfl
    | _ => exact g.elim
end
end Pw
end
section
set_option Elab.async false
set_option linter.all false
set_option maxRecDepth 100000
set_option maxHeartbeats 1000000
set_option autoImplicit false
/-! Pw19: the look at the text: is this term of the small language what stands there? -/
namespace Pw
open PySem PySem.Spec PyProof.Rows L2
/-- what is fixed within a def -/
structure Cf where
  nm : Nm
  N : List Str
  cm : Bool
  sl : Option Nat
/-- what changes with a block -/
structure Cs where
  sc : Scope
  cf : Str → Bool
def blkS (c : Cs) (scope : Scope) : Cs := ⟨relS scope c.sc, fun x => scope.names.lookup x == some .cell⟩
inductive Md where | n | i | s | l
def bopOk : Bop → Operator → Bool
  | .add, .Add => true | .sub, .Sub => true | .mul, .Mult => true | .fdiv, .FloorDiv => true | .mod, .Mod => true | .pow, .Pow => true | .shl, .LShift => true | .shr, .RShift => true | .band, .BitAnd => true
  | _, _ => false
def copOk : Cop → CmpOp → Bool
  | .eq, .Eq => true | .ne, .NotEq => true | .lt, .Lt => true | .le, .LtE => true | .gt, .Gt => true | .ge, .GtE => true | .inn, .In => true | .nin, .NotIn => true | .is, .Is => true | .isn, .IsNot => true
  | _, _ => false
def nameIs (c : Cs) (e : Expr) (s : Str) : Bool := match e with
  | .Name x _ => eqS x s && gloB c.sc x
  | _ => false
def okB (o : Expr) : Bool := match o with
  | .Call _ [] [] _ => false
  | _ => true
def kdS : Kd → Str
  | .int => "int" | .bool => "bool" | .str => "str" | .tuple => "tuple" | .list => "list" | .dict => "dict" | .set => "" | .own _ => ""
def okK : Kd → Bool
  | .set => false | .own _ => false | _ => true
/-- forms whose test is their value's truth -/
def okV : Expr → Bool
  | .Name .. => true | .Call .. => true | .Subscript .. => true | .Constant .. => true | .Attribute .. => true
  | _ => false
def isBo : Expr → Bool
  | .BoolOp .. => true
  | _ => false
def nameC (f : Cf) (c : Cs) (i : Nat) (e : Expr) : Bool := match e with
  | .Name x _ => isAt f.N i x && (locB c.sc x || (match kindAt c.sc.names x with | some .cell => true | _ => false) && c.cf x)
  | _ => false
def namesC (f : Cf) (c : Cs) : List Nat → List Expr → Bool
  | [], [] => true
  | i :: is, e :: es => nameC f c i e && namesC f c is es
  | _, _ => false
/-- zip is walked with a tuple of names only -/
def zipT (l : Src) (tg : Expr) : Bool := match l with
  | .zip _ _ => (match tg with | .Tuple .. => true | _ => false)
  | _ => true
def tgC (f : Cf) (c : Cs) (t : Tg) (e : Expr) : Bool := match t with
  | .v i => nameC f c i e && (match f.sl with | some j => decide (i ≠ j) | none => true)
  | .tup is => (match e with
    | .Tuple es _ _ => namesC f c is es && f.cm
    | _ => false)
def ownOf (N : List Str) (t : Tg) : List (Str × Nat) := t.ix.map fun i => ((N[i]?).getD "", i)
def constC (d : D) (e : Expr) : Bool := match e with
  | .Constant k _ _ => (match k, d with
    | .none, .non => true
    | .bool b, .bl b' => b == b'
    | .int i, .int j => decide (i = j)
    | .str s, .str l => decide (s.cps.toList = l)
    | _, _ => false)
  | _ => false
/-- the exception's name -/
def slN (f : Cf) (c : Cs) (y : Str) : Bool := match f.sl with
  | some i => isAt f.N i y && visB c.sc y && okName y
  | none => false
def hotAt (l : List (Nat × Str)) (j : Nat) (x : Str) : Bool := l.any fun q => decide (q.1 = j) && eqS q.2 x
/-- the field k of these classes -/
def fldAll (fls : List (List Str)) (k : Nat) (n : Str) (cs : List Nat) : Bool := cs.all fun i => (match fls[i]? with
  | some l => decide l.Nodup && isAt l k n
  | none => false)
/-- names of classes -/
def cXs (f : Cf) (c : Cs) : List Nat → List Expr → Bool
  | [], [] => true
  | k :: ks, .Name x _ :: r => isAt f.nm.tst k x && gloB c.sc x && okName x && cXs f c ks r
  | _, _ => false
mutual
def cE (f : Cf) (c : Cs) : Exp → Expr → Bool
  | .c d, e => constC d e
  | .v i, e => (match e with
    | .Name x _ => isAt f.N i x && visB c.sc x && okName x
    | _ => false)
  | .g i, e => (match e with
    | .Name x _ => isAt f.nm.gs i x && gloB c.sc x && okName x
    | _ => false)
  | .bin o x y, e => (match e with
    | .BinOp a op b _ => bopOk o op && cE f c x a && cE f c y b
    | _ => false)
  | .neg x, e => (match e with
    | .UnaryOp op a _ => (match op with | .USub => cE f c x a | _ => false)
    | _ => false)
  | .notV x, e => (match e with
    | .UnaryOp op a _ => (match op with | .Not => cE f c x a | _ => false)
    | _ => false)
  | .andV x y, e => (match e with
    | .BoolOp op (a :: b :: r) p => (match op with | .And => cE f c x a && cE f c y (match r with | [] => b | _ => .BoolOp .And (b :: r) p) | _ => false)
    | _ => false)
  | .orV x y, e => (match e with
    | .BoolOp op (a :: b :: r) p => (match op with | .Or => cE f c x a && cE f c y (match r with | [] => b | _ => .BoolOp .Or (b :: r) p) | _ => false)
    | _ => false)
  | .cmp o x y, e => (match e with
    | .Compare a [op] [b] _ => copOk o op && cE f c x a && cE f c y b && okX b
    | _ => false)
  | .chn o o' x y z, e => (match e with
    | .Compare a [op, op'] [b, d] _ => copOk o op && copOk o' op' && cE f c x a && cE f c y b && cE f c z d && okX d
    | _ => false)
  | .ife t x y, e => (match e with
    | .IfExp g a b _ => cT f c t g && cE f c x a && cE f c y b
    | _ => false)
  | .call i xs, e => (match e with
    | .Call (.Name n _) (a :: es) [] _ => isAt f.nm.fns i n && gloB c.sc n && okName n && f.cm && okX a && es.all okX && cEs f c xs (a :: es)
    | _ => false)
  | .isX ks, e => (match ks, e with
    | [k], .Call n [.Name y _, .Name x _] [] _ => !f.cm && nameIs c n "isinstance" && slN f c y && isAt f.nm.tst k x && gloB c.sc x && okName x
    | k :: ks, .Call n [.Name y _, .Tuple es _ _] [] _ => !f.cm && nameIs c n "isinstance" && slN f c y && cXs f c (k :: ks) es && decide ((k :: ks).length ≤ 1000)
    | _, _ => false)
  | .xf cs k, e => (match e with
    | .Attribute (.Name y _) n _ => !f.cm && slN f c y && fldAll f.nm.fls k n cs
    | _ => false)
  | .anyH x, e => (match e with
    | .Call n [a] [] _ => !f.cm && nameIs c n "any" && okX a && cE f c x a
    | _ => false)
  | .hot j, e => (match e with
    | .Call (.Name x _) [.Name y _] [] _ => !f.cm && slN f c y && hotAt f.nm.hots j x && gloB c.sc x && okName x
    | _ => false)
  | .f1 g x, e => (match e with
    | .Call n [a] [] _ => (match g with
      | .len => nameIs c n "len" && okX a && cE f c x a
      | .int => nameIs c n "int" && okX a && cE f c x a
      | .abs => nameIs c n "abs" && okX a && cE f c x a
      | .str => nameIs c n "str" && okX a && cE f c x a)
    | _ => false)
  | .f2 g x y, e => (match e with
    | .Call n [a, b] [] _ => f.cm && okX a && okX b && cE f c x a && cE f c y b && (match g with
      | .min => nameIs c n "min"
      | .max => nameIs c n "max")
    | _ => false)
  | .isI x ks, e => (match e, ks with
    | .Call n [a, t] [] _, [k] => nameIs c n "isinstance" && okK k && nameIs c t (kdS k) && okX a && cE f c x a
    | _, _ => false)
  | .idx x y, e => (match e with
    | .Subscript a b _ => cE f c x a && cE f c y b && okX b
    | _ => false)
  | .sl x lo hi, e => (match e with
    | .Subscript a (.Slice l h none _) _ => cE f c x a && cO f c lo l && cO f c hi h
    | _ => false)
  | .rev x, e => (match e with
    | .Subscript a (.Slice none none (some (.UnaryOp op (.Constant (.int j) _ _) _)) _) _ => (match op with | .USub => decide (j = 1) && cE f c x a | _ => false)
    | _ => false)
  | .tup xs, e => (match e with
    | .Tuple es _ _ => cEs f c xs es && decide (xs.length ≤ 1000)
    | _ => false)
  | .ls l, e => cR f c .n l e
  | .tupR x y z, e => (match e with
    | .Call n [.Call m [a, b, d] [] _] [] _ => f.cm && nameIs c n "tuple" && nameIs c m "range" && okX a && okX b && okX d && cE f c x a && cE f c y b && cE f c z d
    | _ => false)
  | .tupOf l, e => (match e with
    | .Call n [a] [] _ => nameIs c n "tuple" && okX a && cR f c .s l a
    | _ => false)
  | .allOf l, e => (match e with
    | .Call n [a] [] _ => f.cm && nameIs c n "all" && okX a && cR f c .l l a
    | _ => false)
  | .anyOf l, e => (match e with
    | .Call n [a] [] _ => f.cm && nameIs c n "any" && okX a && cR f c .l l a
    | _ => false)
  | .sumOf l, e => (match e with
    | .Call n [a] [] _ => f.cm && nameIs c n "sum" && okX a && cR f c .s l a
    | _ => false)
  | .minOf l, e => (match e with
    | .Call n [a] [] _ => f.cm && nameIs c n "min" && okX a && cR f c .l l a
    | _ => false)
  | .maxOf l, e => (match e with
    | .Call n [a] [] _ => f.cm && nameIs c n "max" && okX a && cR f c .l l a
    | _ => false)
  | .sorted l, e => (match l with
    | .keys x => (match e with
      | .Call n [a] [] _ => f.cm && nameIs c n "sorted" && okX a && cE f c x a
      | _ => false)
    | l => (match e with
      | .Call n [a] [] _ => nameIs c n "sorted" && okX a && cR f c .l l a
      | _ => false))
  | .dct es, e => (match e with
    | .Dict ks vs _ => cKV f c es ks vs && decide (ks.length ≤ 15)
    | _ => false)
  | .join x l, e => (match e with
    | .Call (.Attribute o n ap) [a] [] p => eqS n "join" && okB o && (ap.endLine == p.line) && okX a && cE f c x o && cR f c .s l a
    | _ => false)
  | .app x y, e => (match e with
    | .Call (.Attribute o n ap) [a] [] p => eqS n "append" && okB o && (ap.endLine == p.line) && okX a && cE f c x o && cE f c y a
    | _ => false)
  | .pop x, e => (match e with
    | .Call (.Attribute o n ap) [] [] p => eqS n "pop" && okB o && (ap.endLine == p.line) && cE f c x o
    | _ => false)
  | .ext x y, e => (match e with
    | .Call (.Attribute o n ap) [a] [] p => eqS n "extend" && okB o && (ap.endLine == p.line) && okX a && cE f c x o && cE f c y a
    | _ => false)
  | .sw x y, e => (match e with
    | .Call (.Attribute o n ap) [a] [] p => eqS n "startswith" && okB o && (ap.endLine == p.line) && okX a && cE f c x o && cE f c y a
    | _ => false)
  | .split x y, e => (match e with
    | .Call (.Attribute o n ap) [a] [] p => eqS n "split" && okB o && (ap.endLine == p.line) && okX a && cE f c x o && cE f c y a
    | _ => false)
  | .find x y, e => (match e with
    | .Call (.Attribute o n ap) [a] [] p => eqS n "find" && okB o && (ap.endLine == p.line) && okX a && cE f c x o && cE f c y a
    | _ => false)
  | .insl x y z, e => (match e with
    | .Call (.Attribute o n ap) [a, b] [] p => eqS n "insert" && okB o && (ap.endLine == p.line) && okX a && okX b && cE f c x o && cE f c y a && cE f c z b
    | _ => false)
  | .fs x t y, e => (match e with
    | .JoinedStr [.FormattedValue a k1 none _, .Constant (.str st) _ _, .FormattedValue b k2 none _] _ => decide (k1 = -1) && decide (k2 = -1) && decide (st.cps.toList = t) && cE f c x a && cE f c y b
    | _ => false)
  | _, _ => false
def cEs (f : Cf) (c : Cs) : List Exp → List Expr → Bool
  | [], es => (match es with | [] => true | _ => false)
  | x :: xs, es => (match es with | e :: es => cE f c x e && okX e && cEs f c xs es | [] => false)
def cKV (f : Cf) (c : Cs) : List Exp → List (Option Expr) → List Expr → Bool
  | [], ks, vs => (match ks, vs with | [], [] => true | _, _ => false)
  | [_], _, _ => false
  | k :: v :: r, ks, vs => (match ks, vs with
    | some a :: ks, b :: vs => cE f c k a && cE f c v b && cKV f c r ks vs
    | _, _ => false)
def cO (f : Cf) (c : Cs) : Option Exp → Option Expr → Bool
  | none, e => (match e with | none => true | _ => false)
  | some x, e => (match e with | some e => cE f c x e | none => false)
def cR (f : Cf) (c : Cs) : Md → Src → Expr → Bool
  | m, .val x, e => (match m with | .i => cE f c x e | _ => false)
  | m, .seq x, e => (match m with
    | .s => cE f c x e
    | .n => (match e with
      | .Call n [a] [] _ => nameIs c n "list" && okX a && cE f c x a
      | _ => false)
    | _ => false)
  | m, .lis x, e => (match m with | .l => cE f c x e | _ => false)
  | m, .rng x, e => (match m, e with
    | .i, .Call n [a] [] _ => nameIs c n "range" && okX a && cE f c x a
    | _, _ => false)
  | m, .rng2 x y, e => (match m, e with
    | .i, .Call n [a, b] [] _ => nameIs c n "range" && okX a && okX b && cE f c x a && cE f c y b
    | _, _ => false)
  | m, .rng3 x y z, e => (match m, e with
    | .i, .Call n [a, b, d] [] _ => nameIs c n "range" && okX a && okX b && okX d && cE f c x a && cE f c y b && cE f c z d
    | _, _ => false)
  | m, .disp xs, e => (match m, e with
    | .i, _ => false
    | _, .List es _ => cEs f c xs es && decide (xs.length ≤ 1000)
    | _, _ => false)
  | m, .comp x t l ts, e => (match m, e with
    | .i, _ => false
    | _, .ListComp elt [⟨tg, iter, ifs, as⟩] scope _ => f.cm && decide (as = 0) && okX iter && blkC f.N c.sc scope (ownOf f.N t) && tgC f (blkS c scope) t tg && (zipT l tg && cR f c .i l iter) && cTs f (blkS c scope) ts ifs && cE f (blkS c scope) x elt
    | _, _ => false)
  | m, .comp2 x t l ts t1 l1 ts1, e => (match m, e with
    | .i, _ => false
    | _, .ListComp elt [⟨tg, iter, ifs, as⟩, ⟨tg1, iter1, ifs1, as1⟩] scope _ => f.cm && decide (as = 0) && decide (as1 = 0) && okX iter && okX iter1 && blkC f.N c.sc scope (ownOf f.N t ++ ownOf f.N t1) && tgC f (blkS c scope) t tg && tgC f (blkS c scope) t1 tg1 && (zipT l tg && cR f c .i l iter) && cTs f (blkS c scope) ts ifs && (zipT l1 tg1 && cR f (blkS c scope) .i l1 iter1) && cTs f (blkS c scope) ts1 ifs1 && cE f (blkS c scope) x elt
    | _, _ => false)
  | m, .zip x y, e => (match m, e with
    | .i, .Call n [a, b] [] _ => nameIs c n "zip" && okX a && okX b && cE f c x a && cE f c y b
    | _, _ => false)
  | _, _, _ => false
def cT (f : Cf) (c : Cs) : Tst → Expr → Bool
  | .val x, e => cE f c x e && (okV e || (match x, e with | .cmp .., .Compare .. => true | .chn .., .Compare .. => true | _, _ => false))
  | .not t, e => (match e with
    | .UnaryOp op a _ => (match op with | .Not => cT f c t a | _ => false)
    | _ => false)
  | .and t u, e => (match e with
    | .BoolOp op (a :: b :: r) p => (match op with | .And => cT f c t a && cT f c u (match r with | [] => b | _ => .BoolOp .And (b :: r) p) | _ => false)
    | _ => false)
  | .or t u, e => (match e with
    | .BoolOp op (a :: b :: r) p => (match op with | .Or => cT f c t a && cT f c u (match r with | [] => b | _ => .BoolOp .Or (b :: r) p) | _ => false)
    | _ => false)
def cTs (f : Cf) (c : Cs) : List Tst → List Expr → Bool
  | [], es => (match es with | [] => true | _ => false)
  | t :: ts, es => (match ts, es with | [], [e] => cT f c t e | _, _ => false)
end
end Pw
end
section
set_option Elab.async false
set_option linter.all false
set_option maxRecDepth 100000
set_option maxHeartbeats 1000000
set_option autoImplicit false
/-! Pw20: what the look has found holds -/
namespace Pw
open PySem PySem.Spec PyProof.Rows L2
variable {w : Wo} {xw : Xw} {C : Ctx} {p : Prg} {n : Nat} {f : Cf}
structure Fc (w : Wo) (xw : Xw) (p : Prg) (n : Nat) (C : Ctx) (f : Cf) (c : Cs) (W : WX) (X : Cx) : Prop where
  hK : w.K = X.K
  gd : Gd ⟨w.K, none⟩ xw X.prog X.w X.mg X.base p f.nm n
  nd : X.N.Nodup
  un : X.A.units + 65 < cLine
  cG : C.G = p.G
  cP : ∀ ex, C.Φ ex = den p n ex
  cC : C.Cl = p.Cl
  hx : f.cm = false → Hx w xw p n C f.sl X
  tk : L2N.Takes X W
  hN : X.N = f.N
  sc : X.env.scope = c.sc
  fn : ∀ x, c.cf x = true → X.fn x = true
  sx : ∀ a j fs, w.ex = some (a, j, fs) → f.sl = some j
  calm : f.cm = true → X.calm = true ∧ w.ex = none ∧ Room (n + 2) X.A
section
variable {c : Cs} {W : WX} {X : Cx} {e : Expr}
theorem Fc.w0 (h : Fc w xw p n C f c W X) (hc : f.cm = true) : (⟨w.K, none⟩ : Wo) = w := by
  have := (h.calm hc).2.1
  cases w
  simp only at this
  rw [this]
theorem Fc.fx (h : Fc w xw p n C f c W X) (hc : f.cm = true) : Fx w xw p f.nm n X := ⟨h.hK, (by have g := h.gd; rw [h.w0 hc] at g; exact g), h.nd, (h.calm hc).2.1, (h.calm hc).1, (h.calm hc).2.2⟩
theorem takes0 : L2N.Takes X W0 := fun u s' ⟨a, B, sI, pins, σ, H, cls, d, h⟩ => by
  obtain ⟨_, _, _, _, _, _, _, _, z⟩ := h
  exact z.elim
theorem Fc.blk {scope : Scope} (h : Fc w xw p n C f c W X) (hc : f.cm = true) (s : Shared) (H : Hp) (D : Addr) (cl : List (Str × Addr)) (fp : List Addr) : Fc w xw p n C f (blkS c scope) W0 (X.blk s H scope (compEnvC scope cl D X.env) fp) where
  hK := h.hK
  gd := h.gd
  nd := h.nd
  un := h.un
  cG := h.cG
  cP := h.cP
  cC := h.cC
  hx := fun z => by rw [hc] at z; cases z
  tk := takes0
  hN := h.hN
  sc := by show relS scope X.env.scope = relS scope c.sc; rw [h.sc]
  fn := fun x hx => hx
  sx := h.sx
  calm := h.calm
theorem Fc.gl (h : Fc w xw p n C f c W X) {x : Str} (g : gloB c.sc x = true) : Gl X x := by
  show X.env.scope.names.lookup x = _
  rw [h.sc]; exact gloB_ok g
theorem Fc.vis (h : Fc w xw p n C f c W X) {x : Str} (g : visB c.sc x = true) : Vis X.env.scope x := by rw [h.sc]; exact visB_ok g
theorem nameIs_ok {s : Str} (h : Fc w xw p n C f c W X) (g : nameIs c e s = true) : ∃ p, e = .Name s p ∧ Gl X s := by
  unfold nameIs at g
  split at g
  · rename_i x p
    simp only [Bool.and_eq_true] at g
    have := eqS_ok g.1
    subst this
    exact ⟨p, rfl, h.gl g.2⟩
  · cases g
theorem Fc.at (h : Fc w xw p n C f c W X) {i : Nat} {x : Str} (g : isAt f.N i x = true) : X.N[i]? = some x := by rw [h.hN]; exact isAt_ok g
theorem okB_ok {o : Expr} {env : PySem.Env} {a : Str} (h : okB o = true) : attributeBase o a env (eval o env) = eval o env := by
  unfold okB at h
  split at h
  · cases h
  · rename_i hn
    unfold attributeBase
    split
    · rename_i id x pos
      exact absurd rfl (hn _ _)
    · rfl
theorem okV_ok {whole : Sem Value} {env : PySem.Env} (h : okV e = true) : isTrue e env whole = (do let v ← whole; standAt e.pos; holding [v] (truthy v)) := by
  cases e <;> first | (cases h; done) | rfl
theorem bop_ok (hK : w.K = X.K) {o : Bop} {op : Operator} (h : bopOk o op = true) : OpR X (binaryOp op) (rB w o) := by
  cases o <;> cases op <;> first | (cases h; done) | exact opR_add hK | exact opR_sub | exact opR_mul hK | exact opR_fdiv | exact opR_mod | exact opR_pow | exact opR_shl | exact opR_shr | exact opR_band
theorem cop_ok (hK : w.K = X.K) (hu : X.A.units + 65 < cLine) {o : Cop} {op : CmpOp} (h : copOk o op = true) : OpR X (compareOp op) (rC w o) := by
  cases o <;> cases op <;> first | (cases h; done) | skip
  · exact opR_eq hK (by omega)
  · exact opR_ne hK (by omega)
  · exact opR_ord .lt (fun _ _ _ => rfl)
  · exact opR_ord .le (fun _ _ _ => rfl)
  · exact opR_ord .gt (fun _ _ _ => rfl)
  · exact opR_ord .ge (fun _ _ _ => rfl)
  · exact opR_in hK
  · exact opR_nin hK
  · exact opR_is
  · exact opR_isn
theorem chain_marks {op op' : CmpOp} {b d : Expr} (h : okX d = true) : lastMarks [op, op'] [b, d] = false := mark_ok h
theorem kd_facts {k : Kd} (h : okK k = true) : ∃ T, kdN k = some T ∧ bootBuiltins (kdS k) = some (.type T) ∧ okName (kdS k) = true ∧ kdS k ∈ freeNames := by
  cases k <;> first | (cases h; done) | skip
  · exact ⟨_, rfl, bb_int, by decide, by decide⟩
  · exact ⟨_, rfl, bt_bool, by decide, by decide⟩
  · exact ⟨_, rfl, bb_str, by decide, by decide⟩
  · exact ⟨_, rfl, bb_tuple, by decide, by decide⟩
  · exact ⟨_, rfl, bb_list, by decide, by decide⟩
  · exact ⟨_, rfl, bt_dict, by decide, by decide⟩
theorem const_ok {d : D} (h : constC d e = true) : PE X e (tE w xw C W (.c d)) := by
  unfold constC at h
  split at h
  · rename_i k _ _
    split at h
    · exact se_c pe_non (fun _ _ _ => .non) rfl
    · have := eq_of_beq h
      subst this
      exact se_c pe_bl (fun _ _ _ => .bl _) rfl
    · have := of_decide_eq_true h
      subst this
      exact se_c pe_int (fun _ _ _ => .int _) rfl
    · have := of_decide_eq_true h
      subst this
      exact se_c pe_str (fun _ _ _ => .str _) rfl
    · cases h
  · cases h
theorem nameC_ok {i : Nat} (h : Fc w xw p n C f c W X) (g : nameC f c i e = true) : ∃ x pos, e = .Name x pos ∧ X.N[i]? = some x ∧ Loc X.env.scope x ∧ (X.fn x = true ∨ X.env.scope.names.lookup x = some .local) := by
  unfold nameC at g
  split at g
  · rename_i x pos
    simp only [Bool.and_eq_true, Bool.or_eq_true] at g
    refine ⟨x, pos, rfl, h.at g.1, ?_⟩
    rw [h.sc]
    rcases g.2 with k | ⟨k, k2⟩
    · exact ⟨.inl (locB_ok k), .inr (locB_ok k)⟩
    · rw [kindAt_ok] at k
      split at k
      · rename_i hk
        exact ⟨.inr hk, .inl (h.fn x k2)⟩
      · cases k
  · cases g
theorem namesC_ok (h : Fc w xw p n C f c W X) : ∀ {is : List Nat} {es : List Expr}, namesC f c is es = true → PGs X es (gNs is) ∧ (assignEach es X.env).length = is.length ∧ (assignEach es X.env).findIdx? (·.1) = none
  | [], [], _ => ⟨pgs_nil, rfl, rfl⟩
  | [], _ :: _, g => by cases g
  | _ :: _, [], g => by cases g
  | i :: is, e :: es, g => by
    have g : (nameC f c i e && namesC f c is es) = true := g
    simp only [Bool.and_eq_true] at g
    obtain ⟨x, pos, rfl, h1, h2, h3⟩ := nameC_ok h g.1
    obtain ⟨k1, k2, k3⟩ := namesC_ok h g.2
    refine ⟨pgs_cons (pg_name h.nd h1 h2 h3) k1 rfl, ?_, ?_⟩
    · show (assignEach es X.env).length + 1 = _
      rw [k2]; rfl
    · show List.findIdx? _ ((false, assign (.Name x pos) X.env) :: assignEach es X.env) = none
      rw [List.findIdx?_cons]
      simp only [Bool.false_eq_true, if_false, k3]
      rfl
theorem tgC_ok {t : Tg} (h : Fc w xw p n C f c W X) (g : tgC f c t e = true) : PG X e (gT w t) := by
  cases t with
  | v i =>
    have g : (nameC f c i e && (match f.sl with | some j => decide (i ≠ j) | none => true)) = true := g
    simp only [Bool.and_eq_true] at g
    obtain ⟨x, pos, rfl, h1, h2, h3⟩ := nameC_ok h g.1
    refine sg_v (fun a j fs he => ?_) h.nd h1 h2 h3
    have := h.sx a j fs he
    rw [this] at g
    exact of_decide_eq_true g.2
  | tup is =>
    unfold tgC at g
    dsimp only at g
    split at g
    · simp only [Bool.and_eq_true] at g
      obtain ⟨k1, k2, k3⟩ := namesC_ok h g.1
      exact sg_tup (h.calm g.2).2.1 h.hK (h.calm g.2).1 k1 k2 k3
    · cases g
end
end Pw
end
section
set_option Elab.async false
set_option linter.all false
set_option maxRecDepth 100000
set_option maxHeartbeats 4000000
set_option autoImplicit false
/-! Pw21: expressions: what the look has found holds -/
namespace Pw
open PySem PySem.Spec PyProof.Rows L2
variable {w : Wo} {xw : Xw} {C : Ctx} {p : Prg} {n : Nat} {f : Cf}
def rdR (w : Wo) (xw : Xw) (C : Ctx) (W : WX) (X : Cx) (l : Src) (e : Expr) : Md → Prop
  | .n => PE X e (tN w xw C W l)
  | .i => ∀ tg, zipT l tg = true → PI X tg e (tI w xw C W l)
  | .s => PE X e (tS w xw C W l)
  | .l => PE X e (tL w xw C W l)
theorem rdR_n {W : WX} {X : Cx} {l : Src} {e : Expr} {m : Md} (h : PE X e (tN w xw C W l)) (hm : m ≠ .i) : rdR w xw C W X l e m := by
  cases m with
  | n => exact h
  | i => exact absurd rfl hm
  | s => exact ss_new h
  | l => exact sl_new h
theorem Fc.fr {W : WX} {X : Cx} {c : Cs} (h : Fc w xw p n C f c W X) {x : Str} (hx : x ∈ freeNames) : X.mg x = none := h.gd.free x hx
theorem slN_ok {W : WX} {X : Cx} {c : Cs} {y : Str} (F : Fc w xw p n C f c W X) (h : slN f c y = true) : ∃ i, f.sl = some i ∧ X.N[i]? = some y ∧ Vis X.env.scope y ∧ okName y = true := by
  unfold slN at h
  split at h
  · rename_i i hs
    simp only [Bool.and_eq_true] at h
    exact ⟨i, hs, F.at h.1.1, F.vis h.1.2, h.2⟩
  · cases h
theorem hotAt_ok {l : List (Nat × Str)} {j : Nat} {x : Str} (h : hotAt l j x = true) : (j, x) ∈ l := by
  unfold hotAt at h
  rw [List.any_eq_true] at h
  obtain ⟨⟨a, b⟩, hm, h⟩ := h
  simp only [Bool.and_eq_true, decide_eq_true_eq] at h
  obtain ⟨rfl, h⟩ := h
  rw [← eqS_ok h]
  exact hm
theorem tail_And {X : Cx} {b : Expr} {r : List Expr} {q : Pos} {t : TT} (k : PT X (match r with | [] => b | _ => .BoolOp .And (b :: r) q) t ∧ (isBo (match r with | [] => b | _ => .BoolOp .And (b :: r) q) = true → PW X (match r with | [] => b | _ => .BoolOp .And (b :: r) q) t)) : PW X (.BoolOp .And (b :: r) q) t := by
  cases r with
  | nil => exact pw_and1 k.1
  | cons => exact k.2 rfl
theorem tail_Or {X : Cx} {b : Expr} {r : List Expr} {q : Pos} {t : TT} (k : PT X (match r with | [] => b | _ => .BoolOp .Or (b :: r) q) t ∧ (isBo (match r with | [] => b | _ => .BoolOp .Or (b :: r) q) = true → PW X (match r with | [] => b | _ => .BoolOp .Or (b :: r) q) t)) : PW X (.BoolOp .Or (b :: r) q) t := by
  cases r with
  | nil => exact pw_or1 k.1
  | cons => exact k.2 rfl
theorem sorted_case {l : Src} {g a : Expr} {pos : Pos} {c : Cs} {W : WX} {X : Cx} (F : Fc w xw p n C f c W X) (h : (nameIs c g "sorted" && okX a && cR f c .l l a) = true) (ih : cR f c .l l a = true → rdR w xw C W X l a .l) : PE X (.Call g [a] [] pos) (tE w xw C W (.sorted l)) := by
  simp only [Bool.and_eq_true] at h
  obtain ⟨q, rfl, hg⟩ := nameIs_ok F h.1.1
  exact se_sorted F.hK hg (F.fr (by decide)) (ih h.2) h.1.2
section
variable {w : Wo} {xw : Xw} {C : Ctx} {p : Prg} {n : Nat} {f : Cf} {c : Cs} {W : WX} {X : Cx}
theorem cXs_ok (F : Fc w xw p n C f c W X) : ∀ (ks : List Nat) (es : List Expr), cXs f c ks es = true → (∀ c', c' < xw.n → ∃ bs, p.Cl[c']? = some bs) → ∃ vs cvs, TstsOk xw X p ks es vs cvs
  | [], [], _, hc => ⟨[], [], .nil hc⟩
  | [], _ :: _, h, _ => by simp [cXs] at h
  | _ :: _, [], h, _ => by simp [cXs] at h
  | k :: ks, e :: es, h, hc => by
    cases e with
    | Name x q =>
      simp only [cXs, Bool.and_eq_true] at h
      obtain ⟨cv, ht⟩ := F.gd.tst _ _ (isAt_ok h.1.1.1)
      dsimp only at ht
      rw [F.hK] at ht
      obtain ⟨vs, cvs, r⟩ := cXs_ok F ks es h.2 hc
      obtain ⟨v, r2⟩ := TstsOk.cons (q := q) ht (F.gl h.1.1.2) h.1.2 r
      exact ⟨_, _, r2⟩
    | _ => simp [cXs] at h
theorem cXs_cl (F : Fc w xw p n C f c W X) {k : Nat} {ks : List Nat} {es : List Expr} (h : cXs f c (k :: ks) es = true) : ∀ c', c' < xw.n → ∃ bs, p.Cl[c']? = some bs := by
  cases es with
  | nil => simp [cXs] at h
  | cons e es => cases e with
    | Name x q =>
      simp only [cXs, Bool.and_eq_true] at h
      obtain ⟨cv, ht⟩ := F.gd.tst _ _ (isAt_ok h.1.1.1)
      intro c' hc'
      obtain ⟨bs, hb, _⟩ := ht.kit c' hc'
      exact ⟨bs, hb⟩
    | _ => simp [cXs] at h
end
mutual
theorem cE_ok : ∀ (x : Exp) {e : Expr} {c : Cs} {W : WX} {X : Cx}, Fc w xw p n C f c W X → cE f c x e = true → PE X e (tE w xw C W x)
  | .c d, e, c, W, X, F, h => const_ok (by simpa only [cE] using h)
  | .v i, e, c, W, X, F, h => by
    simp only [cE] at h
    split at h
    · simp only [Bool.and_eq_true] at h
      exact se_v (F.at h.1.1) (F.vis h.1.2) h.2
    · cases h
  | .g i, e, c, W, X, F, h => by
    simp only [cE] at h
    split at h
    · simp only [Bool.and_eq_true] at h
      obtain ⟨d, u, v, h1, h2, h3, h4, h5⟩ := F.gd.gl i _ (isAt_ok h.1.1)
      exact se_g (by rw [F.cG]; exact h1) (pe_glob (F.gl h.1.2) h2 h3 (okName_ok h.2).1) h4 h5
    · cases h
  | .bin o x y, e, c, W, X, F, h => by
    simp only [cE] at h
    split at h
    · simp only [Bool.and_eq_true] at h
      exact se_bin (bop_ok F.hK h.1.1) (cE_ok x F h.1.2) (cE_ok y F h.2)
    · cases h
  | .neg x, e, c, W, X, F, h => by
    simp only [cE] at h
    split at h
    · split at h
      · exact se_neg (cE_ok x F h)
      · cases h
    · cases h
  | .notV x, e, c, W, X, F, h => by
    simp only [cE] at h
    split at h
    · split at h
      · exact se_notV (cE_ok x F h)
      · cases h
    · cases h
  | .andV x y, e, c, W, X, F, h => by
    simp only [cE] at h
    split at h
    · split at h
      · simp only [Bool.and_eq_true] at h
        refine se_and (cE_ok x F h.1) ?_
        have k := cE_ok y F h.2
        split at k
        · exact pe_one k
        · exact k
      · cases h
    · cases h
  | .orV x y, e, c, W, X, F, h => by
    simp only [cE] at h
    split at h
    · split at h
      · simp only [Bool.and_eq_true] at h
        refine se_or (cE_ok x F h.1) ?_
        have k := cE_ok y F h.2
        split at k
        · exact pe_one k
        · exact k
      · cases h
    · cases h
  | .cmp o x y, e, c, W, X, F, h => by
    simp only [cE] at h
    split at h
    · simp only [Bool.and_eq_true] at h
      exact se_cmp (cop_ok F.hK F.un h.1.1.1) (cE_ok x F h.1.1.2) (cE_ok y F h.1.2) (mark_ok h.2)
    · cases h
  | .chn o o' x y z, e, c, W, X, F, h => by
    simp only [cE] at h
    split at h
    · simp only [Bool.and_eq_true] at h
      exact se_chn (cop_ok F.hK F.un h.1.1.1.1.1) (cop_ok F.hK F.un h.1.1.1.1.2) (cE_ok x F h.1.1.1.2) (cE_ok y F h.1.1.2) (cE_ok z F h.1.2) (chain_marks h.2)
    · cases h
  | .ife t x y, e, c, W, X, F, h => by
    simp only [cE] at h
    split at h
    · simp only [Bool.and_eq_true] at h
      exact se_ife (cT_ok t F h.1.1).1 (cE_ok x F h.1.2) (cE_ok y F h.2)
    · cases h
  | .call i xs, e, c, W, X, F, h => by
    simp only [cE] at h
    split at h
    · simp only [Bool.and_eq_true] at h
      exact se_call (F.cP none) F.tk (F.fx h.1.1.1.2) (isAt_ok h.1.1.1.1.1.1) (F.gl h.1.1.1.1.1.2) (cEs_ok xs F h.2) h.1.1.1.1.2 h.1.1.2 h.1.2
    · cases h
  | .hcall _ _, e, c, W, X, F, h => by simp [cE] at h
  | .hot j, e, c, W, X, F, h => by
    simp only [cE] at h
    split at h
    · simp only [Bool.and_eq_true, Bool.not_eq_true'] at h
      have hx := F.hx h.1.1.1.1
      obtain ⟨i, hs, k1, k2, k3⟩ := slN_ok F h.1.1.1.2
      obtain ⟨f', fd, z, g1, g2, g3, g4⟩ := F.gd.hot j _ (hotAt_ok h.1.1.2)
      have e0 : w.K = X.K := F.hK
      exact se_hot e0 hx hs F.cP (F.gl h.1.2) h.2 k1 k2 k3 g1 (e0 ▸ g2) (by have g3 := g3; simp only at g3; rw [e0] at g3; exact g3) (by have g4 := g4; simp only at g4; rw [e0] at g4; exact g4)
    · cases h
  | .isX ks, e, c, W, X, F, h => by
    simp only [cE] at h
    split at h
    · simp only [Bool.and_eq_true, Bool.not_eq_true'] at h
      obtain ⟨q, rfl, hg⟩ := nameIs_ok F h.1.1.1.1.2
      obtain ⟨i, hs, k1, k2, k3⟩ := slN_ok F h.1.1.1.2
      obtain ⟨cv, ht⟩ := F.gd.tst _ _ (isAt_ok h.1.1.2)
      dsimp only at ht
      rw [F.hK] at ht
      exact se_isX F.hK (F.hx h.1.1.1.1.1) hs F.cC hg (F.fr (by decide)) k1 k2 k3 ht (F.gl h.1.2) h.2
    · simp only [Bool.and_eq_true, Bool.not_eq_true', decide_eq_true_eq] at h
      obtain ⟨q, rfl, hg⟩ := nameIs_ok F h.1.1.1.2
      obtain ⟨i, hs, k1, k2, k3⟩ := slN_ok F h.1.1.2
      obtain ⟨vs, cvs, ht⟩ := cXs_ok F _ _ h.1.2 (cXs_cl F h.1.2)
      exact se_isXT F.hK (F.hx h.1.1.1.1) hs F.cC hg (F.fr (by decide)) k1 k2 k3 ht h.2
    · cases h
  | .xf cs k, e, c, W, X, F, h => by
    simp only [cE] at h
    split at h
    · rename_i y q n q2
      simp only [Bool.and_eq_true, Bool.not_eq_true'] at h
      obtain ⟨i, hs, k1, k2, k3⟩ := slN_ok F h.1.2
      refine se_xf F.hK (F.hx h.1.1) hs k1 k2 k3 (fun c' hc' hn => ?_) (okB_ok rfl)
      have hf := List.all_eq_true.mp h.2 c' hc'
      split at hf
      · rename_i l e1
        simp only [Bool.and_eq_true, decide_eq_true_eq] at hf
        have e2 := F.gd.fls c' hn
        rw [e1] at e2
        cases e2
        exact ⟨hf.1, isAt_ok hf.2⟩
      · cases hf
    · cases h
  | .anyH x, e, c, W, X, F, h => by
    simp only [cE] at h
    split at h
    · simp only [Bool.and_eq_true, Bool.not_eq_true'] at h
      obtain ⟨q, rfl, hg⟩ := nameIs_ok F h.1.1.2
      have hx := F.hx h.1.1.1
      exact se_anyH F.hK hx hg (F.fr (by decide)) (cE_ok x F h.2) h.1.2 (cr_anyHot hx.hot)
    · cases h
  | .f1 g x, e, c, W, X, F, h => by
    simp only [cE] at h
    split at h
    · cases g with
      | len =>
        simp only [Bool.and_eq_true] at h
        obtain ⟨q, rfl, hg⟩ := nameIs_ok F h.1.1
        exact se_len F.hK hg (F.fr (by decide)) (cE_ok x F h.2) h.1.2
      | int =>
        simp only [Bool.and_eq_true] at h
        obtain ⟨q, rfl, hg⟩ := nameIs_ok F h.1.1
        exact se_int hg (F.fr (by decide)) (cE_ok x F h.2) h.1.2
      | abs =>
        simp only [Bool.and_eq_true] at h
        obtain ⟨q, rfl, hg⟩ := nameIs_ok F h.1.1
        exact se_abs hg (F.fr (by decide)) (cE_ok x F h.2) h.1.2
      | str =>
        simp only [Bool.and_eq_true] at h
        obtain ⟨q, rfl, hg⟩ := nameIs_ok F h.1.1
        exact se_str hg (F.fr (by decide)) (cE_ok x F h.2) h.1.2
    · cases h
  | .f2 g x y, e, c, W, X, F, h => by
    simp only [cE] at h
    split at h
    · simp only [Bool.and_eq_true] at h
      cases g with
      | min =>
        obtain ⟨q, rfl, hg⟩ := nameIs_ok F h.2
        exact se_min (F.calm h.1.1.1.1.1).1 hg (F.fr (by decide)) (cE_ok x F h.1.1.2) (cE_ok y F h.1.2) h.1.1.1.1.2 h.1.1.1.2
      | max =>
        obtain ⟨q, rfl, hg⟩ := nameIs_ok F h.2
        exact se_max (F.calm h.1.1.1.1.1).1 hg (F.fr (by decide)) (cE_ok x F h.1.1.2) (cE_ok y F h.1.2) h.1.1.1.1.2 h.1.1.1.2
    · cases h
  | .isI x ks, e, c, W, X, F, h => by
    simp only [cE] at h
    split at h
    · simp only [Bool.and_eq_true] at h
      obtain ⟨q, rfl, hg⟩ := nameIs_ok F h.1.1.1.1
      obtain ⟨q2, rfl, hg2⟩ := nameIs_ok F h.1.1.2
      obtain ⟨T, k1, k2, k3, k4⟩ := kd_facts h.1.1.1.2
      exact se_isB F.hK hg (F.fr (by decide)) (cE_ok x F h.2) hg2 (F.fr k4) k2 k1 k3 h.1.2
    · cases h
  | .idx x y, e, c, W, X, F, h => by
    simp only [cE] at h
    split at h
    · simp only [Bool.and_eq_true] at h
      exact se_idx F.hK (cE_ok x F h.1.1) (cE_ok y F h.1.2) (plainIx_ok h.2)
    · cases h
  | .sl x lo hi, e, c, W, X, F, h => by
    simp only [cE] at h
    split at h
    · simp only [Bool.and_eq_true] at h
      exact se_sl F.hK (cE_ok x F h.1.1) (cO_ok lo F h.1.2) (cO_ok hi F h.2)
    · cases h
  | .rev x, e, c, W, X, F, h => by
    simp only [cE] at h
    split at h
    · split at h
      · simp only [Bool.and_eq_true, decide_eq_true_eq] at h
        obtain ⟨rfl, h⟩ := h
        exact se_rev F.hK (cE_ok x F h)
      · cases h
    · cases h
  | .tup xs, e, c, W, X, F, h => by
    simp only [cE] at h
    split at h
    · simp only [Bool.and_eq_true, decide_eq_true_eq] at h
      exact se_tup (cEs_ok xs F h.1) (by rw [sizeLine_eq]; omega)
    · cases h
  | .ls l, e, c, W, X, F, h => by
    simp only [cE] at h
    exact se_ls (cR_ok l .n F h)
  | .dct es, e, c, W, X, F, h => by
    simp only [cE] at h
    split at h
    · simp only [Bool.and_eq_true, decide_eq_true_eq] at h
      obtain ⟨k1, k2, k3, k4, k5⟩ := cKV_ok es F h.1
      rcases k5 with ⟨rfl, rfl, rfl⟩ | k5
      · exact se_dct0
      · exact se_dct (k1 _) k2 k3 k4 k5 h.2
    · cases h
  | .tupR x y z, e, c, W, X, F, h => by
    simp only [cE] at h
    split at h
    · simp only [Bool.and_eq_true] at h
      obtain ⟨q, rfl, hg⟩ := nameIs_ok F h.1.1.1.1.1.1.1.2
      obtain ⟨q2, rfl, hg2⟩ := nameIs_ok F h.1.1.1.1.1.1.2
      exact se_tupR (F.calm h.1.1.1.1.1.1.1.1).1 hg (F.fr (by decide)) hg2 (F.fr (by decide)) (cE_ok x F h.1.1.2) (cE_ok y F h.1.2) (cE_ok z F h.2) h.1.1.1.1.1.2 h.1.1.1.1.2 h.1.1.1.2
    · cases h
  | .tupOf l, e, c, W, X, F, h => by
    simp only [cE] at h
    split at h
    · simp only [Bool.and_eq_true] at h
      obtain ⟨q, rfl, hg⟩ := nameIs_ok F h.1.1
      exact se_tupOf F.hK hg (F.fr (by decide)) (cR_ok l .s F h.2) h.1.2
    · cases h
  | .allOf l, e, c, W, X, F, h => by
    simp only [cE] at h
    split at h
    · simp only [Bool.and_eq_true] at h
      obtain ⟨q, rfl, hg⟩ := nameIs_ok F h.1.1.2
      exact se_all F.hK (F.calm h.1.1.1).1 hg (F.fr (by decide)) (cR_ok l .l F h.2) h.1.2
    · cases h
  | .anyOf l, e, c, W, X, F, h => by
    simp only [cE] at h
    split at h
    · simp only [Bool.and_eq_true] at h
      obtain ⟨q, rfl, hg⟩ := nameIs_ok F h.1.1.2
      exact se_any F.hK (F.calm h.1.1.1).1 hg (F.fr (by decide)) (cR_ok l .l F h.2) h.1.2
    · cases h
  | .sumOf l, e, c, W, X, F, h => by
    simp only [cE] at h
    split at h
    · simp only [Bool.and_eq_true] at h
      obtain ⟨q, rfl, hg⟩ := nameIs_ok F h.1.1.2
      exact se_sumS F.hK (F.calm h.1.1.1).1 hg (F.fr (by decide)) (cR_ok l .s F h.2) h.1.2
    · cases h
  | .minOf l, e, c, W, X, F, h => by
    simp only [cE] at h
    split at h
    · simp only [Bool.and_eq_true] at h
      obtain ⟨q, rfl, hg⟩ := nameIs_ok F h.1.1.2
      exact se_minG F.hK (F.calm h.1.1.1).1 F.un hg (F.fr (by decide)) (cR_ok l .l F h.2) h.1.2
    · cases h
  | .maxOf l, e, c, W, X, F, h => by
    simp only [cE] at h
    split at h
    · simp only [Bool.and_eq_true] at h
      obtain ⟨q, rfl, hg⟩ := nameIs_ok F h.1.1.2
      exact se_maxL F.hK (F.calm h.1.1.1).1 hg (F.fr (by decide)) (cR_ok l .l F h.2) h.1.2
    · cases h
  | .sorted (.keys x), e, c, W, X, F, h => by
    simp only [cE] at h
    split at h
    · simp only [Bool.and_eq_true] at h
      obtain ⟨q, rfl, hg⟩ := nameIs_ok F h.1.1.2
      exact se_sortedK F.hK (F.calm h.1.1.1).1 hg (F.fr (by decide)) (cE_ok x F h.2) h.1.2
    · cases h
  | .sorted (.val x), e, c, W, X, F, h => by
    simp only [cE] at h
    split at h
    · exact sorted_case F h (fun h => cR_ok (.val x) .l F h)
    · cases h
  | .sorted (.seq x), e, c, W, X, F, h => by
    simp only [cE] at h
    split at h
    · exact sorted_case F h (fun h => cR_ok (.seq x) .l F h)
    · cases h
  | .sorted (.lis x), e, c, W, X, F, h => by
    simp only [cE] at h
    split at h
    · exact sorted_case F h (fun h => cR_ok (.lis x) .l F h)
    · cases h
  | .sorted (.rng x), e, c, W, X, F, h => by
    simp only [cE] at h
    split at h
    · exact sorted_case F h (fun h => cR_ok (.rng x) .l F h)
    · cases h
  | .sorted (.rng2 x y), e, c, W, X, F, h => by
    simp only [cE] at h
    split at h
    · exact sorted_case F h (fun h => cR_ok (.rng2 x y) .l F h)
    · cases h
  | .sorted (.rng3 x y z), e, c, W, X, F, h => by
    simp only [cE] at h
    split at h
    · exact sorted_case F h (fun h => cR_ok (.rng3 x y z) .l F h)
    · cases h
  | .sorted (.disp xs), e, c, W, X, F, h => by
    simp only [cE] at h
    split at h
    · exact sorted_case F h (fun h => cR_ok (.disp xs) .l F h)
    · cases h
  | .sorted (.comp x t l ts), e, c, W, X, F, h => by
    simp only [cE] at h
    split at h
    · exact sorted_case F h (fun h => cR_ok (.comp x t l ts) .l F h)
    · cases h
  | .sorted (.comp2 x t l ts t1 l1 ts1), e, c, W, X, F, h => by
    simp only [cE] at h
    split at h
    · exact sorted_case F h (fun h => cR_ok (.comp2 x t l ts t1 l1 ts1) .l F h)
    · cases h
  | .sorted (.zip l l2), e, c, W, X, F, h => by
    simp only [cE] at h
    split at h
    · exact sorted_case F h (fun h => cR_ok (.zip l l2) .l F h)
    · cases h
  | .join x l, e, c, W, X, F, h => by
    simp only [cE] at h
    split at h
    · simp only [Bool.and_eq_true] at h
      obtain rfl := eqS_ok h.1.1.1.1.1
      exact se_join F.hK (cE_ok x F h.1.2) (cR_ok l .s F h.2) h.1.1.2 (okB_ok h.1.1.1.1.2) h.1.1.1.2
    · cases h
  | .app x y, e, c, W, X, F, h => by
    simp only [cE] at h
    split at h
    · simp only [Bool.and_eq_true] at h
      obtain rfl := eqS_ok h.1.1.1.1.1
      exact se_app F.hK (cE_ok x F h.1.2) (cE_ok y F h.2) h.1.1.2 (okB_ok h.1.1.1.1.2) h.1.1.1.2
    · cases h
  | .pop x, e, c, W, X, F, h => by
    simp only [cE] at h
    split at h
    · simp only [Bool.and_eq_true] at h
      obtain rfl := eqS_ok h.1.1.1
      exact se_pop F.hK (cE_ok x F h.2) (okB_ok h.1.1.2) h.1.2
    · cases h
  | .ext x y, e, c, W, X, F, h => by
    simp only [cE] at h
    split at h
    · simp only [Bool.and_eq_true] at h
      obtain rfl := eqS_ok h.1.1.1.1.1
      exact se_ext F.hK (cE_ok x F h.1.2) (cE_ok y F h.2) h.1.1.2 (okB_ok h.1.1.1.1.2) h.1.1.1.2
    · cases h
  | .sw x y, e, c, W, X, F, h => by
    simp only [cE] at h
    split at h
    · simp only [Bool.and_eq_true] at h
      obtain rfl := eqS_ok h.1.1.1.1.1
      exact se_sw (cE_ok x F h.1.2) (cE_ok y F h.2) h.1.1.2 (okB_ok h.1.1.1.1.2) h.1.1.1.2
    · cases h
  | .split x y, e, c, W, X, F, h => by
    simp only [cE] at h
    split at h
    · simp only [Bool.and_eq_true] at h
      obtain rfl := eqS_ok h.1.1.1.1.1
      exact se_split (cE_ok x F h.1.2) (cE_ok y F h.2) h.1.1.2 (okB_ok h.1.1.1.1.2) h.1.1.1.2
    · cases h
  | .find x y, e, c, W, X, F, h => by
    simp only [cE] at h
    split at h
    · simp only [Bool.and_eq_true] at h
      obtain rfl := eqS_ok h.1.1.1.1.1
      exact se_find (cE_ok x F h.1.2) (cE_ok y F h.2) h.1.1.2 (okB_ok h.1.1.1.1.2) h.1.1.1.2
    · cases h
  | .insl x y z, e, c, W, X, F, h => by
    simp only [cE] at h
    split at h
    · simp only [Bool.and_eq_true] at h
      obtain rfl := eqS_ok h.1.1.1.1.1.1.1
      exact se_insl F.hK (cE_ok x F h.1.1.2) (cE_ok y F h.1.2) (cE_ok z F h.2) h.1.1.1.1.2 h.1.1.1.2 (okB_ok h.1.1.1.1.1.1.2) h.1.1.1.1.1.2
    · cases h
  | .fs x t y, e, c, W, X, F, h => by
    simp only [cE] at h
    split at h
    · simp only [Bool.and_eq_true, decide_eq_true_eq] at h
      obtain rfl := h.1.1.1.1
      obtain rfl := h.1.1.1.2
      exact se_fs (cE_ok x F h.1.2) (cE_ok y F h.2) h.1.1.2
    · cases h
theorem cEs_ok : ∀ (xs : List Exp) {es : List Expr} {c : Cs} {W : WX} {X : Cx}, Fc w xw p n C f c W X → cEs f c xs es = true → PA X es (tEs w xw C W xs)
  | [], es, c, W, X, F, h => by
    simp only [cEs] at h
    split at h
    · exact sa_nil
    · cases h
  | x :: xs, es, c, W, X, F, h => by
    simp only [cEs] at h
    split at h
    · simp only [Bool.and_eq_true] at h
      exact sa_cons (cE_ok x F h.1.1) (cEs_ok xs F h.2) h.1.2
    · cases h
theorem cKV_ok : ∀ (es : List Exp) {ks : List (Option Expr)} {vs : List Expr} {c : Cs} {W : WX} {X : Cx}, Fc w xw p n C f c W X → cKV f c es ks vs = true →
    (∀ pos, PPs X pos ks vs (trP w xw C W es)) ∧ es.length % 2 = 0 ∧ ks.all (·.isSome) = true ∧ ks.length = vs.length ∧ ((es = [] ∧ ks = [] ∧ vs = []) ∨ ks ≠ [])
  | [], ks, vs, c, W, X, F, h => by
    simp only [cKV] at h
    split at h
    · exact ⟨fun _ => pps_nil, rfl, rfl, rfl, .inl ⟨rfl, rfl, rfl⟩⟩
    · cases h
  | [_], ks, vs, c, W, X, F, h => by simp [cKV] at h
  | k :: v :: r, ks, vs, c, W, X, F, h => by
    simp only [cKV] at h
    split at h
    · simp only [Bool.and_eq_true] at h
      obtain ⟨k1, k2, k3, k4, _⟩ := cKV_ok r F h.2
      have hk := cE_ok k F h.1.1
      have hv := cE_ok v F h.1.2
      refine ⟨fun pos => pps_cons hk hv (k1 pos), by simp only [List.length_cons]; omega, ?_, by simp [k4], .inr (by simp)⟩
      simp only [List.all_cons, k3, Option.isSome_some, Bool.and_true]
    · cases h
theorem cO_ok : ∀ (xs : Option Exp) {es : Option Expr} {c : Cs} {W : WX} {X : Cx}, Fc w xw p n C f c W X → cO f c xs es = true → PO X es (tO w xw C W xs)
  | none, es, c, W, X, F, h => by
    simp only [cO] at h
    split at h
    · exact so_none
    · cases h
  | some x, es, c, W, X, F, h => by
    simp only [cO] at h
    split at h
    · exact so_some (cE_ok x F h)
    · cases h
theorem cR_ok : ∀ (l : Src) (m : Md) {e : Expr} {c : Cs} {W : WX} {X : Cx}, Fc w xw p n C f c W X → cR f c m l e = true → rdR w xw C W X l e m
  | .val x, m, e, c, W, X, F, h => by
    simp only [cR] at h
    split at h
    · exact fun tg _ => si_val F.hK (cE_ok x F h)
    · cases h
  | .seq x, m, e, c, W, X, F, h => by
    simp only [cR] at h
    split at h
    · exact ss_val (cE_ok x F h)
    · split at h
      · simp only [Bool.and_eq_true] at h
        obtain ⟨q, rfl, hg⟩ := nameIs_ok F h.1.1
        exact sn_list F.hK hg (F.fr (by decide)) (ss_val (cE_ok x F h.2)) h.1.2
      · cases h
    · cases h
  | .lis x, m, e, c, W, X, F, h => by
    simp only [cR] at h
    split at h
    · exact sl_val (cE_ok x F h)
    · cases h
  | .keys _, m, e, c, W, X, F, h => by simp [cR] at h
  | .rng x, m, e, c, W, X, F, h => by
    simp only [cR] at h
    split at h
    · simp only [Bool.and_eq_true] at h
      obtain ⟨q, rfl, hg⟩ := nameIs_ok F h.1.1
      exact fun tg _ => si_rng hg (F.fr (by decide)) (cE_ok x F h.2) h.1.2
    · cases h
  | .rng2 x y, m, e, c, W, X, F, h => by
    simp only [cR] at h
    split at h
    · simp only [Bool.and_eq_true] at h
      obtain ⟨q, rfl, hg⟩ := nameIs_ok F h.1.1.1.1
      exact fun tg _ => si_rng2 hg (F.fr (by decide)) (cE_ok x F h.1.2) (cE_ok y F h.2) h.1.1.1.2 h.1.1.2
    · cases h
  | .rng3 x y z, m, e, c, W, X, F, h => by
    simp only [cR] at h
    split at h
    · simp only [Bool.and_eq_true] at h
      obtain ⟨q, rfl, hg⟩ := nameIs_ok F h.1.1.1.1.1.1
      exact fun tg _ => si_rng3 hg (F.fr (by decide)) (cE_ok x F h.1.1.2) (cE_ok y F h.1.2) (cE_ok z F h.2) h.1.1.1.1.1.2 h.1.1.1.1.2 h.1.1.1.2
    · cases h
  | .disp xs, m, e, c, W, X, F, h => by
    simp only [cR] at h
    split at h
    · cases h
    · simp only [Bool.and_eq_true, decide_eq_true_eq] at h
      exact rdR_n (sn_disp (cEs_ok xs F h.1) (by rw [sizeLine_eq]; omega)) (by assumption)
    · cases h
  | .comp x t l ts, m, e, c, W, X, F, h => by
    simp only [cR] at h
    split at h
    · cases h
    · simp only [Bool.and_eq_true, decide_eq_true_eq] at h
      obtain ⟨⟨⟨⟨⟨⟨⟨h1, h2⟩, h3⟩, h4⟩, h5⟩, h6⟩, h7⟩, h8⟩ := h
      subst h2
      have ok := blkOk_by h4
      rw [← F.hN, ← F.sc] at ok
      refine rdR_n (sn_comp (F.calm h1).2.1 (F.calm h1).1 F.nd (cR_ok l .i F h6.2 _ h6.1) ok ?_ (fun s H D cl fp => tgC_ok (F.blk h1 s H D cl fp) h5) (fun s H D cl fp => cTs_ok ts (F.blk h1 s H D cl fp) h7) (fun s H D cl fp => cE_ok x (F.blk h1 s H D cl fp) h8) (fold_ok h3)) (by assumption)
      unfold ownOf
      rw [List.map_map]
      exact List.map_id _
    · cases h
  | .comp2 x t l ts t1 l1 ts1, m, e, c, W, X, F, h => by
    simp only [cR] at h
    split at h
    · cases h
    · simp only [Bool.and_eq_true, decide_eq_true_eq] at h
      obtain ⟨⟨⟨⟨⟨⟨⟨⟨⟨⟨⟨⟨h1, h2⟩, h2'⟩, h3⟩, h3'⟩, h4⟩, h5⟩, h5'⟩, h6⟩, h7⟩, h6'⟩, h7'⟩, h8⟩ := h
      subst h2
      subst h2'
      have ok := blkOk_by h4
      rw [← F.hN, ← F.sc] at ok
      refine rdR_n (sn_comp2 (F.calm h1).2.1 (F.calm h1).1 F.nd (cR_ok l .i F h6.2 _ h6.1) ok ?_ (fun s H D cl fp => tgC_ok (F.blk h1 s H D cl fp) h5) (fun s H D cl fp => cTs_ok ts (F.blk h1 s H D cl fp) h7) (fun s H D cl fp => cR_ok l1 .i (F.blk h1 s H D cl fp) h6'.2 _ h6'.1) (fun s H D cl fp => tgC_ok (F.blk h1 s H D cl fp) h5') (fun s H D cl fp => cTs_ok ts1 (F.blk h1 s H D cl fp) h7') (fun s H D cl fp => cE_ok x (F.blk h1 s H D cl fp) h8) (fold_ok h3) (fun _ => fold_ok h3')) (by assumption)
      unfold ownOf
      rw [List.map_append, List.map_map, List.map_map]
      congr 1 <;> exact List.map_id _
    · cases h
  | .zip x y, m, e, c, W, X, F, h => by
    simp only [cR] at h
    split at h
    · simp only [Bool.and_eq_true] at h
      obtain ⟨q, rfl, hg⟩ := nameIs_ok F h.1.1.1.1
      intro tg ht
      unfold zipT at ht
      split at ht
      · rename_i hz
        split at ht
        · cases hz
          exact si_zip F.hK hg (F.fr (by decide)) (cE_ok x F h.1.2) (cE_ok y F h.2) h.1.1.1.2 h.1.1.2
        · cases ht
      · rename_i hz
        exact absurd rfl (hz x y)
    · cases h
theorem cT_ok : ∀ (t : Tst) {e : Expr} {c : Cs} {W : WX} {X : Cx}, Fc w xw p n C f c W X → cT f c t e = true → PT X e (tT w xw C W t) ∧ (isBo e = true → PW X e (tT w xw C W t))
  | .val x, e, c, W, X, F, h => by
    simp only [cT, Bool.and_eq_true, Bool.or_eq_true] at h
    obtain ⟨h1, h2⟩ := h
    rcases h2 with h2 | h2
    · exact ⟨st_val F.hK (cE_ok x F h1) (fun _ => okV_ok h2), fun z => by cases e <;> first | (cases z; done) | (cases h2; done)⟩
    · split at h2
      · simp only [cE] at h1
        split at h1
        · simp only [Bool.and_eq_true] at h1
          rename_i heq
          cases heq
          exact ⟨st_cmp (cop_ok F.hK F.un h1.1.1.1) (cE_ok _ F h1.1.1.2) (cE_ok _ F h1.1.2) (mark_ok h1.2), fun z => by cases z⟩
        · cases h1
      · simp only [cE] at h1
        split at h1
        · simp only [Bool.and_eq_true] at h1
          rename_i heq
          cases heq
          exact ⟨st_chn (cop_ok F.hK F.un h1.1.1.1.1.1) (cop_ok F.hK F.un h1.1.1.1.1.2) (cE_ok _ F h1.1.1.1.2) (cE_ok _ F h1.1.1.2) (cE_ok _ F h1.1.2) (chain_marks h1.2), fun z => by cases z⟩
        · cases h1
      · cases h2
  | .not t, e, c, W, X, F, h => by
    simp only [cT] at h
    split at h
    · split at h
      · exact ⟨st_not (cT_ok t F h).1, fun z => by cases z⟩
      · cases h
    · cases h
  | .and t u, e, c, W, X, F, h => by
    simp only [cT] at h
    split at h
    · split at h
      · simp only [Bool.and_eq_true] at h
        have k := cT_ok u F h.2
        have q : PW X _ (tT w xw C W (.and t u)) := st_and (cT_ok t F h.1).1 (tail_And k)
        exact ⟨q.pt, fun _ => q⟩
      · cases h
    · cases h
  | .or t u, e, c, W, X, F, h => by
    simp only [cT] at h
    split at h
    · split at h
      · simp only [Bool.and_eq_true] at h
        have k := cT_ok u F h.2
        have q : PW X _ (tT w xw C W (.or t u)) := st_or (cT_ok t F h.1).1 (tail_Or k)
        exact ⟨q.pt, fun _ => q⟩
      · cases h
    · cases h
theorem cTs_ok : ∀ (ts : List Tst) {es : List Expr} {c : Cs} {W : WX} {X : Cx}, Fc w xw p n C f c W X → cTs f c ts es = true → PTs X es (tTs w xw C W ts)
  | [], es, c, W, X, F, h => by
    simp only [cTs] at h
    split at h
    · exact sts_nil
    · cases h
  | t :: ts, es, c, W, X, F, h => by
    simp only [cTs] at h
    split at h
    · exact sts_one (cT_ok t F h).1
    · cases h
end
end Pw
end
section
set_option Elab.async false
set_option linter.all false
set_option maxRecDepth 100000
set_option maxHeartbeats 4000000
set_option autoImplicit false
/-! Pw22: statements: the look, and that what it finds holds -/
namespace Pw
open PySem PySem.Spec PyProof.Rows L2
theorem contains_any (bs : List Nat) (k : Nat) : bs.contains k = bs.any fun b => [k].contains b := by
  rw [Bool.eq_iff_iff, List.contains_iff_mem, List.any_eq_true]
  constructor
  · intro h; exact ⟨k, h, by simp⟩
  · rintro ⟨b, hb, e⟩
    have : b = k := by simpa using e
    rw [← this]; exact hb
/-- no comprehension -/
def notLc : Expr → Bool
  | .ListComp .. => false | .SetComp .. => false | .DictComp .. => false
  | _ => true
def notTup : Expr → Bool
  | .Tuple .. => false
  | _ => true
def tgOk : Expr → Bool
  | .Name .. => true | .Tuple .. => true | .Subscript .. => true
  | _ => false
def mkC (f : Cf) (c : Cs) (k : Nat) (e : Expr) : Bool := match e with
  | .Call (.Name x _) [.Constant (.str _) _ _] [] _ => isAt f.nm.cls k x && gloB c.sc x && okName x && (match f.nm.fls[k]? with | some [] => true | _ => false)
  | _ => false
/-- C(e, ..) of a class with fields -/
def mkA (f : Cf) (c : Cs) (k : Nat) (xs : List Exp) (e : Expr) : Bool := match e with
  | .Call (.Name x _) (a :: r) [] _ => isAt f.nm.cls k x && gloB c.sc x && okName x && okX a && r.all okX && (match f.nm.fls[k]? with | some l => decide (0 < l.length) && decide (l.length ≤ 900) && decide (xs.length = l.length) | none => false) && cEs f c xs (a :: r)
  | _ => false
/-- the value is stored in the plain way -/
def nosw (c : Cs) (tg e : Expr) : Bool := notLc e || (match tg, e with
  | .Name x py, .ListComp _ _ scope pos => !(locB c.sc x) || !(py.line == pos.line) || (scope.names.any fun (n, k) => n == x && (k == .local || k == .cell))
  | _, _ => false)
/-- name = [..] on one line -/
def lcC (f : Cf) (c : Cs) (i : Nat) (l : Src) (tg e : Expr) : Bool := match tg, e with
  | .Name x py, .ListComp _ [⟨_, _, _, _⟩] scope pos => isAt f.N i x && locB c.sc x && (py.line == pos.line) && !(scope.names.any fun (n, k) => n == x && (k == .local || k == .cell)) && cR f c .n l e
  | _, _ => false
/-- a value, or a tuple of values, that stands there -/
def cCxs : List Exp → List Expr → Bool
  | [], [] => true
  | .c d :: xs, e :: es => constC d e && okX e && cCxs xs es
  | _, _ => false
def cCx (x : Exp) (e : Expr) : Bool := match x with
  | .c d => constC d e
  | .tup xs => (match e with
    | .Tuple es _ _ => cCxs xs es && decide (xs.length ≤ 1000)
    | _ => false)
  | _ => false
/-- return of a value that stands there -/
def plainC (suite : List Stm) (b0 : Stmt) (t : List Stmt) : Bool := match suite, b0, t with
  | [.ret x], .Return (some e) _, [] => cCx x e
  | [.ret (.c d)], .Return none _, [] => (match d with | .non => true | _ => false)
  | _, _, _ => false
mutual
def cSt (f : Cf) (c : Cs) : Stm → Stmt → Bool
  | .pass, s => (match s with | .Pass _ => true | _ => false)
  | .brk, s => (match s with | .Break _ => true | _ => false)
  | .cont, s => (match s with | .Continue _ => true | _ => false)
  | .ex x, s => (match s with | .Expr e _ => cE f c x e && notLc e | _ => false)
  | .ret x, s => (match s with
    | .Return (some e) _ => cE f c x e
    | .Return none _ => (match x with | .c d => (match d with | .non => true | _ => false) | _ => false)
    | _ => false)
  | .set t x, s => (match s with
    | .Assign [tg] e _ => (cE f c x e && nosw c tg e && tgC f c t tg && tgOk tg && (notTup tg || notTup e)) || (match t, x with
      | .v i, .ls (.comp y t2 l ts) => f.cm && lcC f c i (.comp y t2 l ts) tg e
      | _, _ => false)
    | _ => false)
  | .setIx o i x, s => (match s with
    | .Assign [.Subscript a b _] e _ => cE f c x e && cE f c o a && cE f c i b && notLc e && okX b
    | _ => false)
  | .ite t a b, s => (match s with
    | .If g x y _ => cT f c t g && cSts f c a x && cSts f c b y
    | _ => false)
  | .forS t l body _, s => (match s with
    | .For tg iter x [] _ => f.cm && okX iter && tgC f c t tg && (zipT l tg && cR f c .i l iter) && cSts f c body x
    | _ => false)
  | .whl t body _, s => (match s with
    | .While g x [] _ => f.cm && cT f c t g && cSts f c body x
    | _ => false)
  | .rais k es, s => (match s with
    | .Raise (some e) none _ => f.cm && (match es with | [] => mkC f c k e | xs => mkA f c k xs e)
    | _ => false)
  | .tryS body hs, s => (match s with
    | .Try x (h0 :: hds) [] [] _ => f.cm && cSts f c body x && cHs f c hs (h0 :: hds)
    | _ => false)
  | _, _ => false
def cSts (f : Cf) (c : Cs) : List Stm → List Stmt → Bool
  | [], l => (match l with | [] => true | _ => false)
  | s :: r, l => (match l with
    | x :: t => cSt f c s x && cSts f c r t
    | [] => false)
def cHs (f : Cf) (c : Cs) : List Hd → List ExceptHandler → Bool
  | [], l => (match l with | [] => true | _ => false)
  | (cs, sl, suite) :: r, l => (match l with
    | .ExceptHandler (some (.Name cn _)) nm (b0 :: t) _ :: hds => (match cs with | [k] => isAt f.nm.tst k cn && gloB c.sc cn && okName cn | _ => false) && (match sl, nm with
      | some i, some y => isAt f.N i y && locB c.sc y && cSts { f with cm := false, sl := some i } c suite (b0 :: t)
      | none, none => plainC suite b0 t
      | _, _ => false) && cHs f c r hds
    | _ => false)
end
variable {w : Wo} {xw : Xw} {C : Ctx} {p : Prg} {n : Nat} {f : Cf}
structure Fs (w : Wo) (xw : Xw) (p : Prg) (n : Nat) (C : Ctx) (f : Cf) (c : Cs) (W : WX) (X : Cx) : Prop extends Fc w xw p n C f c W X where
  own : f.cm = true → PassesOwn (model X.prog X.w) X.A X.env X.xe
  stk : X.stack = X.env :: X.outer
  frm : X.env.frame = some X.env.locals
  knd : X.env.scope.kind = .function
section
variable {c : Cs} {W : WX} {X : Cx} {e tg : Expr} {pos : Pos}
theorem notLc_ok {t : Option Expr} {l : Nat} {env : PySem.Env} (h : notLc e = true) : swapsWith e t l env = pure false := by
  cases e <;> first | (cases h; done) | rfl
theorem notLcS {t : Expr} {l : Nat} {env : PySem.Env} (h : notLc e = true) : swapsWithSole [t] e l env = pure false := notLc_ok h
theorem nosw_ok {t : Expr} {l : Nat} {env : PySem.Env} (hs : env.scope = c.sc) (h : nosw c t e = true) : swapsWithSole [t] e l env = pure false := by
  unfold nosw at h
  rw [Bool.or_eq_true] at h
  rcases h with h | h
  · exact notLcS h
  · split at h
    · rename_i x py elt gs scope pos
      show swapsWith (.ListComp elt gs scope pos) (some (.Name x py)) l env = _
      have key : (env.blockKind == .function && env.kindOf x == some .local && py.line == pos.line && !(scope.names.any fun (n, k) => n == x && (k == .local || k == .cell))) = false := by
        simp only [Bool.or_eq_true, Bool.not_eq_true'] at h
        rcases h with (h | h) | h
        · have : (env.kindOf x == some .local) = false := by
            rw [Bool.eq_false_iff]
            intro z
            have z : env.scope.names.lookup x = some .local := eq_of_beq z
            rw [hs] at z
            unfold locB at h
            rw [kindAt_ok, z] at h
            cases h
          rw [this, Bool.and_false, Bool.false_and, Bool.false_and]
        · rw [h, Bool.and_false, Bool.false_and]
        · rw [h, Bool.not_true, Bool.and_false]
      unfold swapsWith
      simp only [Expr.pos, key]
    · cases h
theorem notTup_ok {env : PySem.Env} (h : (notTup tg || notTup e) = true) (h2 : tgOk tg = true) : swappedStores [tg] e env = pure none := by
  cases tg <;> first | (cases h2; done) | rfl | (cases e <;> first | (cases h; done) | rfl)
theorem tg1_ok {env : PySem.Env} (h2 : tgOk tg = true) : (assignEach [tg] env).map (·.2) = [assign tg env] := by
  cases tg <;> first | (cases h2; done) | rfl
theorem sub_ok {o b : Expr} {env : PySem.Env} (h : okX b = true) (v : Value) : assign (.Subscript o b pos) env v = (do
      let ov ← holding [v] (eval o env)
      let iv ← holding [v, ov] (eval b env)
      standAt pos
      holding [v, ov, iv] (setItem ov iv v)
      release [v, ov, iv] []) := by
  cases b <;> first | (cases h; done) | rfl
theorem mk_ok {k : Nat} (F : Fs w xw p n C f c W X) (h : mkC f c k e = true) : L2N.PMk X e (fun _ H Q => Q (xw.cA k) none H) ∧ xw.fl k = [] ∧ k < xw.n := by
  unfold mkC at h
  split at h
  · rename_i x q m j q2 q3
    simp only [Bool.and_eq_true] at h
    have hx := isAt_ok h.1.1.1
    obtain ⟨h1, a, h2, h3, h4, h5, h6, h7⟩ := F.gd.cls k x hx
    have fl : xw.fl k = [] := by
      have e := F.gd.fls k h1
      have h8 := h.2
      rw [e] at h8
      split at h8
      · rename_i z
        exact Option.some.inj z
      · cases h8
    dsimp only at h4 h5 h6 h7
    rw [F.hK] at h4 h5 h6 h7
    rw [h3]
    exact ⟨L2N.pmk_own PySem.F.excBase_ValueError (h5 fl) h2 h4 (raises_own h6 h7) (F.gl h.1.1.2) (okName_ok h.1.2).1, fl, h1⟩
  · cases h
theorem names_ok {k : Nat} {x : Str} {cv : Value} {K : PySem.W.Frag} (h : TstOk xw K X.mg p k x cv) (hg : Gl X x) (hn : okName x = true) : Names X x cv := by
  refine ⟨hg, (okName_ok hn).1, ?_⟩
  rcases h.nm with ⟨a, rfl, hm⟩ | ⟨T, rfl, hm, hb⟩
  · exact .inl hm
  · exact .inr ⟨hm, hb, (okName_ok hn).2.2⟩
/-- a try body -/
theorem Fs.tr {W' : WX} {pn : List (Addr × Obj)} {xe : Value → Shared → Prop} (F : Fs w xw p n C f c W X) (tk : L2N.Takes (X.tr pn xe) W') (own : PassesOwn (model X.prog X.w) X.A X.env xe) (h1 : f.cm = true := by assumption) : Fs w xw p n C f c W' (X.tr pn xe) :=
  { hK := F.hK, gd := F.gd, nd := F.nd, un := F.un, cG := F.cG, cP := F.cP, cC := F.cC, hx := fun z => (by rw [h1] at z; cases z), tk := tk, hN := F.hN, sc := F.sc, fn := F.fn, sx := F.sx, calm := F.calm, own := fun _ => own, stk := F.stk, frm := F.frm, knd := F.knd }
/-- an except suite -/
theorem Fs.suite {a : Addr} {oe : Obj} {pn : List (Addr × Obj)} {i k : Nat} {fs : List D} {dd : Option Addr} {φ : Nat → Addr} {H : Hp} {S : Store} {cls : Value} (F : Fs w xw p n C f c W X) (h1 : f.cm = true) (xr : XR w xw φ H S k fs cls dd) (hz : L2N.Zn cls dd oe) (hf : ∃ vs, oe.data = .fields vs) :
    Fs (w.at a i (xdO xw k fs dd)) xw p n { C with exn := some (k, fs) } { f with cm := false, sl := some i } c W0 (X.suite a ((a, oe) :: pn)) := by
  obtain ⟨hk, rfl, q3, q4, q5⟩ := xr
  obtain ⟨D0, e1, e2, e3⟩ := F.gd.exc k hk
  have iff : dd = none ↔ xw.fl k = [] := by
    rcases q5 with ⟨z1, z2⟩ | ⟨z1, d, z2, _⟩
    · exact ⟨fun _ => z1, fun _ => z2⟩
    · exact ⟨fun z => by (rw [z2] at z; cases z), fun z => absurd z z1⟩
  dsimp only at e2 e3
  rw [F.hK] at e2 e3
  rw [e1] at hz
  have hr := (F.calm h1).2.2
  exact { hK := F.hK, gd := F.gd, nd := F.nd, un := F.un, cG := F.cG, cP := F.cP, cC := F.cC, hx := fun _ => ⟨⟨a, oe, i, k, D0, fs, dd, rfl, rfl, rfl, hk, e1, List.mem_cons_self, hz, hf, e2, rfl, q3, q4, iff, e3⟩, ⟨(hr.mono (Nat.le_add_right _ _)).dp, (hr.mono (Nat.le_add_right _ _)).un⟩⟩, tk := takes0, hN := F.hN, sc := F.sc, fn := F.fn, sx := fun a' j fs e => (by cases e; rfl), calm := fun z => (by cases z), own := fun z => (by cases z), stk := F.stk, frm := F.frm, knd := F.knd }
end
abbrev StsOk (ss : List Stm) : Prop := ∀ {w : Wo} {xw : Xw} {C : Ctx} {p : Prg} {n : Nat} {f : Cf} {sts : List Stmt} {c : Cs} {W : WX} {X : Cx}, Fs w xw p n C f c W X → cSts f c ss sts = true → PSs X sts (tSts w xw C W ss)
theorem tst_ok {cs : List Nat} {cn : Str} {c : Cs} {W : WX} {X : Cx} (F : Fs w xw p n C f c W X) (h : (match cs with | [k] => isAt f.nm.tst k cn && gloB c.sc cn && okName cn | _ => false) = true) :
    ∃ cv, Names X cn cv ∧ ∀ k, k < xw.n → PySem.W.exmOne X.K (xw.cA k) cv = some (catches C.Cl k cs) := by
  split at h
  · rename_i k
    simp only [Bool.and_eq_true] at h
    obtain ⟨cv, ht⟩ := F.gd.tst _ _ (isAt_ok h.1.1)
    dsimp only at ht
    have hK := F.hK
    refine ⟨cv, names_ok ht (F.gl h.1.2) h.2, fun c' hc' => ?_⟩
    obtain ⟨bs, hb, _, hk⟩ := ht.kit c' hc'
    rw [← hK, hk]
    congr 1
    unfold catches
    rw [F.cC, hb]
    show bs.contains k = bs.any fun b => [k].contains b
    exact contains_any bs k
  · cases h
theorem cCxs_ok {X : Cx} {W : WX} : ∀ {xs : List Exp} {es : List Expr}, cCxs xs es = true → (∃ ds, ∀ (C : Ctx) (env : Env) (S : Store), evEs C xs env S = .ok ds S) ∧ PA X es (tEs w xw C W xs)
  | [], [], _ => ⟨⟨[], fun C env S => by rw [evEs]⟩, sa_nil⟩
  | .c d :: xs, e :: es, h => by
    simp only [cCxs, Bool.and_eq_true] at h
    obtain ⟨⟨ds, i1⟩, i2⟩ := cCxs_ok (X := X) (W := W) h.2
    exact ⟨⟨d :: ds, fun C env S => by rw [evEs, evE]; show ((evEs C xs env S).bind fun xs S => Res.ok (d :: xs) S) = _; rw [i1]; rfl⟩, sa_cons (const_ok h.1.1) i2 h.1.2⟩
  | [], _ :: _, h => by simp [cCxs] at h
  | x :: _, [], h => by cases x <;> simp [cCxs] at h
theorem cCx_ok {X : Cx} {W : WX} {x : Exp} {e : Expr} (h : cCx x e = true) : (∃ d, ∀ (C : Ctx) (env : Env) (S : Store), evE C x env S = .ok d S) ∧ PE X e (tE w xw C W x) := by
  unfold cCx at h
  split at h
  · rename_i d
    exact ⟨⟨d, fun C env S => by rw [evE]⟩, const_ok h⟩
  · rename_i xs
    split at h
    · simp only [Bool.and_eq_true, decide_eq_true_eq] at h
      obtain ⟨⟨ds, i1⟩, i2⟩ := cCxs_ok (w := w) (xw := xw) (C := C) (X := X) (W := W) h.1
      exact ⟨⟨.tup ds, fun C env S => by rw [evE, i1]; rfl⟩, se_tup i2 (by rw [sizeLine_eq]; omega)⟩
    · cases h
  · cases h
theorem plain_ok {suite : List Stm} {b0 : Stmt} {t : List Stmt} {X : Cx} (h : plainC suite b0 t = true) : ∃ x d, suite = [.ret x] ∧ (∀ (C : Ctx) (env : Env) (S : Store), evE C x env S = .ok d S) ∧ PSs X (b0 :: t) (tSts w xw C W0 suite) := by
  unfold plainC at h
  split at h
  · obtain ⟨⟨d, h1⟩, h2⟩ := cCx_ok (w := w) (xw := xw) (C := C) (X := X) (W := W0) h
    exact ⟨_, d, rfl, h1, sss_cons (sst_ret h2) sss_nil⟩
  · split at h
    · exact ⟨_, .non, rfl, fun C env S => by rw [evE], sss_cons sst_retN sss_nil⟩
    · cases h
  · cases h
theorem clause_case {cs : List Nat} {sl : Option Nat} {suite : List Stm} {r : List Hd} {hds : List ExceptHandler} {c : Cs} {W : WX} {X : Cx} (ihs : StsOk suite) (ihr : ∀ hds, cHs f c r hds = true → ∃ l, PwT.MixOk X hds l ∧ Meets w xw C X r l)
    (F : Fs w xw p n C f c W X) (h1 : f.cm = true) (h : cHs f c ((cs, sl, suite) :: r) hds = true) : ∃ l, PwT.MixOk X hds l ∧ Meets w xw C X ((cs, sl, suite) :: r) l := by
  simp only [cHs] at h
  split at h
  · rename_i cn np nm b0 t pos hds2
    simp only [Bool.and_eq_true] at h
    obtain ⟨⟨g1, g2⟩, g3⟩ := h
    obtain ⟨cv, hn, hex⟩ := tst_ok F g1
    obtain ⟨l, m1, m2⟩ := ihr _ g3
    split at g2
    · rename_i i y
      simp only [Bool.and_eq_true] at g2
      obtain ⟨⟨h3, h4⟩, h8⟩ := g2
      refine ⟨_, .named hn (F.toFc.at h3) (by show X.env.scope.names.lookup y = _; rw [F.sc]; exact locB_ok h4) (fun a oe cls d pn hz hf => ⟨fun pins s σ H D0 I ⟨c', fs, φ, env, S, xr, m, g⟩ => ?_⟩) m1, .named hex m2⟩
      exact (ihs (F.suite h1 xr hz hf) h8).run pins s σ H D0 I ⟨φ, env, S, m, g⟩
    · obtain ⟨x, d, e, hxd, _⟩ := plain_ok (w := w) (xw := xw) (C := C) (X := X) g2
      subst e
      exact ⟨_, .plain hn (fun a oe cls d pn hz hf => by obtain ⟨_, _, _, _, hp⟩ := plain_ok (w := w) (xw := xw) (C := C) (X := X.suite a ((a, oe) :: pn)) g2; exact hp) m1, .plain hxd hex m2⟩
    · cases g2
  · cases h
theorem try_case {body : List Stm} {hs : List Hd} {st : Stmt} {c : Cs} {W : WX} {X : Cx} (ihb : StsOk body) (F : Fs w xw p n C f c W X) (ihh : f.cm = true → ∀ hds, cHs f c hs hds = true → ∃ l, PwT.MixOk X hds l ∧ Meets w xw C X hs l) (h : cSt f c (.tryS body hs) st = true) : PS X st (tSt w xw C W (.tryS body hs)) := by
  simp only [cSt] at h
  split at h
  · rename_i x h0 hds pos
    simp only [Bool.and_eq_true] at h
    obtain ⟨⟨h1, h2⟩, h3⟩ := h
    obtain ⟨l, m1, m2⟩ := ihh h1 _ h3
    exact sst_tryM (F.calm h1).2.1 F.stk F.frm F.nd F.tk (fun W' pn xe tk own => ihb (F.tr tk own) h2) m1 m2
  · cases h
mutual
theorem cSt_ok : ∀ (s : Stm) {w : Wo} {xw : Xw} {C : Ctx} {p : Prg} {n : Nat} {f : Cf} {st : Stmt} {c : Cs} {W : WX} {X : Cx}, Fs w xw p n C f c W X → cSt f c s st = true → PS X st (tSt w xw C W s)
  | .pass, w, xw, C, p, n, f, st, c, W, X, F, h => by
    simp only [cSt] at h
    split at h
    · exact sst_pass
    · cases h
  | .brk, w, xw, C, p, n, f, st, c, W, X, F, h => by
    simp only [cSt] at h
    split at h
    · exact sst_brk
    · cases h
  | .cont, w, xw, C, p, n, f, st, c, W, X, F, h => by
    simp only [cSt] at h
    split at h
    · exact sst_cont
    · cases h
  | .ex x, w, xw, C, p, n, f, st, c, W, X, F, h => by
    simp only [cSt] at h
    split at h
    · simp only [Bool.and_eq_true] at h
      exact sst_ex (cE_ok x F.toFc h.1) (notLc_ok h.2)
    · cases h
  | .ret x, w, xw, C, p, n, f, st, c, W, X, F, h => by
    simp only [cSt] at h
    split at h
    · exact sst_ret (cE_ok x F.toFc h)
    · split at h
      · split at h
        · exact sst_retN
        · cases h
      · cases h
    · cases h
  | .set t x, w, xw, C, p, n, f, st, c, W, X, F, h => by
    simp only [cSt] at h
    split at h
    · rw [Bool.or_eq_true] at h
      rcases h with h | h
      · simp only [Bool.and_eq_true] at h
        exact sst_set (cE_ok x F.toFc h.1.1.1.1) (tgC_ok F.toFc h.1.1.2) (nosw_ok (by rw [F.sc]) h.1.1.1.2) (notTup_ok h.2 h.1.2) (tg1_ok h.1.2)
      · split at h
        · rw [Bool.and_eq_true] at h
          obtain ⟨hcm, h⟩ := h
          unfold lcC at h
          split at h
          · rename_i x py elt tg iter gifs as scope pos
            simp only [Bool.and_eq_true, Bool.not_eq_true'] at h
            obtain ⟨⟨⟨⟨h1, h2⟩, h3⟩, h4⟩, h5⟩ := h
            simp only [cR] at h5
            simp only [Bool.and_eq_true, decide_eq_true_eq] at h5
            obtain ⟨⟨⟨⟨⟨⟨⟨g1, g2⟩, g3⟩, g4⟩, g5⟩, g6⟩, g7⟩, g8⟩ := h5
            subst g2
            have ok := blkOk_by g4
            rw [← F.hN, ← F.sc] at ok
            have hl : X.env.scope.names.lookup x = some .local := by rw [F.sc]; exact locB_ok h2
            refine sst_setLc (F.calm g1).2.1 (F.calm g1).1 F.nd (F.toFc.at h1) hl (sw_true F.knd hl h3 h4) (cR_ok _ .i F.toFc g6.2 _ g6.1) ok ?_ (fun s H D cl fp => tgC_ok (F.toFc.blk g1 s H D cl fp) g5) (fun s H D cl fp => cTs_ok _ (F.toFc.blk g1 s H D cl fp) g7) (fun s H D cl fp => cE_ok _ (F.toFc.blk g1 s H D cl fp) g8) (fold_ok g3)
            unfold ownOf
            rw [List.map_map]
            exact List.map_id _
          · cases h
        · cases h
    · cases h
  | .setIx o i x, w, xw, C, p, n, f, st, c, W, X, F, h => by
    simp only [cSt] at h
    split at h
    · simp only [Bool.and_eq_true] at h
      exact sst_setIx (psetR (by have := F.un; omega)) (cE_ok o F.toFc h.1.1.1.2) (cE_ok i F.toFc h.1.1.2) (cE_ok x F.toFc h.1.1.1.1) (notLcS h.1.2) (notTup_ok (by rfl) rfl) rfl (sub_ok h.2)
    · cases h
  | .ite t a b, w, xw, C, p, n, f, st, c, W, X, F, h => by
    simp only [cSt] at h
    split at h
    · simp only [Bool.and_eq_true] at h
      exact sst_if (cT_ok t F.toFc h.1.1).1 (cSts_ok a F h.1.2) (cSts_ok b F h.2)
    · cases h
  | .forS t l body ks, w, xw, C, p, n, f, st, c, W, X, F, h => by
    simp only [cSt] at h
    split at h
    · simp only [Bool.and_eq_true] at h
      have hc := (F.calm h.1.1.1.1).1
      have hi := fun (_ : Unit) => cR_ok l .i F.toFc h.1.2.2 _ h.1.2.1
      have hg := tgC_ok F.toFc h.1.1.2
      have hb := cSts_ok body F h.2
      exact sst_for (F.own h.1.1.1.1) hc (hi ()) hg hb (ps_for (F.own h.1.1.1.1) hc (hi ()) hg hb (fold_ok h.1.1.1.2))
    · cases h
  | .whl t body ks, w, xw, C, p, n, f, st, c, W, X, F, h => by
    simp only [cSt] at h
    split at h
    · simp only [Bool.and_eq_true] at h
      exact sst_whl (F.own h.1.1) (cT_ok t F.toFc h.1.2).1 (cSts_ok body F h.2)
    · cases h
  | .rais k es, w, xw, C, p, n, f, st, c, W, X, F, h => by
    simp only [cSt] at h
    split at h
    · rw [Bool.and_eq_true] at h
      obtain ⟨hcm, h⟩ := h
      split at h
      · obtain ⟨h1, h2, h3⟩ := mk_ok F h
        exact sst_raise0 (F.calm hcm).1 F.tk h1 h2 h3
      · unfold mkA at h
        split at h
        · rename_i x q1 a r q2
          simp only [Bool.and_eq_true] at h
          obtain ⟨⟨⟨⟨⟨⟨g1, g2⟩, g3⟩, g4⟩, g5⟩, g6⟩, g7⟩ := h
          obtain ⟨hk, _⟩ := F.gd.cls k x (isAt_ok g1)
          have e := F.gd.fls k hk
          rw [e] at g6
          simp only [Bool.and_eq_true, decide_eq_true_eq] at g6
          obtain ⟨⟨l1, l2⟩, l3⟩ := g6
          have hne : xw.fl k ≠ [] := fun z => by rw [z] at l1; exact absurd l1 (by simp)
          obtain ⟨A, D1, fI, fd, p0, ps, m1, m2, m3, m4, m5, m6⟩ := F.gd.ini k x (isAt_ok g1) hne
          dsimp only at m3 m5 m6
          rw [F.hK] at m3 m5 m6
          exact sst_raiseA (F.calm hcm).1 F.tk m2 hk hne m3 (by rw [List.length_cons, m4]) m5 ((F.calm hcm).2.2.mono (Nat.le_add_left _ _)) m6 l2 (F.gl g2) m1 (cEs_ok _ F.toFc g7) l3 g3 g4 g5
        · cases h
    · cases h
  | .tryS body hs, w, xw, C, p, n, f, st, c, W, X, F, h => try_case (fun F h => cSts_ok body F h) F (fun h1 hds h => cHs_ok hs F h1 h) h
  | .kill _, w, xw, C, p, n, f, st, c, W, X, F, h => by simp [cSt] at h
theorem cSts_ok : ∀ (ss : List Stm) {w : Wo} {xw : Xw} {C : Ctx} {p : Prg} {n : Nat} {f : Cf} {sts : List Stmt} {c : Cs} {W : WX} {X : Cx}, Fs w xw p n C f c W X → cSts f c ss sts = true → PSs X sts (tSts w xw C W ss)
  | [], w, xw, C, p, n, f, sts, c, W, X, F, h => by
    simp only [cSts] at h
    split at h
    · exact sss_nil
    · cases h
  | s :: r, w, xw, C, p, n, f, sts, c, W, X, F, h => by
    simp only [cSts] at h
    split at h
    · simp only [Bool.and_eq_true] at h
      exact sss_cons (cSt_ok s F h.1) (cSts_ok r F h.2)
    · cases h
theorem cHs_ok : ∀ (hs : List Hd) {w : Wo} {xw : Xw} {C : Ctx} {p : Prg} {n : Nat} {f : Cf} {hds : List ExceptHandler} {c : Cs} {W : WX} {X : Cx}, Fs w xw p n C f c W X → f.cm = true → cHs f c hs hds = true → ∃ l, PwT.MixOk X hds l ∧ Meets w xw C X hs l
  | [], w, xw, C, p, n, f, hds, c, W, X, F, h1, h => by
    simp only [cHs] at h
    split at h
    · exact ⟨_, .nil, .nil⟩
    · cases h
  | (cs, sl, suite) :: r, w, xw, C, p, n, f, hds, c, W, X, F, h1, h => clause_case (fun F h => cSts_ok suite F h) (fun hds h => cHs_ok r F h1 h) F h1 h
end
end Pw
end
section
set_option Elab.async false
set_option linter.all false
set_option maxRecDepth 100000
set_option maxHeartbeats 4000000
set_option autoImplicit false
/-! Pw23: defs: each keeps what the evaluator says -/
namespace Pw
open PySem PySem.Spec PyProof.Rows L2
variable {w : Wo} {xw : Xw} {p : Prg} {nm : Nm}
section
variable {φ φ' : Nat → Addr} {S S' : Store} {H H' : Hp} {d : D} {v : V} {Q : VK} {W : WX} {σ : L2.St}
/-- a call's end: what was laid within is forgotten -/
theorem fin_ok (so : SimO w.K φ w.ex H S) (l : Lat φ φ' S S' H H') (so' : SimO w.K φ' w.ex H' S') (r : RE w φ' H' S' v d) (g : Rg w xw W σ (RE w) φ S H (fin S S' d) Q) : Q v H' := by
  unfold fin at g
  split at g
  · exact g v φ' H' l so' r
  · split at g
    · rename_i h1 h2
      have hl := (okOld_ok h2).1
      have sd := so'.drop so h2
      have ld := l.drop hl
      split at g
      · rename_i hb
        exact g v φ' H' ld sd ⟨r.1, by rw [hl]; exact hb⟩
      · rename_i hb
        split at g
        · rename_i m
          split at g
          · rename_i o e
            split at g
            · rename_i ho
              have hm : S.length ≤ m := by
                rcases Nat.lt_or_ge m S.length with z | z
                · exact absurd (show D.bel S.length (.obj m) = true from Nat.ble_eq_true_of_le z) hb
                · exact z
              have h0 : H (φ' m) = none := l.nw m hm (get_lt e)
              obtain ⟨φ2, l2, e2, s2⟩ := sd.adoptO ld h0 (so'.ob m o e) (fun n hn z => by
                rw [hl] at hn
                rw [l.same n hn] at z
                exact so.ne h0 n hn z) (by rw [hl]; exact ho)
              refine g v φ2 H' l2 s2 ⟨?_, ?_⟩
              · have : v = .ref (φ' m) := by cases r.1; rfl
                rw [this, ← e2, hl]
                exact .obj _
              · show Nat.blt S.length (o :: S'.drop (S'.length - S.length)).length = true
                rw [List.length_cons, hl]
                exact Nat.ble_eq_true_of_le (Nat.le_refl _)
            · exact g v φ' H' l so' r
          · exact g.elim
        · exact g v φ' H' l so' r
    · exact g v φ' H' l so' r
theorem finX_ok {c : Nat} {fs : List D} {cls : Value} {dd : Option Addr} (so : SimO w.K φ w.ex H S) (l : Lat φ φ' S S' H H') (so' : SimO w.K φ' w.ex H' S') (r : XR w xw φ' H' S' c fs cls dd) (g : Rg w xw W σ (RE w) φ S H (.exc c fs (finX S S' fs)) Q) : W cls dd σ H' := by
  unfold finX at g
  split at g
  · exact g φ' H' cls dd l so' r
  · split at g
    · rename_i h1 h2
      simp only [Bool.and_eq_true] at h2
      have hl := (okOld_ok h2.2).1
      exact g φ' H' cls dd (l.drop hl) (so'.drop so h2.2) r
    · exact g φ' H' cls dd l so' r
end
theorem simE0 {φ : Nat → Addr} {H : Hp} {S : Store} {vs : List V} {ds : List D} {N : List Str} {np nl : Nat} (hx : w.ex = none) (r : REs w φ H S vs ds) (hp : ds.length = np) (hn : nl = N.length) : SimE w.K φ w.ex H S.length (L2.start N vs) (ds.map some ++ List.replicate (nl - np) none) := by
  have hl := r.1.length
  refine ⟨by simp [L2.start, hl, hp, hn], fun i d h => ?_, fun a j fs e => (by rw [hx] at e; cases e), fun a i d fs e => (by rw [hx] at e; cases e)⟩
  have hi : i < ds.length := by
    rcases Nat.lt_or_ge i ds.length with z | z
    · exact z
    · rw [List.getElem?_append_right (by simpa using z), List.getElem?_replicate] at h
      split at h <;> cases h
  rw [List.getElem?_append_left (by simpa using hi), List.getElem?_map] at h
  cases e : ds[i]? with
  | none => rw [e] at h; cases h
  | some d' =>
    rw [e] at h
    cases h
    obtain ⟨v, h1, h2⟩ := r.1.get d e
    refine ⟨v, ?_, h2, bels_all.mp r.2 d (List.mem_of_getElem? e)⟩
    unfold L2.start
    rw [List.getElem?_append_left (by simp; omega), List.getElem?_map, h1]
    rfl
/-- what is known of the text's defs -/
structure Tx (w : Wo) (xw : Xw) (mg : Str → Option Value) (p : Prg) (nm : Nm) (hP : Program → Prop) : Prop where
  ex : w.ex = none
  fn : ∀ (i : Nat) (x : Str), nm.fns[i]? = some x → ∃ (f : Addr) (fd : FuncData) (ps N : List Str) (params : Arguments) (body : List Stmt) (scope : Scope) (g : Fn), mg x = some (.ref f) ∧ FunD w.K x x params body scope [] [] f fd ∧ Binds w.K fd ps [] ∧ FnScope N ps scope ∧
    p.fns[i]? = some g ∧ g.np = ps.length ∧ g.nl = N.length ∧ cSts ⟨nm, N, true, none⟩ ⟨scope, fun _ => true⟩ g.body body = true
  gl : ∀ (i : Nat) (x : Str), nm.gs[i]? = some x → ∃ (d : D) (u : Value) (v : V), p.G[i]? = some d ∧ mg x = some u ∧ RelV v u ∧ (∀ φ ex H, Rp w.K φ ex H v d) ∧ D.bel 0 d = true
  free : ∀ x ∈ freeNames, mg x = none
  cls : ∀ (k : Nat) (x : Str), nm.cls[k]? = some x → k < xw.n ∧ ∃ a : Addr, mg x = some (.ref a) ∧ xw.cA k = .ref a ∧ PySem.W.keepIn w.K (.ref a) = true ∧ (xw.fl k = [] → PySem.W.excIn w.K a veB "ValueError.__new__" = true) ∧
    PySem.W.subIn w.K (.ref a) (.type "BaseException") = some true ∧ PySem.W.typeIn w.K (.ref a) = some (.type "type")
  fls : ∀ k, k < xw.n → nm.fls[k]? = some (xw.fl k)
  hot : ∀ (i : Nat) (x : Str), (i, x) ∈ nm.hots → ∃ (f : Addr) (fd : FuncData) (y : Str) (N : List Str) (params : Arguments) (body : List Stmt) (scope : Scope) (g : Fn), mg x = some (.ref f) ∧ FunD w.K x x params body scope [] [] f fd ∧ Binds w.K fd [y] [] ∧ FnScope N [y] scope ∧
    p.fns[i]? = some g ∧ g.nl = N.length ∧ cSts ⟨nm, N, false, some 0⟩ ⟨scope, fun _ => true⟩ g.body body = true
  tst : ∀ (k : Nat) (x : Str), nm.tst[k]? = some x → ∃ cv, TstOk xw w.K mg p k x cv
  exc : ∀ c, c < xw.n → ∃ a : Addr, xw.cA c = .ref a ∧ ExcC w.K a ∧ ∀ g ∈ xw.fl c, PySem.W.findIn w.K (.ref a) g = some none
  ini : ∀ (P : Program) (wd : World) (base : Heap), hP P → ∀ (k : Nat) (x : Str), nm.cls[k]? = some x → xw.fl k ≠ [] → ∃ (a D fI : Addr) (fd : FuncData) (p0 : Str) (ps : List Str), mg x = some (.ref a) ∧ xw.cA k = .ref a ∧ IniC w.K a D fI (xw.fl k) ∧ ps.length = (xw.fl k).length ∧
    FnOk P wd w.K mg base (L2N.CX P wd) 1 fI fd (p0 :: ps) (spI w.K D fI (xw.fl k)) ∧ Binds w.K fd (p0 :: ps) []
/-- one def -/
theorem fn_keeps {P : Program} {wd : World} {mg : Str → Option Value} {base : Heap} {n i : Nat} {x : Str} {f : Addr} {fd : FuncData} {ps N : List Str} {params : Arguments} {body : List Stmt} {scope : Scope} {g : Fn} {hP : Program → Prop} (T : Tx w xw mg p nm hP) (G : Gd w xw P wd mg base p nm n)
    (F : FunD w.K x x params body scope [] [] f fd) (Sc : FnScope N ps scope) (hg : p.fns[i]? = some g) (hp : g.np = ps.length) (hn : g.nl = N.length) (hc : cSts ⟨nm, N, true, none⟩ ⟨scope, fun _ => true⟩ g.body body = true) : FnOk P wd w.K mg base (L2N.CX P wd) (n + 3) f fd ps (spD w xw p (n + 1) i) := by
  have hden : ∀ ds S, den p (n + 1) none i ds S = evFn ⟨den p n, p.G, p.Cl, none⟩ g ds S := fun ds S => by
    show (match p.fns[i]? with
      | some f => evFn ⟨den p n, p.G, p.Cl, none⟩ f ds S
      | none => .bad) = _
    rw [hg]
  have hev : ∀ ds S, evFn ⟨den p n, p.G, p.Cl, none⟩ g ds S = if ds.length = g.np then (match evSs ⟨den p n, p.G, p.Cl, none⟩ g.body (ds.map some ++ List.replicate (g.nl - g.np) none) S with
    | .ok (.rt d) S' => fin S S' d
    | .ok (.nx _) S' => fin S S' .non
    | .ok (.ex c fs _) S' => .exc c fs (finX S S' fs)
    | _ => .bad) else .bad := fun ds S => by
      unfold evFn
      by_cases h : ds.length = g.np
      · rw [if_pos (.inr h), if_pos h]; rfl
      · rw [if_neg (by simp [h]), if_neg h]
  refine F.ok Sc (fun vs H Q E h => ?_) fun cdv A outer s H vs Q E hr h => ?_
  · obtain ⟨φ, S, ds, so, rs, h⟩ := h
    rw [hden, hev] at h
    obtain ⟨h1, _⟩ := Rg.ite h
    rw [rs.1.length, h1, hp]
  · obtain ⟨φ, S, ds, so, rs, h⟩ := h
    rw [hden, hev] at h
    obtain ⟨h1, h⟩ := Rg.ite h
    have hu := hr.un
    have Fs0 : Fs w xw p n ⟨den p n, p.G, p.Cl, none⟩ ⟨nm, N, true, none⟩ ⟨scope, fun _ => true⟩ (fun cls d _ H => E cls d H) (cxOf (L2N.CX P wd) P wd w.K mg base N x scope f cdv A outer s H E) :=
      { hK := rfl, gd := (by cases w; have := T.ex; simp only at this; subst this; exact G), nd := Sc.nd, un := (by show (A.deeper _).units + 65 < _; omega), cG := rfl, cP := fun _ => rfl, cC := rfl, hx := fun z => (by cases z), tk := L2N.takes_of rfl rfl rfl rfl, hN := rfl, sc := rfl, fn := fun _ _ => rfl, sx := fun a j fs e => (by rw [T.ex] at e; cases e), calm := fun _ => ⟨rfl, T.ex, hr⟩, own := fun _ => passes_of rfl, stk := rfl, frm := rfl, knd := Sc.kind }
    refine ⟨_, cSts_ok g.body Fs0 hc, φ, ds.map some ++ List.replicate (g.nl - g.np) none, S, ⟨so, simE0 T.ex rs h1 hn⟩, ?_⟩
    cases e : evSs ⟨den p n, p.G, p.Cl, none⟩ g.body (ds.map some ++ List.replicate (g.nl - g.np) none) S with
    | bad => rw [e] at h; exact h.elim
    | exc c fs S' => rw [e] at h; exact h.elim
    | ok fl S' =>
      rw [e] at h
      cases fl with
      | nx env => exact fun φ' H' σ' l m => fin_ok so l m.o ⟨.non, rfl⟩ h
      | rt d => exact fun v φ' H' l so' r => fin_ok so l so' r h
      | ex c fs env => exact fun φ' H' σ' cls dd l m xr => finX_ok so l m.o xr h
      | bk env => exact h.elim
      | ct env => exact h.elim
/-- a def that is called with the exception that is handled -/
theorem fnH_keeps {P : Program} {wd : World} {mg : Str → Option Value} {base : Heap} {n i : Nat} {x y : Str} {f : Addr} {fd : FuncData} {N : List Str} {params : Arguments} {body : List Stmt} {scope : Scope} {g : Fn} {hP : Program → Prop} (T : Tx w xw mg p nm hP) (G : Gd w xw P wd mg base p nm n)
    (F : FunD w.K x x params body scope [] [] f fd) (Sc : FnScope N [y] scope) (hg : p.fns[i]? = some g) (hn : g.nl = N.length) (hc : cSts ⟨nm, N, false, some 0⟩ ⟨scope, fun _ => true⟩ g.body body = true) : FnHp P wd w.K mg base (L2N.CX P wd) (n + 1) f fd [y] (spX w xw p (n + 1) i) := by
  refine ⟨fun A outer s H args us vs Q E pr cls dd hr hot hpin hz e0 hb r hsp => ?_⟩
  obtain ⟨rfl, c, fs0, φ, S, xr0, so, h⟩ := hsp
  obtain ⟨hcn, rfl, hfo, hfl, hdd⟩ := id xr0
  have iff : dd = none ↔ xw.fl c = [] := by
    rcases hdd with ⟨z1, z2⟩ | ⟨z1, d, z2, _⟩
    · exact ⟨fun _ => z1, fun _ => z2⟩
    · exact ⟨fun z => by (rw [z2] at z; cases z), fun z => absurd z z1⟩
  obtain ⟨oc, od, dV, kV, doc, pm, an, cdv, ct, osl, rfl, lk, hcd, _, _⟩ := F.ex
  have kin : w.K.In s.heap := e0.mod.kin.keeps fun b o e => (e0.bs b o e).1
  have nolim : s.heap.NoLimit := e0.mod.nolimit.keeps fun b o e => (e0.bs b o e).1
  have kinds : ∀ q ∈ [y].zip us, scope.names.lookup q.1 = some .local ∨ (scope.names.lookup q.1 = some .cell ∧ ((cellsFrom (s.heap.objs.size + 1) scope.names []).lookup q.1).isSome = true) := fun ⟨m, v⟩ hq => (Sc.par m (List.of_mem_zip hq).1).imp id fun q => ⟨q, PySem.W.cellsFrom_some _ _ _ (.inl q)⟩
  refine codeAny_call_function hr.depth (kin _ _ lk) rfl Sc.co Sc.gen rfl (PySem.W.codeRec_of kin hcd) (hb _ _ _ _ (wpAny_newFunctionEnv_cells Sc.kind kinds fun env he s1 inn => ?_))
  subst he
  refine ⟨nolim.keeps inn.toInCall.keep, (codeAny_func ?_)⟩
  obtain ⟨D0, e1, e2, e3⟩ := T.exc c hcn
  have hz' := hz
  rw [e1] at hz'
  obtain ⟨hh, vsf, hv, _⟩ := id hot
  have hrd := hr.deeper (envOfC x scope s.heap.objs.size f cdv)
  have hun := hrd.un
  have J : Inv (L2H.cxH (L2N.CX P wd) P wd w.K mg base N x scope f cdv A outer s H E pr) [] (L2.start N [.ref pr.1]) H s1 := L2H.inv_startH Sc hpin e0 rfl r inn
  have Fs0 : Fs (w.at pr.1 0 (xdO xw c fs0 dd)) xw p n ⟨den p n, p.G, p.Cl, some (c, fs0)⟩ ⟨nm, N, false, some 0⟩ ⟨scope, fun _ => true⟩ W0 (L2H.cxH (L2N.CX P wd) P wd w.K mg base N x scope f cdv A outer s H E pr) :=
    { hK := rfl, gd := (by cases w; have := T.ex; simp only at this; subst this; exact G), nd := Sc.nd, un := (by show (A.deeper _).units + 65 < _; omega), cG := rfl, cP := fun _ => rfl, cC := rfl,
      hx := fun _ => ⟨⟨pr.1, pr.2, 0, c, D0, fs0, dd, rfl, rfl, rfl, hcn, e1, List.mem_cons_self, hz', ⟨vsf, hv⟩, e2, hh, hfo, hfl, iff, e3⟩, hrd⟩, tk := takes0, hN := rfl, sc := rfl, fn := fun _ _ => rfl, sx := fun a j fs e => (by cases e; rfl), calm := fun z => (by cases z), own := fun z => (by cases z), stk := rfl, frm := rfl, knd := Sc.kind }
  have hev : den p (n + 1) (some (c, fs0)) i [] S = (match evSs ⟨den p n, p.G, p.Cl, some (c, fs0)⟩ g.body (List.replicate g.nl none) S with
    | .ok (.rt d) S' => fin S S' d
    | .ok (.nx _) S' => fin S S' .non
    | .ok (.ex c fs _) S' => .exc c fs (finX S S' fs)
    | _ => .bad) := by
    show (match p.fns[i]? with
      | some f => evFn ⟨den p n, p.G, p.Cl, some (c, fs0)⟩ f [] S
      | none => .bad) = _
    rw [hg]
    rfl
  rw [hev] at h
  have pre : tSts (w.at pr.1 0 (xdO xw c fs0 dd)) xw ⟨den p n, p.G, p.Cl, some (c, fs0)⟩ W0 g.body { nx := fun _ H' => Q .non H', rt := Q } (L2.start N [.ref pr.1]) H := by
    have hNl : 0 < N.length := by
      have := congrArg List.length Sc.pre
      simp only [List.length_take, List.length_cons, List.length_nil] at this
      omega
    refine ⟨φ, List.replicate g.nl none, S, ⟨so_ex so, ?_, fun j d hd => ?_, fun a j fs e => ?_, fun a j d fs e => xdO_ok xr0 e⟩, ?_⟩
    · simp only [L2.start, List.length_append, List.length_map, List.length_replicate, List.length_cons, List.length_nil, hn]
      omega
    · rw [List.getElem?_replicate] at hd
      split at hd <;> cases hd
    · cases e
      rfl
    · cases e : evSs ⟨den p n, p.G, p.Cl, some (c, fs0)⟩ g.body (List.replicate g.nl none) S with
      | bad => rw [e] at h; exact h.elim
      | exc c fs S' => rw [e] at h; exact h.elim
      | ok fl S' =>
        rw [e] at h
        cases fl with
        | nx env => exact fun φ' H' σ' l m => fin_ok so l (so_ex m.o) ⟨.non, rfl⟩ h
        | rt d => exact fun v φ' H' l so' rv => fin_ok so l (so_ex so') ⟨rp_ex rv.1, rv.2⟩ h
        | ex c fs env => exact fun φ' H' σ' cls dd l m xr => (finX_ok (Q := Q) so l (so_ex m.o) xr h : W00 _ _ _ _).elim
        | bk env => exact h.elim
        | ct env => exact h.elim
  refine wpAny_mono ((cSts_ok g.body Fs0 hc).run [] s1 _ H _ J pre) (fun fl s' hs => ?_) fun _ _ z => z
  have out : ∀ {σ' : L2.St} {H' : Hp} {v : V} {u : Value}, Inv (L2H.cxH (L2N.CX P wd) P wd w.K mg base N x scope f cdv A outer s H E pr) [] σ' H' s' → RelV v u → Q v H' → CE outer P wd H s Q u s' := fun {σ' H' v u} J2 rv q => ⟨v, H', J2.os, J2.bare, J2.base, J2.hok, rv, q⟩
  cases fl with
  | next => obtain ⟨_, _, J2, q⟩ := hs; exact out (v := V.non) (u := Value.none) J2 rfl q
  | ret u => obtain ⟨_, _, _, J2, rv, q⟩ := hs; exact out J2 rv q
  | brk => obtain ⟨_, _, _, z⟩ := hs; exact z.elim
  | cont => obtain ⟨_, _, _, z⟩ := hs; exact z.elim
theorem gd_all {P : Program} {wd : World} {mg : Str → Option Value} {base : Heap} {hP : Program → Prop} (hp : hP P) (T : Tx w xw mg p nm hP) : ∀ n, Gd w xw P wd mg base p nm n
  | 0 => ⟨fun i x h => by
      obtain ⟨f, fd, ps, N, params, body, scope, g, h1, h2, h3, _⟩ := T.fn i x h
      exact ⟨f, fd, ps, h1, h2.kp, ⟨fun vs H Q E ⟨_, _, _, _, _, z⟩ => z.elim, fun A outer s H args us vs Q E _ _ _ _ ⟨_, _, _, _, _, z⟩ => z.elim⟩, h3⟩, T.gl, T.free, T.cls, fun i x h => by
      obtain ⟨f, fd, y, N, params, body, scope, g, h1, h2, h3, _⟩ := T.hot i x h
      exact ⟨f, fd, y, h1, h2.kp, ⟨fun A outer s H args us vs Q E pr cls dd _ _ _ _ _ _ _ ⟨_, _, _, _, _, _, _, z⟩ => z.elim⟩, h3⟩, T.tst, T.exc, T.fls, T.ini P wd base hp⟩
  | n + 1 => ⟨fun i x h => by
      obtain ⟨f, fd, ps, N, params, body, scope, g, h1, h2, h3, h4, h5, h6, h7, h8⟩ := T.fn i x h
      exact ⟨f, fd, ps, h1, h2.kp, fn_keeps T (gd_all hp T n) h2 h4 h5 h6 h7 h8, h3⟩, T.gl, T.free, T.cls, fun i x h => by
      obtain ⟨f, fd, y, N, params, body, scope, g, h1, h2, h3, h4, h5, h6, h7⟩ := T.hot i x h
      exact ⟨f, fd, y, h1, h2.kp, fnH_keeps T (gd_all hp T n) h2 h4 h5 h6 h7, h3⟩, T.tst, T.exc, T.fls, T.ini P wd base hp⟩
end Pw
end
section
set_option Elab.async false
set_option linter.all false
set_option maxRecDepth 100000
set_option maxHeartbeats 4000000
set_option autoImplicit false
/-! Pw24: the head's facts, the end -/
namespace Pw
open PySem PySem.Spec PyProof.Rows L2
/-- one def of the text -/
structure Dd where
  x : Str
  ps : List Str
  N : List Str
  params : Arguments
  body : List Stmt
  scope : Scope
  g : Fn
def Dd.d (a : Dd) : He.DefD := ⟨(a.x, none), a.x, a.x, a.params, a.body, a.scope, [], []⟩
def scopC (ps N : List Str) (sc : Scope) : Bool := (match sc.kind with | .function => true | _ => false) && !sc.isCoroutine && !sc.isGenerator && decide N.Nodup && decide (N.take ps.length = ps) &&
  (ps.all fun x => (match kindAt sc.names x with | some .local => true | some .cell => true | _ => false)) && sc.names.all fun y => (match y.2 with | .free => false | _ => true)
theorem scopC_ok {ps N : List Str} {sc : Scope} (h : scopC ps N sc = true) : FnScope N ps sc := by
  unfold scopC at h
  simp only [Bool.and_eq_true, Bool.not_eq_true', decide_eq_true_eq, List.all_eq_true] at h
  obtain ⟨⟨⟨⟨⟨⟨h1, h2⟩, h3⟩, h4⟩, h5⟩, h6⟩, h7⟩ := h
  refine ⟨?_, h2, h3, h4, h5, fun x hx => ?_, fun y hy e => ?_⟩
  · split at h1
    · assumption
    · cases h1
  · have k := h6 x hx
    rw [kindAt_ok] at k
    split at k
    · exact .inl (by assumption)
    · exact .inr (by assumption)
    · cases k
  · have k := h7 y hy
    rw [e] at k
    cases k
def Dd.ok (nm : Nm) (hot : Bool) (a : Dd) : Bool := scopC a.ps a.N a.scope && decide (a.g.nl = a.N.length) && (if hot then decide (a.ps.length = 1) else decide (a.g.np = a.ps.length)) &&
  cSts ⟨nm, a.N, !hot, if hot then some 0 else none⟩ ⟨a.scope, fun _ => true⟩ a.g.body a.body
def BindP (a : Dd) : Prop := ∀ (kV doc pm : Value) (an : Option Addr) (cdv ct : Value) (us : List Value), us.length = a.ps.length → bindArgs (PySem.W.fnOf a.x a.x a.params a.body a.scope .none kV doc pm an cdv ct) ⟨us, []⟩ = pure (a.ps.zip us)
/-- an own __init__: the class it stands in, its qualified name, its parameters, the fields that it fills -/
structure In1 where
  x : Str
  q : Str
  p0 : Str
  ps : List Str
  fl : List Str
  params : Arguments
  body : List Stmt
  scope : Scope
def BindI (a : In1) : Prop := ∀ (cl : List (Str × Addr)) (kV doc pm : Value) (an : Option Addr) (cdv ct : Value) (us : List Value), us.length = (a.p0 :: a.ps).length → bindArgs (PySem.W.fnX "__init__" a.q a.params a.body a.scope cl .none kV doc pm an cdv ct) ⟨us, []⟩ = pure ((a.p0 :: a.ps).zip us)
def In1.ok (a : In1) : Bool := NdefX.nscB (a.p0 :: a.ps ++ [("__class__" : Str)]) (a.p0 :: a.ps) [("__class__" : Str)] a.scope && (match kindAt a.scope.names "super" with | some .globalImplicit => true | _ => false) && cIni a.p0 a.ps a.fl a.body &&
  (match (a.params.posonlyargs ++ a.params.args).head? with | some ar => eqS ar.arg a.p0 | none => false)
/-- the def that stands first in a class -/
def iniOf (s : Stmt) : Stmt := match s with
  | .ClassDef _ _ _ body _ _ _ _ _ _ _ => (body.find? fun t => match t with | .FunctionDef .. => true | _ => false).getD s
  | s => s
/-- the text: its defs, the first m in ordinary calls, the others with the exception at hand; constants; classes; classes that isinstance is asked of -/
structure Txt where
  ds : List Dd
  m : Nat
  gs : List Str
  G : List D
  cls : List Str
  tst : List Str
  Cl : Classes
  ini : List In1
  fls : List (List Str)
  iof : List Nat
  file : Str
def Txt.prg (t : Txt) : Prg := ⟨t.ds.map (·.g), t.G, t.Cl⟩
def Txt.nm (t : Txt) : Nm := ⟨(t.ds.take t.m).map (·.x), t.gs, t.cls, (t.ds.zipIdx.drop t.m).map fun q => (q.2, q.1.x), t.tst, t.fls⟩
/-- the look at the text -/
def Txt.look (t : Txt) : Bool := ((t.ds.take t.m).all fun a => a.ok t.nm false) && ((t.ds.drop t.m).all fun a => a.ok t.nm true) && t.ini.all In1.ok && decide (t.fls.length = t.cls.length) && decide (t.iof.length = t.cls.length)
/-- flat items as they stand -/
def flatIs : List Value → List D → Bool
  | [], [] => true
  | .int i _ :: r, .int j :: t => decide (i = j) && flatIs r t
  | .str y _ :: r, .str l :: t => decide (y.cps.toList = l) && flatIs r t
  | _, _ => false
theorem flatIs_ok {K : PySem.W.Frag} : ∀ {us : List Value} {ds : List D}, flatIs us ds = true → ∃ vs : List V, Vals vs us ∧ ∀ φ ex H, RpA K φ ex H vs ds
  | [], [], _ => ⟨[], .nil, fun _ _ _ => .nil⟩
  | .int i t :: r, .int j :: ds, h => by
    simp only [flatIs, Bool.and_eq_true, decide_eq_true_eq] at h
    obtain ⟨vs, h1, h2⟩ := flatIs_ok (K := K) h.2
    obtain ⟨rfl, _⟩ := h
    exact ⟨.int i :: vs, .cons ⟨t, rfl⟩ h1, fun φ ex H => .cons (.int i) (h2 φ ex H)⟩
  | .str y t :: r, .str l :: ds, h => by
    simp only [flatIs, Bool.and_eq_true, decide_eq_true_eq] at h
    obtain ⟨vs, h1, h2⟩ := flatIs_ok (K := K) h.2
    obtain ⟨rfl, _⟩ := h
    exact ⟨.str y :: vs, .cons ⟨t, rfl⟩ h1, fun φ ex H => .cons (.str y) (h2 φ ex H)⟩
def constK (K : PySem.W.Frag) (x : Str) (d : D) : Bool := match d with
  | .int i => (He.Fa.int x i).ok K
  | .str l => (match PySem.W.nsIn K mainGlobals x with
    | some (some (.str y _)) => decide (y.cps.toList = l)
    | _ => false)
  | .tup ds => (He.Fa.glo x).ok K && (match K.lookup (He.ga K x) with
    | some ⟨.type c, _, .seq its _, _⟩ => decide (c = "tuple") && decide (its.size ≤ sizeLine) && flatIs its.toList ds
    | _ => false)
  | _ => false
def excK (K : PySem.W.Frag) (a : Addr) : Bool := decide (PySem.W.findIn K (.ref a) "__getattribute__" = some (some (.builtin "BaseException.__getattribute__"))) && decide (PySem.W.findIn K (.ref a) "__getattr__" = some none) && decide (PySem.W.subIn K (.ref a) (.type "BaseException") = some true) &&
  PySem.W.hasDictIn K a && decide (PySem.W.findIn K (.ref a) "__class__" = some (some (.builtin "object.__class__"))) && decide (PySem.W.specialIn K (.builtin "object.__class__") "__get__" = some (some (.builtin "getset_descriptor.__get__"))) &&
  decide (PySem.W.takesIn K (.builtin "object.__class__") = some true) && decide (PySem.W.mroIn K a (.type "object") = some true)
theorem excK_ok {K : PySem.W.Frag} {a : Addr} (h : excK K a = true) : ExcC K a := by
  unfold excK at h
  simp only [Bool.and_eq_true, decide_eq_true_eq] at h
  obtain ⟨⟨⟨⟨⟨⟨⟨h1, h2⟩, h3⟩, h4⟩, h5⟩, h6⟩, h7⟩, h8⟩ := h
  exact ⟨h1, h2, h3, h4, h5, h6, h7, h8⟩
/-- a class over own ones and ValueError, its own __init__ walked -/
def oexB (K : PySem.W.Frag) (C : Addr) : Bool := (match K.lookup C with
  | some ⟨.type T, _, .cls cd, sl⟩ => decide (T = "type") && (match cd.mro, sl.toList with
    | .ref C' :: bm, [_, _, _, _, some (.builtin n), _] => decide (C' = C) && decide (n = "ValueError.__new__") && !cd.hasDel && cd.hasDict && PySem.HandSPX.refsVE bm
    | _, _ => false)
  | _ => false) && decide (PySem.W.findIn K (.ref C) "__setattr__" = some (some (.builtin "object.__setattr__"))) && decide (PySem.W.subIn K (.ref C) (.type "BaseException") = some true) && decide (PySem.W.typeIn K (.ref C) = some (.type "type")) && PySem.W.keepIn K (.ref C)
theorem oexB_ok {K : PySem.W.Frag} {C : Addr} (h : oexB K C = true) : OexC K C := by
  unfold oexB at h
  simp only [Bool.and_eq_true, decide_eq_true_eq] at h
  obtain ⟨⟨⟨⟨h1, h2⟩, h3⟩, h4⟩, h5⟩ := h
  refine ⟨?_, h2, h3, h4, h5⟩
  split at h1
  · rename_i T dd cd sl lk
    simp only [Bool.and_eq_true, decide_eq_true_eq] at h1
    obtain ⟨hT, h1⟩ := h1
    split at h1
    · rename_i C' bm k0 k1 k2 k3 n k5 hm hs
      simp only [Bool.and_eq_true, decide_eq_true_eq, Bool.not_eq_true'] at h1
      obtain ⟨⟨⟨⟨rfl, rfl⟩, hdl⟩, hdc⟩, hv⟩ := h1
      obtain ⟨nm, bs, mro, ns, qn, hd, sn, sub, ab, col, dl⟩ := cd
      dsimp only at hm hdl hdc
      subst hm hdl hdc hT
      have e : sl = #[k0, k1, k2, k3, some (.builtin "ValueError.__new__"), k5] := by
        obtain ⟨l⟩ := sl
        have hs : l = [k0, k1, k2, k3, some (.builtin "ValueError.__new__"), k5] := hs
        rw [hs]
      subst e
      exact ⟨nm, qn, ns, bs, bm, sn, sub, ab, col, dd, k0, k1, k2, k3, k5, lk, hv⟩
    · cases h1
  · cases h1
abbrev InW : Type := Option (Str × Str × Arguments × FuncBody × Scope × Addr × List Str × Addr)
def In1.fa (a : In1) (K : PySem.W.Frag) : Addr := He.ma K (He.ga K a.x) "__init__"
def In1.w (a : In1) (K : PySem.W.Frag) : InW := match K.lookup (a.fa K) with
  | some ⟨_, _, .func fd, _⟩ => some (fd.name, fd.qualname, fd.params, fd.body, fd.scope, fd.globals, fd.closure.map (·.1), fd.builtins)
  | _ => none
def In1.val (a : In1) : InW := some ("__init__", a.q, a.params, .stmts a.body, a.scope, mainGlobals, [("__class__" : Str)], builtinsNs)
def fileB (file : Str) : Option Value → Bool
  | some (.str fi _) => (file == fi)
  | _ => false
def In1.says (a : In1) (file : Str) (K : PySem.W.Frag) : Bool := (match K.lookup (a.fa K) with
  | some ⟨_, _, .func fd, _⟩ => PySem.W.codeIn K fd.code a.q && (match fd.defaults with | .none => true | _ => false) &&
    (match fd.code with
    | .ref cda => (match K.lookup cda with
      | some ⟨_, _, .fields vs, _⟩ => fileB file vs[2]?
      | _ => false)
    | _ => false) &&
    (match fd.closure with
    | [(_, cc)] => (match K.lookup cc with
      | some ⟨_, _, .cell (some (.ref D)), _⟩ => decide (D = He.ga K a.x)
      | _ => false)
    | _ => false)
  | _ => false) && (PySem.W.clsIn K (He.ga K a.x)).isSome && decide (PySem.W.nsIn K mainGlobals "super" = some none) && decide (PySem.W.nsIn K cStatics "thirdparty.any" = some none)
/-- what is asked of the program itself -/
def OkP (file : Str) (P : Program) : Prop := P.main.file = file ∧ (P.main.scope.names.lookup ("super" : Str)).isSome = false
theorem In1.iniF {a : In1} {K : PySem.W.Frag} {file : Str} {P : Program} (hP : OkP file P) (ok : a.ok = true) (e : a.w K = a.val) (c : a.says file K = true) (hb : BindI a) : ∃ (cc cda : Addr) (fd : FuncData), IniF P K (a.fa K) (He.ga K a.x) cc cda fd a.q a.params a.body a.scope a.p0 a.ps a.fl ∧ Binds K fd (a.p0 :: a.ps) [] := by
  unfold In1.ok at ok
  simp only [Bool.and_eq_true] at ok
  obtain ⟨⟨⟨o1, o2⟩, o3⟩, o4⟩ := ok
  unfold In1.says at c
  simp only [Bool.and_eq_true, decide_eq_true_eq] at c
  obtain ⟨⟨⟨c1, c2⟩, c3⟩, c4⟩ := c
  unfold In1.w at e
  cases lk : K.lookup (a.fa K) with
  | none => rw [lk] at e; cases e
  | some o =>
    obtain ⟨oc, od, dt, osl⟩ := o
    rw [lk] at c1 e
    cases dt with
    | func fd =>
      obtain ⟨n1, n2, n3, n4, n5, n6, n7, n8, n9, n10, n11, n12, n13, n14, n15⟩ := fd
      have e2 : (some (n1, n2, n3, n4, n5, n6, n7.map (·.1), n15) : InW) = some (("__init__" : Str), a.q, a.params, .stmts a.body, a.scope, mainGlobals, [("__class__" : Str)], builtinsNs) := e
      simp only [Option.some.injEq, Prod.mk.injEq] at e2
      obtain ⟨h1, h2, h3, h4, h5, h6, h7, h8⟩ := e2
      subst h1 h2 h3 h4 h5 h6 h8
      dsimp only at c1
      simp only [Bool.and_eq_true] at c1
      obtain ⟨⟨⟨d1, d2⟩, d3⟩, d4⟩ := c1
      split at d4
      · rename_i _ x1 cc
        have hx1 : x1 = "__class__" := by
          have h7 : [x1] = [("__class__" : Str)] := h7
          exact List.head_eq_of_cons_eq h7
        subst hx1
        split at d4
        · rename_i cl cd D sl lcc
          have hD := of_decide_eq_true d4
          subst hD
          split at d3
          · rename_i _ cda
            split at d3
            · rename_i fcl fcd vs fsl lcda
              unfold fileB at d3
              split at d3
              · rename_i fi tf hvs
                split at d2
                · refine ⟨cc, cda, _, ⟨⟨oc, od, _, n9, n10, n11, n12, n14, osl, rfl, lk⟩, d1, ⟨fcl, fcd, vs, fsl, fi, tf, lcda, hvs, by rw [hP.1]; exact d3⟩, ⟨cl, cd, sl, lcc⟩, Option.isSome_iff_exists.mp c2, c3, c4, hP.2, ?_, NdefX.nscope_by o1, ?_, o3⟩, Binds.all fun us hl => hb _ n9 n10 n11 n12 _ n14 us hl⟩
                  · split at o4
                    · rename_i ar har
                      exact ⟨ar, har, eqS_ok o4⟩
                    · cases o4
                  · rw [kindAt_ok] at o2
                    split at o2
                    · assumption
                    · cases o2
                · cases d2
              · cases d3
            · cases d3
          · cases d3
        · cases d4
      · cases d4
    | _ => cases c1
/-- a class: x its name, l its fields, i which __init__ fills them -/
def Txt.cls1 (t : Txt) (K : PySem.W.Frag) (x : Str) (l : List Str) (i : Nat) : Bool := (He.Fa.glo x).ok K && excK K (He.ga K x) && PySem.W.keepIn K (.ref (He.ga K x)) && decide (PySem.W.subIn K (.ref (He.ga K x)) (.type "BaseException") = some true) && decide (PySem.W.typeIn K (.ref (He.ga K x)) = some (.type "type")) &&
  (l.all fun g => decide (PySem.W.findIn K (.ref (He.ga K x)) g = some none)) && (if l.isEmpty then PySem.W.excIn K (He.ga K x) veB "ValueError.__new__" else match t.ini[i]? with
    | some a => decide (a.fl = l) && oexB K (He.ga K x) && decide (PySem.W.findIn K (.ref (He.ga K x)) "__init__" = some (some (.ref (a.fa K)))) && decide (PySem.W.typeIn K (.ref (a.fa K)) = some (.type "function")) && decide (PySem.W.mroIn K (He.ga K x) (.ref (He.ga K a.x)) = some true) &&
      decide (PySem.W.ks_superIn K (He.ga K x) (He.ga K a.x) "__init__" = some (some (.builtin "ValueError.__init__"))) && decide (PySem.W.subIn K (.ref (He.ga K x)) (.type "ValueError") = some true)
    | none => false)
def isVE (x : Str) : Bool := eqS x "ValueError"
def cvK (K : PySem.W.Frag) (x : Str) : Value := if isVE x then .type "ValueError" else .ref (He.ga K x)
/-- what is asked of the heap's part -/
def Txt.says (t : Txt) (K : PySem.W.Frag) : Bool :=
  (t.ds.all fun a => (He.Fa.glo a.x).ok K) && (freeNames.all fun x => (He.Fa.free x).ok K) && ((t.gs.zip t.G).all fun q => constK K q.1 q.2 && D.bel 0 q.2) && decide (t.gs.length = t.G.length) &&
  ((t.cls.zip (t.fls.zip t.iof)).all fun q => t.cls1 K q.1 q.2.1 q.2.2) && (t.ini.all fun a => a.says t.file K) && (t.tst.all fun x => isVE x || (He.Fa.glo x).ok K) &&
  (t.tst.zipIdx.all fun y => t.cls.zipIdx.all fun x => (match t.Cl[x.2]? with
    | some bs => decide (PySem.W.kitOne K (.ref (He.ga K x.1)) (cvK K y.1) = some (bs.contains y.2)) && decide (PySem.W.exmOne K (.ref (He.ga K x.1)) (cvK K y.1) = some (bs.contains y.2))
    | none => false)) && (K.all fun q => !decide (q.2.cls = .type "list"))
abbrev AlP : Type := He.AlD × List InW × Bool
def Txt.obsK (t : Txt) (K : PySem.W.Frag) : AlP := (He.obsD [] (t.ds.map Dd.d) K, t.ini.map fun a => a.w K, t.says K)
def Txt.obs (t : Txt) (g : Addr → Option Obj) : AlP := t.obsK (He.frG g (He.asD g 4 ++ [cStatics]))
def Txt.hook (t : Txt) : PySem.W.Hook where
  α := AlP
  obs := fun s => t.obs s.heap.get?
  val := fun _ => (He.valD (t.ds.map Dd.d), t.ini.map In1.val, true)
  says := fun _ h => ∃ K : PySem.W.Frag, K.In h ∧ He.SaysD [] (t.ds.map Dd.d) K ∧ (t.ini.map fun a => a.w K) = t.ini.map In1.val ∧ t.says K = true
  of := fun _ _ e => ⟨_, He.frG_in, congrArg Prod.fst e, congrArg (fun z => z.2.1) e, congrArg (fun z => z.2.2) e⟩
  keeps := fun _ _ _ ⟨K, hK, c⟩ k => ⟨K, PySem.W.Frag.In.keeps hK k, c⟩
def Txt.ob (t : Txt) (s : PySem.W.SharedT) : AlP := t.obs (HandSHeadRun.getT s)
theorem Txt.ob_eq (t : Txt) (s : PySem.W.SharedT) : t.ob s = t.hook.obs s.abs := by
  have e : HandSHeadRun.getT s = s.abs.heap.get? := funext (HandSHeadRun.getT_eq s)
  unfold Txt.ob
  rw [e]
  rfl
def Txt.xw (t : Txt) (K : PySem.W.Frag) : Xw := ⟨t.cls.length, fun c => .ref (He.ga K ((t.cls[c]?).getD "")), fun c => (t.fls[c]?).getD []⟩
theorem const_okK {K : PySem.W.Frag} {h : Heap} {mg : Str → Option Value} {x : Str} {d : D} (X : K.In h) (G : h.Ns mainGlobals mg) (c : constK K x d = true) : ∃ (u : Value) (v : V), mg x = some u ∧ RelV v u ∧ ∀ φ ex H, Rp K φ ex H v d := by
  cases d with
  | int i =>
    obtain ⟨t, e⟩ := He.int_ok X G c
    exact ⟨_, .int i, e, ⟨t, rfl⟩, fun _ _ _ => .int i⟩
  | str l =>
    unfold constK at c
    dsimp only at c
    split at c
    · rename_i y t e
      have := of_decide_eq_true c
      subst this
      exact ⟨_, .str y, PySem.W.mg_of X G e, ⟨t, rfl⟩, fun _ _ _ => .str y⟩
    · cases c
  | tup ds =>
    unfold constK at c
    dsimp only at c
    rw [Bool.and_eq_true] at c
    obtain ⟨c1, c2⟩ := c
    split at c2
    · rename_i cn od its n sl e
      simp only [Bool.and_eq_true, decide_eq_true_eq] at c2
      obtain ⟨⟨e1, e2⟩, e3⟩ := c2
      obtain ⟨vs, r1, r2⟩ := flatIs_ok (K := K) e3
      exact ⟨_, .ref (He.ga K x), He.glo_ok X G c1, rfl, fun φ ex H => .tup (.inr ⟨_, its, n, e, congrArg Value.type e1, rfl, e2, r1⟩) (r2 φ ex H)⟩
    · cases c2
  | _ => cases c
theorem bt_VE : bootBuiltins "ValueError" = some (.type "ValueError") := by decide +kernel
theorem Txt.tx {t : Txt} {K : PySem.W.Frag} {h : Heap} {mg : Str → Option Value} (X : K.In h) (G : h.Ns mainGlobals mg) (c : He.SaysD [] (t.ds.map Dd.d) K) (s : t.says K = true) (hl : t.look = true) (hb : ∀ (i : Nat) (a : Dd), t.ds[i]? = some a → BindP a) (hw : (t.ini.map fun a => a.w K) = t.ini.map In1.val) (hbi : ∀ a ∈ t.ini, BindI a) :
    Tx ⟨K, none⟩ (t.xw K) mg t.prg t.nm (OkP t.file) := by
  unfold Txt.says at s
  simp only [Bool.and_eq_true, decide_eq_true_eq] at s
  obtain ⟨⟨⟨⟨⟨⟨⟨⟨s1, s2⟩, s3⟩, s4⟩, s5⟩, s5i⟩, s6⟩, s7⟩, s8⟩ := s
  unfold Txt.look at hl
  simp only [Bool.and_eq_true, decide_eq_true_eq] at hl
  obtain ⟨⟨⟨hl, hli⟩, hlf⟩, hlo⟩ := hl
  have clsf : ∀ (k : Nat) (x : Str), t.cls[k]? = some x → ∃ l i, t.fls[k]? = some l ∧ t.iof[k]? = some i ∧ t.cls1 K x l i = true := fun k x h => by
    have hk : k < t.cls.length := (List.getElem?_eq_some_iff.mp h).1
    refine ⟨t.fls[k]'(by omega), t.iof[k]'(by omega), List.getElem?_eq_getElem _, List.getElem?_eq_getElem _, ?_⟩
    have hz : (t.cls.zip (t.fls.zip t.iof))[k]? = some (x, t.fls[k]'(by omega), t.iof[k]'(by omega)) := by
      rw [List.getElem?_zip_eq_some]
      refine ⟨h, ?_⟩
      rw [List.getElem?_zip_eq_some]
      exact ⟨List.getElem?_eq_getElem _, List.getElem?_eq_getElem _⟩
    exact List.all_eq_true.mp s5 _ (List.mem_of_getElem? hz)
  have defs : ∀ (i : Nat) (a : Dd), t.ds[i]? = some a → ∃ fd, mg a.x = some (.ref (He.ga K a.x)) ∧ FunD K a.x a.x a.params a.body a.scope [] [] (He.ga K a.x) fd ∧ Binds K fd a.ps [] := fun i a ha => by
    obtain ⟨fd, F⟩ := c.def_ i (d := a.d) (by rw [List.getElem?_map, ha]; rfl)
    have F : FunD K a.x a.x a.params a.body a.scope [] [] (He.ga K a.x) fd := F
    refine ⟨fd, He.glo_ok X G (List.all_eq_true.mp s1 a (List.mem_of_getElem? ha)), F, F.bindsN (hb i a ha)⟩
  refine ⟨rfl, fun i x h => ?_, fun i x h => ?_, fun x hx => ?_, fun k x h => ?_, fun c hc => ?_, fun i x h => ?_, fun k x h => ?_, fun c hc => ?_, fun P wd base hP k x h hne => ?_⟩
  · have h : ((t.ds.take t.m).map (·.x))[i]? = some x := h
    rw [List.getElem?_map, Option.map_eq_some_iff] at h
    obtain ⟨a, ha, rfl⟩ := h
    have ha2 : t.ds[i]? = some a := by
      rw [List.getElem?_take] at ha
      split at ha
      · exact ha
      · cases ha
    have k := List.all_eq_true.mp hl.1 a (List.mem_of_getElem? ha)
    unfold Dd.ok at k
    simp only [Bool.and_eq_true, decide_eq_true_eq, Bool.false_eq_true, if_false, Bool.not_false] at k
    obtain ⟨fd, h1, h2, h3⟩ := defs i a ha2
    exact ⟨_, fd, a.ps, a.N, a.params, a.body, a.scope, a.g, h1, h2, h3, scopC_ok k.1.1.1, by show (t.ds.map (·.g))[i]? = _; rw [List.getElem?_map, ha2]; rfl, k.1.2, k.1.1.2, k.2⟩
  · have h : t.gs[i]? = some x := h
    have hi : i < t.gs.length := (List.getElem?_eq_some_iff.mp h).1
    have hd : t.G[i]? = some (t.G[i]'(by omega)) := List.getElem?_eq_getElem (by omega)
    have hz : (t.gs.zip t.G)[i]? = some (x, t.G[i]'(by omega)) := by rw [List.getElem?_zip_eq_some]; exact ⟨h, hd⟩
    have k := List.all_eq_true.mp s3 _ (List.mem_of_getElem? hz)
    simp only [Bool.and_eq_true] at k
    obtain ⟨u, v, e1, e2, e3⟩ := const_okK X G k.1
    exact ⟨_, u, v, hd, e1, e2, e3, k.2⟩
  · exact He.free_ok X G (List.all_eq_true.mp s2 x hx)
  · have h : t.cls[k]? = some x := h
    obtain ⟨l, i, hfl, hio, k5⟩ := clsf k x h
    unfold Txt.cls1 at k5
    simp only [Bool.and_eq_true, decide_eq_true_eq] at k5
    obtain ⟨⟨⟨⟨⟨⟨g1, g2⟩, g3⟩, g4⟩, g5⟩, g6⟩, g7⟩ := k5
    refine ⟨(List.getElem?_eq_some_iff.mp h).1, He.ga K x, He.glo_ok X G g1, ?_, g3, fun hfe => ?_, g4, g5⟩
    · show Value.ref (He.ga K ((t.cls[k]?).getD "")) = _
      rw [h]; rfl
    · have hfe : (t.fls[k]?).getD [] = [] := hfe
      rw [hfl] at hfe
      have : l = [] := hfe
      subst this
      exact g7
  · have hc : c < t.cls.length := hc
    show t.fls[c]? = some ((t.fls[c]?).getD [])
    rw [List.getElem?_eq_getElem (show c < t.fls.length by omega)]
    rfl
  · have h : (i, x) ∈ (t.ds.zipIdx.drop t.m).map fun q => (q.2, q.1.x) := h
    obtain ⟨⟨a, j⟩, hm, e⟩ := List.mem_map.mp h
    cases e
    have hm2 := List.mem_of_mem_drop hm
    rw [List.mem_zipIdx_iff_getElem?] at hm2
    have ha : t.ds[j]? = some a := hm2
    have hd : a ∈ t.ds.drop t.m := by
      have : a ∈ (t.ds.zipIdx.drop t.m).map (·.1) := List.mem_map.mpr ⟨(a, j), hm, rfl⟩
      rwa [List.map_drop, List.zipIdx_map_fst] at this
    have k := List.all_eq_true.mp hl.2 a hd
    unfold Dd.ok at k
    simp only [Bool.and_eq_true, decide_eq_true_eq, if_true, Bool.not_true] at k
    obtain ⟨y, hy⟩ : ∃ y, a.ps = [y] := List.length_eq_one_iff.mp k.1.2
    obtain ⟨fd, h1, h2, h3⟩ := defs j a ha
    have sc := scopC_ok k.1.1.1
    rw [hy] at h3 sc
    exact ⟨_, fd, y, a.N, a.params, a.body, a.scope, a.g, h1, h2, h3, sc, by show (t.ds.map (·.g))[j]? = _; rw [List.getElem?_map, ha]; rfl, k.1.1.2, k.2⟩
  · have h : t.tst[k]? = some x := h
    refine ⟨cvK K x, ?_, fun c hc => ?_⟩
    · have k6 := List.all_eq_true.mp s6 x (List.mem_of_getElem? h)
      unfold cvK
      cases hv : isVE x with
      | true =>
        have := eqS_ok hv
        subst this
        exact .inr ⟨"ValueError", rfl, He.free_ok X G (List.all_eq_true.mp s2 _ (by decide)), bt_VE⟩
      | false =>
        rw [hv] at k6
        exact .inl ⟨_, rfl, He.glo_ok X G k6⟩
    · have hc : c < t.cls.length := hc
      have k7 := List.all_eq_true.mp s7 (x, k) (by rw [List.mem_zipIdx_iff_getElem?]; exact h)
      have hcx : t.cls[c]? = some (t.cls[c]'hc) := List.getElem?_eq_getElem hc
      have k8 := List.all_eq_true.mp k7 (t.cls[c]'hc, c) (by rw [List.mem_zipIdx_iff_getElem?]; exact hcx)
      dsimp only at k8
      split at k8
      · rename_i bs hb
        simp only [Bool.and_eq_true, decide_eq_true_eq] at k8
        refine ⟨bs, hb, ?_, ?_⟩
        · show PySem.W.kitOne K (.ref (He.ga K ((t.cls[c]?).getD ""))) _ = _
          rw [hcx]; exact k8.1
        · show PySem.W.exmOne K (.ref (He.ga K ((t.cls[c]?).getD ""))) _ = _
          rw [hcx]; exact k8.2
      · cases k8
  · have hc : c < t.cls.length := hc
    have hcx : t.cls[c]? = some (t.cls[c]'hc) := List.getElem?_eq_getElem hc
    obtain ⟨l, i, hfl, hio, k5⟩ := clsf c _ hcx
    unfold Txt.cls1 at k5
    simp only [Bool.and_eq_true, decide_eq_true_eq] at k5
    obtain ⟨⟨⟨⟨⟨⟨g1, g2⟩, g3⟩, g4⟩, g5⟩, g6⟩, g7⟩ := k5
    refine ⟨_, ?_, excK_ok g2, fun g hg => ?_⟩
    · show Value.ref (He.ga K ((t.cls[c]?).getD "")) = _
      rw [hcx]; rfl
    · have hg : g ∈ (t.fls[c]?).getD [] := hg
      rw [hfl] at hg
      exact of_decide_eq_true (List.all_eq_true.mp g6 g hg)
  · have h : t.cls[k]? = some x := h
    have hne : (t.fls[k]?).getD [] ≠ [] := hne
    obtain ⟨l, i, hfl, hio, k5⟩ := clsf k x h
    have ef : (t.xw K).fl k = l := by show (t.fls[k]?).getD [] = l; rw [hfl]; rfl
    rw [ef]
    rw [hfl] at hne
    have hne : l ≠ [] := hne
    unfold Txt.cls1 at k5
    simp only [Bool.and_eq_true, decide_eq_true_eq] at k5
    obtain ⟨⟨⟨⟨⟨⟨g1, g2⟩, g3⟩, g4⟩, g5⟩, g6⟩, g7⟩ := k5
    have hle : l.isEmpty = false := by cases l with | nil => exact absurd rfl hne | cons _ _ => rfl
    rw [hle, if_neg (by simp)] at g7
    split at g7
    · rename_i a hia
      simp only [Bool.and_eq_true, decide_eq_true_eq] at g7
      obtain ⟨⟨⟨⟨⟨⟨c1, c2⟩, c3⟩, c4⟩, c5⟩, c6⟩, c7⟩ := g7
      have hm := List.mem_of_getElem? hia
      have wa : a.w K = a.val := by
        have e2 : (t.ini.map fun a => a.w K)[i]? = (t.ini.map In1.val)[i]? := by rw [hw]
        rw [List.getElem?_map, List.getElem?_map, hia] at e2
        exact Option.some.inj e2
      have oka := List.all_eq_true.mp hli a hm
      obtain ⟨cc, cda, fd, F, B⟩ := In1.iniF (P := P) hP oka wa (List.all_eq_true.mp s5i a hm) (hbi a hm)
      have hms : mg ("super" : Str) = none := PySem.W.mg_none_of X G F.sup
      have lps : a.ps.length = a.fl.length := by
        obtain ⟨_, _, _, _, _, _, _, _, _, _, _, _, _, hcs, _⟩ := cIni_ok F.look
        exact (cStores_len hcs).symm
      subst c1
      refine ⟨He.ga K x, He.ga K a.x, a.fa K, fd, a.p0, a.ps, He.glo_ok X G g1, ?_, ⟨oexB_ok c2, c3, c4, c5, c6, c7, fun g hg => of_decide_eq_true (List.all_eq_true.mp g6 g hg)⟩, lps, ini_ok (k := 0) F hms, B⟩
      show Value.ref (He.ga K ((t.cls[k]?).getD "")) = _
      rw [h]; rfl
    · cases g7
theorem lk_mem {β : Type} : ∀ {l : List (Addr × β)} {a : Addr} {b : β}, l.lookup a = some b → (a, b) ∈ l
  | [], _, _, h => by cases h
  | (c, d) :: r, a, b, h => by
    rw [List.lookup_cons] at h
    split at h
    · rename_i e
      cases h
      rw [beq_iff_eq.mp e]
      exact List.mem_cons_self
    · exact List.mem_cons_of_mem _ (lk_mem h)
theorem rp_ints {K : PySem.W.Frag} {φ : Nat → Addr} {ex : Ex1} {H : Hp} : ∀ ns : List Int, RpA K φ ex H (ns.map V.int) (ns.map D.int)
  | [] => .nil
  | n :: ns => .cons (.int n) (rp_ints ns)
/-- the law's promise, by what the evaluator says -/
theorem Txt.walk (t : Txt) {l : PySem.W.OpenLaw} {n k j : Nat} {q : Program} {loose : List Str} {XP : (Str → Option Value) → Heap → Prop} {d : DefRec} {a0 : Dd} {x : Str}
    (hn : l.most = some n) (hn2 : n ≤ sizeLine) (hdf : d.params.defaults = []) (hr : Room (k + 3) callerA) (hP : OkP t.file l.prog) (hl : t.look = true) (hbi : ∀ a ∈ t.ini, BindI a) (hb : ∀ (i : Nat) (a : Dd), t.ds[i]? = some a → BindP a)
    (hj : t.ds[j]? = some a0) (hm : j < t.m) (hx : a0.ps = [x]) (hd : d.name = a0.x)
    (pure_ : ∀ ns : List Int, ns.length ≤ n → (∀ z ∈ ns, Builtin.Int.intBits z ≤ 1048576) → ∃ S', den t.prg (k + 1) none j [.obj 0] [.ro (ns.map .int)] = .ok (.bl true) S') :
    PySem.W.WalkO q loose XP (fun w h => t.hook.says w h) l.row.toRowW d [] (fun f vs => PySem.call f vs) := by
  refine Att.attach_callB hn hdf fun w s₀ s₁ mg mb fa o pm cd doc a vs ns G Y ho hdd hcd hmg hobj hints hlen hbits hg => ?_
  obtain ⟨K, KX, c, hw, says⟩ := Y
  have T := Txt.tx KX G.T.g c says hl hb hw hbi
  have noL : ∀ (b : Addr) (o : Obj), K.lookup b = some o → o.cls ≠ .type "list" := fun b o e z => by
    unfold Txt.says at says
    rw [Bool.and_eq_true] at says
    have k := List.all_eq_true.mp says.2 (b, o) (lk_mem e)
    simp only [z, decide_true, Bool.not_true] at k
    cases k
  obtain ⟨fd, F⟩ := c.def_ j (d := a0.d) (by rw [List.getElem?_map, hj]; rfl)
  have F : FunD K a0.x a0.x a0.params a0.body a0.scope [] [] (He.ga K a0.x) fd := F
  have hga : mg a0.x = some (.ref (He.ga K a0.x)) := by
    unfold Txt.says at says
    simp only [Bool.and_eq_true] at says
    exact He.glo_ok KX G.T.g (List.all_eq_true.mp says.1.1.1.1.1.1.1.1 a0 (List.mem_of_getElem? hj))
  rw [hd, hga] at hmg
  cases hmg
  have hlk := hl
  unfold Txt.look at hlk
  simp only [Bool.and_eq_true] at hlk
  have k1 := List.all_eq_true.mp hlk.1.1.1.1 a0 (List.mem_of_getElem? (by rw [List.getElem?_take_of_lt hm]; exact hj))
  unfold Dd.ok at k1
  simp only [Bool.and_eq_true, decide_eq_true_eq, Bool.false_eq_true, if_false, Bool.not_false] at k1
  have hbA := F.bindsA (ps := a0.ps) (hb j a0 hj)
  rw [hx] at hbA
  refine law_call (CX := L2N.CX l.prog w) (sp := spD ⟨K, none⟩ (t.xw K) t.prg (k + 1) j) KX G.T.g G.T.b G.T.builtins G.T.nolimit hg hobj hints (Nat.le_trans hlen hn2) hr (fun base hK hN => ?_) (fun s u => hbA s [u] rfl) (fun H hO hS => ?_) fun H e s' => cx_never
  · have := fn_keeps (P := l.prog) (wd := w) (base := base) T (gd_all hP T k) F (scopC_ok k1.1.1.1) (by show (t.ds.map (·.g))[j]? = _; rw [List.getElem?_map, hj]; rfl) k1.1.2 k1.1.1.2 k1.2
    rw [hx] at this
    exact this
  · obtain ⟨S', hS'⟩ := pure_ ns hlen hbits
    have hfz : ∃ ob, H a = some (.frz ob (.lst (ns.map V.int))) := by
      rcases hS with (h1 | ⟨ob, h1⟩) | ⟨ob, its, m, h1, h2, _⟩
      · rcases hO a with h2 | ⟨ob, xs, h2⟩
        · rw [h1] at h2; cases h2
        · rw [h1] at h2; cases h2
      · exact ⟨ob, h1⟩
      · exact absurd h2 (noL _ _ h1)
    refine ⟨fun _ => a, [.ro (ns.map .int)], [.obj 0], ⟨fun n o e => ?_, fun n o e => ?_, fun m n om on em en mm mn e => ?_⟩, ⟨.cons (.obj 0) .nil, rfl⟩, ?_⟩
    · have hn0 := get_lt e
      have : n = 0 := by simp only [List.length_cons, List.length_nil] at hn0; omega
      subst this
      cases e
      exact ⟨_, hfz, rp_ints ns⟩
    · have hn0 := get_lt e
      have : n = 0 := by simp only [List.length_cons, List.length_nil] at hn0; omega
      subst this
      cases e
      exact bels_map fun _ => rfl
    · have h1 := get_lt em
      have h2 := get_lt en
      simp only [List.length_cons, List.length_nil] at h1 h2
      omega
    · rw [hS']
      intro v φ' H' l so r
      cases r.1
      rfl
end Pw
end
section
set_option linter.all false
/-! Pw25: tools for the plain laws: the evaluator by simp, loops by invariants -/
namespace Pw
theorem bind_cg {α β : Type} {a b : Res α} {f : α → Store → Res β} (h : a = b) : a.bind f = b.bind f := by rw [h]
theorem st_cg {α : Type} {a b : Res α} {env env' : Env} {f : α → Store → Res Flow} (h : a = b) (he : env = env') : a.st env f = b.st env' f := by rw [h, he]
@[simp] theorem bind_ok {α β : Type} (a : α) (S : Store) (f : α → Store → Res β) : (Res.ok a S).bind f = f a S := Eq.trans rfl rfl
@[simp] theorem bind_exc {α β : Type} (c : Nat) (fs : List D) (S : Store) (f : α → Store → Res β) : (Res.exc c fs S).bind f = .exc c fs S := Eq.trans rfl rfl
@[simp] theorem bind_bad {α β : Type} (f : α → Store → Res β) : (Res.bad).bind f = .bad := Eq.trans rfl rfl
@[simp] theorem st_ok {α : Type} (a : α) (S : Store) (env : Env) (f : α → Store → Res Flow) : (Res.ok a S).st env f = f a S := Eq.trans rfl rfl
@[simp] theorem st_exc {α : Type} (c : Nat) (fs : List D) (S : Store) (env : Env) (f : α → Store → Res Flow) : (Res.exc c fs S).st env f = .ok (.ex c fs env) S := Eq.trans rfl rfl
@[simp] theorem of_some {α : Type} (a : α) (S : Store) : Res.of (some a) S = .ok a S := Eq.trans rfl rfl
@[simp] theorem of_none {α : Type} (S : Store) : Res.of (none : Option α) S = .bad := Eq.trans rfl rfl
theorem loop_cg {f : D → Env → Store → Res Flow} {ks : List Nat} {g : Store → Bool} {xs xs' : List D} {env env' : Env} {S S' : Store} (hx : xs = xs') (he : env = env') (hS : S = S') : loopL f ks g xs env S = loopL f ks g xs' env' S' := by rw [hx, he, hS]
theorem comp_cg {f : D → Store → Res (Option D)} {g : Store → Bool} {xs xs' : List D} {S S' : Store} (hx : xs = xs') (hS : S = S') : compL f g xs S = compL f g xs' S' := by rw [hx, hS]
theorem whl_cg {t : Env → Store → Res Bool} {f : Env → Store → Res Flow} {ks : List Nat} {n : Nat} {env env' : Env} {S S' : Store} (he : env = env') (hS : S = S') : whlL t f ks n env S = whlL t f ks n env' S' := by rw [he, hS]

/-- a row of statements, behind the first one's end -/
def seqK (C : Ctx) (r : List Stm) (x : Res Flow) : Res Flow := x.bind fun fl S => match fl with
  | .nx env => evSs C r env S
  | fl => .ok fl S
@[simp] theorem seqK_nx (C : Ctx) (r env S) : seqK C r (.ok (.nx env) S) = evSs C r env S := Eq.trans rfl rfl
@[simp] theorem seqK_rt (C : Ctx) (r d S) : seqK C r (.ok (.rt d) S) = .ok (.rt d) S := Eq.trans rfl rfl
@[simp] theorem seqK_bk (C : Ctx) (r d S) : seqK C r (.ok (.bk d) S) = .ok (.bk d) S := Eq.trans rfl rfl
@[simp] theorem seqK_ct (C : Ctx) (r d S) : seqK C r (.ok (.ct d) S) = .ok (.ct d) S := Eq.trans rfl rfl
@[simp] theorem seqK_ex (C : Ctx) (r c fs d S) : seqK C r (.ok (.ex c fs d) S) = .ok (.ex c fs d) S := Eq.trans rfl rfl
def iteK (C : Ctx) (a b : List Stm) (env : Env) (x : Res Bool) : Res Flow := x.st env fun k S => if k then evSs C a env S else evSs C b env S
@[simp] theorem iteK_ok (C : Ctx) (a b env k S) : iteK C a b env (.ok k S) = if k then evSs C a env S else evSs C b env S := Eq.trans rfl rfl
def forK (C : Ctx) (t : Tg) (body : List Stm) (ks : List Nat) (o : Option Nat) (xs : List D) (env : Env) (S : Store) : Res Flow := loopL (fun x env S => match bind1 t x env with
    | some env => evSs C body env S
    | none => .bad) ks (stands o (obAt o S)) xs env S
def forS (C : Ctx) (t : Tg) (body : List Stm) (ks : List Nat) (env : Env) (x : Res (List D × Option Nat)) : Res Flow := x.st env fun p S => forK C t body ks p.2 p.1 env S
@[simp] theorem forS_ok (C : Ctx) (t body ks env p S) : forS C t body ks env (.ok p S) = forK C t body ks p.2 p.1 env S := Eq.trans rfl rfl
def whlK (C : Ctx) (t : Tst) (body : List Stm) (ks : List Nat) (env : Env) (S : Store) : Res Flow := whlL (evT C t) (evSs C body) ks turns env S
def compK (C : Ctx) (e : Exp) (t : Tg) (ifs : List Tst) (env : Env) (o : Option Nat) (xs : List D) (S : Store) : Res (List D) := if xs.length ≤ line then compL (fun x S => match bind1 t x (kill t.ix env) with
        | some env => (match evTs C ifs env S with
          | .ok true S => (match evE C e env S with
            | .ok y S => .ok (some y) S
            | _ => .bad)
          | .ok false S => .ok none S
          | _ => .bad)
        | none => .bad) (stands o (obAt o S)) xs S else .bad
def rngF (x : D) (S : Store) : Res (List D × Option Nat) := match x with
  | .int i => if small i then .ok (rngL 0 i, none) S else .bad
  | _ => .bad
def rngF2 (x y : D) (S : Store) : Res (List D × Option Nat) := match x, y with
  | .int i, .int j => if small i && small j then .ok (rngL i j, none) S else .bad
  | _, _ => .bad
def rngF3 (x y z : D) (S : Store) : Res (List D × Option Nat) := match x, y, z with
  | .int i, .int j, .int k => if small i && small j && (decide (k = -1) || (decide (0 < k) && decide (k < 1073741824))) then .ok (rngL3 i j k, none) S else .bad
  | _, _, _ => .bad
theorem smallOk {i : Int} (h : -4611686018427387904 ≤ i ∧ i < 4611686018427387904) : small i = true := by
  unfold small
  simp only [Bool.and_eq_true, decide_eq_true_eq]
  exact h
@[simp] theorem rngF_ok {i : Int} {S : Store} (h : -4611686018427387904 ≤ i ∧ i < 4611686018427387904) : rngF (.int i) S = .ok (rngL 0 i, none) S := by
  show (if small i = true then Res.ok (rngL 0 i, none) S else .bad) = _
  rw [if_pos (smallOk h)]
@[simp] theorem rngF2_ok {i j : Int} {S : Store} (h : -4611686018427387904 ≤ i ∧ i < 4611686018427387904) (h' : -4611686018427387904 ≤ j ∧ j < 4611686018427387904) : rngF2 (.int i) (.int j) S = .ok (rngL i j, none) S := by
  show (if (small i && small j) = true then Res.ok (rngL i j, none) S else .bad) = _
  rw [if_pos (by rw [smallOk h, smallOk h']; rfl)]
@[simp] theorem rngF3_ok {i j k : Int} {S : Store} (h : -4611686018427387904 ≤ i ∧ i < 4611686018427387904) (h' : -4611686018427387904 ≤ j ∧ j < 4611686018427387904) (hk : 0 < k ∧ k < 1073741824) : rngF3 (.int i) (.int j) (.int k) S = .ok (rngL3 i j k, none) S := by
  show (if (small i && small j && (decide (k = -1) || (decide (0 < k) && decide (k < 1073741824)))) = true then Res.ok (rngL3 i j k, none) S else .bad) = _
  rw [if_pos (by rw [smallOk h, smallOk h', decide_eq_true hk.1, decide_eq_true hk.2]; simp)]
@[simp] theorem rngF3_neg {i j : Int} {S : Store} (h : -4611686018427387904 ≤ i ∧ i < 4611686018427387904) (h' : -4611686018427387904 ≤ j ∧ j < 4611686018427387904) : rngF3 (.int i) (.int j) (.int (-1)) S = .ok (rngL3 i j (-1), none) S := by
  show (if (small i && small j && (decide ((-1 : Int) = -1) || (decide ((0 : Int) < -1) && decide ((-1 : Int) < 1073741824)))) = true then Res.ok (rngL3 i j (-1), none) S else .bad) = _
  rw [if_pos (by rw [smallOk h, smallOk h']; simp)]
def zipF (x y : D) (S : Store) : Res (List D × Option Nat) := match x, y with
  | .tup xs, .tup ys => .ok ((xs.zip ys).map fun z => .tup [z.1, z.2], none) S
  | _, _ => .bad
@[simp] theorem zipF_tt (xs ys S) : zipF (.tup xs) (.tup ys) S = .ok ((xs.zip ys).map fun z => .tup [z.1, z.2], none) S := Eq.trans rfl rfl
def compF2K (C : Ctx) (e : Exp) (t : Tg) (ifs : List Tst) (t1 : Tg) (l1 : Src) (ifs1 : List Tst) (env : Env) (x : D) (S : Store) : Res (List D) := match bind1 t x (kill (t.ix ++ t1.ix) env) with
        | some env => (match evTs C ifs env S with
          | .ok true S => (match evL C l1 env S with
            | .ok p1 S => if p1.1.length ≤ line then compL (fun x S => match bind1 t1 x (kill t1.ix env) with
                | some env => (match evTs C ifs1 env S with
                  | .ok true S => (match evE C e env S with
                    | .ok y S => .ok (some y) S
                    | _ => .bad)
                  | .ok false S => .ok none S
                  | _ => .bad)
                | none => .bad) (stands p1.2 (obAt p1.2 S)) p1.1 S else .bad
            | _ => .bad)
          | .ok false S => .ok [] S
          | _ => .bad)
        | none => .bad
def compK2 (C : Ctx) (e : Exp) (t : Tg) (ifs : List Tst) (t1 : Tg) (l1 : Src) (ifs1 : List Tst) (env : Env) (o : Option Nat) (xs : List D) (S : Store) : Res (List D) := if xs.length ≤ line then
  (compL2 (fun x S => compF2K C e t ifs t1 l1 ifs1 env x S) (stands o (obAt o S)) xs S).bind fun ys S => if ys.length ≤ line then .ok ys S else .bad else .bad
def tryK (C : Ctx) (hs : List (List Nat × Option Nat × List Stm)) (x : Res Flow) : Res Flow := x.bind fun fl S => match fl with
    | .ex c fs env => evH C hs c fs env S
    | fl => .ok fl S
@[simp] theorem tryK_ex (C : Ctx) (hs c fs env S) : tryK C hs (.ok (.ex c fs env) S) = evH C hs c fs env S := Eq.trans rfl rfl
@[simp] theorem tryK_nx (C : Ctx) (hs env S) : tryK C hs (.ok (.nx env) S) = .ok (.nx env) S := Eq.trans rfl rfl
@[simp] theorem tryK_rt (C : Ctx) (hs d S) : tryK C hs (.ok (.rt d) S) = .ok (.rt d) S := Eq.trans rfl rfl
@[simp] theorem qE_0 (C : Ctx) : evE C (.c d) (env) (S) = (.ok d S) := by first | (rw [evE]; done) | (rw [evE]; rfl) | rfl
@[simp] theorem qE_1 (C : Ctx) : evE C (.v i) (env) (S) = ((match env[i]? with
    | some (some d) => .ok d S
    | _ => .bad)) := by first | (rw [evE]; done) | (rw [evE]; rfl) | rfl
@[simp] theorem qE_2 (C : Ctx) : evE C (.g i) (env) (S) = (Res.of (C.G[i]?) S) := by first | (rw [evE]; done) | (rw [evE]; rfl) | rfl
@[simp] theorem qE_3 (C : Ctx) : evE C (.bin o a b) (env) (S) = ((evE C a env S).bind fun x S => (evE C b env S).bind fun y S => binD o x y S) := by first | (rw [evE]; done) | (rw [evE]; rfl) | rfl
@[simp] theorem qE_4 (C : Ctx) : evE C (.neg a) (env) (S) = ((evE C a env S).bind fun x S => (match x with
    | .int i => .ok (.int (-i)) S
    | _ => .bad)) := by first | (rw [evE]; done) | (rw [evE]; rfl) | rfl
@[simp] theorem qE_5 (C : Ctx) : evE C (.notV a) (env) (S) = ((evE C a env S).bind fun x S => (match x with
    | .bl b => .ok (.bl (!b)) S
    | _ => .bad)) := by first | (rw [evE]; done) | (rw [evE]; rfl) | rfl
@[simp] theorem qE_6 (C : Ctx) : evE C (.andV a b) (env) (S) = ((evE C a env S).bind fun x S => (match x with
    | .bl b' => if b' then evE C b env S else .ok (.bl false) S
    | _ => .bad)) := by first | (rw [evE]; done) | (rw [evE]; rfl) | rfl
@[simp] theorem qE_7 (C : Ctx) : evE C (.orV a b) (env) (S) = ((evE C a env S).bind fun x S => (match x with
    | .bl b' => if b' then .ok (.bl true) S else evE C b env S
    | _ => .bad)) := by first | (rw [evE]; done) | (rw [evE]; rfl) | rfl
@[simp] theorem qE_8 (C : Ctx) : evE C (.cmp o a b) (env) (S) = ((evE C a env S).bind fun x S => (evE C b env S).bind fun y S => (Res.of (cmpD S o x y) S).bind fun c S => .ok (.bl c) S) := by first | (rw [evE]; done) | (rw [evE]; rfl) | rfl
@[simp] theorem qE_9 (C : Ctx) : evE C (.chn o p a b c) (env) (S) = ((evE C a env S).bind fun x S => (evE C b env S).bind fun y S => (Res.of (cmpD S o x y) S).bind fun k S =>
      if k then (evE C c env S).bind fun z S => (Res.of (cmpD S p y z) S).bind fun k S => .ok (.bl k) S else .ok (.bl false) S) := by first | (rw [evE]; done) | (rw [evE]; rfl) | rfl
@[simp] theorem qE_10 (C : Ctx) : evE C (.ife t a b) (env) (S) = ((evT C t env S).bind fun k S => if k then evE C a env S else evE C b env S) := by first | (rw [evE]; done) | (rw [evE]; rfl) | rfl
@[simp] theorem qE_11 (C : Ctx) : evE C (.call f as) (env) (S) = ((evEs C as env S).bind fun ds S => C.Φ none f ds S) := by first | (rw [evE]; done) | (rw [evE]; rfl) | rfl
@[simp] theorem qE_12 (C : Ctx) : evE C (.hcall f as) (env) (S) = ((evEs C as env S).bind fun ds S => C.Φ none f ds S) := by first | (rw [evE]; done) | (rw [evE]; rfl) | rfl
@[simp] theorem qE_13 (C : Ctx) : evE C (.hot f) (env) (S) = (if C.exn.isSome then (match C.Φ C.exn f [] S with
    | .ok d S => .ok d S
    | _ => .bad) else .bad) := by first | (rw [evE]; done) | (rw [evE]; rfl) | rfl
@[simp] theorem qE_14 (C : Ctx) : evE C (.isX cs) (env) (S) = ((match C.exn with
    | some (c, _) => (match C.Cl[c]? with
      | some bs => .ok (.bl (cs.any fun k => bs.contains k)) S
      | none => .bad)
    | none => .bad)) := by first | (rw [evE]; done) | (rw [evE]; rfl) | rfl
@[simp] theorem qE_15 (C : Ctx) : evE C (.xf cs k) (env) (S) = ((match C.exn with
    | some (c, fs) => if cs.contains c then Res.of fs[k]? S else .bad
    | none => .bad)) := by first | (rw [evE]; done) | (rw [evE]; rfl) | rfl
@[simp] theorem qE_16 (C : Ctx) : evE C (.anyH a) (env) (S) = ((evE C a env S).bind fun x S => (Res.of (lbls x S) S).bind fun k S => .ok (.bl (k.any id)) S) := by first | (rw [evE]; done) | (rw [evE]; rfl) | rfl
@[simp] theorem qE_17 (C : Ctx) : evE C (.f1 f a) (env) (S) = ((evE C a env S).bind fun x S => f1D f x S) := by first | (rw [evE]; done) | (rw [evE]; rfl) | rfl
@[simp] theorem qE_18 (C : Ctx) : evE C (.f2 f a b) (env) (S) = ((evE C a env S).bind fun x S => (evE C b env S).bind fun y S => f2D f x y S) := by first | (rw [evE]; done) | (rw [evE]; rfl) | rfl
@[simp] theorem qE_19 (C : Ctx) : evE C (.isI a ks) (env) (S) = ((evE C a env S).bind fun x S => (Res.of (isKds C.Cl S x ks) S).bind fun k S => .ok (.bl k) S) := by first | (rw [evE]; done) | (rw [evE]; rfl) | rfl
@[simp] theorem qE_20 (C : Ctx) : evE C (.idx a b) (env) (S) = ((evE C a env S).bind fun x S => (evE C b env S).bind fun y S => idxD x y S) := by first | (rw [evE]; done) | (rw [evE]; rfl) | rfl
@[simp] theorem qE_21 (C : Ctx) : evE C (.sl a lo hi) (env) (S) = ((evE C a env S).bind fun x S => (evO C lo env S).bind fun l S => (evO C hi env S).bind fun h S => slD x l h S) := by first | (rw [evE]; done) | (rw [evE]; rfl) | rfl
@[simp] theorem qE_22 (C : Ctx) : evE C (.rev a) (env) (S) = ((evE C a env S).bind fun x S => revD x S) := by first | (rw [evE]; done) | (rw [evE]; rfl) | rfl
@[simp] theorem qE_23 (C : Ctx) : evE C (.tup es) (env) (S) = ((evEs C es env S).bind fun ds S => .ok (.tup ds) S) := by first | (rw [evE]; done) | (rw [evE]; rfl) | rfl
@[simp] theorem qE_24 (C : Ctx) : evE C (.ls l) (env) (S) = ((evL C l env S).bind fun p S => .ok (.obj S.length) (.lst p.1 :: S)) := by first | (rw [evE]; done) | (rw [evE]; rfl) | rfl
@[simp] theorem qE_25 (C : Ctx) : evE C (.dct es) (env) (S) = ((evEs C es env S).bind fun ds S => (match pairsD ds with
    | some m => if ds.length ≤ 30 then .ok (.obj S.length) (.dct (m.foldl (fun m p => putD p.1 p.2 m) []) :: S) else .bad
    | none => .bad)) := by first | (rw [evE]; done) | (rw [evE]; rfl) | rfl
@[simp] theorem qE_26 (C : Ctx) : evE C (.tupOf l) (env) (S) = ((evL C l env S).bind fun p S => .ok (.tup p.1) S) := by first | (rw [evE]; done) | (rw [evE]; rfl) | rfl
@[simp] theorem qE_27 (C : Ctx) : evE C (.allOf l) (env) (S) = ((evL C l env S).bind fun p S => (Res.of (bls p.1) S).bind fun k S => .ok (.bl (k.all id)) S) := by first | (rw [evE]; done) | (rw [evE]; rfl) | rfl
@[simp] theorem qE_28 (C : Ctx) : evE C (.anyOf l) (env) (S) = ((evL C l env S).bind fun p S => (Res.of (bls p.1) S).bind fun k S => .ok (.bl (k.any id)) S) := by first | (rw [evE]; done) | (rw [evE]; rfl) | rfl
@[simp] theorem qE_29 (C : Ctx) : evE C (.sumOf l) (env) (S) = ((evL C l env S).bind fun p S => (Res.of (intsD p.1) S).bind fun k S => .ok (.int k.sum) S) := by first | (rw [evE]; done) | (rw [evE]; rfl) | rfl
@[simp] theorem qE_30 (C : Ctx) : evE C (.minOf l) (env) (S) = ((evL C l env S).bind fun p S => (match intsD p.1 with
    | some (x :: r) => .ok (.int (r.foldl min x)) S
    | _ => (match p.1 with
      | x :: r => if minLk (x :: r) = true then .ok (minT x r) S else .bad
      | [] => .bad))) := by first | (rw [evE]; done) | (rw [evE]; rfl) | rfl
@[simp] theorem qE_31 (C : Ctx) : evE C (.maxOf l) (env) (S) = ((evL C l env S).bind fun p S => (match intsD p.1 with
    | some (x :: r) => .ok (.int (r.foldl max x)) S
    | _ => .bad)) := by first | (rw [evE]; done) | (rw [evE]; rfl) | rfl
@[simp] theorem qE_32 (C : Ctx) : evE C (.sorted l) (env) (S) = ((evL C l env S).bind fun p S => (match sortD p.1 with
    | some ys => .ok (.obj S.length) (.lst ys :: S)
    | none => .bad)) := by first | (rw [evE]; done) | (rw [evE]; rfl) | rfl
@[simp] theorem qE_33 (C : Ctx) : evE C (.join a l) (env) (S) = ((evE C a env S).bind fun x S => if isS x then (evL C l env S).bind fun p S => (match x, strsD p.1 with
    | .str s, some ts => if (ts.map (·.length)).sum + ts.length * s.length ≤ line then .ok (.str (joinS s ts)) S else .bad
    | _, _ => .bad) else .bad) := by first | (rw [evE]; done) | (rw [evE]; rfl) | rfl
@[simp] theorem qE_34 (C : Ctx) : evE C (.app o a) (env) (S) = ((evE C o env S).bind fun x S => if isL x S then (evE C a env S).bind fun y S => appD x y S else .bad) := by first | (rw [evE]; done) | (rw [evE]; rfl) | rfl
@[simp] theorem qE_35 (C : Ctx) : evE C (.pop o) (env) (S) = ((evE C o env S).bind fun x S => if isL x S then popD x S else .bad) := by first | (rw [evE]; done) | (rw [evE]; rfl) | rfl
@[simp] theorem qE_36 (C : Ctx) : evE C (.ext o a) (env) (S) = ((evE C o env S).bind fun x S => if isL x S then (evE C a env S).bind fun y S => extD x y S else .bad) := by first | (rw [evE]; done) | (rw [evE]; rfl) | rfl
@[simp] theorem qE_37 (C : Ctx) : evE C (.sw o a) (env) (S) = ((evE C o env S).bind fun x S => if isS x then (evE C a env S).bind fun y S => (Res.of (swD x y) S).bind fun k S => .ok (.bl k) S else .bad) := by first | (rw [evE]; done) | (rw [evE]; rfl) | rfl
@[simp] theorem qE_38 (C : Ctx) : evE C (.tupR a b c) (env) (S) = ((evE C a env S).bind fun x S => (evE C b env S).bind fun y S => (evE C c env S).bind fun z S => tupRD x y z S) := by first | (rw [evE]; done) | (rw [evE]; rfl) | rfl
@[simp] theorem qE_39 (C : Ctx) : evE C (.split a b) (env) (S) = ((evE C a env S).bind fun x S => if isS x then (evE C b env S).bind fun y S => splitD x y S else .bad) := by first | (rw [evE]; done) | (rw [evE]; rfl) | rfl
@[simp] theorem qE_40 (C : Ctx) : evE C (.find a b) (env) (S) = ((evE C a env S).bind fun x S => if isS x then (evE C b env S).bind fun y S => findD x y S else .bad) := by first | (rw [evE]; done) | (rw [evE]; rfl) | rfl
@[simp] theorem qE_41 (C : Ctx) : evE C (.insl o i a) (env) (S) = ((evE C o env S).bind fun x S => if isL x S then (evE C i env S).bind fun y S => (evE C a env S).bind fun z S => insD x y z S else .bad) := by first | (rw [evE]; done) | (rw [evE]; rfl) | rfl
@[simp] theorem qE_42 (C : Ctx) : evE C (.fs a t b) (env) (S) = ((evE C a env S).bind fun x S => if shortS x t then (evE C b env S).bind fun y S => fsD x t y S else .bad) := by first | (rw [evE]; done) | (rw [evE]; rfl) | rfl
@[simp] theorem qEs_0 (C : Ctx) : evEs C ([]) (env) (S) = (.ok [] S) := by first | (rw [evEs]; done) | (rw [evEs]; rfl) | rfl
@[simp] theorem qEs_1 (C : Ctx) : evEs C (e :: r) (env) (S) = ((evE C e env S).bind fun x S => (evEs C r env S).bind fun xs S => .ok (x :: xs) S) := by first | (rw [evEs]; done) | (rw [evEs]; rfl) | rfl
@[simp] theorem qO_0 (C : Ctx) : evO C (none) (env) (S) = (.ok none S) := by first | (rw [evO]; done) | (rw [evO]; rfl) | rfl
@[simp] theorem qO_1 (C : Ctx) : evO C (some e) (env) (S) = ((evE C e env S).bind fun x S => (match x with
    | .int i => .ok (some (.int i)) S
    | _ => .bad)) := by first | (rw [evO]; done) | (rw [evO]; rfl) | rfl
@[simp] theorem qL_0 (C : Ctx) : evL C (.val e) (env) (S) = ((evE C e env S).bind fun x S => Res.of (items x S) S) := by first | (rw [evL]; done) | (rw [evL]; rfl) | rfl
@[simp] theorem qL_1 (C : Ctx) : evL C (.seq e) (env) (S) = ((evE C e env S).bind fun x S => Res.of ((seqD x S).map fun xs => (xs, none)) S) := by first | (rw [evL]; done) | (rw [evL]; rfl) | rfl
@[simp] theorem qL_2 (C : Ctx) : evL C (.lis e) (env) (S) = ((evE C e env S).bind fun x S => if isLs x S then Res.of ((seqD x S).map fun xs => (xs, none)) S else .bad) := by first | (rw [evL]; done) | (rw [evL]; rfl) | rfl
@[simp] theorem qL_3 (C : Ctx) : evL C (.keys e) (env) (S) = ((evE C e env S).bind fun x S => Res.of ((keysD x S).map fun xs => (xs, none)) S) := by first | (rw [evL]; done) | (rw [evL]; rfl) | rfl
@[simp] theorem qL_4 (C : Ctx) : evL C (.rng a) (env) (S) = (evE C a env S).bind rngF := by rw [evL]; first | done | rfl
@[simp] theorem qL_5 (C : Ctx) : evL C (.rng2 a b) (env) (S) = (evE C a env S).bind fun x S => (evE C b env S).bind (rngF2 x) := by rw [evL]; first | done | rfl
@[simp] theorem qL_6 (C : Ctx) : evL C (.rng3 a b c) (env) (S) = (evE C a env S).bind fun x S => (evE C b env S).bind fun y S => (evE C c env S).bind (rngF3 x y) := by rw [evL]; first | done | rfl
@[simp] theorem qL_7 (C : Ctx) : evL C (.disp es) (env) (S) = ((evEs C es env S).bind fun xs S => .ok (xs, none) S) := by first | (rw [evL]; done) | (rw [evL]; rfl) | rfl
@[simp] theorem qL_8 (C : Ctx) : evL C (.comp e t l ifs) (env) (S) = (evL C l env S).bind fun p S => (compK C e t ifs env p.2 p.1 S).bind fun ys S => .ok (ys, none) S := by
  rw [evL]; congr 1; funext p S; unfold compK; split <;> rfl
@[simp] theorem qL_9 (C : Ctx) : evL C (.zip a b) (env) (S) = (evE C a env S).bind fun x S => (evE C b env S).bind (zipF x) := by rw [evL]; first | done | rfl
@[simp] theorem qL_10 (C : Ctx) : evL C (.comp2 e t l ifs t1 l1 ifs1) (env) (S) = (evL C l env S).bind fun p S => (compK2 C e t ifs t1 l1 ifs1 env p.2 p.1 S).bind fun ys S => .ok (ys, none) S := by
  rw [evL]; congr 1; funext p S; unfold compK2; split
  · show ((compL2 (fun x S => compF2K C e t ifs t1 l1 ifs1 env x S) (stands p.2 (obAt p.2 S)) p.1 S).bind fun ys S => if ys.length ≤ line then Res.ok (ys, none) S else .bad) = ((compL2 (fun x S => compF2K C e t ifs t1 l1 ifs1 env x S) (stands p.2 (obAt p.2 S)) p.1 S).bind fun ys S => if ys.length ≤ line then Res.ok ys S else .bad).bind fun ys S => Res.ok (ys, none) S
    generalize compL2 (fun x S => compF2K C e t ifs t1 l1 ifs1 env x S) (stands p.2 (obAt p.2 S)) p.1 S = r
    cases r with
    | ok ys S => show (if ys.length ≤ line then Res.ok (ys, none) S else .bad) = Res.bind (if ys.length ≤ line then Res.ok ys S else .bad) _; split <;> rfl
    | _ => rfl
  · rfl
@[simp] theorem qT_0 (C : Ctx) : evT C (.val e) (env) (S) = ((evE C e env S).bind fun x S => Res.of (truth S x) S) := by first | (rw [evT]; done) | (rw [evT]; rfl) | rfl
@[simp] theorem qT_1 (C : Ctx) : evT C (.not t) (env) (S) = ((evT C t env S).bind fun k S => .ok (!k) S) := by first | (rw [evT]; done) | (rw [evT]; rfl) | rfl
@[simp] theorem qT_2 (C : Ctx) : evT C (.and a b) (env) (S) = ((evT C a env S).bind fun k S => if k then evT C b env S else .ok false S) := by first | (rw [evT]; done) | (rw [evT]; rfl) | rfl
@[simp] theorem qT_3 (C : Ctx) : evT C (.or a b) (env) (S) = ((evT C a env S).bind fun k S => if k then .ok true S else evT C b env S) := by first | (rw [evT]; done) | (rw [evT]; rfl) | rfl
@[simp] theorem qTs_0 (C : Ctx) : evTs C ([]) (env) (S) = (.ok true S) := by first | (rw [evTs]; done) | (rw [evTs]; rfl) | rfl
@[simp] theorem qTs_1 (C : Ctx) : evTs C (t :: r) (env) (S) = ((evT C t env S).bind fun k S => if k then evTs C r env S else .ok false S) := by first | (rw [evTs]; done) | (rw [evTs]; rfl) | rfl
@[simp] theorem qS_0 (C : Ctx) : evS C (.pass) (env) (S) = (.ok (.nx env) S) := by first | (rw [evS]; done) | (rw [evS]; rfl) | rfl
@[simp] theorem qS_1 (C : Ctx) : evS C (.ex e) (env) (S) = ((evE C e env S).st env fun _ S => .ok (.nx env) S) := by first | (rw [evS]; done) | (rw [evS]; rfl) | rfl
@[simp] theorem qS_2 (C : Ctx) : evS C (.set t e) (env) (S) = ((evE C e env S).st env fun x S => (match bind1 t x env with
    | some env => .ok (.nx env) S
    | none => .bad)) := by first | (rw [evS]; done) | (rw [evS]; rfl) | rfl
@[simp] theorem qS_3 (C : Ctx) : evS C (.setIx o i e) (env) (S) = ((evE C e env S).st env fun x S => (evE C o env S).st env fun y S => (evE C i env S).st env fun z S => (match setIxD y z x S with
    | some S => .ok (.nx env) S
    | none => .bad)) := by first | (rw [evS]; done) | (rw [evS]; rfl) | rfl
@[simp] theorem qS_4 (C : Ctx) : evS C (.ite t a b) (env) (S) = iteK C a b env (evT C t env S) := by rw [evS]; first | done | rfl
@[simp] theorem qS_5 (C : Ctx) : evS C (.forS t l body ks) (env) (S) = forS C t body ks env (evL C l env S) := by rw [evS]; first | done | rfl
@[simp] theorem qS_6 (C : Ctx) : evS C (.whl t body ks) (env) (S) = whlK C t body ks env S := by rw [evS]; first | done | rfl
@[simp] theorem qS_7 (C : Ctx) : evS C (.ret e) (env) (S) = ((evE C e env S).st env fun x S => .ok (.rt x) S) := by first | (rw [evS]; done) | (rw [evS]; rfl) | rfl
@[simp] theorem qS_8 (C : Ctx) : evS C (.brk) (env) (S) = (.ok (.bk env) S) := by first | (rw [evS]; done) | (rw [evS]; rfl) | rfl
@[simp] theorem qS_9 (C : Ctx) : evS C (.cont) (env) (S) = (.ok (.ct env) S) := by first | (rw [evS]; done) | (rw [evS]; rfl) | rfl
@[simp] theorem qS_10 (C : Ctx) : evS C (.rais c es) (env) (S) = ((evEs C es env S).st env fun ds S => if fldOk ds then .ok (.ex c ds env) S else .bad) := by first | (rw [evS]; done) | (rw [evS]; rfl) | rfl
@[simp] theorem qS_11 (C : Ctx) : evS C (.tryS body hs) (env) (S) = tryK C hs (evSs C body env S) := by rw [evS]; first | done | rfl
@[simp] theorem qS_12 (C : Ctx) : evS C (.kill ks) (env) (S) = (.ok (.nx (kill ks env)) S) := by first | (rw [evS]; done) | (rw [evS]; rfl) | rfl
@[simp] theorem qSs_0 (C : Ctx) : evSs C ([]) (env) (S) = (.ok (.nx env) S) := by first | (rw [evSs]; done) | (rw [evSs]; rfl) | rfl
@[simp] theorem qSs_1 (C : Ctx) : evSs C (s :: r) (env) (S) = seqK C r (evS C s env S) := by rw [evSs]; first | done | rfl
@[simp] theorem qH_0 (C : Ctx) : evH C ([]) (c) (fs) (env) (S) = (.ok (.ex c fs env) S) := by first | (rw [evH]; done) | (rw [evH]; rfl) | rfl
@[simp] theorem qH_1 (C : Ctx) : evH C ((cs, sl, suite) :: r) (c) (fs) (env) (S) = (if catches C.Cl c cs then
      (match sl with
      | some i => if i < env.length then (evSs { C with exn := some (c, fs) } suite (env.set i none) S).bind fun fl S => (match fl with
        | .nx env => .ok (.nx (env.set i none)) S
        | .rt d => .ok (.rt d) S
        | _ => .bad) else .bad
      | none => (evSs { C with exn := some (c, fs) } suite env S).bind fun fl S => (match fl with
        | .nx env => .ok (.nx env) S
        | .rt d => .ok (.rt d) S
        | _ => .bad)) else evH C r c fs env S) := by first | (rw [evH]; done) | (rw [evH]; rfl) | rfl
/-! what a run leaves -/
inductive wp {α : Type} : Res α → (α → Store → Prop) → Prop where
  | ok (a : α) (S : Store) (Q : α → Store → Prop) (h : Q a S) : wp (.ok a S) Q
@[simp] theorem wp_ok {α : Type} (a : α) (S : Store) (Q : α → Store → Prop) : wp (.ok a S) Q = Q a S := propext ⟨fun h => by cases h; assumption, fun h => .ok _ _ _ h⟩
theorem wp_no {α : Type} {c : Nat} {fs : List D} {S : Store} {Q : α → Store → Prop} : ¬ wp (.exc c fs S) Q := fun h => nomatch h
theorem wp_nb {α : Type} {Q : α → Store → Prop} : ¬ wp .bad Q := fun h => nomatch h
theorem wp_bind {α β : Type} {r : Res α} {f : α → Store → Res β} {Q : β → Store → Prop} (h : wp r fun a S => wp (f a S) Q) : wp (r.bind f) Q := by
  cases r with
  | ok a S => rw [wp_ok] at h; exact h
  | exc => exact (wp_no h).elim
  | bad => exact (wp_nb h).elim
theorem wp_st {α : Type} {r : Res α} {env : Env} {f : α → Store → Res Flow} {Q : Flow → Store → Prop} (h : wp r fun a S => wp (f a S) Q) : wp (r.st env f) Q := by
  cases r with
  | ok a S => rw [wp_ok] at h; exact h
  | exc => exact (wp_no h).elim
  | bad => exact (wp_nb h).elim
theorem wp_mono {α : Type} {r : Res α} {Q Q' : α → Store → Prop} (h : wp r Q) (hq : ∀ a S, Q a S → Q' a S) : wp r Q' := by
  cases r with
  | ok a S => rw [wp_ok] at h ⊢; exact hq _ _ h
  | exc => exact (wp_no h).elim
  | bad => exact (wp_nb h).elim
/-- what a round of a loop leaves -/
def rnd (Q : Flow → Store → Prop) (ks : List Nat) (S : Store) (N : Env → Store → Prop) (fl : Flow) (S' : Store) : Prop := match fl with
  | .nx env => N (kill ks env) (trim S S' (kill ks env))
  | .ct env => N (kill ks env) (trim S S' (kill ks env))
  | .bk env => Q (.nx (kill ks env)) S'
  | .rt d => Q (.rt d) S'
  | .ex c fs env => Q (.ex c fs env) S'
@[simp] theorem rnd_nx (Q ks S N env S') : rnd Q ks S N (.nx env) S' = N (kill ks env) (trim S S' (kill ks env)) := Eq.trans rfl rfl
@[simp] theorem rnd_ct (Q ks S N env S') : rnd Q ks S N (.ct env) S' = N (kill ks env) (trim S S' (kill ks env)) := Eq.trans rfl rfl
@[simp] theorem rnd_bk (Q ks S N env S') : rnd Q ks S N (.bk env) S' = Q (.nx (kill ks env)) S' := Eq.trans rfl rfl
@[simp] theorem rnd_rt (Q ks S N d S') : rnd Q ks S N (.rt d) S' = Q (.rt d) S' := Eq.trans rfl rfl
@[simp] theorem rnd_ex (Q ks S N c fs env S') : rnd Q ks S N (.ex c fs env) S' = Q (.ex c fs env) S' := Eq.trans rfl rfl
theorem wp_loop {f : D → Env → Store → Res Flow} {ks : List Nat} {g : Store → Bool} {Q : Flow → Store → Prop} {xs : List D} (I : Nat → Env → Store → Prop) {env : Env} {S : Store}
    (h0 : I 0 env S) (hg : ∀ i env S, I i env S → g S = true)
    (hs : ∀ i x env S, xs[i]? = some x → I i env S → wp (f x env S) (rnd Q ks S (I (i + 1))))
    (hq : ∀ env S, I xs.length env S → Q (.nx env) S) : wp (loopL f ks g xs env S) Q := by
  have key : ∀ (ys : List D) (k : Nat), (∀ i, ys[i]? = xs[k + i]?) → k + ys.length = xs.length → ∀ env S, I k env S → wp (loopL f ks g ys env S) Q := by
    intro ys
    induction ys with
    | nil => intro k _ hl env S h
             simp only [List.length_nil, Nat.add_zero] at hl
             simp only [loopL, hg _ _ _ h, if_true]
             exact .ok _ _ _ (hq _ _ (hl ▸ h))
    | cons y r ih => intro k hy hl env S h
                     simp only [loopL, hg _ _ _ h, if_true]
                     have := hs k y env S (by simpa using (hy 0).symm) h
                     revert this
                     cases f y env S with
                     | exc => exact fun h => nomatch h
                     | bad => exact fun h => nomatch h
                     | ok fl S' =>
                       have step : ∀ env S, I (k + 1) env S → wp (loopL f ks g r env S) Q := ih (k + 1) (fun i => by have := hy (i + 1); simp only [List.getElem?_cons_succ] at this; rw [this]; congr 1; omega) (by simp only [List.length_cons] at hl; omega)
                       intro this
                       rw [wp_ok] at this
                       cases fl with
                       | nx e => exact step _ _ this
                       | ct e => exact step _ _ this
                       | bk e => exact .ok _ _ _ this
                       | rt d => exact .ok _ _ _ this
                       | ex c fs e => exact .ok _ _ _ this
  exact key xs 0 (fun i => by rw [Nat.zero_add]) (Nat.zero_add _) env S h0
/-- a while loop: a measure that falls -/
theorem wp_whl {t : Env → Store → Res Bool} {f : Env → Store → Res Flow} {ks : List Nat} {Q : Flow → Store → Prop} (I : Nat → Env → Store → Prop) {n m : Nat} {env : Env} {S : Store}
    (h0 : I m env S) (hm : m < n)
    (hs : ∀ k env S, I k env S → k ≤ m → wp (t env S) fun c S1 => if c = true then wp (f env S1) (rnd Q ks S fun env S => ∃ j, j < k ∧ I j env S) else Q (.nx env) S1) : wp (whlL t f ks n env S) Q := by
  suffices H : ∀ n k env S, I k env S → k ≤ m → k < n → wp (whlL t f ks n env S) Q from H n m env S h0 (Nat.le_refl _) hm
  intro n
  induction n with
  | zero => intro k _ _ _ _ h; omega
  | succ n ih =>
    intro k env S h hk hkn
    have := hs k env S h hk
    simp only [whlL]
    revert this
    cases t env S with
    | exc => exact fun h => nomatch h
    | bad => exact fun h => nomatch h
    | ok c S1 =>
      simp only [wp_ok, st_ok]
      cases c with
      | false => simp only [Bool.false_eq_true, if_false]; exact fun h => .ok _ _ _ h
      | true =>
        simp only [if_true]
        cases f env S1 with
        | exc => exact fun h => nomatch h
        | bad => exact fun h => nomatch h
        | ok fl S' =>
          intro this
          rw [wp_ok] at this
          cases fl with
          | nx e => obtain ⟨j, hj, hi⟩ := this; exact ih j _ _ hi (by omega) (by omega)
          | ct e => obtain ⟨j, hj, hi⟩ := this; exact ih j _ _ hi (by omega) (by omega)
          | bk e => exact .ok _ _ _ this
          | rt d => exact .ok _ _ _ this
          | ex c fs e => exact .ok _ _ _ this
/-- a comprehension that lays nothing -/
theorem compL_map {f : D → Store → Res (Option D)} {g : Store → Bool} (o : D → Option D) {xs : List D} {S : Store} (hg : g S = true)
    (h : ∀ x ∈ xs, f x S = .ok (o x) S) : compL f g xs S = .ok (xs.filterMap o) S := by
  induction xs with
  | nil => simp [compL, hg]
  | cons x r ih =>
    simp only [compL, hg, if_true, h x (by simp), ih fun y hy => h y (by simp [hy]), bind_ok, List.filterMap_cons]
    cases o x <;> rfl
theorem compL_map1 {f : D → Store → Res (Option D)} {g : Store → Bool} (o : D → D) {xs : List D} {S : Store} (hg : g S = true)
    (h : ∀ x ∈ xs, f x S = .ok (some (o x)) S) : compL f g xs S = .ok (xs.map o) S := by
  rw [compL_map (fun x => some (o x)) hg h]; simp
/-! store -/
@[simp] theorem get_self (o : SO) (S : Store) : get (o :: S) S.length = some o := by simp [get]
theorem getLt {S : Store} : ∀ {n : Nat} {o : SO}, get S n = some o → n < S.length := by
  induction S with
  | nil => intro n o h; simp [get] at h
  | cons a r ih => intro n o h; simp only [get] at h; split at h
                   · simp only [List.length_cons]; omega
                   · have := ih h; simp only [List.length_cons]; omega
theorem getOld {S : Store} {n : Nat} {o x : SO} (h : get S n = some o) : get (x :: S) n = some o := by
  have := getLt h
  simp only [get]; rw [if_neg (by omega)]; exact h
theorem get_app {n : Nat} {o : SO} {S : Store} (h : get S n = some o) : ∀ pre : Store, get (pre ++ S) n = some o
  | [] => h
  | x :: r => getOld (get_app h r)
@[simp] theorem okOld_refl (n : Nat) : ∀ S : Store, okOld n S S = true
  | [] => rfl
  | a :: r => by simp [okOld, okOld_refl n r]
theorem trim_app {S S' pre : Store} {env : Env} (h : S' = pre ++ S) (he : envBel S.length env = true) : trim S S' env = S := by
  subst h
  unfold trim
  split
  · rename_i h
    have : pre = [] := List.eq_nil_of_length_eq_zero (by simp only [List.length_append] at h; omega)
    rw [this]; rfl
  · have : (pre ++ S).drop ((pre ++ S).length - S.length) = S := by simp
    rw [this, he, okOld_refl]; rfl
@[simp] theorem trim_self (S : Store) (env : Env) : trim S S env = S := by simp [trim]
theorem trim_same {S S' : Store} {env : Env} (h : S'.length = S.length) : trim S S' env = S' := by simp [trim, h]
/-- trim, where the old part was changed -/
theorem trim_chg {S S' pre T : Store} {env : Env} (h : S' = pre ++ T) (hl : T.length = S.length) (he : envBel S.length env = true) (ho : okOld S.length S T = true) : trim S S' env = T := by
  subst h
  unfold trim
  split
  · rename_i h
    have : pre = [] := List.eq_nil_of_length_eq_zero (by simp only [List.length_append] at h; omega)
    rw [this]; rfl
  · have : (pre ++ T).drop ((pre ++ T).length - S.length) = T := by simp [hl]
    rw [this, he, ho]; rfl
theorem fin_val {S S' pre : Store} {d : D} (h : S' = pre ++ S) (hd : D.bel S.length d = true) : fin S S' d = .ok d S := by
  subst h
  unfold fin
  split
  · rename_i h
    have : pre = [] := List.eq_nil_of_length_eq_zero (by simp only [List.length_append] at h; omega)
    rw [this]; rfl
  · have : (pre ++ S).drop ((pre ++ S).length - S.length) = S := by simp
    rw [this, okOld_refl]; simp [hd]
theorem fin_obj {S S' pre : Store} {m : Nat} {o : SO} (h : S' = pre ++ S) (hm : S.length ≤ m) (hg : get S' m = some o) (ho : SO.bel S.length o = true) : fin S S' (.obj m) = .ok (.obj S.length) (o :: S) := by
  subst h
  unfold fin
  split
  · rename_i h
    have : pre = [] := List.eq_nil_of_length_eq_zero (by simp only [List.length_append] at h; omega)
    subst this
    have := getLt hg
    simp only [List.nil_append] at this
    omega
  · have : (pre ++ S).drop ((pre ++ S).length - S.length) = S := by simp
    rw [this, okOld_refl]
    have hb : D.bel S.length (.obj m) = false := by
      rw [D.bel]
      exact Bool.eq_false_iff.mpr fun h => by have := Nat.le_of_ble_eq_true h; omega
    simp only [hb, hg, ho, if_true, Bool.false_eq_true, if_false]
theorem finX_nil {S S' pre : Store} (h : S' = pre ++ S) : finX S S' [] = S := by
  subst h
  unfold finX
  split
  · rename_i h
    have : pre = [] := List.eq_nil_of_length_eq_zero (by simp only [List.length_append] at h; omega)
    rw [this]; rfl
  · have : (pre ++ S).drop ((pre ++ S).length - S.length) = S := by simp
    rw [this, okOld_refl]; simp [D.bels]
/-- what a call gives -/
def outF (S : Store) (fl : Flow) (S' : Store) : Res D := match fl with
  | .rt d => fin S S' d
  | .nx _ => fin S S' .non
  | .ex c fs _ => .exc c fs (finX S S' fs)
  | _ => .bad
@[simp] theorem outF_rt (S S' d) : outF S (.rt d) S' = fin S S' d := Eq.trans rfl rfl
@[simp] theorem outF_nx (S S' e) : outF S (.nx e) S' = fin S S' .non := Eq.trans rfl rfl
@[simp] theorem outF_ex (S S' c fs e) : outF S (.ex c fs e) S' = .exc c fs (finX S S' fs) := Eq.trans rfl rfl
theorem den_wp {p : Prg} {n i : Nat} {f : Fn} {ds : List D} {S : Store} {R : Res D} (hf : p.fns[i]? = some f) (hl : ds.length = f.np)
    (h : wp (evSs ⟨den p n, p.G, p.Cl, none⟩ f.body (ds.map some ++ List.replicate (f.nl - f.np) none) S) fun fl S' => outF S fl S' = R) : den p (n + 1) none i ds S = R := by
  simp only [den, hf, evFn, Option.isSome_none, Bool.false_eq_true, false_or, hl, if_true, if_false]
  revert h
  cases evSs ⟨den p n, p.G, p.Cl, none⟩ f.body (ds.map some ++ List.replicate (f.nl - f.np) none) S with
  | exc => exact fun h => nomatch h
  | bad => exact fun h => nomatch h
  | ok fl S' => intro h; rw [wp_ok] at h; cases fl <;> exact h
theorem den_hot {p : Prg} {n i : Nat} {f : Fn} {e : Nat × List D} {S : Store} {R : Res D} (hf : p.fns[i]? = some f)
    (h : wp (evSs ⟨den p n, p.G, p.Cl, some e⟩ f.body (List.replicate f.nl none) S) fun fl S' => outF S fl S' = R) : den p (n + 1) (some e) i [] S = R := by
  simp only [den, hf, evFn, Option.isSome_some, true_or, if_true]
  revert h
  cases evSs ⟨den p n, p.G, p.Cl, some e⟩ f.body (List.replicate f.nl none) S with
  | exc => exact fun h => nomatch h
  | bad => exact fun h => nomatch h
  | ok fl S' => intro h; rw [wp_ok] at h; cases fl <;> exact h

theorem wp_seq {C : Ctx} {r : List Stm} {x : Res Flow} {Q : Flow → Store → Prop} (h : wp x fun fl S => wp (seqK C r (.ok fl S)) Q) : wp (seqK C r x) Q := wp_bind (by
  refine wp_mono h fun fl S h => ?_
  cases fl <;> exact h)
theorem wp_for {C : Ctx} {t : Tg} {body : List Stm} {ks : List Nat} {o : Option Nat} {Q : Flow → Store → Prop} {xs : List D} (I : Nat → Env → Store → Prop) {env : Env} {S : Store}
    (h0 : I 0 env S) (hg : ∀ i env S', I i env S' → stands o (obAt o S) S' = true)
    (hs : ∀ i x env S, xs[i]? = some x → I i env S → wp (match bind1 t x env with | some env => evSs C body env S | none => .bad) (rnd Q ks S (I (i + 1))))
    (hq : ∀ env S, I xs.length env S → Q (.nx env) S) : wp (forK C t body ks o xs env S) Q := wp_loop I h0 hg hs hq
theorem wp_while {C : Ctx} {t : Tst} {body : List Stm} {ks : List Nat} {Q : Flow → Store → Prop} (I : Nat → Env → Store → Prop) {m : Nat} {env : Env} {S : Store}
    (h0 : I m env S) (hm : m < turns)
    (hs : ∀ k env S, I k env S → k ≤ m → wp (evT C t env S) fun c S1 => if c = true then wp (evSs C body env S1) (rnd Q ks S fun env S => ∃ j, j < k ∧ I j env S) else Q (.nx env) S1) : wp (whlK C t body ks env S) Q := wp_whl I h0 hm hs
theorem compK_map {C : Ctx} {e : Exp} {t : Tg} {ifs : List Tst} {env : Env} {o : Option Nat} {xs : List D} {S : Store} (f : D → D) (hl : xs.length ≤ line)
    (h : ∀ x ∈ xs, ∃ env', bind1 t x (kill t.ix env) = some env' ∧ evTs C ifs env' S = .ok true S ∧ evE C e env' S = .ok (f x) S) : compK C e t ifs env o xs S = .ok (xs.map f) S := by
  unfold compK
  rw [if_pos hl]
  refine compL_map1 f (by cases o <;> simp [stands, obAt]) fun x hx => ?_
  obtain ⟨env', h1, h2, h3⟩ := h x hx
  simp only [h1, h2, h3]
theorem compK_fm {C : Ctx} {e : Exp} {t : Tg} {ifs : List Tst} {env : Env} {o : Option Nat} {xs : List D} {S : Store} (f : D → Option D) (hl : xs.length ≤ line)
    (h : ∀ x ∈ xs, ∃ env' b, bind1 t x (kill t.ix env) = some env' ∧ evTs C ifs env' S = .ok b S ∧ (if b = true then ∃ y, evE C e env' S = .ok y S ∧ f x = some y else f x = none)) : compK C e t ifs env o xs S = .ok (xs.filterMap f) S := by
  unfold compK
  rw [if_pos hl]
  refine compL_map f (by cases o <;> simp [stands, obAt]) fun x hx => ?_
  obtain ⟨env', b, h1, h2, h3⟩ := h x hx
  cases b with
  | true => obtain ⟨y, h4, h5⟩ := h3; simp only [h1, h2, h4, h5]
  | false => simp only [h1, h2]; rw [if_neg (by decide)] at h3; rw [h3]
end Pw
end
section
set_option linter.all false
/-! Pw26: the operators by simp -/
namespace Pw
@[simp] theorem lineN : line = 16777216 := Eq.trans rfl rfl
@[simp] theorem truth_bl (S b) : truth S (.bl b) = some b := Eq.trans rfl rfl
@[simp] theorem truth_non (S) : truth S .non = some false := Eq.trans rfl rfl
@[simp] theorem truth_int (S i) : truth S (.int i) = some (decide (i ≠ 0)) := Eq.trans rfl rfl
@[simp] theorem truth_tup (S xs) : truth S (.tup xs) = some (!xs.isEmpty) := Eq.trans rfl rfl
@[simp] theorem isKds_nil (Cl S d) : isKds Cl S d [] = some false := Eq.trans rfl rfl
@[simp] theorem isKds_cons (Cl S d k r) : isKds Cl S d (k :: r) = (isKd Cl S d k).bind fun b => if b then some true else isKds Cl S d r := Eq.trans rfl rfl
@[simp] theorem isKd_int (Cl S d) : isKd Cl S d .int = (match d with | .int _ => some true | .bl _ => some true | .exc _ _ => none | _ => some false) := Eq.trans rfl rfl
@[simp] theorem isKd_bool (Cl S d) : isKd Cl S d .bool = (match d with | .bl _ => some true | .exc _ _ => none | _ => some false) := Eq.trans rfl rfl
@[simp] theorem isKd_str (Cl S d) : isKd Cl S d .str = (match d with | .str _ => some true | .exc _ _ => none | _ => some false) := Eq.trans rfl rfl
@[simp] theorem isKd_tuple (Cl S d) : isKd Cl S d .tuple = (match d with | .tup _ => some true | .exc _ _ => none | _ => some false) := Eq.trans rfl rfl
@[simp] theorem lenD_str {S : Store} {s : List Nat} (h : s.length ≤ 16777216) : lenD S (.str s) = some (s.length : Int) := by simp [lenD, h]
@[simp] theorem lenD_tup (S xs) : lenD S (.tup xs) = some (List.length xs : Int) := Eq.trans rfl rfl
theorem lenD_obj {S n xs} (h : get S n = some (.lst xs)) : lenD S (.obj n) = some (List.length xs : Int) := by simp [lenD, h]
@[simp] theorem lenD_self (S : Store) (xs : List D) : lenD (.lst xs :: S) (.obj S.length) = some (xs.length : Int) := lenD_obj (get_self _ _)
@[simp] theorem f1_len (S d) : f1D .len d S = (Res.of (lenD S d) S).bind fun n S => .ok (.int n) S := Eq.trans rfl rfl
@[simp] theorem f1_int (S i) : f1D .int (.int i) S = .ok (.int i) S := Eq.trans rfl rfl
@[simp] theorem f1_intb (S b) : f1D .int (.bl b) S = .ok (.int (b2i b)) S := Eq.trans rfl rfl
@[simp] theorem f1_abs (S i) : f1D .abs (.int i) S = .ok (.int (if i < 0 then -i else i)) S := Eq.trans rfl rfl
@[simp] theorem f2_min (S i j) : f2D .min (.int i) (.int j) S = .ok (.int (if j < i then j else i)) S := Eq.trans rfl rfl
@[simp] theorem f2_max (S i j) : f2D .max (.int i) (.int j) S = .ok (.int (if j > i then j else i)) S := Eq.trans rfl rfl
@[simp] theorem cmp_lt (S a b) : cmpD S .lt (.int a) (.int b) = some (decide (a < b)) := Eq.trans rfl rfl
@[simp] theorem cmp_le (S a b) : cmpD S .le (.int a) (.int b) = some (decide (a ≤ b)) := Eq.trans rfl rfl
@[simp] theorem cmp_gt (S a b) : cmpD S .gt (.int a) (.int b) = some (decide (b < a)) := Eq.trans rfl rfl
@[simp] theorem cmp_ge (S a b) : cmpD S .ge (.int a) (.int b) = some (decide (b ≤ a)) := Eq.trans rfl rfl
@[simp] theorem cmps_lt (S a b) : cmpD S .lt (.str a) (.str b) = some (decide (a < b)) := Eq.trans rfl rfl
@[simp] theorem cmps_le (S a b) : cmpD S .le (.str a) (.str b) = some (!decide (b < a)) := Eq.trans rfl rfl
@[simp] theorem cmps_gt (S a b) : cmpD S .gt (.str a) (.str b) = some (decide (b < a)) := Eq.trans rfl rfl
@[simp] theorem cmps_ge (S a b) : cmpD S .ge (.str a) (.str b) = some (!decide (a < b)) := Eq.trans rfl rfl
@[simp] theorem cmp_eq (S a b) : cmpD S .eq (.int a) (.int b) = some (decide (a = b)) := Eq.trans rfl rfl
@[simp] theorem cmp_ne (S a b) : cmpD S .ne (.int a) (.int b) = some (!decide (a = b)) := Eq.trans rfl rfl
@[simp] theorem cmps_eq (S a b) : cmpD S .eq (.str a) (.str b) = some (decide (a = b)) := Eq.trans rfl rfl
@[simp] theorem cmps_ne (S a b) : cmpD S .ne (.str a) (.str b) = some (!decide (a = b)) := Eq.trans rfl rfl
@[simp] theorem cmpb_eq (S a b) : cmpD S .eq (.bl a) (.bl b) = some (decide (a = b)) := Eq.trans rfl rfl
@[simp] theorem cmpb_ne (S a b) : cmpD S .ne (.bl a) (.bl b) = some (!decide (a = b)) := Eq.trans rfl rfl
@[simp] theorem cmp_in (S a b) : cmpD S .inn a b = din S a b := Eq.trans rfl rfl
@[simp] theorem cmp_nin (S a b) : cmpD S .nin a b = (din S a b).map (!·) := Eq.trans rfl rfl
@[simp] theorem din_s (S c t) : din S (.str [c]) (.str t) = some (decide (c ∈ t)) := Eq.trans rfl rfl
@[simp] theorem din_t (S x t) : din S x (.tup t) = inD x t := Eq.trans rfl rfl
theorem din_l {S x n t} (h : get S n = some (.lst t)) : din S x (.obj n) = inD x t := by simp [din, h]
@[simp] theorem cmp_is (S a b) : cmpD S .is a b = dis a b := Eq.trans rfl rfl
@[simp] theorem cmp_isn (S a b) : cmpD S .isn a b = (dis a b).map (!·) := Eq.trans rfl rfl
@[simp] theorem dis_non (a) : dis a .non = some (decide (a = .non)) := Eq.trans rfl rfl
@[simp] theorem dis_bl (a b) : dis (.bl a) (.bl b) = some (decide (a = b)) := Eq.trans rfl rfl
@[simp] theorem add_i (S i j) : binD .add (.int i) (.int j) S = .ok (.int (i + j)) S := Eq.trans rfl rfl
@[simp] theorem sub_i (S i j) : binD .sub (.int i) (.int j) S = .ok (.int (i - j)) S := Eq.trans rfl rfl
@[simp] theorem add_s {S : Store} {i j : List Nat} (h : i.length + j.length ≤ 16777216) : binD .add (.str i) (.str j) S = .ok (.str (i ++ j)) S := by simp [binD, h]
@[simp] theorem add_t {S : Store} {i j : List D} (h : i.length + j.length ≤ 16777216) : binD .add (.tup i) (.tup j) S = .ok (.tup (i ++ j)) S := by simp [binD, h]
theorem add_l {S : Store} {a b : Nat} {x y : List D} (ha : get S a = some (.lst x)) (hb : get S b = some (.lst y)) (h : x.length + y.length ≤ 16777216) : binD .add (.obj a) (.obj b) S = .ok (.obj S.length) (.lst (x ++ y) :: S) := by simp [binD, h, ha, hb]
theorem mul_i {S : Store} {i j : Int} (h : i.natAbs.log2 + j.natAbs.log2 < 1000000) : binD .mul (.int i) (.int j) S = .ok (.int (i * j)) S := by simp [binD, mulOk, h]
theorem mul_s {S : Store} {c : Nat} {j : Int} (h : j ≤ 16777216) (h' : -(2 ^ 62) ≤ j) : binD .mul (.str [c]) (.int j) S = .ok (.str (List.replicate j.toNat c)) S := by
  have : j ≤ line ∧ -(2 ^ 62) ≤ j := ⟨by simpa using h, h'⟩
  simp only [binD]; rw [if_pos this]
theorem fdiv_i {S : Store} {i j : Int} (h : 0 < j) (h' : j.natAbs.log2 < 9000) : binD .fdiv (.int i) (.int j) S = .ok (.int (i / j)) S := by simp [binD, h, h']
theorem fdiv_n {S : Store} {i : Int} {k : Nat} (h0 : 0 < k) (h' : Nat.log2 k < 9000) : binD .fdiv (.int i) (.int (no_index (OfNat.ofNat k))) S = .ok (.int (i / (OfNat.ofNat k))) S :=
  fdiv_i (show (0 : Int) < (k : Int) by omega) h'
@[simp] theorem mod_i {S : Store} {i j : Int} (h : 0 < j) : binD .mod (.int i) (.int j) S = .ok (.int (i % j)) S := by simp [binD, h]
theorem pow_i {S : Store} {i j : Int} (h : 0 ≤ j ∧ j ≤ 1000000 ∧ i.natAbs < 2 ^ 64) : binD .pow (.int i) (.int j) S = .ok (.int (i ^ j.toNat)) S := by simp only [binD]; rw [if_pos h]
@[simp] theorem place_nat (n i : Nat) : place n (i : Int) = if i < n then some i else none := by
  unfold place
  rw [if_pos (Int.natCast_nonneg i)]
  by_cases h : i < n
  · rw [if_pos h, if_pos (by omega)]; simp
  · rw [if_neg h, if_neg (by omega)]
theorem place_q {α : Type} (xs : List α) (i : Nat) : ((place xs.length (i : Int)).bind fun j => xs[j]?) = xs[i]? := by
  rw [place_nat]
  by_cases h : i < xs.length
  · rw [if_pos h]; rfl
  · rw [if_neg h, List.getElem?_eq_none (by omega)]; rfl
@[simp] theorem idx_t (xs : List D) (i : Nat) (S : Store) : idxD (.tup xs) (.int (i : Int)) S = Res.of xs[i]? S := by simp only [idxD]; rw [place_q]
@[simp] theorem idx_t0 (xs : List D) (S : Store) : idxD (.tup xs) (.int 0) S = Res.of xs[0]? S := idx_t xs 0 S
@[simp] theorem idx_t1 (xs : List D) (S : Store) : idxD (.tup xs) (.int 1) S = Res.of xs[1]? S := idx_t xs 1 S
theorem idx_l {n : Nat} {xs : List D} {S : Store} (h : get S n = some (.lst xs)) (i : Nat) : idxD (.obj n) (.int (i : Int)) S = Res.of xs[i]? S := by simp only [idxD, h]; rw [place_q]
theorem idx_l0 {n : Nat} {xs : List D} {S : Store} (h : get S n = some (.lst xs)) : idxD (.obj n) (.int 0) S = Res.of xs[0]? S := idx_l h 0
theorem idx_ln {n : Nat} {xs : List D} {S : Store} (k : Nat) (h : get S n = some (.lst xs)) : idxD (.obj n) (.int (no_index (OfNat.ofNat k))) S = Res.of xs[k]? S := idx_l h k
@[simp] theorem idx_s {s : List Nat} {S : Store} (h : s.length ≤ 16777216) (i : Nat) : idxD (.str s) (.int (i : Int)) S = Res.of (s[i]?.map fun c => .str [c]) S := by simp only [idxD, lineN, h, if_true]; rw [place_q]
@[simp] theorem idx_s0 {s : List Nat} {S : Store} (h : s.length ≤ 16777216) : idxD (.str s) (.int 0) S = Res.of (s[0]?.map fun c => .str [c]) S := idx_s h 0
/-- a place given by a whole number that is not negative -/
theorem idx_sz {s : List Nat} {S : Store} {i : Int} (h : s.length ≤ 16777216) (h0 : 0 ≤ i) : idxD (.str s) (.int i) S = Res.of (s[i.toNat]?.map fun c => .str [c]) S := by
  have := idx_s (S := S) h i.toNat
  rwa [Int.toNat_of_nonneg h0] at this
theorem idx_tz {s : List D} {S : Store} {i : Int} (h0 : 0 ≤ i) : idxD (.tup s) (.int i) S = Res.of s[i.toNat]? S := by
  have := idx_t s i.toNat S
  rwa [Int.toNat_of_nonneg h0] at this
@[simp] theorem items_s (s S) : items (.str s) S = some (List.map (fun c => D.str [c]) s, none) := Eq.trans rfl rfl
@[simp] theorem items_t (s S) : items (.tup s) S = some (s, none) := Eq.trans rfl rfl
theorem items_l {S n xs} (h : get S n = some (.lst xs)) : items (.obj n) S = some (xs, some n) := by simp [items, h]
@[simp] theorem seqD_t (s S) : seqD (.tup s) S = some s := Eq.trans rfl rfl
theorem seqD_l {S n xs} (h : get S n = some (.lst xs)) : seqD (.obj n) S = some xs := by simp [seqD, h]
@[simp] theorem isLs_o (n S) : isLs (.obj n) S = true := Eq.trans rfl rfl
theorem isL_l {S n xs} (h : get S n = some (.lst xs)) : isL (.obj n) S = true := by simp [isL, h]
@[simp] theorem isS_s (s) : isS (.str s) = true := Eq.trans rfl rfl
@[simp] theorem rngL_nat (n : Nat) : rngL 0 (n : Int) = (List.range n).map fun i => .int (i : Int) := by simp [rngL]
theorem rngL_z (n : Int) : rngL 0 n = (List.range n.toNat).map fun i => .int (i : Int) := by simp [rngL]
@[simp] theorem rngL_ofNat (n : Nat) : rngL 0 (no_index (OfNat.ofNat n)) = (List.range n).map fun i => .int (i : Int) := rngL_nat n
@[simp] theorem bind_v (i d env) : bind1 (.v i) d env = some (env.set i (some d)) := Eq.trans rfl rfl
@[simp] theorem bind_2 (i j a b env) : bind1 (.tup [i, j]) (.tup [a, b]) env = some ((env.set i (some a)).set j (some b)) := Eq.trans rfl rfl
@[simp] theorem ix_v (i) : Tg.ix (.v i) = [i] := Eq.trans rfl rfl
@[simp] theorem ix_t (is) : Tg.ix (.tup is) = is := Eq.trans rfl rfl
@[simp] theorem kill_nil (env) : kill [] env = env := Eq.trans rfl rfl
@[simp] theorem kill_cons (k ks env) : kill (k :: ks) env = kill ks (env.set k none) := Eq.trans rfl rfl
@[simp] theorem bls_map {α : Type} (f : α → Bool) (xs : List α) : bls (xs.map fun x => .bl (f x)) = some (xs.map f) := by
  induction xs with
  | nil => rfl
  | cons x r ih => simp [bls, ih]
@[simp] theorem intsD_map {α : Type} (f : α → Int) (xs : List α) : intsD (xs.map fun x => .int (f x)) = some (xs.map f) := by
  induction xs with
  | nil => rfl
  | cons x r ih => simp [intsD, ih]
@[simp] theorem strsD_map {α : Type} (f : α → List Nat) (xs : List α) : strsD (xs.map fun x => .str (f x)) = some (xs.map f) := by
  induction xs with
  | nil => rfl
  | cons x r ih => simp [strsD, ih]
theorem small_nat (n : Nat) : small (n : Int) = decide (n < 2 ^ 62) := by
  unfold small
  rw [Bool.eq_iff_iff]; simp only [Bool.and_eq_true, decide_eq_true_eq]; omega
theorem app_l {S : Store} {n : Nat} {xs : List D} {v : D} (h : get S n = some (.lst xs)) (hl : xs.length < 16777216) : appD (.obj n) v S = .ok .non (put S n (.lst (xs ++ [v]))) := by simp [appD, h, hl]
@[simp] theorem put_self (o x : SO) (S : Store) : put (o :: S) S.length x = x :: S := by simp [put]
theorem put_old {S : Store} {n : Nat} {o x : SO} (h : n < S.length) : put (o :: S) n x = o :: put S n x := by simp only [put]; rw [if_neg (by omega)]
@[simp] theorem put_len (S : Store) (n : Nat) (x : SO) : (put S n x).length = S.length := by
  induction S with
  | nil => rfl
  | cons o r ih => simp only [put]; split <;> simp [ih]
@[simp] theorem bel_non (n) : D.bel n .non = true := by rw [D.bel]; all_goals simp
@[simp] theorem bel_bl (n b) : D.bel n (.bl b) = true := by rw [D.bel]; all_goals simp
@[simp] theorem bel_int (n b) : D.bel n (.int b) = true := by rw [D.bel]; all_goals simp
@[simp] theorem bel_str (n b) : D.bel n (.str b) = true := by rw [D.bel]; all_goals simp
@[simp] theorem bel_tup (n b) : D.bel n (.tup b) = D.bels n b := by rw [D.bel]
@[simp] theorem bel_obj (n b) : D.bel n (.obj b) = decide (b < n) := by
  rw [D.bel, Bool.eq_iff_iff]; simp [Nat.blt_eq]
@[simp] theorem bels_nil (n) : D.bels n [] = true := by rw [D.bels]
@[simp] theorem bels_cons (n x r) : D.bels n (x :: r) = (D.bel n x && D.bels n r) := by rw [D.bels]
theorem belsA (n : Nat) (xs : List D) : D.bels n xs = xs.all (D.bel n) := by
  induction xs with
  | nil => simp
  | cons x r ih => simp [ih]
@[simp] theorem bels_app (n : Nat) (xs ys : List D) : D.bels n (xs ++ ys) = (D.bels n xs && D.bels n ys) := by simp [belsA]
theorem belsM {α : Type} {n : Nat} {f : α → D} {xs : List α} (h : ∀ x ∈ xs, D.bel n (f x) = true) : D.bels n (xs.map f) = true := by
  rw [belsA]; simpa using h
@[simp] theorem bels_str {α : Type} (n : Nat) (f : α → List Nat) (xs : List α) : D.bels n (xs.map fun x => .str (f x)) = true := belsM fun x _ => bel_str _ _
@[simp] theorem bels_int {α : Type} (n : Nat) (f : α → Int) (xs : List α) : D.bels n (xs.map fun x => .int (f x)) = true := belsM fun x _ => bel_int _ _
@[simp] theorem bels_str' (n : Nat) (xs : List (List Nat)) : D.bels n (xs.map D.str) = true := belsM fun x _ => bel_str _ _
@[simp] theorem bels_int' (n : Nat) (xs : List Int) : D.bels n (xs.map D.int) = true := belsM fun x _ => bel_int _ _
@[simp] theorem obel_lst (n xs) : SO.bel n (.lst xs) = D.bels n xs := Eq.trans rfl rfl
@[simp] theorem envBel_nil (n) : envBel n [] = true := Eq.trans rfl rfl
@[simp] theorem envBel_some (n d r) : envBel n (some d :: r) = (D.bel n d && envBel n r) := Eq.trans rfl rfl
@[simp] theorem envBel_none (n r) : envBel n (none :: r) = envBel n r := by simp [envBel]
/-- handles below a smaller number -/
theorem bel_mono {n m : Nat} (h : n ≤ m) : ∀ d : D, D.bel n d = true → D.bel m d = true
  | .obj b, hb => by simp at hb ⊢; omega
  | .tup xs, hb => by
    simp only [bel_tup, belsA, List.all_eq_true] at hb ⊢
    exact fun x hx => bel_mono h x (hb x hx)
  | .exc c xs, hb => by
    rw [D.bel, belsA, List.all_eq_true] at hb ⊢
    exact fun x hx => bel_mono h x (hb x hx)
  | .non, _ => bel_non _
  | .bl _, _ => bel_bl _ _
  | .int _, _ => bel_int _ _
  | .str _, _ => bel_str _ _
theorem bels_mono {n m : Nat} (h : n ≤ m) {xs : List D} (hb : D.bels n xs = true) : D.bels m xs = true := by
  rw [belsA, List.all_eq_true] at hb ⊢
  exact fun x hx => bel_mono h x (hb x hx)
end Pw
namespace Pw
@[simp] theorem bls_nil : bls [] = some [] := Eq.trans rfl rfl
@[simp] theorem bls_cons (b r) : bls (.bl b :: r) = (bls r).map (b :: ·) := Eq.trans rfl rfl
@[simp] theorem intsD_nil : intsD [] = some [] := Eq.trans rfl rfl
@[simp] theorem intsD_cons (b r) : intsD (.int b :: r) = (intsD r).map (b :: ·) := Eq.trans rfl rfl
@[simp] theorem strsD_nil : strsD [] = some [] := Eq.trans rfl rfl
@[simp] theorem strsD_cons (b r) : strsD (.str b :: r) = (strsD r).map (b :: ·) := Eq.trans rfl rfl
mutual
/-- a value that the looks at kinds can take: no exception in it, texts and tuples of a bearable length -/
def okE : D → Bool
  | .str s => decide (s.length ≤ 16777216)
  | .tup xs => decide (xs.length ≤ 16777216) && okEs xs
  | .exc _ _ => false
  | _ => true
def okEs : List D → Bool
  | [] => true
  | x :: r => okE x && okEs r
end
@[simp] theorem okE_non : okE .non = true := by rw [okE] <;> simp
@[simp] theorem okE_bl (b) : okE (.bl b) = true := by rw [okE] <;> simp
@[simp] theorem okE_int (b) : okE (.int b) = true := by rw [okE] <;> simp
@[simp] theorem okE_obj (b) : okE (.obj b) = true := by rw [okE] <;> simp
@[simp] theorem okE_str (s) : okE (.str s) = decide (List.length s ≤ 16777216) := by rw [okE]
@[simp] theorem okE_tup (s) : okE (.tup s) = (decide (List.length s ≤ 16777216) && okEs s) := by rw [okE]
@[simp] theorem okE_exc (c s) : okE (.exc c s) = false := by rw [okE]
@[simp] theorem okEs_nil : okEs [] = true := by rw [okEs]
@[simp] theorem okEs_cons (x r) : okEs (x :: r) = (okE x && okEs r) := by rw [okEs]
theorem okEs_all (xs : List D) : okEs xs = xs.all okE := by
  induction xs with
  | nil => simp
  | cons x r ih => simp [ih]
@[simp] theorem okEs_app (xs ys : List D) : okEs (xs ++ ys) = (okEs xs && okEs ys) := by simp [okEs_all]
theorem okEs_at {xs : List D} (h : okEs xs = true) {i : Nat} {x : D} (hx : xs[i]? = some x) : okE x = true := by
  rw [okEs_all, List.all_eq_true] at h
  exact h x (List.mem_of_getElem? hx)
end Pw
namespace Pw
@[simp] theorem fin_0 {S : Store} {d : D} (h : D.bel S.length d = true) : fin S S d = .ok d S := fin_val (pre := []) rfl h
@[simp] theorem fin_1 {S : Store} {d : D} {a : SO} (h : D.bel S.length d = true) : fin S (a :: S) d = .ok d S := fin_val (pre := [a]) rfl h
@[simp] theorem fin_2 {S : Store} {d : D} {a b : SO} (h : D.bel S.length d = true) : fin S (a :: b :: S) d = .ok d S := fin_val (pre := [a, b]) rfl h
@[simp] theorem fin_3 {S : Store} {d : D} {a b c : SO} (h : D.bel S.length d = true) : fin S (a :: b :: c :: S) d = .ok d S := fin_val (pre := [a, b, c]) rfl h
@[simp] theorem fin_4 {S : Store} {d : D} {a b c e : SO} (h : D.bel S.length d = true) : fin S (a :: b :: c :: e :: S) d = .ok d S := fin_val (pre := [a, b, c, e]) rfl h
@[simp] theorem fin_o (S : Store) (o : SO) : fin S (o :: S) (.obj S.length) = .ok (.obj S.length) (o :: S) := by
  unfold fin
  simp
@[simp] theorem idx_tp (xs : List D) (i : Nat) (S : Store) : idxD (.tup xs) (.int ((i : Int) + 1)) S = Res.of xs[i + 1]? S := idx_t xs (i + 1) S
theorem idx_lp {n : Nat} {xs : List D} {S : Store} (h : get S n = some (.lst xs)) (i : Nat) : idxD (.obj n) (.int ((i : Int) + 1)) S = Res.of xs[i + 1]? S := idx_l h (i + 1)
@[simp] theorem idx_sp {s : List Nat} {S : Store} (h : s.length ≤ 16777216) (i : Nat) : idxD (.str s) (.int ((i : Int) + 1)) S = Res.of (s[i + 1]?.map fun c => .str [c]) S := idx_s h (i + 1)
end Pw
namespace Pw
theorem log2_lt {n k : Nat} (h : n < 2 ^ k) (hk : 0 < k) : n.log2 < k := by
  by_cases h0 : n = 0
  · subst h0; simpa using hk
  · exact (Nat.log2_lt h0).mpr h
/-- two factors below 2^64 -/
@[simp] theorem mul_sm {S : Store} {i j : Int} (h : -18446744073709551616 < i ∧ i < 18446744073709551616) (h' : -18446744073709551616 < j ∧ j < 18446744073709551616) : binD .mul (.int i) (.int j) S = .ok (.int (i * j)) S := by
  have a : i.natAbs.log2 < 64 := log2_lt (by omega) (by omega)
  have b : j.natAbs.log2 < 64 := log2_lt (by omega) (by omega)
  exact mul_i (by omega)
@[simp] theorem fdiv_sm {S : Store} {i j : Int} (h : 0 < j ∧ j < 18446744073709551616) : binD .fdiv (.int i) (.int j) S = .ok (.int (i / j)) S := by
  have b : j.natAbs.log2 < 64 := log2_lt (by omega) (by omega)
  exact fdiv_i h.1 (by omega)
@[simp] theorem rngL_neg (n : Int) (h : n ≤ 0) : rngL 0 n = [] := by simp [rngL]; omega
@[simp] theorem bels_tup {α : Type} (n : Nat) (f : α → List D) (xs : List α) : D.bels n (xs.map fun x => .tup (f x)) = xs.all fun x => D.bels n (f x) := by
  rw [belsA]; simp [Function.comp_def]
/-- the store's newest object changed -/
@[simp] theorem okOld_cons (n a r b t) : okOld n (a :: r) (b :: t) = ((decide (a = b) || SO.bel n b) && okOld n r t) := Eq.trans rfl rfl
theorem trim_new {S pre : Store} {a b : SO} {env : Env} (he : envBel (S.length + 1) env = true) (ho : SO.bel (S.length + 1) b = true) : trim (a :: S) (pre ++ b :: S) env = b :: S := trim_chg rfl rfl he (by simp [ho])
end Pw
namespace Pw
theorem range_at {f : Nat → D} {m i : Nat} {x : D} (h : ((List.range m).map f)[i]? = some x) : i < m ∧ x = f i := by
  rw [List.getElem?_map] at h
  have hi : i < m := by
    have := (List.getElem?_eq_some_iff.mp (Option.map_eq_some_iff.mp h).choose_spec.1).1
    simpa using this
  rw [List.getElem?_range hi] at h
  exact ⟨hi, by simpa using h.symm⟩
@[simp] theorem isL_self (xs : List D) (S : Store) : isL (.obj S.length) (.lst xs :: S) = true := isL_l (get_self _ _)
@[simp] theorem app_self {xs : List D} {S : Store} {v : D} (h : xs.length < 16777216) : appD (.obj S.length) v (.lst xs :: S) = .ok .non (.lst (xs ++ [v]) :: S) := by rw [app_l (get_self _ _) h, put_self]
@[simp] theorem idx_self (xs : List D) (S : Store) (i : Nat) : idxD (.obj S.length) (.int (i : Int)) (.lst xs :: S) = Res.of xs[i]? (.lst xs :: S) := idx_l (get_self _ _) i
@[simp] theorem get_under (a b : SO) (S : Store) : get (a :: b :: S) S.length = some b := getOld (get_self _ _)
@[simp] theorem get_under2 (a b c : SO) (S : Store) : get (a :: b :: c :: S) S.length = some c := getOld (getOld (get_self _ _))
@[simp] theorem get_over (a b : SO) (S : Store) : get (a :: b :: S) (S.length + 1) = some a := get_self a (b :: S)
@[simp] theorem get_over2 (a b c : SO) (S : Store) : get (a :: b :: c :: S) (S.length + 1) = some b := getOld (get_self b (c :: S))
@[simp] theorem get_over3 (a b c : SO) (S : Store) : get (a :: b :: c :: S) (S.length + 2) = some a := get_self a (b :: c :: S)
theorem den_post {p : Prg} {n i : Nat} {f : Fn} {ds : List D} {S : Store} {α : Type} (A : α → Prop) (R : α → Res D) (hf : p.fns[i]? = some f) (hl : ds.length = f.np)
    (h : wp (evSs ⟨den p n, p.G, p.Cl, none⟩ f.body (ds.map some ++ List.replicate (f.nl - f.np) none) S) fun fl S' => ∃ a, A a ∧ outF S fl S' = R a) : ∃ a, A a ∧ den p (n + 1) none i ds S = R a := by
  revert h
  have H : ∀ a, wp (evSs ⟨den p n, p.G, p.Cl, none⟩ f.body (ds.map some ++ List.replicate (f.nl - f.np) none) S) (fun fl S' => outF S fl S' = R a) → den p (n + 1) none i ds S = R a := fun a => den_wp hf hl
  revert H
  cases evSs ⟨den p n, p.G, p.Cl, none⟩ f.body (ds.map some ++ List.replicate (f.nl - f.np) none) S with
  | exc => exact fun _ h => nomatch h
  | bad => exact fun _ h => nomatch h
  | ok fl S' => intro H h; rw [wp_ok] at h; obtain ⟨a, h1, h2⟩ := h; exact ⟨a, h1, H a (.ok _ _ _ h2)⟩
end Pw
namespace Pw
theorem pick_s {l : List Nat} {z : Int} (hl : l.length ≤ 16777216) (h : 0 ≤ z ∧ z < l.length) : ∃ c, c ∈ l ∧ ∀ S, idxD (.str l) (.int z) S = .ok (.str [c]) S := by
  have hz : z.toNat < l.length := by omega
  exact ⟨l[z.toNat], List.getElem_mem hz, fun S => by rw [idx_sz hl h.1, List.getElem?_eq_getElem hz]; rfl⟩
theorem clip_some {n d : Nat} {i : Int} (h : 0 ≤ i) : clip n d (some i) = min i.toNat n := if_neg (by omega)
theorem cut_to {α : Type} (xs : List α) {i : Int} (h : 0 ≤ i) : cut xs none (some i) = xs.take i.toNat := by
  show (xs.drop 0).take (clip _ _ (some i) - 0) = _
  rw [clip_some h]
  by_cases h' : i.toNat ≤ xs.length
  · rw [Nat.min_eq_left h']; simp
  · rw [Nat.min_eq_right (by omega)]; simp [List.take_of_length_le (show xs.length ≤ i.toNat by omega)]
theorem cut_from {α : Type} (xs : List α) {i : Int} (h : 0 ≤ i) : cut xs (some i) none = xs.drop i.toNat := by
  show (xs.drop (clip _ _ (some i))).take (xs.length - clip _ _ (some i)) = _
  rw [clip_some h]
  by_cases h' : i.toNat ≤ xs.length
  · rw [Nat.min_eq_left h', List.take_of_length_le (by simp)]
  · rw [Nat.min_eq_right (by omega)]; simp [List.drop_of_length_le (show xs.length ≤ i.toNat by omega)]
theorem cut_mid {α : Type} (xs : List α) {i j : Int} (h : 0 ≤ i) (hj : 0 ≤ j) : cut xs (some i) (some j) = (xs.drop i.toNat).take (j.toNat - i.toNat) := by
  show (xs.drop (clip _ _ (some i))).take (clip _ _ (some j) - clip _ _ (some i)) = _
  rw [clip_some h, clip_some hj]
  by_cases h' : i.toNat ≤ xs.length
  · rw [Nat.min_eq_left h']
    by_cases h2 : j.toNat ≤ xs.length
    · rw [Nat.min_eq_left h2]
    · rw [Nat.min_eq_right (by omega), List.take_of_length_le (by simp), List.take_of_length_le (by simp; omega)]
  · rw [Nat.min_eq_right (by omega : xs.length ≤ i.toNat), List.drop_of_length_le (by omega), List.drop_of_length_le (by omega)]; simp
@[simp] theorem sl_sto {s : List Nat} {S : Store} {i : Int} (h : s.length ≤ 16777216) (hi : 0 ≤ i) : slD (.str s) none (some (.int i)) S = .ok (.str (s.take i.toNat)) S := by simp [slD, intO, h, cut_to _ hi]
@[simp] theorem sl_sfr {s : List Nat} {S : Store} {i : Int} (h : s.length ≤ 16777216) (hi : 0 ≤ i) : slD (.str s) (some (.int i)) none S = .ok (.str (s.drop i.toNat)) S := by simp [slD, intO, h, cut_from _ hi]
@[simp] theorem sl_smi {s : List Nat} {S : Store} {i j : Int} (h : s.length ≤ 16777216) (hi : 0 ≤ i) (hj : 0 ≤ j) : slD (.str s) (some (.int i)) (some (.int j)) S = .ok (.str ((s.drop i.toNat).take (j.toNat - i.toNat))) S := by simp [slD, intO, h, cut_mid _ hi hj]
@[simp] theorem sl_tto {s : List D} {S : Store} {i : Int} (hi : 0 ≤ i) : slD (.tup s) none (some (.int i)) S = .ok (.tup (s.take i.toNat)) S := by simp [slD, intO, cut_to _ hi]
@[simp] theorem sl_tfr {s : List D} {S : Store} {i : Int} (hi : 0 ≤ i) : slD (.tup s) (some (.int i)) none S = .ok (.tup (s.drop i.toNat)) S := by simp [slD, intO, cut_from _ hi]
@[simp] theorem sl_tmi {s : List D} {S : Store} {i j : Int} (hi : 0 ≤ i) (hj : 0 ≤ j) : slD (.tup s) (some (.int i)) (some (.int j)) S = .ok (.tup ((s.drop i.toNat).take (j.toNat - i.toNat))) S := by simp [slD, intO, cut_mid _ hi hj]
theorem sl_lto {n : Nat} {s : List D} {S : Store} {i : Int} (h : get S n = some (.lst s)) (hi : 0 ≤ i) : slD (.obj n) none (some (.int i)) S = .ok (.obj S.length) (.lst (s.take i.toNat) :: S) := by simp [slD, intO, h, cut_to _ hi]
theorem sl_lmi {n : Nat} {s : List D} {S : Store} {i j : Int} (h : get S n = some (.lst s)) (hi : 0 ≤ i) (hj : 0 ≤ j) : slD (.obj n) (some (.int i)) (some (.int j)) S = .ok (.obj S.length) (.lst ((s.drop i.toNat).take (j.toNat - i.toNat)) :: S) := by simp [slD, intO, h, cut_mid _ hi hj]
end Pw
namespace Pw
/-- what holds between the rounds of a loop: the names and the store by what changes -/
def Inv {α : Type} (E : α → Env) (T : α → Store) (A : Nat → α → Prop) (i : Nat) (env : Env) (S : Store) : Prop := ∃ a, A i a ∧ env = E a ∧ S = T a
theorem inv_cg {α : Type} {E : α → Env} {T : α → Store} {A : Nat → α → Prop} {i : Nat} {env env' : Env} {S S' : Store} (he : env = env') (hS : S = S') : Inv E T A i env S = Inv E T A i env' S' := by rw [he, hS]
theorem wp_forI {C : Ctx} {t : Tg} {body : List Stm} {ks : List Nat} {o : Option Nat} {Q : Flow → Store → Prop} {xs : List D} {α : Type} (E : α → Env) (T : α → Store) (A : Nat → α → Prop) (a0 : α) {env : Env} {S : Store}
    (h0 : A 0 a0) (he : env = E a0) (hS : S = T a0) (hg : ∀ a, stands o (obAt o S) (T a) = true)
    (hs : ∀ i x a, xs[i]? = some x → A i a → wp (match bind1 t x (E a) with | some env => evSs C body env (T a) | none => .bad) (rnd Q ks (T a) (Inv E T A (i + 1))))
    (hq : ∀ a, A xs.length a → Q (.nx (E a)) (T a)) : wp (forK C t body ks o xs env S) Q :=
  wp_for (fun i env S => Inv E T A i env S) ⟨a0, h0, he, hS⟩ (by rintro i env S' ⟨a, _, _, rfl⟩; exact hg a) (by rintro i x env S' hx ⟨a, ha, rfl, rfl⟩; exact hs i x a hx ha) (by rintro env S' ⟨a, ha, rfl, rfl⟩; exact hq a ha)
/-- the same for a row of n turns -/
theorem wp_forR {C : Ctx} {j : Nat} {body : List Stm} {ks : List Nat} {Q : Flow → Store → Prop} {α : Type} (n : Nat) (E : α → Env) (T : α → Store) (A : Nat → α → Prop) (a0 : α) {env : Env} {S : Store}
    (h0 : A 0 a0) (he : env = E a0) (hS : S = T a0)
    (hs : ∀ i a, i < n → A i a → wp (evSs C body ((E a).set j (some (.int i))) (T a)) (rnd Q ks (T a) (Inv E T A (i + 1))))
    (hq : ∀ a, A n a → Q (.nx (E a)) (T a)) : wp (forK C (.v j) body ks none ((List.range n).map fun i : Nat => D.int (i : Int)) env S) Q :=
  wp_forI E T A a0 h0 he hS (fun _ => rfl) (fun i x a hx ha => by obtain ⟨hi, rfl⟩ := range_at hx; exact hs i a hi ha) (fun a ha => hq a (by simpa using ha))
theorem wp_forRz {C : Ctx} {j : Nat} {body : List Stm} {ks : List Nat} {Q : Flow → Store → Prop} {α : Type} {z : Int} (n : Nat) (hz : z.toNat = n) (E : α → Env) (T : α → Store) (A : Nat → α → Prop) (a0 : α) {env : Env} {S : Store}
    (h0 : A 0 a0) (he : env = E a0) (hS : S = T a0)
    (hs : ∀ i a, i < n → A i a → wp (evSs C body ((E a).set j (some (.int i))) (T a)) (rnd Q ks (T a) (Inv E T A (i + 1))))
    (hq : ∀ a, A n a → Q (.nx (E a)) (T a)) : wp (forK C (.v j) body ks none (rngL 0 z) env S) Q := by
  rw [rngL_z, hz]; exact wp_forR n E T A a0 h0 he hS hs hq
end Pw
namespace Pw
@[simp] theorem fin_o2 {S : Store} {o a : SO} (ho : SO.bel S.length o = true) : fin S (o :: a :: S) (.obj (S.length + 1)) = .ok (.obj S.length) (o :: S) := fin_obj (pre := [o, a]) rfl (by omega) (get_self o (a :: S)) ho
@[simp] theorem fin_o3 {S : Store} {o a b : SO} (ho : SO.bel S.length o = true) : fin S (o :: a :: b :: S) (.obj (S.length + 1 + 1)) = .ok (.obj S.length) (o :: S) := fin_obj (pre := [o, a, b]) rfl (by omega) (get_self o (a :: b :: S)) ho
@[simp] theorem fin_u {S : Store} {o a : SO} (ho : SO.bel S.length o = true) : fin S (a :: o :: S) (.obj S.length) = .ok (.obj S.length) (o :: S) := fin_obj (pre := [a, o]) rfl (by omega) (get_under a o S) ho
@[simp] theorem fin_u2 {S : Store} {o a b : SO} (ho : SO.bel S.length o = true) : fin S (a :: b :: o :: S) (.obj S.length) = .ok (.obj S.length) (o :: S) := fin_obj (pre := [a, b, o]) rfl (by omega) (get_under2 a b o S) ho
@[simp] theorem fin_u1 {S : Store} {o a b : SO} (ho : SO.bel S.length o = true) : fin S (a :: o :: b :: S) (.obj (S.length + 1)) = .ok (.obj S.length) (o :: S) := fin_obj (pre := [a, o, b]) rfl (by omega) (get_over2 a o b S) ho
theorem setIx_d {S : Store} {n : Nat} {kvs : List (D × D)} {k v : D} (h : get S n = some (.dct kvs)) (hk : isKey k = true) (hl : kvs.length < 100000) : setIxD (.obj n) k v S = some (put S n (.dct (putD k v kvs))) := by simp [setIxD, h, hk, hl]
theorem setIx_l {S : Store} {n : Nat} {xs : List D} {i : Nat} {v : D} (h : get S n = some (.lst xs)) (hi : i < xs.length) : setIxD (.obj n) (.int (i : Int)) v S = some (put S n (.lst (xs.set i v))) := by simp [setIxD, h, hi]
@[simp] theorem isKey_s (s) : isKey (.str s) = true := rfl
/-- the keys of a dict that holds names -/
def nmD (ks : List (List Nat)) : List (D × D) := ks.map fun s => (.str s, .bl true)
@[simp] theorem nmD_len (ks : List (List Nat)) : (nmD ks).length = ks.length := by simp [nmD]
@[simp] theorem nmD_keys (ks : List (List Nat)) : (nmD ks).map (·.1) = ks.map .str := by simp [nmD, Function.comp_def]
theorem putD_nm (s : List Nat) : ∀ ks : List (List Nat), putD (.str s) (.bl true) (nmD ks) = nmD (if s ∈ ks then ks else ks ++ [s])
  | [] => rfl
  | k :: r => by
    show (if D.str k = D.str s then _ else _) = _
    by_cases h : k = s
    · subst h; simp [nmD]
    · have ih := putD_nm s r
      have hs : s ≠ k := fun e => h e.symm
      simp only [nmD] at ih
      simp only [D.str.injEq, h, if_false, List.mem_cons, hs, false_or, ih]
      split <;> simp [nmD]
theorem keysD_nm {S : Store} {n : Nat} {ks : List (List Nat)} (h : get S n = some (.dct (nmD ks))) (hl : ks.length < 64) : keysD (.obj n) S = some (ks.map .str) := by simp [keysD, h, hl, Function.comp_def, nmD]
theorem sortD_s {ts : List (List Nat)} (h : ts.length < 64) : sortD (ts.map .str) = some ((ts.mergeSort leL).map .str) := by
  cases ts with
  | nil => simp [sortD, intsD]
  | cons t r =>
    have e : strsD ((t :: r).map D.str) = some (t :: r) := by simpa using strsD_map (fun x => x) (t :: r)
    have i : intsD ((t :: r).map D.str) = none := rfl
    simp only [sortD, i, e, h, if_true]
theorem leL_trans (a b c : List Nat) (h1 : leL a b = true) (h2 : leL b c = true) : leL a c = true := by
  simp only [leL, Bool.not_eq_true', decide_eq_false_iff_not, List.not_lt] at *
  exact List.le_trans h1 h2
theorem leL_total (a b : List Nat) : (leL a b || leL b a) = true := by
  simp only [leL, Bool.or_eq_true, Bool.not_eq_true', decide_eq_false_iff_not, List.not_lt]
  exact List.le_total a b
theorem sort_asc {ts : List (List Nat)} (hn : ts.Nodup) : (ts.mergeSort leL).Pairwise (· < ·) := by
  have h1 := List.pairwise_mergeSort leL_trans leL_total ts
  have h2 : (ts.mergeSort leL).Nodup := (List.mergeSort_perm ts leL).nodup_iff.mpr hn
  refine (h1.and h2).imp fun {a b} h => ?_
  obtain ⟨h, hne⟩ := h
  simp only [leL, Bool.not_eq_true', decide_eq_false_iff_not, List.not_lt] at h
  rcases Decidable.em (a < b) with h' | h'
  · exact h'
  · exact absurd (List.le_antisymm h (List.not_lt.mp h')) hne
end Pw
namespace Pw
@[simp] theorem idx_un (a : SO) (xs : List D) (S : Store) (i : Nat) : idxD (.obj S.length) (.int (i : Int)) (a :: .lst xs :: S) = Res.of xs[i]? (a :: .lst xs :: S) := idx_l (get_under _ _ _) i
@[simp] theorem idx_un2 (a b : SO) (xs : List D) (S : Store) (i : Nat) : idxD (.obj S.length) (.int (i : Int)) (a :: b :: .lst xs :: S) = Res.of xs[i]? (a :: b :: .lst xs :: S) := idx_l (get_under2 _ _ _ _) i
end Pw
namespace Pw
@[simp] theorem pairsD_nil : pairsD [] = some [] := Eq.trans rfl rfl
@[simp] theorem pairsD_cons (k v r) : pairsD (k :: v :: r) = if isKey k then (pairsD r).map ((k, v) :: ·) else none := Eq.trans rfl rfl
@[simp] theorem nmD_nil : nmD [] = [] := Eq.trans rfl rfl
end Pw
namespace Pw
@[simp] theorem put_over (a b x : SO) (S : Store) : put (a :: b :: S) (S.length + 1) x = x :: b :: S := put_self a x (b :: S)
@[simp] theorem put_under (a b x : SO) (S : Store) : put (a :: b :: S) S.length x = a :: x :: S := by simp [put]
@[simp] theorem put_under2 (a b c x : SO) (S : Store) : put (a :: b :: c :: S) S.length x = a :: b :: x :: S := by simp [put]; omega
@[simp] theorem put_over2 (a b c x : SO) (S : Store) : put (a :: b :: c :: S) (S.length + 1) x = a :: x :: c :: S := by simp [put]
@[simp] theorem put_over3 (a b c x : SO) (S : Store) : put (a :: b :: c :: S) (S.length + 2) x = x :: b :: c :: S := by simp [put]
end Pw
namespace Pw
@[simp high] theorem setIx_n0 {S : Store} {ks : List (List Nat)} {s : List Nat} (h : ks.length < 100000) : setIxD (.obj S.length) (.str s) (.bl true) (.dct (nmD ks) :: S) = some (.dct (nmD (if s ∈ ks then ks else ks ++ [s])) :: S) := by
  rw [setIx_d (get_self _ _) rfl (by simpa using h), put_self, putD_nm]
@[simp high] theorem setIx_n1 {S : Store} {b : SO} {ks : List (List Nat)} {s : List Nat} (h : ks.length < 100000) : setIxD (.obj (S.length + 1)) (.str s) (.bl true) (.dct (nmD ks) :: b :: S) = some (.dct (nmD (if s ∈ ks then ks else ks ++ [s])) :: b :: S) := by
  rw [setIx_d (get_over _ _ _) rfl (by simpa using h), put_over, putD_nm]
end Pw
namespace Pw
theorem mul_t {S : Store} {xs : List D} {j : Int} (h : 0 < xs.length ∧ xs.length ≤ 1000) (h' : 1 ≤ j ∧ j ≤ 1000) : binD .mul (.tup xs) (.int j) S = .ok (.tup (List.replicate j.toNat xs).flatten) S := by
  show (if 0 < xs.length ∧ xs.length ≤ 1000 ∧ 1 ≤ j ∧ j ≤ 1000 then Res.ok (D.tup (List.replicate j.toNat xs).flatten) S else .bad) = _
  rw [if_pos ⟨h.1, h.2, h'.1, h'.2⟩]
theorem mul_t1 {S : Store} {x : D} {n : Nat} (h' : 1 ≤ n ∧ n ≤ 1000) : binD .mul (.tup [x]) (.int (n : Int)) S = .ok (.tup (List.replicate n x)) S := by
  rw [mul_t (by simp) (by omega), Int.toNat_natCast]
  congr 2
  induction n with
  | zero => rfl
  | succ n ih => 
    rw [List.replicate_succ, List.flatten_cons, List.replicate_succ]
    cases n with
    | zero => rfl
    | succ n => rw [ih (by omega)]; rfl
theorem mul_l1 {S : Store} {x : D} {n k : Nat} (hg : get S k = some (.lst [x])) (h' : n ≤ 1000) : binD .mul (.obj k) (.int (n : Int)) S = .ok (.obj S.length) (.lst (List.replicate n x) :: S) := by
  show (match get S k with
    | some (.lst xs) => if -(2 ^ 62) ≤ (n : Int) ∧ (n : Int) ≤ line ∧ xs.length * (n : Int).toNat ≤ line then Res.ok (D.obj S.length) (.lst (List.replicate (n : Int).toNat xs).flatten :: S) else .bad
    | _ => .bad) = _
  rw [hg]
  have e : (List.replicate n [x]).flatten = List.replicate n x := by
    clear h'
    induction n with
    | zero => rfl
    | succ n ih => rw [List.replicate_succ, List.flatten_cons, ih, List.replicate_succ]; rfl
  show (if -(2 ^ 62) ≤ (n : Int) ∧ (n : Int) ≤ line ∧ [x].length * (n : Int).toNat ≤ line then Res.ok (D.obj S.length) (.lst (List.replicate (n : Int).toNat [x]).flatten :: S) else .bad) = _
  rw [Int.toNat_natCast, e, if_pos ⟨by omega, by unfold line; omega, by simp [line]; omega⟩]
@[simp] theorem fldOk_nil : fldOk [] = true := Eq.trans rfl rfl
@[simp] theorem fldOk_cons (i : Int) (r) : fldOk (.int i :: r) = (decide (i.natAbs.log2 < 1920) && fldOk r) := Eq.trans rfl rfl
theorem fld_small {i : Int} (h1 : -(2 ^ 62) ≤ i) (h2 : i < 2 ^ 62) : i.natAbs.log2 < 1920 := by
  have h : i.natAbs ≤ 2 ^ 62 := by omega
  by_cases h0 : i.natAbs = 0
  · rw [h0]; decide
  · rw [Nat.log2_lt h0]
    exact Nat.lt_of_le_of_lt h (Nat.pow_lt_pow_right (by decide) (by decide))
@[simp] theorem log2_1 : Nat.log2 1 = 0 := by decide
@[simp] theorem log2_119 : Nat.log2 119 = 6 := by decide
@[simp] theorem log2_200 : Nat.log2 200 = 7 := by decide
@[simp] theorem log2_400 : Nat.log2 400 = 8 := by decide
@[simp] theorem log2_1200 : Nat.log2 1200 = 10 := by decide
end Pw
end
section
set_option linter.all false
/-! Pw27: what stands in the store, by simp -/
namespace Pw
@[simp] theorem get_cons (o : SO) (r : Store) (n : Nat) : get (o :: r) n = if n = r.length then some o else get r n := Eq.trans rfl rfl
@[simp] theorem put_cons (o : SO) (r : Store) (n : Nat) (x : SO) : put (o :: r) n x = if n = r.length then x :: r else o :: put r n x := Eq.trans rfl rfl
def idxG (g : Option SO) (i : Int) (S : Store) : Res D := match g with
  | some (.lst xs) => Res.of ((place xs.length i).bind fun j => xs[j]?) S
  | some (.ro xs) => Res.of ((place xs.length i).bind fun j => xs[j]?) S
  | _ => .bad
@[simp] theorem idx_G (n : Nat) (i : Int) (S : Store) : idxD (.obj n) (.int i) S = idxG (get S n) i S := by
  unfold idxG idxD
  rcases h : get S n with _ | o
  · simp [h]
  · cases o <;> simp [h]
@[simp] theorem idxG_n (xs : List D) (i : Nat) (S : Store) : idxG (some (.lst xs)) (i : Int) S = Res.of xs[i]? S := by simp only [idxG]; rw [place_q]
@[simp] theorem idxG_n1 (xs : List D) (i : Nat) (S : Store) : idxG (some (.lst xs)) ((i : Int) + 1) S = Res.of xs[i + 1]? S := idxG_n xs (i + 1) S
@[simp] theorem idxG_0 (xs : List D) (S : Store) : idxG (some (.lst xs)) 0 S = Res.of xs[0]? S := idxG_n xs 0 S
@[simp] theorem idxG_1 (xs : List D) (S : Store) : idxG (some (.lst xs)) 1 S = Res.of xs[1]? S := idxG_n xs 1 S
@[simp] theorem idxG_o (xs : List D) (k : Nat) (S : Store) : idxG (some (.lst xs)) (no_index (OfNat.ofNat k)) S = Res.of xs[k]? S := idxG_n xs k S
theorem idxG_z (xs : List D) {i : Int} (h : 0 ≤ i) (S : Store) : idxG (some (.lst xs)) i S = Res.of xs[i.toNat]? S := by
  have := idxG_n xs i.toNat S
  rwa [Int.toNat_of_nonneg h] at this
def lenG (g : Option SO) : Option Int := match g with
  | some (.lst xs) => some (xs.length : Int)
  | some (.ro xs) => some (xs.length : Int)
  | some (.dct xs) => some (xs.length : Int)
  | _ => none
@[simp] theorem len_G (S n) : lenD S (.obj n) = lenG (get S n) := by
  unfold lenG lenD
  rcases h : get S n with _ | o
  · simp [h]
  · cases o <;> simp [h]
@[simp] theorem lenG_l (xs) : lenG (some (.lst xs)) = some (List.length xs : Int) := Eq.trans rfl rfl
@[simp] theorem lenG_r (xs) : lenG (some (.ro xs)) = some (List.length xs : Int) := Eq.trans rfl rfl
@[simp] theorem lenG_d (xs) : lenG (some (.dct xs)) = some (List.length xs : Int) := Eq.trans rfl rfl
def truthG (g : Option SO) : Option Bool := match g with
  | some (.lst xs) => some (!xs.isEmpty)
  | some (.ro xs) => some (!xs.isEmpty)
  | some (.dct xs) => some (!xs.isEmpty)
  | _ => none
@[simp] theorem truth_G (S n) : truth S (.obj n) = truthG (get S n) := by
  unfold truthG truth
  rcases h : get S n with _ | o
  · simp [h]
  · cases o <;> simp [h]
@[simp] theorem truthG_l (xs) : truthG (some (.lst xs)) = some (!xs.isEmpty) := Eq.trans rfl rfl
def itemsG (n : Nat) (g : Option SO) : Option (List D × Option Nat) := match g with
  | some (.lst xs) => some (xs, some n)
  | some (.ro xs) => some (xs, some n)
  | _ => none
@[simp] theorem items_G (n S) : items (.obj n) S = itemsG n (get S n) := by
  unfold itemsG items
  rcases h : get S n with _ | o
  · simp [h]
  · cases o <;> simp [h]
@[simp] theorem itemsG_l (n xs) : itemsG n (some (.lst xs)) = some (xs, some n) := Eq.trans rfl rfl
def seqG (g : Option SO) : Option (List D) := match g with
  | some (.lst xs) => some xs
  | some (.ro xs) => some xs
  | _ => none
@[simp] theorem seq_G (n S) : seqD (.obj n) S = seqG (get S n) := by
  unfold seqG seqD
  rcases h : get S n with _ | o
  · simp [h]
  · cases o <;> simp [h]
@[simp] theorem seqG_l (xs) : seqG (some (.lst xs)) = some xs := Eq.trans rfl rfl
def isLG (g : Option SO) : Bool := match g with
  | some (.lst xs) => true
  | _ => false
@[simp] theorem isL_G (n S) : isL (.obj n) S = isLG (get S n) := by
  unfold isLG isL
  rcases h : get S n with _ | o
  · simp [h]
  · cases o <;> simp [h]
@[simp] theorem isLG_l (xs) : isLG (some (.lst xs)) = true := Eq.trans rfl rfl
def appG (n : Nat) (v : D) (g : Option SO) (S : Store) : Res D := match g with
  | some (.lst xs) => if xs.length < line then .ok .non (put S n (.lst (xs ++ [v]))) else .bad
  | _ => .bad
@[simp] theorem app_G (n v S) : appD (.obj n) v S = appG n v (get S n) S := by
  unfold appG appD
  rcases h : get S n with _ | o
  · simp [h]
  · cases o <;> simp [h]
@[simp] theorem appG_l {n v xs S} (h : List.length xs < 16777216) : appG n v (some (.lst xs)) S = .ok .non (put S n (.lst (xs ++ [v]))) := by unfold appG; simp only [lineN, h, if_true]
def setG (n : Nat) (i v : D) (g : Option SO) (S : Store) : Option Store := match g with
  | some (.lst xs) => (match i with
      | .int i => (place xs.length i).map fun j => put S n (.lst (xs.set j v))
      | _ => none)
  | some (.dct kvs) => if isKey i && decide (kvs.length < 100000) then some (put S n (.dct (putD i v kvs))) else none
  | _ => none
@[simp] theorem set_G (n i v S) : setIxD (.obj n) i v S = setG n i v (get S n) S := by
  unfold setG setIxD
  rcases h : get S n with _ | o
  · simp [h]
  · cases o <;> cases i <;> simp [h]
@[simp] theorem setG_l {n : Nat} {i : Nat} {v xs S} (h : i < List.length xs) : setG n (.int (i : Int)) v (some (.lst xs)) S = some (put S n (.lst (xs.set i v))) := by unfold setG; simp [h]
@[simp] theorem setG_d {n k v kvs S} (hk : isKey k = true) (h : List.length kvs < 100000) : setG n k v (some (.dct kvs)) S = some (put S n (.dct (putD k v kvs))) := by unfold setG; simp [h, hk]
def slG (g : Option SO) (l h : Option D) (S : Store) : Res D := match intO l, intO h with
  | some l, some h => (match g with
      | some (.lst xs) => .ok (.obj S.length) (.lst (cut xs l h) :: S)
      | _ => .bad)
  | _, _ => .bad
@[simp] theorem sl_G (n l h S) : slD (.obj n) l h S = slG (get S n) l h S := by
  unfold slG slD
  rcases h' : get S n with _ | o
  · cases intO l <;> cases intO h <;> simp [h']
  · cases o <;> cases intO l <;> cases intO h <;> simp [h']
@[simp] theorem slG_to {s : List D} {S : Store} {i : Int} (hi : 0 ≤ i) : slG (some (.lst s)) none (some (.int i)) S = .ok (.obj S.length) (.lst (s.take i.toNat) :: S) := by simp [slG, intO, cut_to _ hi]
@[simp] theorem slG_fr {s : List D} {S : Store} {i : Int} (hi : 0 ≤ i) : slG (some (.lst s)) (some (.int i)) none S = .ok (.obj S.length) (.lst (s.drop i.toNat) :: S) := by simp [slG, intO, cut_from _ hi]
@[simp] theorem slG_mi {s : List D} {S : Store} {i j : Int} (hi : 0 ≤ i) (hj : 0 ≤ j) : slG (some (.lst s)) (some (.int i)) (some (.int j)) S = .ok (.obj S.length) (.lst ((s.drop i.toNat).take (j.toNat - i.toNat)) :: S) := by simp [slG, intO, cut_mid _ hi hj]
def addG (a b : Option SO) (S : Store) : Res D := match a, b with
  | some (.lst x), some (.lst y) => if x.length + y.length ≤ line then .ok (.obj S.length) (.lst (x ++ y) :: S) else .bad
  | _, _ => .bad
@[simp] theorem add_G (a b S) : binD .add (.obj a) (.obj b) S = addG (get S a) (get S b) S := by
  unfold addG binD
  rcases h : get S a with _ | o
  · simp [h]
  · rcases h' : get S b with _ | o'
    · cases o <;> simp [h, h']
    · cases o <;> cases o' <;> simp [h, h']
@[simp] theorem addG_l {x y : List D} {S : Store} (h : x.length + y.length ≤ 16777216) : addG (some (.lst x)) (some (.lst y)) S = .ok (.obj S.length) (.lst (x ++ y) :: S) := by unfold addG; simp only [lineN, h, if_true]
def dinG (x : D) (g : Option SO) : Option Bool := match g with
  | some (.lst xs) => inD x xs
  | some (.ro xs) => inD x xs
  | _ => none
@[simp] theorem din_G (S x n) : din S x (.obj n) = dinG x (get S n) := by
  unfold dinG din
  rcases h : get S n with _ | o
  · simp [h]
  · cases o <;> simp [h]
@[simp] theorem dinG_l (x xs) : dinG x (some (.lst xs)) = inD x xs := Eq.trans rfl rfl
@[simp] theorem stands_none (S T) : stands none (obAt none S) T = true := rfl
@[simp] theorem stands_some (n S T) : stands (some n) (obAt (some n) S) T = decide (get T n = get S n) := Eq.trans rfl rfl
/-- a fresh object over anything that points below -/
theorem fin_any {S S' : Store} (pre : Store) {m : Nat} {o : SO} (h : S' = pre ++ S) (hm : S.length ≤ m) (hg : get S' m = some o) (ho : SO.bel S.length o = true) : fin S S' (.obj m) = .ok (.obj S.length) (o :: S) := fin_obj h hm hg ho
end Pw
namespace Pw
@[simp] theorem trim_g0 (a b : SO) (R : Store) (env : Env) : trim (a :: R) (b :: R) env = b :: R := trim_same (by simp)
@[simp] theorem trim_g1 {a b g : SO} {R : Store} {env : Env} (he : envBel (R.length + 1) env = true) (ho : SO.bel (R.length + 1) b = true) : trim (a :: R) (g :: b :: R) env = b :: R := trim_new (pre := [g]) he ho
@[simp] theorem trim_g2 {a b g h : SO} {R : Store} {env : Env} (he : envBel (R.length + 1) env = true) (ho : SO.bel (R.length + 1) b = true) : trim (a :: R) (g :: h :: b :: R) env = b :: R := trim_new (pre := [g, h]) he ho
@[simp] theorem trim_g3 {a b g h i : SO} {R : Store} {env : Env} (he : envBel (R.length + 1) env = true) (ho : SO.bel (R.length + 1) b = true) : trim (a :: R) (g :: h :: i :: b :: R) env = b :: R := trim_new (pre := [g, h, i]) he ho
end Pw
namespace Pw
@[simp] theorem bels_take {n k : Nat} {xs : List D} (h : D.bels n xs = true) : D.bels n (xs.take k) = true := by
  rw [belsA, List.all_eq_true] at *; exact fun x hx => h x (List.mem_of_mem_take hx)
@[simp] theorem bels_drop {n k : Nat} {xs : List D} (h : D.bels n xs = true) : D.bels n (xs.drop k) = true := by
  rw [belsA, List.all_eq_true] at *; exact fun x hx => h x (List.mem_of_mem_drop hx)
end Pw
namespace Pw
theorem place_r (xs : List D) (i : Nat) (S : Store) : idxG (some (.ro xs)) (i : Int) S = Res.of xs[i]? S := by simp only [idxG]; rw [place_q]
@[simp] theorem idxG_rn (xs : List D) (i : Nat) (S : Store) : idxG (some (.ro xs)) (i : Int) S = Res.of xs[i]? S := place_r xs i S
@[simp] theorem idxG_ro (xs : List D) (k : Nat) (S : Store) : idxG (some (.ro xs)) (no_index (OfNat.ofNat k)) S = Res.of xs[k]? S := place_r xs k S
end Pw
namespace Pw
@[simp high] theorem setG_nm {n : Nat} {ks : List (List Nat)} {s : List Nat} {S : Store} (h : ks.length < 100000) : setG n (.str s) (.bl true) (some (.dct (nmD ks))) S = some (put S n (.dct (nmD (if s ∈ ks then ks else ks ++ [s])))) := by
  rw [setG_d rfl (by simpa using h), putD_nm]
end Pw
end
section
set_option linter.all false
set_option maxRecDepth 100000
set_option maxHeartbeats 0
/-! Pw28: more plain tools (own work) -/
namespace Pw
/-- a comprehension over a range: who passes, what it gives -/
theorem compK_rg {C : Ctx} {e : Exp} {j : Nat} {ifs : List Tst} {env : Env} {S : Store} (n : Nat) (p : Nat → Bool) (v : Nat → D) (hl : n ≤ 16777216)
    (h : ∀ k, k < n → evTs C ifs ((env.set j none).set j (some (.int (k : Int)))) S = .ok (p k) S ∧ (p k = true → evE C e ((env.set j none).set j (some (.int (k : Int)))) S = .ok (v k) S)) :
    compK C e (.v j) ifs env none ((List.range n).map fun i : Nat => .int (i : Int)) S = .ok (((List.range n).filter p).map v) S := by
  rw [compK_fm (fun x => match x with | .int k => if p k.toNat = true then some (v k.toNat) else none | _ => none) (by simpa using hl)]
  · congr 1
    rw [List.filterMap_map]
    induction List.range n with
    | nil => rfl
    | cons a r ih =>
      simp only [List.filterMap_cons, List.filter_cons, Function.comp_apply, Int.toNat_natCast, ih]
      cases p a <;> simp
  · intro x hx
    rw [List.mem_map] at hx
    obtain ⟨k, hk, rfl⟩ := hx
    obtain ⟨h1, h2⟩ := h k (List.mem_range.mp hk)
    refine ⟨_, p k, rfl, h1, ?_⟩
    cases hp : p k with
    | true => exact ⟨v k, h2 hp, by simp [hp]⟩
    | false => simp [hp]
theorem compL_on {β : Type} {f : D → Store → Res (Option D)} {g : Store → Bool} (l : List β) (c : β → D) (v : β → D) {S : Store} (hg : g S = true)
    (h : ∀ b ∈ l, f (c b) S = .ok (some (v b)) S) : compL f g (l.map c) S = .ok (l.map v) S := by
  induction l with
  | nil => simp [compL, hg]
  | cons x r ih => simp only [List.map_cons, compL, hg, if_true, h x (by simp), ih fun y hy => h y (by simp [hy]), bind_ok]
theorem compK_on {β : Type} {C : Ctx} {e : Exp} {t : Tg} {ifs : List Tst} {env : Env} {o : Option Nat} {S : Store} (l : List β) (c : β → D) (v : β → D) (hl : l.length ≤ 16777216)
    (h : ∀ b ∈ l, ∃ env', bind1 t (c b) (kill t.ix env) = some env' ∧ evTs C ifs env' S = .ok true S ∧ evE C e env' S = .ok (v b) S) : compK C e t ifs env o (l.map c) S = .ok (l.map v) S := by
  unfold compK
  rw [if_pos (by simpa using hl)]
  refine compL_on l c v (by cases o <;> simp [stands, obAt]) fun x hx => ?_
  obtain ⟨env', h1, h2, h3⟩ := h x hx
  simp only [h1, h2, h3]
@[simp] theorem envBel_oi (n : Nat) (o : Option Int) (r : Env) : envBel n (o.map D.int :: r) = envBel n r := by cases o <;> simp
end Pw
namespace Pw
/-- a comprehension with a test over a known row -/
theorem compK_fon {β : Type} {C : Ctx} {e : Exp} {t : Tg} {ifs : List Tst} {env : Env} {o : Option Nat} {S : Store} (l : List β) (c : β → D) (p : β → Bool) (v : β → D) (hl : l.length ≤ 16777216)
    (h : ∀ b ∈ l, ∃ env', bind1 t (c b) (kill t.ix env) = some env' ∧ evTs C ifs env' S = .ok (p b) S ∧ (p b = true → evE C e env' S = .ok (v b) S)) : compK C e t ifs env o (l.map c) S = .ok ((l.filter p).map v) S := by
  unfold compK
  rw [if_pos (by simpa using hl)]
  have hg : stands o (obAt o S) S = true := by cases o <;> simp [stands, obAt]
  clear hl
  induction l with
  | nil => simp [compL, hg]
  | cons x r ih =>
    obtain ⟨env', h1, h2, h3⟩ := h x (by simp)
    have e := ih fun y hy => h y (by simp [hy])
    cases hp : p x with
    | true =>
      rw [hp] at h2
      simp only [List.map_cons, compL, hg, if_true, h1, h2, h3 hp]
      rw [e, bind_ok, List.filter_cons, hp]; rfl
    | false =>
      rw [hp] at h2
      simp only [List.map_cons, compL, hg, if_true, h1, h2]
      rw [e, bind_ok, List.filter_cons, hp]; rfl
theorem inD_str {α : Type} (s : List Nat) (l : List α) (f : α → List Nat) : inD (.str s) (l.map fun k => .str (f k)) = some (l.any fun k => f k == s) := by
  simp [inD, flatD, feq, List.any_map, Function.comp_def]
end Pw
namespace Pw
theorem seqK_cg {C : Ctx} {r : List Stm} {x x' : Res Flow} (h : x = x') : seqK C r x = seqK C r x' := by rw [h]
theorem forK_cg {C : Ctx} {t : Tg} {body : List Stm} {ks : List Nat} {o o' : Option Nat} {xs xs' : List D} {env env' : Env} {S S' : Store} (ho : o = o') (hx : xs = xs') (he : env = env') (hS : S = S') : forK C t body ks o xs env S = forK C t body ks o' xs' env' S' := by rw [ho, hx, he, hS]
@[simp] theorem putD_nil (k v) : putD k v [] = [(k, v)] := Eq.trans rfl rfl
theorem wp_app2 {C : Ctx} {Q : Flow → Store → Prop} : ∀ (xs ys : List Stm) (env : Env) (S : Store), wp (evSs C xs env S) (fun fl S' => ∃ e, fl = .nx e ∧ wp (evSs C ys e S') Q) → wp (evSs C (xs ++ ys) env S) Q
  | [], ys, env, S, h => by
    simp at h; exact h
  | x :: r, ys, env, S, h => by
    rw [List.cons_append, qSs_1] at *
    unfold seqK at *
    revert h
    cases evS C x env S with
    | exc => exact fun h => nomatch h
    | bad => exact fun h => nomatch h
    | ok fl S1 =>
      simp only [bind_ok]
      cases fl with
      | nx e => exact wp_app2 r ys e S1
      | _ => simp
theorem wp_split {C : Ctx} {Q : Flow → Store → Prop} {b : List Stm} {env : Env} {S : Store} (k : Nat) (E1 : Env) (T1 : Store) (h1 : wp (evSs C (b.take k) env S) fun fl S' => fl = .nx E1 ∧ S' = T1) (h2 : wp (evSs C (b.drop k) E1 T1) Q) : wp (evSs C b env S) Q := by
  rw [← List.take_append_drop k b]
  exact wp_app2 _ _ _ _ (wp_mono h1 fun fl S' h => ⟨E1, h.1, by rw [h.2]; exact h2⟩)
theorem fin_keep {S S' pre : Store} {m : Nat} {o : SO} (h : S' = pre ++ S) (hm : S.length ≤ m) (hg : get S' m = some o) (ho : SO.bel S.length o = false) : fin S S' (.obj m) = .ok (.obj m) S' := by
  subst h
  unfold fin
  split
  · rfl
  · have : (pre ++ S).drop ((pre ++ S).length - S.length) = S := by simp
    rw [this, okOld_refl]
    have hb : D.bel S.length (.obj m) = false := by simp; omega
    simp only [hb, hg, ho, if_true, Bool.false_eq_true, if_false]
/-- a loop that puts one value behind another -/
theorem wp_forapp {C : Ctx} {t : Tg} {body : List Stm} {ks : List Nat} {o : Option Nat} {Q : Flow → Store → Prop} {L : List D} {env : Env} {S : Store} (g : D → D) (acc0 : List D) (T : List D → Store)
    (hS : S = T acc0) (hg : ∀ acc, stands o (obAt o S) (T acc) = true)
    (hs : ∀ x ∈ L, ∀ acc, acc.length ≤ acc0.length + L.length → wp (match bind1 t x env with | some env => evSs C body env (T acc) | none => .bad) (rnd Q ks (T acc) fun e S' => e = env ∧ S' = T (acc ++ [g x])))
    (hq : Q (.nx env) (T (acc0 ++ L.map g))) : wp (forK C t body ks o L env S) Q := by
  refine wp_for (fun i e S' => i ≤ L.length ∧ e = env ∧ S' = T (acc0 ++ (L.take i).map g)) ⟨by omega, rfl, by simpa using hS⟩ (by rintro i e S' ⟨_, _, rfl⟩; exact hg _) ?_ ?_
  · rintro i x e S' hx ⟨hi, rfl, rfl⟩
    have hil : i < L.length := (List.getElem?_eq_some_iff.mp hx).1
    refine wp_mono (hs x (List.mem_of_getElem? hx) _ (by simp; omega)) fun fl S' h => ?_
    have e : acc0 ++ (L.take (i + 1)).map g = acc0 ++ (L.take i).map g ++ [g x] := by rw [List.take_add_one, hx]; simp
    cases fl <;> simp only [rnd] at h ⊢ <;> first | exact ⟨by omega, h.1, by rw [h.2, e]⟩ | exact h
  · rintro e S' ⟨_, rfl, rfl⟩
    rw [List.take_length]; exact hq
end Pw
namespace Pw
theorem okEs_take {xs : List D} (h : okEs xs = true) (k : Nat) : okEs (xs.take k) = true := by
  rw [okEs_all, List.all_eq_true] at *; exact fun x hx => h x (List.mem_of_mem_take hx)
theorem okEs_drop {xs : List D} (h : okEs xs = true) (k : Nat) : okEs (xs.drop k) = true := by
  rw [okEs_all, List.all_eq_true] at *; exact fun x hx => h x (List.mem_of_mem_drop hx)
theorem alls_app {f : D → D → Option Bool} : ∀ {xs ys xs' ys' : List D}, alls f xs ys = some true → alls f xs' ys' = some true → alls f (xs ++ xs') (ys ++ ys') = some true
  | [], [], _, _, _, h => h
  | x :: r, y :: t, _, _, h1, h2 => by
    simp only [alls, List.cons_append] at *
    cases hc : f x y with
    | none => rw [hc] at h1; simp at h1
    | some c =>
      rw [hc] at h1
      simp only [Option.bind_some] at *
      cases hk : alls f r t with
      | none => rw [hk] at h1; simp at h1
      | some k =>
        rw [hk] at h1
        simp at h1
        obtain ⟨rfl, rfl⟩ := h1
        rw [alls_app hk h2]; simp
  | [], _ :: _, _, _, h, _ => by simp [alls] at h
  | _ :: _, [], _, _, h, _ => by simp [alls] at h
theorem alls_refl {f : D → D → Option Bool} : ∀ {xs : List D}, (∀ x ∈ xs, f x x = some true) → alls f xs xs = some true
  | [], _ => rfl
  | x :: r, h => by
    have := alls_refl (f := f) (xs := r) (fun y hy => h y (by simp [hy]))
    simp [alls, h x (by simp), this]
theorem alls_cons {f : D → D → Option Bool} {x y : D} {r t : List D} (h1 : f x y = some true) (h2 : alls f r t = some true) : alls f (x :: r) (y :: t) = some true := by simp [alls, h1, h2]
theorem alls_map {f : D → D → Option Bool} {g : D → D} {xs ys : List D} (h : alls f xs ys = some true) {f' : D → D → Option Bool} (hg : ∀ x y, f x y = some true → f' (g x) (g y) = some true) : alls f' (xs.map g) (ys.map g) = some true := by
  induction xs generalizing ys with
  | nil => cases ys with
    | nil => rfl
    | cons => simp [alls] at h
  | cons x r ih => cases ys with
    | nil => simp [alls] at h
    | cons y t =>
      simp only [alls] at h
      cases hc : f x y with
      | none => rw [hc] at h; simp at h
      | some c =>
        rw [hc] at h
        simp only [Option.bind_some] at h
        cases hk : alls f r t with
        | none => rw [hk] at h; simp at h
        | some k =>
          rw [hk] at h
          simp at h
          obtain ⟨rfl, rfl⟩ := h
          exact alls_cons (hg x y hc) (ih hk)
theorem deq_tup {S : Store} {n : Nat} {xs ys : List D} (h : alls (deq S n) xs ys = some true) (hl : xs.length = ys.length) : deq S (n + 1) (.tup xs) (.tup ys) = some true := by
  simp only [deq, hl, if_true, h]
end Pw
namespace Pw
/-- plain values of bounded depth -/
def plD : Nat → D → Bool
  | _, .non => true
  | _, .bl _ => true
  | _, .int _ => true
  | _, .str _ => true
  | k + 1, .tup xs => decide (xs.length ≤ 16777216) && xs.all (plD k)
  | _, _ => false
theorem deq_refl (S : Store) : ∀ (k : Nat) (d : D), plD k d = true → ∀ n, k < n → deq S n d d = some true
  | k, .non, _, n + 1, _ => by simp [deq]
  | k, .bl _, _, n + 1, _ => by simp [deq]
  | k, .int _, _, n + 1, _ => by simp [deq]
  | k, .str _, _, n + 1, _ => by simp [deq]
  | k + 1, .tup xs, h, n + 1, hn => by
    simp only [plD, Bool.and_eq_true, List.all_eq_true] at h
    exact deq_tup (alls_refl fun x hx => deq_refl S k x (h.2 x hx) n (by omega)) rfl
  | 0, .tup xs, h, _, _ => by simp [plD] at h
  | _, .obj _, h, _, _ => by simp [plD] at h
  | _, .exc _ _, h, _, _ => by simp [plD] at h
theorem pl_mono : ∀ (k : Nat) (d : D), plD k d = true → plD (k + 1) d = true
  | 0, .tup _, h => by simp [plD] at h
  | k + 1, .tup xs, h => by
    simp only [plD, Bool.and_eq_true, List.all_eq_true] at h
    have h2 : ∀ x ∈ xs, plD (k + 1) x = true := fun x hx => pl_mono k x (h.2 x hx)
    rw [plD, Bool.and_eq_true, List.all_eq_true]
    exact ⟨h.1, h2⟩
  | _, .non, _ => by simp [plD]
  | _, .bl _, _ => by simp [plD]
  | _, .int _, _ => by simp [plD]
  | _, .str _, _ => by simp [plD]
  | k, .obj _, h => by cases k <;> simp [plD] at h
  | k, .exc _ _, h => by cases k <;> simp [plD] at h
theorem deq_sm {S : Store} {d : D} (h : plD 3 d = true) {n : Nat} (hn : 3 < n) : deq S n d d = some true := deq_refl S 3 d h n hn
theorem get_rev {l : Store} {T : Store} {k : Nat} {o : SO} (h : l.reverse[k]? = some o) : get (l ++ T) (T.length + k) = some o := by
  induction l generalizing T k with
  | nil => simp at h
  | cons x r ih =>
    rw [List.reverse_cons] at h
    by_cases hk : k < r.reverse.length
    · rw [List.getElem?_append_left hk] at h
      rw [List.cons_append, get_cons, if_neg (by simp at hk ⊢; omega)]
      exact ih h
    · rw [List.getElem?_append_right (by omega)] at h
      have hk2 : k - r.reverse.length = 0 := by
        have := (List.getElem?_eq_some_iff.mp h).1; simp at this; simp; omega
      rw [hk2] at h
      simp at h hk hk2
      rw [List.cons_append, get_cons, if_pos (by simp; omega), h]
theorem lst_eq {S2 : Store} (n x y : Nat) (xs ys : List D) (hx : get S2 x = some (.lst xs)) (hy : get S2 y = some (.lst ys)) (hl : xs.length = ys.length) (ha : alls (deq S2 n) xs ys = some true) : deq S2 (n + 1) (.obj x) (.obj y) = some true := by simp only [deq, hx, hy, hl, if_true, ha]
theorem dct_eq {S2 : Store} (n x y : Nat) (xs ys : List (D × D)) (hx : get S2 x = some (.dct xs)) (hy : get S2 y = some (.dct ys)) (hl : xs.map (·.1) = ys.map (·.1)) (ha : alls (deq S2 n) (xs.map (·.2)) (ys.map (·.2)) = some true) : deq S2 (n + 1) (.obj x) (.obj y) = some true := by simp only [deq, hx, hy, hl, if_true, ha]
theorem sames {S2 : Store} (xs : List D) (n : Nat) (hx : ∀ x ∈ xs, plD 3 x = true) (hn : 3 < n) : alls (deq S2 n) xs xs = some true := alls_refl fun x hx' => deq_sm (hx x hx') hn
theorem tup1 {S2 : Store} (n : Nat) (pre post : List D) (x y : D) (h1 : ∀ z ∈ pre, plD 3 z = true) (h2 : ∀ z ∈ post, plD 3 z = true) (hn : 3 < n) (hxy : deq S2 n x y = some true) : deq S2 (n + 1) (.tup (pre ++ x :: post)) (.tup (pre ++ y :: post)) = some true :=
    deq_tup (alls_app (sames pre n h1 hn) (alls_cons hxy (sames post n h2 hn))) (by simp)
def inB (b : Int) (z : Int) : Prop := 0 ≤ z ∧ z < b
theorem inD_strs (s : List Nat) (l : List (List Nat)) : inD (.str s) (l.map .str) = some (decide (s ∈ l)) := by
  have := inD_str s l id
  simp only [id] at this
  rw [show (l.map fun k => D.str k) = l.map .str from rfl] at this
  rw [this]; congr 1
  rw [Bool.eq_iff_iff]; simp
def gx (ds : List D) (pl : Nat) (x : D) : D := .tup (ds.take pl ++ x :: ds.drop (pl + 1))
theorem mem_gx {ds : List D} {pl : Nat} {x y : D} (h : y ∈ ds.take pl ++ x :: ds.drop (pl + 1)) : y = x ∨ y ∈ ds := by
  simp only [List.mem_append, List.mem_cons] at h
  rcases h with h | h | h
  · exact Or.inr (List.mem_of_mem_take h)
  · exact Or.inl h
  · exact Or.inr (List.mem_of_mem_drop h)
theorem okE_gx {ds : List D} {pl : Nat} {x : D} (hd : okEs ds = true) (hl : ds.length ≤ 1000) (hx : okE x = true) : okE (gx ds pl x) = true := by
  have h1 := okEs_take hd pl
  have h2 := okEs_drop hd (pl + 1)
  simp only [gx, okE_tup, okEs_app, okEs_cons, h1, h2, hx, Bool.and_self, Bool.and_true, decide_eq_true_eq]
  simp; omega
theorem all_gx {f : D → Bool} {ds : List D} {pl : Nat} {x : D} (hx : f x = false) : (ds.take pl ++ x :: ds.drop (pl + 1)).all f = false := List.all_eq_false.mpr ⟨x, by simp, by simp [hx]⟩
theorem gx_eq {S2 : Store} {ds : List D} {pl : Nat} (hp : ∀ x ∈ ds, plD 3 x = true) {x y : D} (h : deq S2 38 x y = some true) : deq S2 39 (gx ds pl x) (gx ds pl y) = some true :=
  tup1 38 _ _ _ _ (fun z hz => hp z (List.mem_of_mem_take hz)) (fun z hz => hp z (List.mem_of_mem_drop hz)) (by omega) h
theorem modN (p : Int) {m : Nat} (h : 0 < m) : ∃ k : Nat, p % (m : Int) = k ∧ k < m := ⟨(p % (m : Int)).toNat, by
    have := Int.emod_nonneg p (show (m : Int) ≠ 0 by omega); omega, by
    have := Int.emod_lt_of_pos p (show 0 < (m : Int) by omega)
    have := Int.emod_nonneg p (show (m : Int) ≠ 0 by omega); omega⟩
theorem minN (a b : Nat) (S : Store) : f2D .min (.int a) (.int b) S = .ok (.int ((min a b : Nat) : Int)) S := by
  rw [f2_min]; congr 2; split <;> omega
theorem maxN (b : Nat) (S : Store) : f2D .max (.int 1) (.int b) S = .ok (.int ((max 1 b : Nat) : Int)) S := by
  rw [f2_max]; congr 2; split <;> omega
theorem okEs_of {d : D} {xs : List D} (h : okE d = true) (e : d = .tup xs) : okEs xs = true := by
  subst e; simp only [okE_tup, Bool.and_eq_true] at h; exact h.2
theorem rngL1 (n : Nat) : rngL 1 (n : Int) = (List.range (n - 1)).map fun i : Nat => .int ((i + 1 : Nat) : Int) := by
  unfold rngL
  rw [show ((n : Int) - 1).toNat = n - 1 by omega]
  apply List.map_congr_left
  intro i _
  congr 1; omega
theorem rng1_at {n i : Nat} {x : D} (h : (rngL 1 (n : Int))[i]? = some x) : i + 1 < n ∧ x = .int ((i + 1 : Nat) : Int) := by
  rw [rngL1, List.getElem?_map] at h
  obtain ⟨k, hk, rfl⟩ := Option.map_eq_some_iff.mp h
  have := (List.getElem?_eq_some_iff.mp hk)
  obtain ⟨h1, h2⟩ := this
  simp at h1 h2
  subst h2
  exact ⟨by omega, rfl⟩
@[simp] theorem rng1_len (n : Nat) : (rngL 1 (n : Int)).length = n - 1 := by rw [rngL1]; simp
@[simp] theorem idx_p1 (x y : Nat) (S : Store) : idxD (.str [x, y]) (.int 1) S = .ok (.str [y]) S := by
  have := idx_s (s := [x, y]) (S := S) (i := 1) (by simp)
  exact this
@[simp] theorem idx_p0 (x y : Nat) (S : Store) : idxD (.str [x, y]) (.int 0) S = .ok (.str [x]) S := by
  have := idx_s (s := [x, y]) (S := S) (i := 0) (by simp)
  exact this
theorem idxG_last {S : Store} {xs : List D} {x : D} : idxG (some (.lst (xs ++ [x]))) (-1) S = .ok x S := by
  simp only [idxG, place]
  rw [if_neg (by decide), if_pos (by simp; omega)]
  simp only [Option.bind_some]
  rw [List.getElem?_append_right (by simp; omega)]
  rw [show (-1 + ((xs ++ [x]).length : Int)).toNat - xs.length = 0 by simp; omega]
  rfl
theorem ext_l {S : Store} {n m : Nat} {xs ys : List D} (h1 : get S n = some (.lst xs)) (h2 : get S m = some (.lst ys)) (hl : xs.length + ys.length ≤ 16777216) : extD (.obj n) (.obj m) S = .ok .non (put S n (.lst (xs ++ ys))) := by
  show (match get S n, get S m with
    | some (.lst xs), some (.lst ys) => if xs.length + ys.length ≤ line then Res.ok D.non (put S n (.lst (xs ++ ys))) else .bad
    | _, _ => .bad) = _
  rw [h1, h2]
  exact if_pos hl
theorem trim_no {S S' : Store} {env : Env} (he : envBel S.length env = false) : trim S S' env = S' := by
  unfold trim
  split
  · rfl
  · rw [he]; rfl
@[simp] theorem iteK_exc (C : Ctx) (a b env c fs S) : iteK C a b env (.exc c fs S) = .ok (.ex c fs env) S := Eq.trans rfl rfl
/-! a changed object -/
theorem getPut (o : SO) (n m : Nat) : ∀ S : Store, get (put S n o) m = if m = n ∧ n < S.length then some o else get S m
  | [] => by simp [put, get]
  | a :: r => by
    have ih := getPut o n m r
    simp only [put_cons, get_cons, List.length_cons]
    by_cases h1 : n = r.length
    · rw [if_pos h1]
      simp only [get_cons]
      by_cases h2 : m = r.length
      · rw [if_pos h2, if_pos ⟨by omega, by omega⟩]
      · rw [if_neg h2, if_neg (by omega), if_neg h2]
    · rw [if_neg h1]
      simp only [get_cons, put_len]
      by_cases h2 : m = r.length
      · rw [if_pos h2, if_neg (by omega), if_pos h2]
      · rw [if_neg h2, if_neg h2, ih]
        by_cases h3 : m = n ∧ n < r.length
        · rw [if_pos h3, if_pos ⟨h3.1, by omega⟩]
        · rw [if_neg h3, if_neg (by omega)]
theorem get_put_self {S : Store} {n : Nat} {o : SO} (h : n < S.length) : get (put S n o) n = some o := by rw [getPut, if_pos ⟨rfl, h⟩]
theorem get_put_ne {S : Store} {n m : Nat} {o : SO} (h : m ≠ n) : get (put S n o) m = get S m := by rw [getPut, if_neg (by omega)]
@[simp] theorem put_put (o u : SO) (n : Nat) : ∀ S : Store, put (put S n o) n u = put S n u
  | [] => rfl
  | a :: r => by
    simp only [put_cons]
    by_cases h1 : n = r.length
    · rw [if_pos h1, if_pos h1]; simp [put_cons, h1]
    · rw [if_neg h1, if_neg h1]; simp [put_cons, h1, put_put o u n r]
theorem put_same {n : Nat} {o : SO} : ∀ {S : Store}, get S n = some o → put S n o = S
  | [], h => rfl
  | a :: r, h => by
    simp only [put_cons, get_cons] at *
    by_cases h1 : n = r.length
    · rw [if_pos h1] at h ⊢; cases h; rfl
    · rw [if_neg h1] at h ⊢; rw [put_same h]
theorem put_app {n : Nat} {o : SO} {S : Store} (h : n < S.length) : ∀ pre : Store, put (pre ++ S) n o = pre ++ put S n o
  | [] => rfl
  | a :: r => by
    rw [List.cons_append, put_cons, if_neg (by simp; omega), put_app h r]; rfl
theorem okOld_put {n m : Nat} {o : SO} (h : SO.bel n o = true) : ∀ S : Store, okOld n S (put S m o) = true
  | [] => rfl
  | a :: r => by
    simp only [put_cons]
    split
    · simp [h]
    · simp [okOld_put h r]
theorem fin_chg {S S' pre T : Store} {d : D} (h : S' = pre ++ T) (hl : T.length = S.length) (hd : D.bel S.length d = true) (ho : okOld S.length S T = true) : fin S S' d = .ok d T := by
  subst h
  unfold fin
  split
  · rename_i h
    have : pre = [] := List.eq_nil_of_length_eq_zero (by simp only [List.length_append] at h; omega)
    rw [this]; rfl
  · have : (pre ++ T).drop ((pre ++ T).length - S.length) = T := by simp [hl]
    rw [this, ho]; simp [hd]
theorem fin_put {S pre : Store} {m : Nat} {o : SO} {d : D} (hd : D.bel S.length d = true) (ho : SO.bel S.length o = true) : fin S (pre ++ put S m o) d = .ok d (put S m o) := fin_chg rfl (by simp) hd (okOld_put ho S)
theorem trim_put {S pre : Store} {m : Nat} {o : SO} {env : Env} (he : envBel S.length env = true) (ho : SO.bel S.length o = true) : trim S (pre ++ put S m o) env = put S m o := trim_chg rfl (by simp) he (okOld_put ho S)
/-! loops that look at each item -/
theorem wp_chk {C : Ctx} {t : Tg} {body : List Stm} {ks : List Nat} {o : Option Nat} {Q : Flow → Store → Prop} {xs : List D} {env : Env} {S : Store} (c : Nat) (p : D → Bool)
    (hs : ∀ x ∈ xs, wp (match bind1 t x env with | some env => evSs C body env S | none => .bad) (fun fl S' => if p x = true then ∃ e, fl = .nx e ∧ kill ks e = env ∧ S' = S else ∃ e, fl = .ex c [] e ∧ S' = S))
    (hq : xs.all p = true → Q (.nx env) S) (hx : xs.all p = false → ∀ e, Q (.ex c [] e) S) : wp (forK C t body ks o xs env S) Q := by
  refine wp_for (fun i e S' => e = env ∧ S' = S ∧ (xs.take i).all p = true) ⟨rfl, rfl, rfl⟩ (by rintro i e S' ⟨_, rfl, _⟩; cases o <;> simp [stands, obAt]) ?_ ?_
  · rintro i x e S' hx' ⟨rfl, rfl, hall⟩
    refine wp_mono (hs x (List.mem_of_getElem? hx')) fun fl S1 h => ?_
    by_cases hp : p x = true
    · rw [if_pos hp] at h
      obtain ⟨e1, rfl, he, rfl⟩ := h
      rw [rnd_nx, he, trim_self]
      exact ⟨rfl, rfl, by rw [List.take_add_one, hx']; simp [hall, hp]⟩
    · rw [if_neg hp] at h
      obtain ⟨e1, rfl, rfl⟩ := h
      rw [rnd_ex]
      exact hx (List.all_eq_false.mpr ⟨x, List.mem_of_getElem? hx', hp⟩) _
  · rintro e S' ⟨rfl, rfl, hall⟩
    rw [List.take_length] at hall
    exact hq hall
theorem wp_find {C : Ctx} {t : Tg} {body : List Stm} {ks : List Nat} {o : Option Nat} {Q : Flow → Store → Prop} {xs : List D} {env : Env} {S : Store} (p : D → Bool) (r : D → D)
    (hs : ∀ x ∈ xs, wp (match bind1 t x env with | some env => evSs C body env S | none => .bad) (fun fl S' => if p x = true then fl = .rt (r x) ∧ S' = S else ∃ e, fl = .nx e ∧ kill ks e = env ∧ S' = S))
    (hq : xs.find? p = none → Q (.nx env) S) (hr : ∀ x, xs.find? p = some x → Q (.rt (r x)) S) : wp (forK C t body ks o xs env S) Q := by
  refine wp_for (fun i e S' => e = env ∧ S' = S ∧ (xs.take i).find? p = none) ⟨rfl, rfl, rfl⟩ (by rintro i e S' ⟨_, rfl, _⟩; cases o <;> simp [stands, obAt]) ?_ ?_
  · rintro i x e S' hx' ⟨rfl, rfl, hall⟩
    refine wp_mono (hs x (List.mem_of_getElem? hx')) fun fl S1 h => ?_
    by_cases hp : p x = true
    · rw [if_pos hp] at h
      obtain ⟨rfl, rfl⟩ := h
      rw [rnd_rt]
      refine hr x ?_
      have e2 : xs = xs.take i ++ x :: xs.drop (i + 1) := by
        obtain ⟨hi, rfl⟩ := List.getElem?_eq_some_iff.mp hx'
        rw [← List.drop_eq_getElem_cons hi, List.take_append_drop]
      rw [e2, List.find?_append, hall]
      simp [hp]
    · rw [if_neg hp] at h
      obtain ⟨e1, rfl, he, rfl⟩ := h
      rw [rnd_nx, he, trim_self]
      exact ⟨rfl, rfl, by rw [List.take_add_one, hx', List.find?_append, hall]; simp [hp]⟩
  · rintro e S' ⟨rfl, rfl, hall⟩
    rw [List.take_length] at hall
    exact hq hall
/-- a loop that only looks, and says nothing -/
theorem wp_see {C : Ctx} {t : Tg} {body : List Stm} {ks : List Nat} {o : Option Nat} {Q : Flow → Store → Prop} {xs : List D} {env : Env} {S : Store}
    (hs : ∀ x ∈ xs, wp (match bind1 t x env with | some env => evSs C body env S | none => .bad) (fun fl S' => ∃ e, fl = .nx e ∧ kill ks e = env ∧ S' = S))
    (hq : Q (.nx env) S) : wp (forK C t body ks o xs env S) Q :=
  wp_find (fun _ => false) id (fun x hx => by simpa using hs x hx) (fun _ => hq) (fun x h => by
    exact absurd (List.find?_some h) (by simp))
/-- the evaluation of a comprehension that changes the store -/
theorem compL_inv {f : D → Store → Res (Option D)} {g : Store → Bool} (I : Nat → List D → Store → Prop) {xs : List D} {S : Store} (hg : ∀ S, g S = true) (h0 : I 0 [] S)
    (hs : ∀ i x ys S, xs[i]? = some x → I i ys S → ∃ y S', f x S = .ok (some y) S' ∧ I (i + 1) (ys ++ [y]) S') : ∃ ys S', compL f g xs S = .ok ys S' ∧ I xs.length ys S' := by
  have key : ∀ (r : List D) (k : Nat) (acc : List D) (S : Store), (∀ i, r[i]? = xs[k + i]?) → k + r.length = xs.length → I k acc S → ∃ ys S', compL f g r S = .ok ys S' ∧ I xs.length (acc ++ ys) S' := by
    intro r
    induction r with
    | nil => intro k acc S _ hl h; exact ⟨[], S, by simp [compL, hg], by simp at hl; subst hl; simpa using h⟩
    | cons x r ih =>
      intro k acc S hr hl h
      obtain ⟨y, S1, e1, h1⟩ := hs k x acc S (by simpa using (hr 0).symm) h
      obtain ⟨ys, S2, e2, h2⟩ := ih (k + 1) (acc ++ [y]) S1 (fun i => by have := hr (i + 1); simp only [List.getElem?_cons_succ] at this; rw [this]; congr 1; omega) (by simp only [List.length_cons] at hl; omega) h1
      exact ⟨y :: ys, S2, by simp only [compL, hg, if_true, e1, e2, bind_ok], by simpa using h2⟩
  obtain ⟨ys, S', h1, h2⟩ := key xs 0 [] S (fun i => by rw [Nat.zero_add]) (Nat.zero_add _) h0
  exact ⟨ys, S', h1, by simpa using h2⟩
theorem compK_inv {C : Ctx} {e : Exp} {t : Tg} {env : Env} {xs : List D} {S : Store} (I : Nat → List D → Store → Prop) (hl : xs.length ≤ 16777216) (h0 : I 0 [] S)
    (hs : ∀ i x ys S, xs[i]? = some x → I i ys S → ∃ env' y S', bind1 t x (kill t.ix env) = some env' ∧ evE C e env' S = .ok y S' ∧ I (i + 1) (ys ++ [y]) S') : ∃ ys S', compK C e t [] env none xs S = .ok ys S' ∧ I xs.length ys S' := by
  unfold compK
  rw [if_pos (show xs.length ≤ line by simpa using hl)]
  refine compL_inv I (fun _ => rfl) h0 fun i x ys S hx h => ?_
  obtain ⟨env', y, S', h1, h2, h3⟩ := hs i x ys S hx h
  exact ⟨y, S', by simp only [h1, qTs_0, h2], h3⟩
/-- a loop that looks at each item of a known row and may give an answer -/
theorem wp_findL {β : Type} {C : Ctx} {t : Tg} {body : List Stm} {ks : List Nat} {o : Option Nat} {Q : Flow → Store → Prop} {env : Env} {S : Store} (l : List β) (c : β → D) (p : β → Bool) (r : β → D)
    (hs : ∀ b ∈ l, wp (match bind1 t (c b) env with | some env => evSs C body env S | none => .bad) (fun fl S' => if p b = true then fl = .rt (r b) ∧ S' = S else ∃ e, fl = .nx e ∧ kill ks e = env ∧ S' = S))
    (hq : l.find? p = none → Q (.nx env) S) (hr : ∀ b, l.find? p = some b → Q (.rt (r b)) S) : wp (forK C t body ks o (l.map c) env S) Q := by
  refine wp_for (fun i e S' => e = env ∧ S' = S ∧ (l.take i).find? p = none) ⟨rfl, rfl, rfl⟩ (by rintro i e S' ⟨_, rfl, _⟩; cases o <;> simp [stands, obAt]) ?_ ?_
  · rintro i x e S' hx' ⟨rfl, rfl, hall⟩
    rw [List.getElem?_map] at hx'
    obtain ⟨b, hb, rfl⟩ := Option.map_eq_some_iff.mp hx'
    refine wp_mono (hs b (List.mem_of_getElem? hb)) fun fl S1 h => ?_
    by_cases hp : p b = true
    · rw [if_pos hp] at h
      obtain ⟨rfl, rfl⟩ := h
      rw [rnd_rt]
      refine hr b ?_
      have e2 : l = l.take i ++ b :: l.drop (i + 1) := by
        obtain ⟨hi, rfl⟩ := List.getElem?_eq_some_iff.mp hb
        rw [← List.drop_eq_getElem_cons hi, List.take_append_drop]
      rw [e2, List.find?_append, hall]
      simp [hp]
    · rw [if_neg hp] at h
      obtain ⟨e1, rfl, he, rfl⟩ := h
      rw [rnd_nx, he, trim_self]
      exact ⟨rfl, rfl, by rw [List.take_add_one, hb, List.find?_append, hall]; simp [hp]⟩
  · rintro e S' ⟨rfl, rfl, hall⟩
    rw [List.length_map, List.take_length] at hall
    exact hq hall
theorem put_rev {T : Store} {k : Nat} {o : SO} : ∀ {l : Store}, k < l.length → put (l.reverse ++ T) (T.length + k) o = (l.set k o).reverse ++ T := by
  intro l
  have : ∀ (r : Store) (k : Nat), k < r.length → put (r ++ T) (T.length + k) o = (r.reverse.set k o).reverse ++ T := by
    intro r
    induction r with
    | nil => intro k h; simp at h
    | cons x r ih =>
      intro k h
      rw [List.cons_append, put_cons]
      by_cases hk : k = r.length
      · rw [if_pos (by simp; omega)]
        subst hk
        simp [List.reverse_cons, List.set_append]
      · rw [if_neg (by simp; omega)]
        simp only [List.length_cons] at h
        rw [ih k (by omega)]
        rw [List.reverse_cons, List.set_append, if_pos (by simp; omega)]
        simp
  intro h
  have h1 := this l.reverse k (by simpa using h)
  rwa [List.reverse_reverse] at h1
theorem find_none_all {α : Type} {p : α → Bool} {l : List α} (h : l.find? p = none) : l.all (fun x => !p x) = true := by
  rw [List.find?_eq_none] at h
  rw [List.all_eq_true]
  intro x hx; simpa using h x hx
end Pw
end
section
set_option Elab.async false
set_option linter.all false
set_option maxRecDepth 100000
set_option maxHeartbeats 0
namespace HT
open PySem PySem.Spec PyProof.Rows L2 Pw
abbrev R : PySem.W.OpenRow := PySem.W.OpenLaw.row PySem.Challenge.rw_pullwire_k02_record_texts
def top (i : Nat) : Stmt := R.prog.main.body.getD i (.Pass ⟨0, 0, 0, 0⟩)
def gtab : List D := [.int 120, .str [48, 49, 50, 51, 52, 53, 54, 55, 56, 57]]
def ctab : Classes := [[0, 17], [1, 0, 17], [2, 0, 17], [3, 0, 17], [4, 0, 17], [5, 0, 17], [6, 0, 17], [7, 0, 17], [8, 0, 17], [9, 0, 17], [10, 0, 17], [11, 0, 17], [12, 0, 17], [13, 0, 17], [14, 0, 17], [15, 14, 0, 17], [16, 14, 0, 17], [17]]
/-- is_integer, 0:value -/
def b0 : List Stm :=
  [.ret (.andV (.isI (.v 0) [.int]) (.notV (.isI (.v 0) [.bool])))]
def d0 : Dd := ⟨"is_integer", ["value"], ["value"], defArgs (top 19), defBody (top 19), defScope (top 19), ⟨1, 1, b0⟩⟩
/-- is_integer_in, 0:value 1:low 2:high -/
def b1 : List Stm :=
  [.ret (.andV (.call 0 [.v 0]) (.chn .le .le (.v 1) (.v 0) (.v 2)))]
def d1 : Dd := ⟨"is_integer_in", ["value", "low", "high"], ["value", "low", "high"], defArgs (top 20), defBody (top 20), defScope (top 20), ⟨3, 3, b1⟩⟩
/-- check_number, 0:value 1:low 2:high -/
def b2 : List Stm :=
  [.ite (.not (.val (.call 1 [.v 0, .v 1, .v 2]))) [.rais 1 []] []]
def d2 : Dd := ⟨"check_number", ["value", "low", "high"], ["value", "low", "high"], defArgs (top 21), defBody (top 21), defScope (top 21), ⟨3, 3, b2⟩⟩
/-- is_signs, 0:value 1:sign -/
def b3 : List Stm :=
  [.ret (.andV (.isI (.v 0) [.str]) (.allOf (.comp (.cmp .inn (.v 1) (.c (.str [48, 49]))) (.v 1) (.val (.v 0)) [])))]
def d3 : Dd := ⟨"is_signs", ["value"], ["value", "sign"], defArgs (top 23), defBody (top 23), defScope (top 23), ⟨1, 2, b3⟩⟩
/-- check_wires, 0:wires -/
def b4 : List Stm :=
  [.ex (.call 2 [.v 0, .c (.int 1), .c (.int 2)])]
def d4 : Dd := ⟨"check_wires", ["wires"], ["wires"], defArgs (top 25), defBody (top 25), defScope (top 25), ⟨1, 1, b4⟩⟩
/-- is_level, 0:wires 1:value -/
def b5 : List Stm :=
  [.ex (.call 4 [.v 0]),
  .ret (.andV (.isI (.v 1) [.str]) (.andV (.cmp .eq (.f1 .len (.v 1)) (.v 0)) (.call 3 [.v 1])))]
def d5 : Dd := ⟨"is_level", ["wires", "value"], ["wires", "value"], defArgs (top 26), defBody (top 26), defScope (top 26), ⟨2, 2, b5⟩⟩
/-- is_record, 0:wires 1:value 2:level -/
def b6 : List Stm :=
  [.ex (.call 4 [.v 0]),
  .ite (.or (.not (.val (.isI (.v 1) [.tuple]))) (.val (.cmp .gt (.f1 .len (.v 1)) (.g 0)))) [.ret (.c (.bl false))] [],
  .ret (.allOf (.comp (.call 5 [.v 0, .v 2]) (.v 2) (.val (.v 1)) []))]
def d6 : Dd := ⟨"is_record", ["wires", "value"], ["wires", "value", "level"], defArgs (top 30), defBody (top 30), defScope (top 30), ⟨2, 3, b6⟩⟩
/-- check_record, 0:wires 1:record -/
def b7 : List Stm :=
  [.ite (.not (.val (.call 6 [.v 0, .v 1]))) [.rais 3 []] []]
def d7 : Dd := ⟨"check_record", ["wires", "record"], ["wires", "record"], defArgs (top 31), defBody (top 31), defScope (top 31), ⟨2, 2, b7⟩⟩
/-- write_record, 0:wires 1:record 2:count 3:level 4:runs -/
def b8 : List Stm :=
  [.ex (.call 7 [.v 0, .v 1]),
  .set (.v 4) (.ls (.disp [])),
  .forS (.v 3) (.val (.v 1)) [.ite (.and (.val (.cmp .gt (.f1 .len (.v 4)) (.c (.int 0)))) (.val (.cmp .eq (.idx (.idx (.v 4) (.neg (.c (.int 1)))) (.c (.int 0))) (.v 3)))) [.setIx (.v 4) (.neg (.c (.int 1))) (.tup [.v 3, .bin .add (.idx (.idx (.v 4) (.neg (.c (.int 1)))) (.c (.int 1))) (.c (.int 1))])] [.ex (.app (.v 4) (.tup [.v 3, .c (.int 1)]))]] [],
  .ret (.join (.c (.str [32])) (.comp (.fs (.v 3) [42] (.v 2)) (.tup [3, 2]) (.val (.v 4)) []))]
def d8 : Dd := ⟨"write_record", ["wires", "record"], ["wires", "record", "count", "level", "runs"], defArgs (top 32), defBody (top 32), defScope (top 32), ⟨2, 5, b8⟩⟩
/-- run_count, 0:text 1:digits 2:sign -/
def b9 : List Stm :=
  [.set (.v 1) (.sl (.v 0) (some (.c (.int 1))) none),
  .ite (.or (.val (.cmp .ne (.sl (.v 0) none (some (.c (.int 1)))) (.c (.str [42])))) (.or (.not (.val (.chn .le .le (.c (.int 1)) (.f1 .len (.v 1)) (.c (.int 3))))) (.val (.cmp .eq (.idx (.v 1) (.c (.int 0))) (.c (.str [48])))))) [.ret (.c (.int 0))] [],
  .ite (.not (.val (.allOf (.comp (.cmp .inn (.v 2) (.g 1)) (.v 2) (.val (.v 1)) [])))) [.ret (.c (.int 0))] [],
  .ret (.f1 .int (.v 1))]
def d9 : Dd := ⟨"run_count", ["text"], ["text", "digits", "sign"], defArgs (top 33), defBody (top 33), defScope (top 33), ⟨1, 3, b9⟩⟩
/-- read_record, 0:wires 1:text 2:before 3:column 4:count 5:level 6:record 7:word -/
def b10 : List Stm :=
  [.ex (.call 4 [.v 0]),
  .ite (.not (.val (.isI (.v 1) [.str]))) [.rais 15 [.c (.int 1), .c (.int 1)]] [],
  .ite (.val (.cmp .eq (.v 1) (.c (.str [])))) [.ret (.tup [])] [],
  .set (.v 6) (.ls (.disp [])),
  .set (.v 2) (.c (.str [])),
  .set (.v 3) (.c (.int 1)),
  .forS (.v 7) (.val (.split (.v 1) (.c (.str [32])))) [.set (.v 5) (.sl (.v 7) none (some (.v 0))),
    .set (.v 4) (.call 9 [.sl (.v 7) (some (.v 0)) none]),
    .ite (.or (.not (.val (.call 5 [.v 0, .v 5]))) (.val (.cmp .eq (.v 4) (.c (.int 0))))) [.rais 15 [.c (.int 1), .v 3]] [],
    .ite (.or (.val (.cmp .eq (.v 5) (.v 2))) (.val (.cmp .gt (.bin .add (.f1 .len (.v 6)) (.v 4)) (.g 0)))) [.rais 15 [.c (.int 1), .v 3]] [],
    .ex (.ext (.v 6) (.bin .mul (.ls (.disp [.v 5])) (.v 4))),
    .set (.v 2) (.v 5),
    .set (.v 3) (.bin .add (.bin .add (.v 3) (.f1 .len (.v 7))) (.c (.int 1)))] [4, 5, 7],
  .ret (.tupOf (.seq (.v 6)))]
def d10 : Dd := ⟨"read_record", ["wires", "text"], ["wires", "text", "before", "column", "count", "level", "record", "word"], defArgs (top 34), defBody (top 34), defScope (top 34), ⟨2, 8, b10⟩⟩
/-- wire_signs, 0:wires 1:record 2:wire 3:level -/
def b11 : List Stm :=
  [.ex (.call 7 [.v 0, .v 1]),
  .ex (.call 2 [.v 2, .c (.int 0), .bin .sub (.v 0) (.c (.int 1))]),
  .ret (.join (.c (.str [])) (.comp (.idx (.v 3) (.v 2)) (.v 3) (.val (.v 1)) []))]
def d11 : Dd := ⟨"wire_signs", ["wires", "record", "wire"], ["wires", "record", "wire", "level"], defArgs (top 35), defBody (top 35), defScope (top 35), ⟨3, 4, b11⟩⟩
/-- _law_cell, 0:script 1:k -/
def b12 : List Stm :=
  [.ite (.val (.cmp .lt (.v 1) (.f1 .len (.v 0)))) [.ret (.idx (.v 0) (.v 1))] [],
  .ret (.c (.int 0))]
def d12 : Dd := ⟨"_law_cell", ["script", "k"], ["script", "k"], defArgs (top 37), defBody (top 37), defScope (top 37), ⟨2, 2, b12⟩⟩
/-- _law_tape, 0:cell 1:salt 2:count 3:base 4:k 5:one 6:rest 7:tape 8:two -/
def b13 : List Stm :=
  [.set (.v 7) (.ls (.disp [])),
  .set (.v 6) (.c (.int 0)),
  .ite (.val (.cmp .ge (.v 0) (.bin .pow (.c (.int 10)) (.c (.int 18))))) [.set (.v 6) (.v 0)] [],
  .set (.v 3) (.bin .mod (.f1 .int (.v 0)) (.bin .add (.bin .pow (.c (.int 10)) (.c (.int 18))) (.c (.int 9)))),
  .forS (.v 4) (.rng (.v 2)) [.ite (.val (.cmp .gt (.v 6) (.c (.int 0)))) [.ex (.app (.v 7) (.bin .mod (.f1 .int (.v 6)) (.c (.int 1000)))),
      .set (.v 6) (.bin .fdiv (.v 6) (.c (.int 1000)))] [.set (.v 5) (.bin .mod (.f1 .int (.bin .add (.bin .add (.bin .mul (.v 3) (.c (.int 48271))) (.bin .mul (.bin .add (.bin .mul (.v 1) (.c (.int 997))) (.v 4)) (.c (.int 69621)))) (.c (.int 7)))) (.c (.int 2147483647))),
      .set (.v 8) (.bin .mod (.f1 .int (.bin .add (.bin .add (.bin .mul (.v 5) (.v 5)) (.bin .mul (.v 4) (.c (.int 40503)))) (.c (.int 3)))) (.c (.int 998244353))),
      .ex (.app (.v 7) (.bin .mod (.bin .mod (.f1 .int (.bin .add (.bin .mul (.v 8) (.v 8)) (.v 5))) (.c (.int 1000003))) (.c (.int 1000))))]] [4, 5, 8],
  .ret (.rev (.v 7))]
def d13 : Dd := ⟨"_law_tape", ["cell", "salt", "count"], ["cell", "salt", "count", "base", "k", "one", "rest", "tape", "two"], defArgs (top 38), defBody (top 38), defScope (top 38), ⟨3, 9, b13⟩⟩
/-- _law_take, 0:tape 1:many -/
def b14 : List Stm :=
  [.ite (.val (.cmp .eq (.f1 .len (.v 0)) (.c (.int 0)))) [.ret (.c (.int 0))] [],
  .ret (.bin .mod (.f1 .int (.pop (.v 0))) (.v 1))]
def d14 : Dd := ⟨"_law_take", ["tape", "many"], ["tape", "many"], defArgs (top 39), defBody (top 39), defScope (top 39), ⟨2, 2, b14⟩⟩
/-- _law_same, 0:value 1:due 2:k -/
def b15 : List Stm :=
  [.ite (.val (.cmp .is (.v 1) (.c (.non)))) [.ret (.cmp .is (.v 0) (.c (.non)))] [],
  .ite (.val (.isI (.v 1) [.bool])) [.ret (.andV (.isI (.v 0) [.bool]) (.cmp .eq (.v 0) (.v 1)))] [],
  .ite (.val (.isI (.v 1) [.int])) [.ret (.andV (.isI (.v 0) [.int]) (.andV (.notV (.isI (.v 0) [.bool])) (.cmp .eq (.v 0) (.v 1))))] [],
  .ite (.val (.isI (.v 1) [.str])) [.ret (.andV (.isI (.v 0) [.str]) (.cmp .eq (.v 0) (.v 1)))] [],
  .ite (.or (.not (.val (.isI (.v 0) [.tuple]))) (.val (.cmp .ne (.f1 .len (.v 0)) (.f1 .len (.v 1))))) [.ret (.c (.bl false))] [],
  .forS (.v 2) (.rng (.f1 .len (.v 1))) [.ite (.not (.val (.call 15 [.idx (.v 0) (.v 2), .idx (.v 1) (.v 2)]))) [.ret (.c (.bl false))] []] [2],
  .ret (.c (.bl true))]
def d15 : Dd := ⟨"_law_same", ["value", "due"], ["value", "due", "k"], defArgs (top 40), defBody (top 40), defScope (top 40), ⟨2, 3, b15⟩⟩
/-- _law_levels, 0:wires -/
def b16 : List Stm :=
  [.ite (.val (.cmp .eq (.v 0) (.c (.int 1)))) [.ret (.ls (.disp [.c (.str [48]), .c (.str [49])]))] [],
  .ret (.ls (.disp [.c (.str [48, 48]), .c (.str [48, 49]), .c (.str [49, 48]), .c (.str [49, 49])]))]
def d16 : Dd := ⟨"_law_levels", ["wires"], ["wires"], defArgs (top 41), defBody (top 41), defScope (top 41), ⟨1, 1, b16⟩⟩
/-- _law_runs, 0:tape 1:wires 2:count 3:few 4:k 5:last 6:level 7:others 8:runs 9:total -/
def b17 : List Stm :=
  [.set (.v 8) (.ls (.disp [])),
  .set (.v 9) (.c (.int 0)),
  .set (.v 5) (.c (.str [])),
  .set (.v 3) (.call 14 [.v 0, .c (.int 3)]),
  .forS (.v 4) (.rng (.idx (.ls (.disp [.c (.int 5), .c (.int 13), .c (.int 121)])) (.v 3))) [.ite (.and (.val (.cmp .lt (.v 9) (.c (.int 120)))) (.or (.val (.cmp .eq (.v 3) (.c (.int 2)))) (.val (.cmp .gt (.call 14 [.v 0, .c (.int 5)]) (.c (.int 0)))))) [.set (.v 7) (.ls (.comp (.v 6) (.v 6) (.val (.call 16 [.v 1])) [.val (.cmp .ne (.v 6) (.v 5))])),
      .set (.v 5) (.idx (.v 7) (.call 14 [.v 0, .f1 .len (.v 7)])),
      .set (.v 2) (.bin .add (.c (.int 1)) (.call 14 [.v 0, .idx (.ls (.disp [.c (.int 120), .c (.int 12), .c (.int 2)])) (.v 3)])),
      .set (.v 2) (.f2 .min (.v 2) (.bin .sub (.c (.int 120)) (.v 9))),
      .ex (.app (.v 8) (.tup [.v 5, .v 2])),
      .set (.v 9) (.bin .add (.v 9) (.v 2))] []] [2, 4, 7],
  .ite (.and (.val (.cmp .lt (.v 9) (.c (.int 120)))) (.val (.cmp .eq (.call 14 [.v 0, .c (.int 3)]) (.c (.int 1))))) [.set (.v 7) (.ls (.comp (.v 6) (.v 6) (.val (.call 16 [.v 1])) [.val (.cmp .ne (.v 6) (.v 5))])),
    .ex (.app (.v 8) (.tup [.idx (.v 7) (.call 14 [.v 0, .f1 .len (.v 7)]), .bin .sub (.c (.int 120)) (.v 9)]))] [],
  .ret (.v 8)]
def d17 : Dd := ⟨"_law_runs", ["tape", "wires"], ["tape", "wires", "count", "few", "k", "last", "level", "others", "runs", "total"], defArgs (top 42), defBody (top 42), defScope (top 42), ⟨2, 10, b17⟩⟩
/-- _law_count, 0:digits 1:count 2:sign -/
def b18 : List Stm :=
  [.ite (.or (.val (.cmp .lt (.f1 .len (.v 0)) (.c (.int 1)))) (.or (.val (.cmp .gt (.f1 .len (.v 0)) (.c (.int 3)))) (.val (.cmp .eq (.idx (.v 0) (.c (.int 0))) (.c (.str [48])))))) [.ret (.c (.int 0))] [],
  .set (.v 1) (.c (.int 0)),
  .forS (.v 2) (.val (.v 0)) [.ite (.val (.cmp .nin (.v 2) (.c (.str [48, 49, 50, 51, 52, 53, 54, 55, 56, 57])))) [.ret (.c (.int 0))] [],
    .set (.v 1) (.bin .add (.bin .mul (.v 1) (.c (.int 10))) (.find (.c (.str [48, 49, 50, 51, 52, 53, 54, 55, 56, 57])) (.v 2)))] [2],
  .ret (.v 1)]
def d18 : Dd := ⟨"_law_count", ["digits"], ["digits", "count", "sign"], defArgs (top 43), defBody (top 43), defScope (top 43), ⟨1, 3, b18⟩⟩
/-- _law_read, 0:wires 1:text 2:column 3:parts 4:record 5:word -/
def b19 : List Stm :=
  [.ite (.val (.cmp .eq (.v 1) (.c (.str [])))) [.ret (.tup [.c (.str [114, 101, 99, 111, 114, 100]), .tup []])] [],
  .set (.v 4) (.ls (.disp [])),
  .set (.v 2) (.c (.int 1)),
  .forS (.v 5) (.val (.split (.v 1) (.c (.str [32])))) [.set (.v 3) (.split (.v 5) (.c (.str [42]))),
    .ite (.or (.val (.cmp .ne (.f1 .len (.v 3)) (.c (.int 2)))) (.or (.val (.cmp .nin (.idx (.v 3) (.c (.int 0))) (.call 16 [.v 0]))) (.val (.cmp .eq (.call 18 [.idx (.v 3) (.c (.int 1))]) (.c (.int 0)))))) [.ret (.tup [.c (.str [102, 97, 117, 108, 116]), .c (.int 1), .v 2])] [],
    .ite (.or (.and (.val (.cmp .gt (.f1 .len (.v 4)) (.c (.int 0)))) (.val (.cmp .eq (.idx (.v 4) (.neg (.c (.int 1)))) (.idx (.v 3) (.c (.int 0)))))) (.val (.cmp .gt (.bin .add (.f1 .len (.v 4)) (.call 18 [.idx (.v 3) (.c (.int 1))])) (.c (.int 120))))) [.ret (.tup [.c (.str [102, 97, 117, 108, 116]), .c (.int 1), .v 2])] [],
    .set (.v 4) (.bin .add (.v 4) (.bin .mul (.ls (.disp [.idx (.v 3) (.c (.int 0))])) (.call 18 [.idx (.v 3) (.c (.int 1))]))),
    .set (.v 2) (.bin .add (.bin .add (.v 2) (.f1 .len (.v 5))) (.c (.int 1)))] [3, 5],
  .ret (.tup [.c (.str [114, 101, 99, 111, 114, 100]), .tupOf (.seq (.v 4))])]
def d19 : Dd := ⟨"_law_read", ["wires", "text"], ["wires", "text", "column", "parts", "record", "word"], defArgs (top 44), defBody (top 44), defScope (top 44), ⟨2, 6, b19⟩⟩
/-- _law_sign, 0:tape 1:signs -/
def b20 : List Stm :=
  [.set (.v 1) (.c (.str [48, 49, 42, 32, 49, 50, 51, 48, 53, 55, 56, 57, 120, 45, 43, 46, 97, 10])),
  .ret (.idx (.v 1) (.call 14 [.v 0, .f1 .len (.v 1)]))]
def d20 : Dd := ⟨"_law_sign", ["tape"], ["tape", "signs"], defArgs (top 45), defBody (top 45), defScope (top 45), ⟨1, 2, b20⟩⟩
/-- _law_changed, 0:tape 1:wires 2:text 3:at 4:level 5:levels 6:spot 7:way 8:words -/
def b21 : List Stm :=
  [.set (.v 7) (.call 14 [.v 0, .c (.int 8)]),
  .set (.v 3) (.call 14 [.v 0, .bin .add (.f1 .len (.v 2)) (.c (.int 1))]),
  .ite (.val (.cmp .eq (.v 7) (.c (.int 0)))) [.ret (.bin .add (.bin .add (.sl (.v 2) none (some (.v 3))) (.call 20 [.v 0])) (.sl (.v 2) (some (.v 3)) none))] [],
  .ite (.val (.cmp .eq (.v 7) (.c (.int 1)))) [.ret (.bin .add (.sl (.v 2) none (some (.v 3))) (.sl (.v 2) (some (.bin .add (.v 3) (.c (.int 1)))) none))] [],
  .ite (.val (.cmp .eq (.v 7) (.c (.int 2)))) [.ret (.bin .add (.bin .add (.sl (.v 2) none (some (.v 3))) (.call 20 [.v 0])) (.sl (.v 2) (some (.bin .add (.v 3) (.c (.int 1)))) none))] [],
  .set (.v 8) (.split (.v 2) (.c (.str [32]))),
  .set (.v 6) (.call 14 [.v 0, .f1 .len (.v 8)]),
  .ite (.val (.cmp .eq (.v 7) (.c (.int 3)))) [.ex (.insl (.v 8) (.v 6) (.idx (.v 8) (.v 6)))] [.ite (.and (.val (.cmp .eq (.v 7) (.c (.int 4)))) (.val (.cmp .lt (.bin .add (.v 6) (.c (.int 1))) (.f1 .len (.v 8))))) [.set (.v 8) (.bin .add (.bin .add (.sl (.v 8) none (some (.v 6))) (.ls (.disp [.idx (.v 8) (.bin .add (.v 6) (.c (.int 1))), .idx (.v 8) (.v 6)]))) (.sl (.v 8) (some (.bin .add (.v 6) (.c (.int 2)))) none))] [.ite (.val (.cmp .eq (.v 7) (.c (.int 5)))) [.set (.v 4) (.sl (.idx (.v 8) (.v 6)) none (some (.v 1))),
        .setIx (.v 8) (.v 6) (.bin .add (.bin .add (.bin .add (.v 4) (.c (.str [42]))) (.idx (.ls (.disp [.c (.str []), .c (.str [48])])) (.call 14 [.v 0, .c (.int 2)]))) (.f1 .str (.call 14 [.v 0, .c (.int 1000)])))] [.ite (.val (.cmp .eq (.v 7) (.c (.int 6)))) [.set (.v 5) (.call 16 [.v 1]),
          .ex (.app (.v 8) (.bin .add (.bin .add (.idx (.v 5) (.call 14 [.v 0, .f1 .len (.v 5)])) (.c (.str [42]))) (.f1 .str (.call 14 [.v 0, .c (.int 130)]))))] [.setIx (.v 8) (.v 6) (.bin .add (.idx (.call 16 [.bin .sub (.c (.int 3)) (.v 1)]) (.call 14 [.v 0, .c (.int 2)])) (.sl (.idx (.v 8) (.v 6)) (some (.v 1)) none))]]]],
  .ret (.join (.c (.str [32])) (.seq (.v 8)))]
def d21 : Dd := ⟨"_law_changed", ["tape", "wires", "text"], ["tape", "wires", "text", "at", "level", "levels", "spot", "way", "words"], defArgs (top 46), defBody (top 46), defScope (top 46), ⟨3, 9, b21⟩⟩
/-- _law_drawn, 0:tape 1:k 2:text -/
def b22 : List Stm :=
  [.set (.v 2) (.c (.str [])),
  .forS (.v 1) (.rng (.call 14 [.v 0, .c (.int 19)])) [.set (.v 2) (.bin .add (.v 2) (.call 20 [.v 0]))] [1],
  .ret (.v 2)]
def d22 : Dd := ⟨"_law_drawn", ["tape"], ["tape", "k", "text"], defArgs (top 47), defBody (top 47), defScope (top 47), ⟨1, 3, b22⟩⟩
/-- _law_told, 0:wires 1:text 2:e -/
def b23 : List Stm :=
  [.tryS [.ret (.tup [.c (.str [114, 101, 99, 111, 114, 100]), .call 10 [.v 0, .v 1]])] [([15], some 2, [.ite (.val (.isX [8, 7, 6, 4, 16, 1, 5, 3, 9])) [.ret (.tup [.c (.str [119, 114, 111, 110, 103]), .c (.int 0), .c (.int 0)])] [],
    .ite (.or (.val (.isX [2, 10, 12, 11, 13])) (.not (.val (.isX [14])))) [.ret (.tup [.c (.str [119, 114, 111, 110, 103]), .c (.int 0), .c (.int 0)])] [],
    .ite (.or (.not (.val (.isX [0]))) (.not (.val (.isX [17])))) [.ret (.tup [.c (.str [119, 114, 111, 110, 103]), .c (.int 0), .c (.int 0)])] [],
    .ret (.tup [.c (.str [102, 97, 117, 108, 116]), .xf [14, 15, 16] 0, .xf [14, 15, 16] 1])]), ([0], none, [.ret (.tup [.c (.str [119, 114, 111, 110, 103]), .c (.int 0), .c (.int 0)])])]]
def d23 : Dd := ⟨"_law_told", ["wires", "text"], ["wires", "text", "e"], defArgs (top 48), defBody (top 48), defScope (top 48), ⟨2, 3, b23⟩⟩
/-- _law_ask, 0:which 1:wires 2:record 3:wire -/
def b24 : List Stm :=
  [.ite (.val (.cmp .eq (.v 0) (.c (.int 0)))) [.ret (.call 8 [.v 1, .v 2])] [],
  .ite (.val (.cmp .eq (.v 0) (.c (.int 1)))) [.ret (.call 11 [.v 1, .v 2, .v 3])] [],
  .ite (.val (.cmp .eq (.v 0) (.c (.int 2)))) [.ret (.call 6 [.v 1, .v 2])] [],
  .ret (.call 10 [.v 1, .v 2])]
def d24 : Dd := ⟨"_law_ask", ["which", "wires", "record", "wire"], ["which", "wires", "record", "wire"], defArgs (top 49), defBody (top 49), defScope (top 49), ⟨4, 4, b24⟩⟩
/-- _law_bad_record, 0:which 1:wires 2:record 3:wire 4:e -/
def b25 : List Stm :=
  [.tryS [.ex (.call 24 [.v 0, .v 1, .v 2, .v 3])] [([3], some 4, [.ite (.val (.isX [8, 7, 6, 4, 1, 5, 9, 14, 2])) [.ret (.c (.bl false))] [],
    .ite (.val (.isX [10, 12, 11, 13])) [.ret (.c (.bl false))] [],
    .ret (.andV (.isX [0]) (.isX [17]))]), ([0], none, [.ret (.c (.bl false))])],
  .ret (.c (.bl false))]
def d25 : Dd := ⟨"_law_bad_record", ["which", "wires", "record", "wire"], ["which", "wires", "record", "wire", "e"], defArgs (top 50), defBody (top 50), defScope (top 50), ⟨4, 5, b25⟩⟩
/-- _law_bad_number, 0:which 1:wires 2:record 3:wire 4:e -/
def b26 : List Stm :=
  [.tryS [.ex (.call 24 [.v 0, .v 1, .v 2, .v 3])] [([1], some 4, [.ite (.val (.isX [8, 7, 6, 4, 5, 3, 9, 14, 2])) [.ret (.c (.bl false))] [],
    .ite (.val (.isX [10, 12, 11, 13])) [.ret (.c (.bl false))] [],
    .ret (.andV (.isX [0]) (.isX [17]))]), ([0], none, [.ret (.c (.bl false))])],
  .ret (.c (.bl false))]
def d26 : Dd := ⟨"_law_bad_number", ["which", "wires", "record", "wire"], ["which", "wires", "record", "wire", "e"], defArgs (top 51), defBody (top 51), defScope (top 51), ⟨4, 5, b26⟩⟩
/-- _law_no_record, 0:choice 1:wires 2:record 3:at 4:bad 5:level -/
def b27 : List Stm :=
  [.set (.v 5) (.bin .mul (.c (.str [48])) (.v 1)),
  .ite (.val (.cmp .eq (.v 0) (.c (.int 0)))) [.ret (.ls (.seq (.v 2)))] [],
  .ite (.val (.cmp .eq (.v 0) (.c (.int 1)))) [.ret (.bin .add (.v 2) (.bin .mul (.tup [.v 5]) (.bin .sub (.c (.int 121)) (.f1 .len (.v 2)))))] [],
  .ite (.val (.cmp .lt (.v 0) (.c (.int 9)))) [.set (.v 4) (.idx (.ls (.disp [.c (.non), .c (.int 1), .c (.bl true), .c (.str []), .bin .mul (.c (.str [48])) (.bin .sub (.c (.int 3)) (.v 1)), .tup [.c (.str [49])], .bin .mul (.c (.str [50])) (.v 1)])) (.bin .sub (.v 0) (.c (.int 2)))),
    .ret (.bin .add (.bin .add (.sl (.v 2) none (some (.v 3))) (.tup [.v 4])) (.sl (.v 2) (some (.bin .add (.v 3) (.c (.int 1)))) none))] [],
  .ret (.idx (.ls (.disp [.c (.non), .c (.int 7), .c (.bl false), .c (.str [49, 42, 49]), .v 5, .dct [], .ls (.disp [.v 5]), .dct [.c (.int 0), .v 5]])) (.bin .sub (.v 0) (.c (.int 9))))]
def d27 : Dd := ⟨"_law_no_record", ["choice", "wires", "record", "at"], ["choice", "wires", "record", "at", "bad", "level"], defArgs (top 52), defBody (top 52), defScope (top 52), ⟨4, 6, b27⟩⟩
/-- _law_refused, 0:tape 1:wires 2:record 3:at 4:bad 5:choice 6:number 7:text 8:which 9:wire -/
def b28 : List Stm :=
  [.set (.v 5) (.call 14 [.v 0, .c (.int 17)]),
  .set (.v 3) (.call 14 [.v 0, .bin .add (.f2 .min (.f1 .len (.v 2)) (.c (.int 119))) (.c (.int 1))]),
  .set (.v 4) (.call 27 [.v 5, .v 1, .v 2, .v 3]),
  .set (.v 6) (.idx (.ls (.disp [.c (.int 0), .c (.int 3), .c (.bl true), .c (.bl false), .c (.non), .c (.str [49]), .tup [.c (.int 1)], .ls (.disp [.c (.int 2)]), .neg (.c (.int 1))])) (.call 14 [.v 0, .c (.int 9)])),
  .set (.v 9) (.idx (.ls (.disp [.neg (.c (.int 1)), .v 1, .c (.bl true), .c (.non), .c (.str [48]), .tup [.c (.int 0)], .ls (.disp [.c (.int 0)]), .c (.int 5)])) (.call 14 [.v 0, .c (.int 8)])),
  .ite (.not (.val (.call 15 [.call 6 [.v 1, .v 4], .c (.bl false)]))) [.ret (.c (.bl false))] [],
  .ite (.or (.not (.val (.call 25 [.c (.int 0), .v 1, .v 4, .c (.int 0)]))) (.not (.val (.call 25 [.c (.int 1), .v 1, .v 4, .v 9])))) [.ret (.c (.bl false))] [],
  .ite (.or (.not (.val (.call 25 [.c (.int 1), .v 1, .v 4, .c (.int 0)]))) (.val (.cmp .ne (.v 4) (.call 27 [.v 5, .v 1, .v 2, .v 3])))) [.ret (.c (.bl false))] [],
  .ite (.not (.val (.call 26 [.c (.int 1), .v 1, .v 2, .v 9]))) [.ret (.c (.bl false))] [],
  .forS (.v 8) (.rng (.c (.int 4))) [.ite (.not (.val (.call 26 [.v 8, .v 6, .v 4, .v 9]))) [.ret (.c (.bl false))] []] [8],
  .set (.v 7) (.idx (.ls (.disp [.c (.non), .c (.int 5), .c (.bl true), .tup [.c (.str [49, 42, 49])], .ls (.disp [.c (.str [49, 42, 49])]), .dct [], .v 2, .ls (.seq (.v 2))])) (.call 14 [.v 0, .c (.int 8)])),
  .ret (.andV (.call 15 [.call 23 [.v 1, .v 7], .tup [.c (.str [102, 97, 117, 108, 116]), .c (.int 1), .c (.int 1)]]) (.call 26 [.c (.int 3), .v 6, .c (.str [49, 42, 49]), .c (.int 0)]))]
def d28 : Dd := ⟨"_law_refused", ["tape", "wires", "record"], ["tape", "wires", "record", "at", "bad", "choice", "number", "text", "which", "wire"], defArgs (top 53), defBody (top 53), defScope (top 53), ⟨3, 10, b28⟩⟩
/-- law, 0:script 1:count 2:due 3:k 4:level 5:levels 6:record 7:run 8:runs 9:signs 10:tape 11:text 12:wire 13:wires -/
def b29 : List Stm :=
  [.set (.v 10) (.call 13 [.call 12 [.v 0, .c (.int 0)], .c (.int 0), .c (.int 300)]),
  .set (.v 13) (.bin .add (.c (.int 1)) (.call 14 [.v 10, .c (.int 2)])),
  .set (.v 8) (.call 17 [.v 10, .v 13]),
  .set (.v 11) (.join (.c (.str [32])) (.comp (.bin .add (.bin .add (.idx (.v 7) (.c (.int 0))) (.c (.str [42]))) (.f1 .str (.idx (.v 7) (.c (.int 1))))) (.v 7) (.val (.v 8)) [])),
  .set (.v 5) (.ls (.disp [])),
  .forS (.tup [4, 1]) (.val (.v 8)) [.set (.v 5) (.bin .add (.v 5) (.bin .mul (.ls (.disp [.v 4])) (.v 1)))] [1],
  .set (.v 6) (.tupOf (.seq (.v 5))),
  .ite (.or (.not (.val (.call 15 [.call 6 [.v 13, .v 6], .c (.bl true)]))) (.not (.val (.call 15 [.call 8 [.v 13, .v 6], .v 11])))) [.ret (.c (.bl false))] [],
  .ite (.not (.val (.call 15 [.call 23 [.v 13, .v 11], .tup [.c (.str [114, 101, 99, 111, 114, 100]), .v 6]]))) [.ret (.c (.bl false))] [],
  .forS (.v 12) (.rng (.v 13)) [.set (.v 9) (.join (.c (.str [])) (.comp (.idx (.v 4) (.v 12)) (.v 4) (.val (.v 5)) [])),
    .ite (.not (.val (.call 15 [.call 11 [.v 13, .v 6, .v 12], .v 9]))) [.ret (.c (.bl false))] []] [9, 12],
  .set (.v 10) (.call 13 [.call 12 [.v 0, .c (.int 1)], .c (.int 1), .c (.int 60)]),
  .ite (.val (.cmp .eq (.call 14 [.v 10, .c (.int 6)]) (.c (.int 5)))) [.set (.v 11) (.call 22 [.v 10])] [.forS (.v 3) (.rng (.bin .add (.c (.int 1)) (.call 14 [.v 10, .c (.int 2)]))) [.set (.v 11) (.call 21 [.v 10, .v 13, .v 11])] [3]],
  .set (.v 2) (.call 19 [.v 13, .v 11]),
  .ite (.not (.val (.call 15 [.call 23 [.v 13, .v 11], .v 2]))) [.ret (.c (.bl false))] [],
  .ite (.and (.val (.cmp .eq (.idx (.v 2) (.c (.int 0))) (.c (.str [114, 101, 99, 111, 114, 100])))) (.not (.val (.call 15 [.call 8 [.v 13, .idx (.v 2) (.c (.int 1))], .v 11])))) [.ret (.c (.bl false))] [],
  .ret (.call 28 [.call 13 [.call 12 [.v 0, .c (.int 2)], .c (.int 2), .c (.int 30)], .v 13, .v 6])]
def d29 : Dd := ⟨"law", ["script"], ["script", "count", "due", "k", "level", "levels", "record", "run", "runs", "signs", "tape", "text", "wire", "wires"], defArgs (top 54), defBody (top 54), defScope (top 54), ⟨1, 14, b29⟩⟩
def in0 : In1 := ⟨"TooMany", "TooMany.__init__", "self", ["limit"], ["limit"], defArgs (iniOf (top 14)), defBody (iniOf (top 14)), defScope (iniOf (top 14))⟩
def in1 : In1 := ⟨"BadText", "BadText.__init__", "self", ["line", "column"], ["line", "column"], defArgs (iniOf (top 15)), defBody (iniOf (top 15)), defScope (iniOf (top 15))⟩
def txt : Txt := ⟨[d0, d1, d2, d3, d4, d5, d6, d7, d8, d9, d10, d11, d12, d13, d14, d15, d16, d17, d18, d19, d20, d21, d22, d23, d24, d25, d26, d27, d28, d29], 30, ["RECORD_MOST", "DIGITS"], gtab, ["WireError", "BadNumber", "BadWord", "BadRecord", "BadKind", "BadPlan", "BadHouse", "BadClaim", "BadBook", "BadRoll", "NoAccount", "NotSound", "NoDeed", "TooMany", "BadText", "BadForm", "BadName"], ["WireError", "BadNumber", "BadWord", "BadRecord", "BadKind", "BadPlan", "BadHouse", "BadClaim", "BadBook", "BadRoll", "NoAccount", "NotSound", "NoDeed", "TooMany", "BadText", "BadForm", "BadName", "ValueError"], ctab, [in0, in1], [[], [], [], [], [], [], [], [], [], [], [], [], [], ["limit"], ["line", "column"], ["line", "column"], ["line", "column"]], [0, 0, 0, 0, 0, 0, 0, 0, 0, 0, 0, 0, 0, 0, 1, 1, 1], R.prog.main.file⟩
def names0 : List PySem.Str := ["WireError", "BadNumber", "BadWord", "BadRecord", "BadKind", "BadPlan", "BadHouse", "BadClaim", "BadBook", "BadRoll", "NoAccount", "NotSound", "NoDeed", "TooMany", "BadText", "BadForm", "BadName", "is_integer", "is_integer_in", "check_number", "is_signs", "check_wires", "is_level", "RECORD_MOST", "DIGITS", "is_record", "check_record", "write_record", "run_count", "read_record"]
def names1 : List PySem.Str := ["wire_signs", "_law_cell", "_law_tape", "_law_take", "_law_same", "_law_levels", "_law_runs", "_law_count", "_law_read", "_law_sign", "_law_changed", "_law_drawn", "_law_told", "_law_ask", "_law_bad_record", "_law_bad_number", "_law_no_record", "_law_refused"]
def names : List PySem.Str := names0 ++ names1
theorem look : txt.look = true := by decide +kernel
theorem bn0 : BindP d0 := fun _ _ _ _ _ _ us hl => match us, hl with | [_], _ => rfl
theorem bn1 : BindP d1 := fun _ _ _ _ _ _ us hl => match us, hl with | [_, _, _], _ => rfl
theorem bn2 : BindP d2 := fun _ _ _ _ _ _ us hl => match us, hl with | [_, _, _], _ => rfl
theorem bn3 : BindP d3 := fun _ _ _ _ _ _ us hl => match us, hl with | [_], _ => rfl
theorem bn4 : BindP d4 := fun _ _ _ _ _ _ us hl => match us, hl with | [_], _ => rfl
theorem bn5 : BindP d5 := fun _ _ _ _ _ _ us hl => match us, hl with | [_, _], _ => rfl
theorem bn6 : BindP d6 := fun _ _ _ _ _ _ us hl => match us, hl with | [_, _], _ => rfl
theorem bn7 : BindP d7 := fun _ _ _ _ _ _ us hl => match us, hl with | [_, _], _ => rfl
theorem bn8 : BindP d8 := fun _ _ _ _ _ _ us hl => match us, hl with | [_, _], _ => rfl
theorem bn9 : BindP d9 := fun _ _ _ _ _ _ us hl => match us, hl with | [_], _ => rfl
theorem bn10 : BindP d10 := fun _ _ _ _ _ _ us hl => match us, hl with | [_, _], _ => rfl
theorem bn11 : BindP d11 := fun _ _ _ _ _ _ us hl => match us, hl with | [_, _, _], _ => rfl
theorem bn12 : BindP d12 := fun _ _ _ _ _ _ us hl => match us, hl with | [_, _], _ => rfl
theorem bn13 : BindP d13 := fun _ _ _ _ _ _ us hl => match us, hl with | [_, _, _], _ => rfl
theorem bn14 : BindP d14 := fun _ _ _ _ _ _ us hl => match us, hl with | [_, _], _ => rfl
theorem bn15 : BindP d15 := fun _ _ _ _ _ _ us hl => match us, hl with | [_, _], _ => rfl
theorem bn16 : BindP d16 := fun _ _ _ _ _ _ us hl => match us, hl with | [_], _ => rfl
theorem bn17 : BindP d17 := fun _ _ _ _ _ _ us hl => match us, hl with | [_, _], _ => rfl
theorem bn18 : BindP d18 := fun _ _ _ _ _ _ us hl => match us, hl with | [_], _ => rfl
theorem bn19 : BindP d19 := fun _ _ _ _ _ _ us hl => match us, hl with | [_, _], _ => rfl
theorem bn20 : BindP d20 := fun _ _ _ _ _ _ us hl => match us, hl with | [_], _ => rfl
theorem bn21 : BindP d21 := fun _ _ _ _ _ _ us hl => match us, hl with | [_, _, _], _ => rfl
theorem bn22 : BindP d22 := fun _ _ _ _ _ _ us hl => match us, hl with | [_], _ => rfl
theorem bn23 : BindP d23 := fun _ _ _ _ _ _ us hl => match us, hl with | [_, _], _ => rfl
theorem bn24 : BindP d24 := fun _ _ _ _ _ _ us hl => match us, hl with | [_, _, _, _], _ => rfl
theorem bn25 : BindP d25 := fun _ _ _ _ _ _ us hl => match us, hl with | [_, _, _, _], _ => rfl
theorem bn26 : BindP d26 := fun _ _ _ _ _ _ us hl => match us, hl with | [_, _, _, _], _ => rfl
theorem bn27 : BindP d27 := fun _ _ _ _ _ _ us hl => match us, hl with | [_, _, _, _], _ => rfl
theorem bn28 : BindP d28 := fun _ _ _ _ _ _ us hl => match us, hl with | [_, _, _], _ => rfl
theorem bn29 : BindP d29 := fun _ _ _ _ _ _ us hl => match us, hl with | [_], _ => rfl
theorem bnd : ∀ (i : Nat) (a : Dd), txt.ds[i]? = some a → BindP a
  | 0, _, h => by cases h; exact bn0
  | 1, _, h => by cases h; exact bn1
  | 2, _, h => by cases h; exact bn2
  | 3, _, h => by cases h; exact bn3
  | 4, _, h => by cases h; exact bn4
  | 5, _, h => by cases h; exact bn5
  | 6, _, h => by cases h; exact bn6
  | 7, _, h => by cases h; exact bn7
  | 8, _, h => by cases h; exact bn8
  | 9, _, h => by cases h; exact bn9
  | 10, _, h => by cases h; exact bn10
  | 11, _, h => by cases h; exact bn11
  | 12, _, h => by cases h; exact bn12
  | 13, _, h => by cases h; exact bn13
  | 14, _, h => by cases h; exact bn14
  | 15, _, h => by cases h; exact bn15
  | 16, _, h => by cases h; exact bn16
  | 17, _, h => by cases h; exact bn17
  | 18, _, h => by cases h; exact bn18
  | 19, _, h => by cases h; exact bn19
  | 20, _, h => by cases h; exact bn20
  | 21, _, h => by cases h; exact bn21
  | 22, _, h => by cases h; exact bn22
  | 23, _, h => by cases h; exact bn23
  | 24, _, h => by cases h; exact bn24
  | 25, _, h => by cases h; exact bn25
  | 26, _, h => by cases h; exact bn26
  | 27, _, h => by cases h; exact bn27
  | 28, _, h => by cases h; exact bn28
  | 29, _, h => by cases h; exact bn29
  | _ + 30, _, h => by cases h
theorem bi0 : BindI in0 := fun _ _ _ _ _ _ _ us hl => match us, hl with | [_, _], _ => rfl
theorem bi1 : BindI in1 := fun _ _ _ _ _ _ _ us hl => match us, hl with | [_, _, _], _ => rfl
theorem bni : ∀ a ∈ txt.ini, BindI a := fun a h => by
  have h : a ∈ [in0, in1] := h
  simp only [List.mem_cons, List.not_mem_nil, or_false] at h
  rcases h with rfl | rfl
  · exact bi0
  · exact bi1
theorem run (w : World) : HandSHeadRun.RunEq R (PySem.W.view R.prog [54]) txt.hook txt.ob 20000 names w := by
  intro os
  kernel_rfl
end HT
end
section
namespace HT
open Pw
def P : Prg := HT.txt.prg
end HT
end
section
set_option maxHeartbeats 0
set_option linter.all false
set_option maxRecDepth 100000
namespace Pw
theorem joinS_one : ∀ l : List Nat, joinS [] (l.map fun c => [c]) = l
  | [] => rfl
  | [c] => rfl
  | c :: d :: r => by
    have := joinS_one (d :: r)
    simp only [List.map_cons] at this
    simp only [List.map_cons, joinS, this]
    rfl
theorem filter_true {α : Type} (l : List α) : l.filter (fun _ => true) = l := List.filter_eq_self.mpr (by simp)
theorem fin_len {S S' : Store} {d : D} (h : S'.length = S.length) : fin S S' d = .ok d S' := by unfold fin; rw [if_pos h]
theorem fin_tp {S pre : Store} {t : Nat} {o u : SO} {d : D} (hd : D.bel S.length d = true) (ho : SO.bel S.length u = true) : fin (put S t o) (pre ++ put S t u) d = .ok d (put S t u) := by
  have h := fin_put (S := put S t o) (pre := pre) (m := t) (o := u) (d := d) (by rw [put_len]; exact hd) (by rw [put_len]; exact ho)
  rwa [put_put] at h
end Pw
namespace HT
open Pw
@[simp] theorem PG0 : P.G[0]? = some (.int 120) := rfl
@[simp] theorem PG1 : P.G[1]? = some (.str [48, 49, 50, 51, 52, 53, 54, 55, 56, 57]) := rfl
/-! numbers -/
def isIn (lo hi : Int) : D → Bool
  | .int i => decide (lo ≤ i) && decide (i ≤ hi)
  | _ => false
theorem sp_is_integer (n : Nat) (d : D) (S : Store) (h : okE d = true) : den P (n + 1) none 0 [d] S = .ok (.bl (match d with | .int _ => true | _ => false)) S := by
  refine den_wp (f := ⟨1, 1, b0⟩) rfl rfl ?_
  cases d <;> simp at h <;> simp (disch := first | omega | (simp; done) | (simp; omega)) [if_pos, if_neg, b0]
theorem sp_is_integer_in (n : Nat) (d : D) (lo hi : Int) (S : Store) (h : okE d = true) : den P (n + 2) none 1 [d, .int lo, .int hi] S = .ok (.bl (isIn lo hi d)) S := by
  refine den_wp (f := ⟨3, 3, b1⟩) rfl rfl ?_
  cases d with
  | int i =>
    simp (disch := first | omega | (simp; done) | (simp; omega)) [if_pos, if_neg, b1, sp_is_integer n (.int i) S rfl]
    by_cases h1 : lo ≤ i
    · simp (disch := first | omega | (simp; done) | (simp; omega)) [if_pos, if_neg, h1, isIn]
    · simp (disch := first | omega | (simp; done) | (simp; omega)) [if_pos, if_neg, h1, isIn]
  | _ => simp (disch := first | omega | (simp; done) | (simp; omega)) [if_pos, if_neg, b1, sp_is_integer n _ S h, isIn]
theorem sp_check_number (n : Nat) (d : D) (lo hi : Int) (S : Store) (h : okE d = true) : den P (n + 3) none 2 [d, .int lo, .int hi] S = if isIn lo hi d = true then .ok .non S else .exc 1 [] S := by
  refine den_wp (f := ⟨3, 3, b2⟩) rfl rfl ?_
  cases hi' : isIn lo hi d with
  | true => simp (disch := first | omega | (simp; done) | (simp; omega)) [if_pos, if_neg, b2, sp_is_integer_in n d lo hi S h, hi']
  | false =>
    simp (disch := first | omega | (simp; done) | (simp; omega)) [if_pos, if_neg, b2, sp_is_integer_in n d lo hi S h, hi']
    exact finX_nil (pre := []) rfl
/-! words -/
theorem sp_is_signs (n : Nat) (s : List Nat) (S : Store) (h : s.length ≤ 16777216) : den P (n + 1) none 3 [.str s] S = .ok (.bl (s.all fun c => decide (c ∈ [48, 49]))) S := by
  refine den_wp (f := ⟨1, 2, b3⟩) rfl rfl ?_
  simp (disch := first | omega | (simp; done) | (simp; omega)) [if_pos, if_neg, b3]
  rw [compK_map (fun x => .bl (match x with | .str [c] => decide (c ∈ [48, 49]) | _ => false))]
  · simp [Function.comp_def]
  · simpa using h
  · intro x hx
    rw [List.mem_map] at hx
    obtain ⟨a, _, rfl⟩ := hx
    exact ⟨_, rfl, by simp, by simp⟩
theorem sp_check_wires (n : Nat) (d : D) (S : Store) (h : okE d = true) : den P (n + 4) none 4 [d] S = if isIn 1 2 d = true then .ok .non S else .exc 1 [] S := by
  refine den_wp (f := ⟨1, 1, b4⟩) rfl rfl ?_
  cases hi' : isIn 1 2 d with
  | true => simp (disch := first | omega | (simp; done) | (simp; omega)) [if_pos, if_neg, b4, sp_check_number n d 1 2 S h, hi']
  | false =>
    simp (disch := first | omega | (simp; done) | (simp; omega)) [if_pos, if_neg, b4, sp_check_number n d 1 2 S h, hi']
    exact finX_nil (pre := []) rfl
theorem wiresx (n : Nat) (d : D) (S : Store) (h : okE d = true) (hb : isIn 1 2 d = false) : den P (n + 4) none 4 [d] S = .exc 1 [] S := by rw [sp_check_wires n d S h, hb]; rfl
theorem wiresk (n : Nat) (w : Nat) (S : Store) (hw : w = 1 ∨ w = 2) : den P (n + 4) none 4 [.int w] S = .ok .non S := by
  rw [sp_check_wires n _ S rfl, if_pos (by simp [isIn]; omega)]
def isLvD (w : Nat) : D → Bool
  | .str s => decide (s.length = w) && s.all fun c => decide (c ∈ [48, 49])
  | _ => false
theorem sp_is_level (n : Nat) (w : Nat) (d : D) (S : Store) (hw : w = 1 ∨ w = 2) (h : okE d = true) : den P (n + 5) none 5 [.int w, d] S = .ok (.bl (isLvD w d)) S := by
  refine den_wp (f := ⟨2, 2, b5⟩) rfl rfl ?_
  have e := wiresk n w S hw
  cases d with
  | str s =>
    simp only [okE_str, decide_eq_true_eq] at h
    simp (disch := first | omega | (simp; done) | (simp; omega)) [if_pos, if_neg, b5, e]
    by_cases h1 : s.length = w
    · simp (disch := first | omega | (simp; done) | (simp; omega)) [if_pos, if_neg, h1, sp_is_signs (n + 3) s S h, isLvD]
    · simp (disch := first | omega | (simp; done) | (simp; omega)) [if_pos, if_neg, h1, isLvD]
  | exc => simp at h
  | _ => simp (disch := first | omega | (simp; done) | (simp; omega)) [if_pos, if_neg, b5, e, isLvD]
theorem sp_is_level_x (n : Nat) (d x : D) (S : Store) (h : okE d = true) (hb : isIn 1 2 d = false) : den P (n + 5) none 5 [d, x] S = .exc 1 [] S := by
  refine den_wp (f := ⟨2, 2, b5⟩) rfl rfl ?_
  simp (disch := first | omega | (simp; done) | (simp; omega)) [if_pos, if_neg, b5, wiresx n d S h hb]
  exact finX_nil (pre := []) rfl
/-- the tape at t holds these numbers -/
abbrev tp (S : Store) (t : Nat) (ns : List Int) : Store := put S t (.lst (ns.map .int))
theorem sp_cell (n : Nat) (S : Store) (zs : List Int) (k : Nat) (h : get S 0 = some (.ro (zs.map .int))) : ∃ i : Int, den P (n + 1) none 12 [.obj 0, .int k] S = .ok (.int i) S := by
  by_cases h1 : k < zs.length
  · exact ⟨zs[k], den_wp (f := ⟨2, 2, b12⟩) rfl rfl (by simp (disch := first | omega | (simp; done) | (simp; omega)) [if_pos, if_neg, b12, h, h1])⟩
  · exact ⟨0, den_wp (f := ⟨2, 2, b12⟩) rfl rfl (by simp (disch := first | omega | (simp; done) | (simp; omega)) [if_pos, if_neg, b12, h, h1])⟩
theorem sp_tape (n : Nat) (S : Store) (c : Int) (salt m : Nat) (hs : salt < 100) (hm : m < 1000) : ∃ ns : List Int, True ∧ den P (n + 1) none 13 [.int c, .int salt, .int m] S = .ok (.obj S.length) (.lst (ns.map .int) :: S) := by
  refine den_post (f := ⟨3, 9, b13⟩) (fun ns : List Int => True) (fun ns => .ok (.obj S.length) (.lst (ns.map .int) :: S)) rfl rfl ?_
  have hp : ∀ S, binD .pow (.int 10) (.int 18) S = .ok (.int (10 ^ 18)) S := fun S => pow_i ⟨by omega, by omega, by decide⟩
  obtain ⟨base, hb, hb0, hb1⟩ : ∃ base : Int, base = c % 1000000000000000009 ∧ 0 ≤ base ∧ base < 1000000000000000009 := ⟨_, rfl, Int.emod_nonneg _ (by decide), Int.emod_lt_of_pos _ (by decide)⟩
  obtain ⟨r0, hr0⟩ : ∃ r0 : Int, r0 = if 1000000000000000000 ≤ c then c else 0 := ⟨_, rfl⟩
  refine wp_split 4 [some (.int c), some (.int salt), some (.int m), some (.int base), none, none, some (.int r0), some (.obj S.length), none] (.lst [] :: S) ?_ ?_
  · simp only [b13, List.take_succ_cons, List.take_zero]
    by_cases hc : 1000000000000000000 ≤ c
    · rw [if_pos hc] at hr0
      simp (disch := first | omega | (simp; done) | (simp; omega)) [if_pos, if_neg, hp, hc, hb, hr0]
    · rw [if_neg hc] at hr0
      simp (disch := first | omega | (simp; done) | (simp; omega)) [if_pos, if_neg, hp, hc, hb, hr0]
  simp only [b13, List.drop_succ_cons, List.drop_zero]
  simp (disch := first | omega | (simp; done) | (simp; omega)) [if_pos, if_neg, id]
  refine wp_seq (wp_forR m (fun a : Int × List Int => [some (.int c), some (.int salt), some (.int m), some (.int base), none, none, some (.int a.1), some (.obj S.length), none]) (fun a => .lst (a.2.map .int) :: S) (fun i a => a.2.length = i) (r0, []) rfl rfl rfl ?_ ?_)
  · rintro i ⟨rest, ns⟩ hi hl
    simp only at hl
    by_cases hr : 0 < rest
    · simp (disch := first | omega | (simp; done) | (simp; omega)) [if_pos, if_neg, hr]
      exact ⟨(rest / 1000, ns ++ [rest % 1000]), by simp [hl], by simp, by simp⟩
    · have q1 := Int.emod_nonneg (base * 48271 + ((salt : Int) * 997 + (i : Int)) * 69621 + 7) (show (2147483647 : Int) ≠ 0 by decide)
      have q2 := Int.emod_lt_of_pos (base * 48271 + ((salt : Int) * 997 + (i : Int)) * 69621 + 7) (show (0 : Int) < 2147483647 by decide)
      generalize hone : (base * 48271 + ((salt : Int) * 997 + (i : Int)) * 69621 + 7) % 2147483647 = one at q1 q2
      have q3 := Int.emod_nonneg (one * one + (i : Int) * 40503 + 3) (show (998244353 : Int) ≠ 0 by decide)
      have q4 := Int.emod_lt_of_pos (one * one + (i : Int) * 40503 + 3) (show (0 : Int) < 998244353 by decide)
      generalize htwo : (one * one + (i : Int) * 40503 + 3) % 998244353 = two at q3 q4
      simp (disch := first | omega | (simp; done) | (simp; omega)) [if_pos, if_neg, hr, hone, htwo]
      exact ⟨(rest, ns ++ [(two * two + one) % 1000003 % 1000]), by simp [hl], by simp, by simp⟩
  · rintro ⟨rest, ns⟩ hl
    simp (disch := first | omega | (simp; done) | (simp; omega)) [if_pos, if_neg, revD]
    refine ⟨ns.reverse, ?_⟩
    rw [List.map_reverse]
    exact fin_o2 (by rw [obel_lst, ← List.map_reverse]; exact bels_int' _ _)
theorem sp_take (n : Nat) (S : Store) (t : Nat) (ns : List Int) (m : Nat) (ht : t < S.length) (hm : 0 < m) : ∃ (v : Nat) (ns' : List Int), v < m ∧ den P (n + 1) none 14 [.obj t, .int m] (tp S t ns) = .ok (.int v) (tp S t ns') := by
  have hg : get (tp S t ns) t = some (.lst (ns.map .int)) := get_put_self ht
  rcases List.eq_nil_or_concat ns with rfl | ⟨r, z, hz⟩
  · refine ⟨0, [], hm, den_wp (f := ⟨2, 2, b14⟩) rfl rfl ?_⟩
    simp (disch := first | omega | (simp; done) | (simp; omega)) [if_pos, if_neg, b14, hg]
  · rw [List.concat_eq_append] at hz
    subst hz
    obtain ⟨v, hv, hv2⟩ := modN z hm
    refine ⟨v, r, hv2, den_wp (f := ⟨2, 2, b14⟩) rfl rfl ?_⟩
    have hp : popD (.obj t) (tp S t (r ++ [z])) = .ok (.int z) (tp S t r) := by
      have hl : ((r ++ [z]).map D.int).getLast? = some (.int z) := by simp
      have hd : ((r ++ [z]).map D.int).dropLast = r.map .int := by simp
      show (match get (tp S t (r ++ [z])) t with
        | some (.lst xs) => (match xs.getLast? with
          | some v => Res.ok v (put (tp S t (r ++ [z])) t (.lst xs.dropLast))
          | none => .bad)
        | _ => .bad) = _
      rw [hg]
      show (match ((r ++ [z]).map D.int).getLast? with
          | some v => Res.ok v (put (tp S t (r ++ [z])) t (.lst ((r ++ [z]).map D.int).dropLast))
          | none => .bad) = _
      rw [hl, hd]
      show Res.ok _ _ = _
      rw [put_put]
    generalize hT : tp S t (r ++ [z]) = T at *
    simp (disch := first | omega | (simp; done) | (simp; omega)) [if_pos, if_neg, b14, hg, hp, hv]
    exact fin_len (by rw [← hT]; simp)
/-! equal values are the same -/
theorem sp_same : ∀ (k : Nat) (d : D), plD k d = true → ∀ (n : Nat) (S : Store), den P (n + k + 1) none 15 [d, d] S = .ok (.bl true) S := by
  intro k
  induction k with
  | zero =>
    intro d hd n S
    refine den_wp (f := ⟨2, 3, b15⟩) rfl rfl ?_
    cases d <;> simp [plD] at hd <;> simp (disch := first | omega | (simp; done) | (simp; omega)) [if_pos, if_neg, b15]
  | succ k ih =>
    intro d hd n S
    refine den_wp (f := ⟨2, 3, b15⟩) rfl rfl ?_
    cases d with
    | tup xs =>
      simp only [plD, Bool.and_eq_true, decide_eq_true_eq, List.all_eq_true] at hd
      simp (disch := first | omega | (simp; done) | (simp; omega)) [if_pos, if_neg, b15]
      refine wp_seq (wp_see ?_ ?_)
      · intro x hx
        obtain ⟨j, hj, rfl⟩ := List.mem_map.mp hx
        have hj := List.mem_range.mp hj
        have := ih xs[j] (hd.2 _ (List.getElem_mem hj)) n S
        have : den P (n + (k + 1)) none 15 [xs[j], xs[j]] S = .ok (.bl true) S := this
        simp (disch := first | omega | (simp; done) | (simp; omega)) [if_pos, if_neg, hj, this]
      · simp (disch := first | omega | (simp; done) | (simp; omega)) [if_pos, if_neg, id]
    | obj => simp [plD] at hd
    | exc => simp [plD] at hd
    | _ => simp (disch := first | omega | (simp; done) | (simp; omega)) [if_pos, if_neg, b15]
theorem sp_takeP (n : Nat) (pre S : Store) (t : Nat) (ns : List Int) (m : Nat) (ht : t < S.length) (hm : 0 < m) : ∃ (v : Nat) (ns' : List Int), v < m ∧ den P (n + 1) none 14 [.obj t, .int m] (pre ++ tp S t ns) = .ok (.int v) (pre ++ tp S t ns') := by
  obtain ⟨v, ns', h1, h2⟩ := sp_take n (pre ++ S) t ns m (by simp; omega) hm
  simp only [tp, put_app ht] at h2
  exact ⟨v, ns', h1, h2⟩
end HT
end
section
set_option maxHeartbeats 0
set_option linter.all false
set_option maxRecDepth 100000
namespace HT
open Pw
def levs (w : Nat) : List (List Nat) := if w = 1 then [[48], [49]] else [[48, 48], [48, 49], [49, 48], [49, 49]]
def isLvT (w : Nat) (s : List Nat) : Bool := decide (s.length = w) && s.all fun c => decide (c ∈ [48, 49])
theorem isLv_levs {w : Nat} (hw : w = 1 ∨ w = 2) (s : List Nat) : isLvT w s = decide (s ∈ levs w) := by
  rcases hw with rfl | rfl
  · match s with
    | [] => rfl
    | [a] => simp [isLvT, levs]
    | a :: b :: r => simp [isLvT, levs]
  · match s with
    | [] => rfl
    | [a] => simp [isLvT, levs]
    | [a, b] =>
      simp only [isLvT, levs, List.all_cons, List.all_nil, List.mem_cons, List.not_mem_nil, or_false, List.cons.injEq, and_true]
      by_cases h1 : a = 48 <;> by_cases h2 : a = 49 <;> by_cases h3 : b = 48 <;> by_cases h4 : b = 49 <;> simp_all
    | a :: b :: c :: r => simp [isLvT, levs]
def isDg (c : Nat) : Bool := decide (48 ≤ c) && decide (c ≤ 57)
def digv (s : List Nat) : Nat := s.foldl (fun n c => n * 10 + (c - 48)) 0
def okDg (s : List Nat) : Bool := decide (1 ≤ s.length) && (decide (s.length ≤ 3) && (decide (s.head? ≠ some 48) && s.all isDg))
def cntT (s : List Nat) : Nat := if okDg s then digv s else 0
def runT (s : List Nat) : Nat := if s.take 1 = [42] then cntT (s.drop 1) else 0
def dg (c : Nat) : List Nat := if c < 10 then [48 + c] else if c < 100 then [48 + c / 10, 48 + c % 10] else [48 + c / 100, 48 + c / 10 % 10, 48 + c % 10]
theorem dg_ok : ∀ c, c < 1000 → codes (toString ((c : Nat) : Int)) = dg c := by
  have : (List.range 1000).all (fun c => decide (codes (toString (Int.ofNat c)) = dg c)) = true := by decide +kernel
  intro c hc
  rw [List.all_eq_true] at this
  exact of_decide_eq_true (this c (List.mem_range.mpr hc))
theorem dg_dec : ∀ c, 1 ≤ c → c < 1000 → okDg (dg c) = true ∧ digv (dg c) = c := by
  have : (List.range 1000).all (fun c => decide (c = 0) || (okDg (dg c) && decide (digv (dg c) = c))) = true := by decide +kernel
  intro c h1 h2
  rw [List.all_eq_true] at this
  have := this c (List.mem_range.mpr h2)
  simp only [Bool.or_eq_true, Bool.and_eq_true, decide_eq_true_eq] at this
  rcases this with h | h
  · omega
  · exact h
theorem cnt_dg {c : Nat} (h1 : 1 ≤ c) (h2 : c < 1000) : cntT (dg c) = c := by
  obtain ⟨a, b⟩ := dg_dec c h1 h2
  unfold cntT; rw [if_pos a, b]
theorem dg_digits {c : Nat} (h1 : 1 ≤ c) (h2 : c < 1000) : ∀ x ∈ dg c, 48 ≤ x ∧ x ≤ 57 := by
  have := (dg_dec c h1 h2).1
  simp only [okDg, Bool.and_eq_true, List.all_eq_true, isDg, decide_eq_true_eq] at this
  exact this.2.2.2
theorem dig_dg {s : List Nat} (h : okDg s = true) : digv s < 1000 ∧ 1 ≤ digv s ∧ dg (digv s) = s := by
  simp only [okDg, Bool.and_eq_true, List.all_eq_true, isDg, decide_eq_true_eq] at h
  obtain ⟨h1, h2, h3, h4⟩ := h
  match s, h1, h2, h3, h4 with
  | [a], _, _, h3, h4 =>
    have ha := h4 a (by simp)
    have h3 : a ≠ 48 := by simpa using h3
    have e : digv [a] = a - 48 := by simp [digv]
    rw [e]
    refine ⟨by omega, by omega, ?_⟩
    unfold dg; rw [if_pos (by omega)]
    congr 1; omega
  | [a, b], _, _, h3, h4 =>
    have ha := h4 a (by simp)
    have hb := h4 b (by simp)
    have h3 : a ≠ 48 := by simpa using h3
    have e : digv [a, b] = (a - 48) * 10 + (b - 48) := by simp [digv]
    rw [e]
    refine ⟨by omega, by omega, ?_⟩
    unfold dg; rw [if_neg (by omega), if_pos (by omega)]
    congr 1
    · omega
    · congr 1; omega
  | [a, b, c], _, _, h3, h4 =>
    have ha := h4 a (by simp)
    have hb := h4 b (by simp)
    have hc := h4 c (by simp)
    have h3 : a ≠ 48 := by simpa using h3
    have e : digv [a, b, c] = ((a - 48) * 10 + (b - 48)) * 10 + (c - 48) := by simp [digv]
    rw [e]
    refine ⟨by omega, by omega, ?_⟩
    unfold dg; rw [if_neg (by omega), if_neg (by omega)]
    congr 1
    · omega
    · congr 1
      · omega
      · congr 1; omega
  | _ :: _ :: _ :: _ :: _, _, h2, _, _ => simp at h2
/-! texts that are split -/
theorem splC_ne (c : Nat) : ∀ s, splC c s ≠ []
  | [] => by simp [splC]
  | a :: r => by
    simp only [splC]
    split
    · simp
    · have := splC_ne c r
      cases h : splC c r with
      | nil => exact absurd h this
      | cons => simp
theorem join_splC (c : Nat) : ∀ s, joinS [c] (splC c s) = s
  | [] => rfl
  | a :: r => by
    have ih := join_splC c r
    simp only [splC]
    cases h : splC c r with
    | nil => exact absurd h (splC_ne c r)
    | cons x xs =>
      rw [h] at ih
      split
      · rename_i e
        show [] ++ [c] ++ joinS [c] (x :: xs) = _
        rw [ih, e]; rfl
      · cases xs with
        | nil =>
          have : x = r := ih
          simp [joinS, this]
        | cons y ys =>
          have : x ++ [c] ++ joinS [c] (y :: ys) = r := ih
          show (a :: x) ++ [c] ++ joinS [c] (y :: ys) = _
          rw [← this]; simp
theorem splC_no {c : Nat} : ∀ {s : List Nat}, c ∉ s → splC c s = [s]
  | [], _ => rfl
  | a :: r, h => by
    simp only [List.mem_cons, not_or] at h
    simp only [splC, splC_no h.2]
    rw [if_neg (fun e => h.1 e.symm)]; rfl
theorem splC_app {c : Nat} : ∀ {s t : List Nat}, c ∉ s → splC c (s ++ c :: t) = s :: splC c t
  | [], t, _ => by simp [splC]
  | a :: r, t, h => by
    simp only [List.mem_cons, not_or] at h
    show splC c (a :: (r ++ c :: t)) = _
    simp only [splC, splC_app h.2]
    rw [if_neg (fun e => h.1 e.symm)]; rfl
theorem splC_join {c : Nat} : ∀ {l : List (List Nat)}, l ≠ [] → (∀ s ∈ l, c ∉ s) → splC c (joinS [c] l) = l
  | [], h, _ => absurd rfl h
  | [s], _, h => by simpa [joinS] using splC_no (h s (by simp))
  | s :: t :: r, _, h => by
    have ih := splC_join (c := c) (l := t :: r) (by simp) (fun x hx => h x (by simp [hx]))
    show splC c (s ++ [c] ++ joinS [c] (t :: r)) = _
    rw [List.append_assoc, List.singleton_append, splC_app (h s (by simp)), ih]
theorem splC_mem {c : Nat} : ∀ {s x : List Nat}, x ∈ splC c s → c ∉ x
  | [], x, h => by simp [splC] at h; subst h; simp
  | a :: r, x, h => by
    simp only [splC] at h
    split at h
    · rcases List.mem_cons.mp h with rfl | h
      · simp
      · exact splC_mem h
    · rename_i e
      cases hs : splC c r with
      | nil => rw [hs] at h; cases h
      | cons y ys =>
        rw [hs] at h
        rcases List.mem_cons.mp h with rfl | h
        · have := splC_mem (c := c) (s := r) (x := y) (by rw [hs]; simp)
          simp only [List.mem_cons, not_or]
          exact ⟨fun z => e z.symm, this⟩
        · exact splC_mem (c := c) (s := r) (by rw [hs]; simp [h])
/-! one word of a record's text -/
def parse (w : Nat) (s : List Nat) : Option (List Nat × Nat) := if isLvT w (s.take w) && decide (runT (s.drop w) ≠ 0) then some (s.take w, runT (s.drop w)) else none
def parse2 (w : Nat) (s : List Nat) : Option (List Nat × Nat) := match splC 42 s with
  | [p, q] => if decide (p ∈ levs w) && decide (cntT q ≠ 0) then some (p, cntT q) else none
  | _ => none
theorem lv_no {w : Nat} {s : List Nat} (h : isLvT w s = true) : s.length = w ∧ 42 ∉ s ∧ 32 ∉ s := by
  simp only [isLvT, Bool.and_eq_true, decide_eq_true_eq, List.all_eq_true] at h
  refine ⟨h.1, fun z => ?_, fun z => ?_⟩
  · have := h.2 _ z; simp at this
  · have := h.2 _ z; simp at this
theorem cnt_ok {s : List Nat} (h : cntT s ≠ 0) : okDg s = true := by
  unfold cntT at h
  by_cases e : okDg s = true
  · exact e
  · rw [if_neg e] at h; exact absurd rfl h
theorem ok_no {s : List Nat} (h : okDg s = true) : 42 ∉ s ∧ 32 ∉ s := by
  simp only [okDg, Bool.and_eq_true, List.all_eq_true, isDg, decide_eq_true_eq] at h
  exact ⟨fun z => by have := h.2.2.2 _ z; omega, fun z => by have := h.2.2.2 _ z; omega⟩
theorem parse_some {w : Nat} {s l : List Nat} {c : Nat} : parse w s = some (l, c) ↔ (isLvT w l = true ∧ 1 ≤ c ∧ c < 1000 ∧ s = l ++ 42 :: dg c) := by
  constructor
  · intro h
    unfold parse at h
    split at h
    · rename_i hc
      simp only [Option.some.injEq, Prod.mk.injEq] at h
      obtain ⟨rfl, rfl⟩ := h
      simp only [Bool.and_eq_true, decide_eq_true_eq] at hc
      obtain ⟨h1, h2⟩ := hc
      unfold runT at h2 ⊢
      by_cases e : (s.drop w).take 1 = [42]
      · rw [if_pos e] at h2 ⊢
        have ok := cnt_ok h2
        obtain ⟨d1, d2, d3⟩ := dig_dg ok
        have ec : cntT ((s.drop w).drop 1) = digv ((s.drop w).drop 1) := by unfold cntT; rw [if_pos ok]
        rw [ec, d3]
        refine ⟨h1, d2, d1, ?_⟩
        have e2 := List.take_append_drop 1 (s.drop w)
        rw [e] at e2
        have e3 := List.take_append_drop w s
        rw [← e2] at e3
        exact e3.symm
      · rw [if_neg e] at h2; exact absurd rfl h2
    · cases h
  · rintro ⟨h1, h2, h3, rfl⟩
    obtain ⟨hl, _⟩ := lv_no h1
    have e1 : (l ++ 42 :: dg c).take w = l := by rw [← hl]; simp
    have e2 : (l ++ 42 :: dg c).drop w = 42 :: dg c := by rw [← hl]; simp
    unfold parse
    rw [e1, e2]
    have : runT (42 :: dg c) = c := by unfold runT; simp [cnt_dg h2 h3]
    rw [this, h1, if_pos (by simp; omega)]
theorem parse2_eq {w : Nat} (hw : w = 1 ∨ w = 2) (s : List Nat) : parse2 w s = parse w s := by
  have key : ∀ l c, parse2 w s = some (l, c) ↔ parse w s = some (l, c) := fun l c => by
    rw [parse_some]
    constructor
    · intro h
      unfold parse2 at h
      split at h
      · rename_i p q e
        split at h
        · rename_i hc
          simp only [Option.some.injEq, Prod.mk.injEq] at h
          obtain ⟨rfl, rfl⟩ := h
          simp only [Bool.and_eq_true, decide_eq_true_eq] at hc
          have ok := cnt_ok hc.2
          obtain ⟨d1, d2, d3⟩ := dig_dg ok
          have ec : cntT q = digv q := by unfold cntT; rw [if_pos ok]
          have ej := join_splC 42 s
          rw [e] at ej
          rw [ec, d3]
          refine ⟨by rw [isLv_levs hw]; simpa using hc.1, d2, d1, ?_⟩
          rw [← ej]; simp [joinS]
        · cases h
      · cases h
    · rintro ⟨h1, h2, h3, rfl⟩
      obtain ⟨_, hn, _⟩ := lv_no h1
      have hd := (ok_no (dg_dec c h2 h3).1).1
      unfold parse2
      rw [splC_app hn, splC_no hd]
      simp only [cnt_dg h2 h3]
      rw [isLv_levs hw] at h1
      rw [if_pos (by simp only [h1, Bool.true_and, decide_eq_true_eq]; omega)]
  cases h : parse2 w s with
  | some x => exact ((key x.1 x.2).mp h).symm
  | none =>
    cases h2 : parse w s with
    | none => rfl
    | some x => rw [(key x.1 x.2).mpr h2] at h; cases h
end HT
end
section
set_option maxHeartbeats 0
set_option linter.all false
set_option maxRecDepth 100000
namespace HT
open Pw
abbrev Rn := List Nat × Nat
def grpS (runs : List Rn) (l : List Nat) : List Rn := match runs.getLast? with
  | some (x, c) => if x = l then runs.dropLast ++ [(x, c + 1)] else runs ++ [(l, 1)]
  | none => [(l, 1)]
def grp (r : List (List Nat)) : List Rn := r.foldl grpS []
def flat (runs : List Rn) : List (List Nat) := (runs.map fun p => List.replicate p.2 p.1).flatten
def Good : List Nat → List Rn → Prop
  | _, [] => True
  | bf, (l, c) :: r => l ≠ bf ∧ 1 ≤ c ∧ Good l r
theorem flat_cons (p : Rn) (r : List Rn) : flat (p :: r) = List.replicate p.2 p.1 ++ flat r := by simp [flat]
theorem flat_app (r s : List Rn) : flat (r ++ s) = flat r ++ flat s := by simp [flat]
theorem grp_one {acc : List Rn} {l : List Nat} (h : ∀ x c, acc.getLast? = some (x, c) → x ≠ l) : ∀ c, (List.replicate (c + 1) l).foldl grpS acc = acc ++ [(l, c + 1)]
  | 0 => by
    show grpS acc l = _
    unfold grpS
    cases hg : acc.getLast? with
    | none => rw [List.getLast?_eq_none_iff.mp hg]; rfl
    | some p =>
      obtain ⟨x, c⟩ := p
      simp only
      rw [if_neg (h x c hg)]
  | c + 1 => by
    rw [List.replicate_succ', List.foldl_append, grp_one h c]
    show grpS (acc ++ [(l, c + 1)]) l = _
    unfold grpS
    simp
theorem grp_flat : ∀ (runs acc : List Rn) (bf : List Nat), (∀ x c, acc.getLast? = some (x, c) → x = bf) → Good bf runs → (flat runs).foldl grpS acc = acc ++ runs
  | [], acc, _, _, _ => by simp [flat]
  | (l, c) :: r, acc, bf, h, hg => by
    obtain ⟨h1, h2, h3⟩ := hg
    rw [flat_cons, List.foldl_append]
    obtain ⟨d, rfl⟩ : ∃ d, c = d + 1 := ⟨c - 1, by omega⟩
    rw [grp_one (l := l) (fun x c hx e => h1 (by rw [← h x c hx]; exact e.symm)) d, grp_flat r _ l (by intro x c e; simp at e; exact e.1.symm) h3]
    simp
theorem grp_of {runs : List Rn} (h : Good [] runs) : grp (flat runs) = runs := by
  unfold grp; rw [grp_flat runs [] [] (by simp) h]; rfl
def wtxt (p : Rn) : List Nat := p.1 ++ 42 :: dg p.2
def wtext (runs : List Rn) : List Nat := joinS [32] (runs.map wtxt)
/-- the reading of words: the record, or the column of the first wrong word -/
def rdW (w : Nat) : List (List Nat) → List (List Nat) → List Nat → Nat → List (List Nat) ⊕ Nat
  | [], rec, _, _ => .inl rec
  | s :: r, rec, bf, col => match parse w s with
    | none => .inr col
    | some p => if p.1 = bf ∨ 120 < rec.length + p.2 then .inr col else rdW w r (rec ++ List.replicate p.2 p.1) p.1 (col + s.length + 1)
def readT (w : Nat) (t : List Nat) : List (List Nat) ⊕ Nat := if t = [] then .inl [] else rdW w (splC 32 t) [] [] 1
structure RunOk (w : Nat) (p : Rn) : Prop where
  lv : isLvT w p.1 = true
  c1 : 1 ≤ p.2
  c2 : p.2 < 1000
theorem rd_ok {w : Nat} : ∀ (ws rec : List (List Nat)) (bf : List Nat) (col : Nat) (out : List (List Nat)), rec.length ≤ 120 → rdW w ws rec bf col = .inl out → ∃ runs, ws = runs.map wtxt ∧ out = rec ++ flat runs ∧ Good bf runs ∧ (∀ p ∈ runs, RunOk w p) ∧ out.length ≤ 120
  | [], rec, bf, col, out, hl, h => by
    simp only [rdW, Sum.inl.injEq] at h
    subst h
    exact ⟨[], rfl, by simp [flat], trivial, by simp, hl⟩
  | s :: r, rec, bf, col, out, hl, h => by
    simp only [rdW] at h
    cases hp : parse w s with
    | none => rw [hp] at h; cases h
    | some p =>
      obtain ⟨l, c⟩ := p
      rw [hp] at h
      simp only at h
      obtain ⟨p1, p2, p3, p4⟩ := parse_some.mp hp
      by_cases e : l = bf ∨ 120 < rec.length + c
      · rw [if_pos e] at h; cases h
      · rw [if_neg e] at h
        simp only [not_or] at e
        obtain ⟨runs, e1, e2, e3, e4, e5⟩ := rd_ok r _ _ _ out (by simp; omega) h
        refine ⟨(l, c) :: runs, by rw [List.map_cons, ← e1]; simp only [wtxt]; rw [← p4], by rw [e2, flat_cons]; simp, ⟨e.1, p2, e3⟩, fun q hq => ?_, e5⟩
        rcases List.mem_cons.mp hq with rfl | hq
        · exact ⟨p1, p2, p3⟩
        · exact e4 q hq
theorem flat_len (runs : List Rn) : (flat runs).length = (runs.map (·.2)).sum := by
  induction runs with
  | nil => rfl
  | cons p r ih => rw [flat_cons, List.length_append, ih]; simp
theorem rd_of {w : Nat} : ∀ (runs : List Rn) (rec : List (List Nat)) (bf : List Nat) (col : Nat), Good bf runs → (∀ p ∈ runs, RunOk w p) → rec.length + (flat runs).length ≤ 120 → rdW w (runs.map wtxt) rec bf col = .inl (rec ++ flat runs)
  | [], rec, bf, col, _, _, _ => by simp [rdW, flat]
  | (l, c) :: r, rec, bf, col, hg, hv, hl => by
    obtain ⟨h1, h2, h3⟩ := hg
    have ov := hv (l, c) (by simp)
    have hp : parse w (wtxt (l, c)) = some (l, c) := parse_some.mpr ⟨ov.lv, ov.c1, ov.c2, rfl⟩
    rw [flat_cons, List.length_append, List.length_replicate] at hl
    simp only [List.map_cons, rdW, hp]
    rw [if_neg (by simp only [not_or]; exact ⟨h1, by simp only at hl; omega⟩), rd_of r _ _ _ h3 (fun p hp => hv p (by simp [hp])) (by simp; simp only at hl; omega), flat_cons]
    simp
theorem wtxt_no {w : Nat} {p : Rn} (h : RunOk w p) : 32 ∉ wtxt p := by
  obtain ⟨_, _, hn⟩ := lv_no h.lv
  have hd := (ok_no (dg_dec p.2 h.c1 h.c2).1).2
  simp only [wtxt, List.mem_append, List.mem_cons, not_or]
  exact ⟨hn, by decide, hd⟩
theorem wtext_ne {runs : List Rn} (h : runs ≠ []) : wtext runs ≠ [] := by
  cases runs with
  | nil => exact absurd rfl h
  | cons p r =>
    unfold wtext
    cases r with
    | nil => simp [joinS, wtxt]
    | cons q r => simp [joinS, wtxt]
theorem read_write {w : Nat} {runs : List Rn} (hg : Good [] runs) (hv : ∀ p ∈ runs, RunOk w p) (hl : (flat runs).length ≤ 120) : readT w (wtext runs) = .inl (flat runs) := by
  unfold readT
  by_cases h0 : runs = []
  · subst h0; rfl
  · rw [if_neg (wtext_ne h0)]
    unfold wtext
    rw [splC_join (by simpa using h0) (fun s hs => by
      obtain ⟨p, hp, rfl⟩ := List.mem_map.mp hs
      exact wtxt_no (hv p hp))]
    have := rd_of runs [] [] 1 hg hv (by simpa using hl)
    simpa using this
theorem write_read {w : Nat} {t : List Nat} {rec : List (List Nat)} (h : readT w t = .inl rec) : wtext (grp rec) = t ∧ rec.length ≤ 120 ∧ ∀ l ∈ rec, isLvT w l = true := by
  unfold readT at h
  by_cases h0 : t = []
  · rw [if_pos h0] at h
    simp only [Sum.inl.injEq] at h
    subst h; subst h0
    exact ⟨rfl, by simp, by simp⟩
  · rw [if_neg h0] at h
    obtain ⟨runs, e1, e2, e3, e4, e5⟩ := rd_ok _ _ _ _ _ (by simp) h
    rw [List.nil_append] at e2
    subst e2
    rw [grp_of e3]
    have := join_splC 32 t
    rw [e1] at this
    refine ⟨this, e5, fun l hl => ?_⟩
    simp only [flat, List.mem_flatten, List.mem_map] at hl
    obtain ⟨x, ⟨p, hp, rfl⟩, hx⟩ := hl
    rw [(List.mem_replicate.mp hx).2]
    exact (e4 p hp).lv
end HT
end
section
set_option maxHeartbeats 0
set_option linter.all false
set_option maxRecDepth 100000
namespace HT
open Pw
theorem isLvD_str (w : Nat) (s : List Nat) : isLvD w (.str s) = isLvT w s := rfl
def isRecD (w : Nat) : D → Bool
  | .tup xs => decide (xs.length ≤ 120) && xs.all (isLvD w)
  | _ => false
theorem sp_is_record (n : Nat) (w : Nat) (d : D) (S : Store) (hw : w = 1 ∨ w = 2) (h : okE d = true) : den P (n + 6) none 6 [.int w, d] S = .ok (.bl (isRecD w d)) S := by
  refine den_wp (f := ⟨2, 3, b6⟩) rfl rfl ?_
  have e := wiresk (n + 1) w S hw
  cases d with
  | tup xs =>
    simp only [okE_tup, Bool.and_eq_true, decide_eq_true_eq] at h
    obtain ⟨hl, he⟩ := h
    rw [okEs_all, List.all_eq_true] at he
    by_cases h2 : xs.length ≤ 120
    · have h2' : ¬ (120 : Int) < (xs.length : Int) := by omega
      simp (disch := first | omega | (simp; done) | (simp; omega)) [if_pos, if_neg, b6, e, h2']
      rw [compK_map (fun x => .bl (isLvD w x)) (by simpa using hl) (fun x hx => ⟨_, rfl, by simp, by simp (disch := first | omega | (simp; done) | (simp; omega)) [if_pos, if_neg, sp_is_level n w x S hw (he x hx)]⟩)]
      simp (disch := first | omega | (simp; done) | (simp; omega)) [if_pos, if_neg, isRecD, h2]
    · have h2' : (120 : Int) < (xs.length : Int) := by omega
      simp (disch := first | omega | (simp; done) | (simp; omega)) [if_pos, if_neg, b6, e, h2', isRecD, h2]
  | exc => simp at h
  | _ => simp (disch := first | omega | (simp; done) | (simp; omega)) [if_pos, if_neg, b6, e, isRecD]
theorem rec_xw (n : Nat) (d x : D) (S : Store) (h : okE d = true) (hb : isIn 1 2 d = false) : den P (n + 6) none 6 [d, x] S = .exc 1 [] S := by
  refine den_wp (f := ⟨2, 3, b6⟩) rfl rfl ?_
  simp (disch := first | omega | (simp; done) | (simp; omega)) [if_pos, if_neg, b6, wiresx (n + 1) d S h hb]
  exact finX_nil (pre := []) rfl
theorem chkR (n : Nat) (w : Nat) (d : D) (S : Store) (hw : w = 1 ∨ w = 2) (h : okE d = true) (hb : isRecD w d = true) : den P (n + 7) none 7 [.int w, d] S = .ok .non S := by
  refine den_wp (f := ⟨2, 2, b7⟩) rfl rfl ?_
  simp (disch := first | omega | (simp; done) | (simp; omega)) [if_pos, if_neg, b7, sp_is_record n w d S hw h, hb]
theorem chkRx (n : Nat) (w : Nat) (d : D) (S : Store) (hw : w = 1 ∨ w = 2) (h : okE d = true) (hb : isRecD w d = false) : den P (n + 7) none 7 [.int w, d] S = .exc 3 [] S := by
  refine den_wp (f := ⟨2, 2, b7⟩) rfl rfl ?_
  simp (disch := first | omega | (simp; done) | (simp; omega)) [if_pos, if_neg, b7, sp_is_record n w d S hw h, hb]
  exact finX_nil (pre := []) rfl
theorem chkRw (n : Nat) (d x : D) (S : Store) (h : okE d = true) (hb : isIn 1 2 d = false) : den P (n + 7) none 7 [d, x] S = .exc 1 [] S := by
  refine den_wp (f := ⟨2, 2, b7⟩) rfl rfl ?_
  simp (disch := first | omega | (simp; done) | (simp; omega)) [if_pos, if_neg, b7, rec_xw n d x S h hb]
  exact finX_nil (pre := []) rfl
def toR (r : List (List Nat)) : D := .tup (r.map .str)
structure RecOk (w : Nat) (r : List (List Nat)) : Prop where
  len : r.length ≤ 120
  lv : ∀ l ∈ r, isLvT w l = true
theorem RecOk.d {w : Nat} {r : List (List Nat)} (h : RecOk w r) : isRecD w (toR r) = true := by
  simp only [toR, isRecD, List.length_map, Bool.and_eq_true, decide_eq_true_eq, List.all_eq_true]
  refine ⟨h.len, fun x hx => ?_⟩
  obtain ⟨l, hl, rfl⟩ := List.mem_map.mp hx
  exact h.lv l hl
theorem okE_txt {l : List Nat} (h : l.length ≤ 10000) : okE (.str l) = true := by simp; omega
theorem RecOk.e {w : Nat} {r : List (List Nat)} (hw : w = 1 ∨ w = 2) (h : RecOk w r) : okE (toR r) = true := by
  have : okEs (r.map D.str) = true := by
    rw [okEs_all, List.all_eq_true]; intro x hx; obtain ⟨l, hl, rfl⟩ := List.mem_map.mp hx
    exact okE_txt (by rw [(lv_no (h.lv l hl)).1]; omega)
  simp only [toR, okE_tup, this, Bool.and_true, decide_eq_true_eq, List.length_map]
  have := h.len; omega
@[simp] theorem bels_strs (n : Nat) (l : List (List Nat)) : D.bels n (l.map D.str) = true := belsM fun x _ => by simp
@[simp] theorem bel_toR (n : Nat) (r) : D.bel n (toR r) = true := by simp [toR]
/-! write_record -/
def rnD (p : Rn) : D := .tup [.str p.1, .int (p.2 : Int)]
@[simp] theorem bel_rnD (n : Nat) (p) : D.bel n (rnD p) = true := by simp [rnD]
@[simp] theorem bels_rnD (n : Nat) (l : List Rn) : D.bels n (l.map rnD) = true := belsM fun x _ => bel_rnD n x
theorem grp_len : ∀ (r : List (List Nat)), (grp r).length ≤ r.length := by
  intro r
  have key : ∀ (r : List (List Nat)) (acc : List Rn), (r.foldl grpS acc).length ≤ acc.length + r.length := by
    intro r
    induction r with
    | nil => intro acc; simp
    | cons l r ih =>
      intro acc
      have h1 : (grpS acc l).length ≤ acc.length + 1 := by
        unfold grpS
        cases hg : acc.getLast? with
        | none => simp
        | some p =>
          simp only
          split <;> simp <;> omega
      have := ih (grpS acc l)
      simp only [List.foldl_cons, List.length_cons]; omega
  have := key r []
  simpa [grp] using this
theorem grp_snoc (r : List (List Nat)) (l : List Nat) : grp (r ++ [l]) = grpS (grp r) l := by unfold grp; rw [List.foldl_append]; rfl
structure RnsOk (w : Nat) (m : Nat) (runs : List Rn) : Prop where
  ok : ∀ p ∈ runs, p.1.length = w ∧ 1 ≤ p.2 ∧ p.2 ≤ m
theorem grpS_ok {w m : Nat} {g : List Rn} {l : List Nat} (h : RnsOk w m g) (hl : l.length = w) : RnsOk w (m + 1) (grpS g l) := by
  refine ⟨fun p hp => ?_⟩
  unfold grpS at hp
  cases hg : g.getLast? with
  | none =>
    rw [hg] at hp
    simp at hp; subst hp
    exact ⟨hl, by simp, by simp⟩
  | some q =>
    obtain ⟨x, c⟩ := q
    rw [hg] at hp
    simp only at hp
    have hq := h.ok (x, c) (List.mem_of_getLast? hg)
    simp only at hq
    split at hp
    · rcases List.mem_append.mp hp with hp | hp
      · have := h.ok p ((List.dropLast_sublist _).subset hp); exact ⟨this.1, this.2.1, by omega⟩
      · simp at hp; subst hp
        exact ⟨hq.1, by simp, by simp only; omega⟩
    · rcases List.mem_append.mp hp with hp | hp
      · have := h.ok p hp; exact ⟨this.1, this.2.1, by omega⟩
      · simp at hp; subst hp
        exact ⟨hl, by simp, by simp⟩
theorem grp_ok {w : Nat} (r : List (List Nat)) (h : ∀ l ∈ r, l.length = w) : RnsOk w r.length (grp r) := by
  have key : ∀ (r : List (List Nat)) (m : Nat) (acc : List Rn), RnsOk w m acc → (∀ l ∈ r, l.length = w) → RnsOk w (m + r.length) (r.foldl grpS acc) := by
    intro r
    induction r with
    | nil => intro m acc ha _; exact ha
    | cons l r ih =>
      intro m acc ha hl
      have := ih (m + 1) _ (grpS_ok ha (hl l (by simp))) (fun x hx => hl x (by simp [hx]))
      rw [show m + (l :: r).length = m + 1 + r.length by simp; omega]
      exact this
  have := key r 0 [] ⟨by simp⟩ h
  rw [Nat.zero_add] at this
  exact this
theorem setG_last {n : Nat} {xs : List D} {x v : D} (S : Store) : setG n (.int (-1)) v (some (.lst (xs ++ [x]))) S = some (put S n (.lst (xs ++ [v]))) := by
  have hp : place (xs ++ [x]).length (-1) = some xs.length := by
    unfold place
    rw [if_neg (by omega), if_pos (by simp; omega)]
    congr 1
    simp only [List.length_append, List.length_cons, List.length_nil]; omega
  unfold setG
  simp only [hp, Option.map_some]
  simp
theorem fs_ok {s : List Nat} {c : Nat} (S : Store) (hs : s.length ≤ 2) (h1 : 1 ≤ c) (h2 : c < 1000) : fsD (.str s) [42] (.int (c : Int)) S = .ok (.str (s ++ 42 :: dg c)) S := by
  have hl : (c : Int).natAbs.log2 < 1920 := by
    have := Nat.log2_le_self c
    simp only [Int.natAbs_natCast]; omega
  show (if (c : Int).natAbs.log2 < 1920 then Res.ok (D.str (s ++ [42] ++ codes (toString (c : Int)))) S else .bad) = _
  rw [if_pos hl, dg_ok c h2]
  simp
theorem sp_write (n : Nat) (S : Store) (w : Nat) (r : List (List Nat)) (hw : w = 1 ∨ w = 2) (h : RecOk w r) : den P (n + 8) none 8 [.int w, toR r] S = .ok (.str (wtext (grp r))) S := by
  refine den_wp (f := ⟨2, 5, b8⟩) rfl rfl ?_
  have e := chkR n w (toR r) S hw (h.e hw) h.d
  have hl := h.len
  have hlv : ∀ l ∈ r, l.length = w := fun l hl => (lv_no (h.lv l hl)).1
  refine wp_split 2 [some (.int w), some (toR r), none, none, some (.obj S.length)] (.lst ((grp []).map rnD) :: S) ?_ ?_
  · simp only [b8, List.take_succ_cons, List.take_zero]
    simp (disch := first | omega | (simp; done) | (simp; omega)) [if_pos, if_neg, e, grp]
  simp only [b8, List.drop_succ_cons, List.drop_zero]
  rw [show toR r = .tup (r.map .str) from rfl]
  simp (disch := first | omega | (simp; done) | (simp; omega)) [if_pos, if_neg, id]
  refine wp_seq (wp_for (fun i env S' => (∃ v, env = [some (.int w), some (.tup (r.map .str)), none, v, some (.obj S.length)]) ∧ S' = .lst ((grp (r.take i)).map rnD) :: S) ⟨⟨none, rfl⟩, rfl⟩ (by rintro _ _ _ ⟨_, rfl⟩; rfl) ?_ ?_)
  · rintro i x env S' hx ⟨⟨v, rfl⟩, rfl⟩
    rw [List.getElem?_map] at hx
    obtain ⟨l, hl2, rfl⟩ := Option.map_eq_some_iff.mp hx
    have htk : r.take (i + 1) = r.take i ++ [l] := by rw [List.take_add_one, hl2]; rfl
    rw [htk, grp_snoc]
    have hgl : (grp (r.take i)).length ≤ 120 := by have := grp_len (r.take i); simp at this; omega
    have hok := (grp_ok (r.take i) (fun x hx => hlv x (List.mem_of_mem_take hx))).ok
    generalize grp (r.take i) = g at *
    rcases List.eq_nil_or_concat g with rfl | ⟨g0, ⟨x, c⟩, rfl⟩
    · simp (disch := first | omega | (simp; done) | (simp; omega)) [if_pos, if_neg, grpS, rnD]
    · rw [List.concat_eq_append] at *
      have hc := hok (x, c) (by simp)
      simp only [List.length_take] at hc
      have hlast : ∀ T, idxG (some (.lst (g0.map rnD ++ [.tup [.str x, .int (c : Int)]]))) (-1) T = .ok (.tup [.str x, .int (c : Int)]) T := fun T => idxG_last
      have hpos : (0 : Int) < (g0.length : Int) + 1 := by omega
      by_cases hxl : x = l
      · subst hxl
        have hset : ∀ T, setG S.length (.int (-1)) (.tup [.str x, .int ((c : Int) + 1)]) (some (.lst (g0.map rnD ++ [.tup [.str x, .int (c : Int)]]))) T = some (put T S.length (.lst (g0.map rnD ++ [.tup [.str x, .int ((c : Int) + 1)]]))) := fun T => setG_last T
        simp (disch := first | omega | (simp; done) | (simp; omega)) [if_pos, if_neg, hlast, rnD, hpos, hset, grpS]
      · have hgl' : g0.length ≤ 120 := by simp at hgl; omega
        simp (disch := first | omega | (simp; done) | (simp; omega)) [if_pos, if_neg, hlast, rnD, hpos, grpS, hxl]
  · rintro env S' ⟨⟨v, rfl⟩, rfl⟩
    rw [List.length_map, List.take_length]
    have hgl := grp_len r
    have hok := (grp_ok r hlv).ok
    have hsum : ((grp r).map fun p => (wtxt p).length).sum ≤ (grp r).length * 10 := by
      have : ∀ (l : List Rn), (∀ p ∈ l, (wtxt p).length ≤ 10) → (l.map fun p => (wtxt p).length).sum ≤ l.length * 10 := by
        intro l
        induction l with
        | nil => intro _; simp
        | cons a t ih =>
          intro h
          have h1 := h a (by simp)
          have h2 := ih (fun p hp => h p (by simp [hp]))
          simp only [List.map_cons, List.sum_cons, List.length_cons]; omega
      refine this _ fun p hp => ?_
      have q := hok p hp
      have : (dg p.2).length ≤ 3 := by
        unfold dg
        split
        · simp
        · split <;> simp
      simp only [wtxt, List.length_append, List.length_cons]; omega
    generalize hg : grp r = g at *
    simp (disch := first | omega | (simp; done) | (simp; omega)) [if_pos, if_neg, id]
    rw [compK_on g rnD (fun p => .str (wtxt p)) (by omega) (fun p hp => by
      have q := hok p hp
      have f := fun S => fs_ok (s := p.1) (c := p.2) S (by omega) q.2.1 (by omega)
      exact ⟨_, rfl, by simp, by simp (disch := first | omega | (simp; done) | (simp; omega)) [if_pos, if_neg, rnD, shortS, f, wtxt]⟩)]
    have hsum' : (List.map ((fun x : List Nat => x.length) ∘ wtxt) g).sum + g.length ≤ 16777216 := by
      show (g.map fun p => (wtxt p).length).sum + g.length ≤ _
      omega
    simp (disch := first | omega | (simp; done) | (simp; omega)) [if_pos, if_neg, wtext, hsum']
end HT
end
section
set_option maxHeartbeats 0
set_option linter.all false
set_option maxRecDepth 100000
namespace HT
open Pw
theorem finX_ok {S S' pre : Store} {fs : List D} (h : S' = pre ++ S) (hb : D.bels S.length fs = true) : finX S S' fs = S := by
  subst h
  unfold finX
  split
  · rename_i h
    have : pre = [] := List.eq_nil_of_length_eq_zero (by simp only [List.length_append] at h; omega)
    rw [this]; rfl
  · have : (pre ++ S).drop ((pre ++ S).length - S.length) = S := by simp
    rw [this, okOld_refl, hb]; simp
def dset : List Nat := [48, 49, 50, 51, 52, 53, 54, 55, 56, 57]
theorem dset_iff (c : Nat) : decide (c ∈ dset) = isDg c := by
  unfold dset isDg
  rw [← Bool.decide_and]
  congr 1
  simp only [List.mem_cons, List.not_mem_nil, or_false, eq_iff_iff]
  omega
theorem digv_int : ∀ (s : List Nat) (k : Nat), s.foldl (fun (n : Int) (c : Nat) => n * 10 + ((c - 48 : Nat) : Int)) (k : Int) = ((s.foldl (fun n c => n * 10 + (c - 48)) k : Nat) : Int)
  | [], k => rfl
  | c :: r, k => by
    simp only [List.foldl_cons]
    have := digv_int r (k * 10 + (c - 48))
    push_cast at this ⊢
    exact this
theorem digits_ok {s : List Nat} (h : okDg s = true) : digits? s = some ((digv s : Nat) : Int) := by
  have h' := h
  simp only [okDg, Bool.and_eq_true, List.all_eq_true, isDg, decide_eq_true_eq] at h'
  obtain ⟨h1, h2, h3, h4⟩ := h'
  cases s with
  | nil => simp at h1
  | cons a r =>
    unfold digits?
    have e1 : (a :: r).all (fun c => decide (48 ≤ c) && decide (c ≤ 57)) = true := by
      rw [List.all_eq_true]; intro c hc; have := h4 c hc; simp; omega
    have := digv_int (a :: r) 0
    simp only [e1, Bool.true_and]
    rw [if_pos (by simp at h2 ⊢; omega)]
    congr 1
theorem in_dg (c : Nat) (S : Store) : din S (.str [c]) (.str [48, 49, 50, 51, 52, 53, 54, 55, 56, 57]) = some (isDg c) := by
  rw [← dset_iff]; simp [dset]
theorem sp_run (n : Nat) (S : Store) (s : List Nat) (hl : s.length ≤ 16777000) : den P (n + 1) none 9 [.str s] S = .ok (.int (runT s : Nat)) S := by
  refine den_wp (f := ⟨1, 3, b9⟩) rfl rfl ?_
  have hd1 : slD (.str s) (some (.int 1)) none S = .ok (.str (s.drop 1)) S := sl_sfr (by omega) (by omega)
  have hd2 : slD (.str s) none (some (.int 1)) S = .ok (.str (s.take 1)) S := sl_sto (by omega) (by omega)
  unfold runT
  obtain ⟨d, hd⟩ : ∃ d, d = s.drop 1 := ⟨_, rfl⟩
  have hdl : d.length ≤ 16777000 := by rw [hd]; simp; omega
  rw [← hd] at hd1 ⊢
  obtain ⟨t, ht⟩ : ∃ t, t = s.take 1 := ⟨_, rfl⟩
  rw [← ht] at hd2 ⊢
  clear ht hd
  by_cases ht : t = [42]
  · rw [if_pos ht]
    subst ht
    unfold cntT
    by_cases h1 : 1 ≤ d.length
    · have h1' : (1 : Int) ≤ (d.length : Int) := by omega
      by_cases h2 : d.length ≤ 3
      · have h2' : (d.length : Int) ≤ 3 := by omega
        obtain ⟨a, ha, hi0⟩ : ∃ a, d.head? = some a ∧ ∀ S, idxD (.str d) (.int 0) S = .ok (.str [a]) S := by
          cases d with
          | nil => simp at h1
          | cons a r => exact ⟨a, rfl, fun S => by rw [idx_s0 (by omega)]; rfl⟩
        by_cases h3 : a = 48
        · subst h3
          simp (disch := first | omega | (simp; done) | (simp; omega)) [if_pos, if_neg, b9, hd1, hd2, h1', h2', hi0, okDg, ha]
        · simp (disch := first | omega | (simp; done) | (simp; omega)) [if_pos, if_neg, b9, hd1, hd2, h1', h2', hi0, h3]
          rw [compK_on d (fun c => D.str [c]) (fun c => .bl (isDg c)) (by omega) (fun c hc => ⟨_, rfl, by simp, by simp (disch := first | omega | (simp; done) | (simp; omega)) [if_pos, if_neg, id]; rw [← dset_iff]; simp [dset]⟩)]
          cases hall : d.all isDg with
          | true =>
            have hok : okDg d = true := by simp [okDg, h1, h2, ha, h3, hall]
            have hdig := digits_ok hok
            have hf : ∀ S, f1D .int (.str d) S = .ok (.int (digv d : Nat)) S := fun S => by
              show (match digits? d with
                | some n => Res.ok (D.int n) S
                | none => .bad) = _
              rw [hdig]
            simp (disch := first | omega | (simp; done) | (simp; omega)) [if_pos, if_neg, hall, hok, hf]
          | false =>
            have hok : okDg d = false := by simp [okDg, hall]
            simp (disch := first | omega | (simp; done) | (simp; omega)) [if_pos, if_neg, hall, hok]
      · have h2' : ¬ (d.length : Int) ≤ 3 := by omega
        simp (disch := first | omega | (simp; done) | (simp; omega)) [if_pos, if_neg, b9, hd1, hd2, h1', h2', okDg, h2]
    · have h1' : ¬ (1 : Int) ≤ (d.length : Int) := by omega
      simp (disch := first | omega | (simp; done) | (simp; omega)) [if_pos, if_neg, b9, hd1, hd2, h1', okDg, h1]
  · simp (disch := first | omega | (simp; done) | (simp; omega)) [if_pos, if_neg, b9, hd1, hd2, ht]
/-! read_record -/
def badF (col : Nat) : List D := [.int 1, .int (col : Int)]
def rdRes (w : Nat) (t : List Nat) (S : Store) : Res D := match readT w t with
  | .inl r => .ok (toR r) S
  | .inr col => .exc 15 (badF col) S
theorem sp_read (n : Nat) (S : Store) (w : Nat) (t : List Nat) (hw : w = 1 ∨ w = 2) (hl : t.length ≤ 100000) : den P (n + 6) none 10 [.int w, .str t] S = rdRes w t S := by
  refine den_wp (f := ⟨2, 8, b10⟩) rfl rfl ?_
  have e := wiresk (n + 1) w S hw
  have ew := fun S => wiresk (n + 1) w S hw
  unfold rdRes readT
  by_cases h0 : t = []
  · subst h0
    simp (disch := first | omega | (simp; done) | (simp; omega)) [if_pos, if_neg, b10, e, toR]
  rw [if_neg h0]
  have hsp : ∀ S, splitD (.str t) (.str [32]) S = .ok (.obj S.length) (.lst ((splC 32 t).map .str) :: S) := fun S => by
    show (if (decide (32 < 128) && decide (t.length + 2 ≤ line)) = true then Res.ok (D.obj S.length) (.lst ((splC 32 t).map .str) :: S) else .bad) = _
    rw [if_pos (by simp [line]; omega)]
  have hwl : ∀ s ∈ splC 32 t, s.length ≤ 100000 := by
    have hj := join_splC 32 t
    have key : ∀ (l : List (List Nat)) (s : List Nat), s ∈ l → s.length ≤ (joinS [32] l).length := by
      intro l
      induction l with
      | nil => intro s hs; cases hs
      | cons a r ih =>
        intro s hs
        cases r with
        | nil => simp at hs; subst hs; simp [joinS]
        | cons b r =>
          have : joinS [32] (a :: b :: r) = a ++ [32] ++ joinS [32] (b :: r) := rfl
          rw [this]
          rcases List.mem_cons.mp hs with rfl | hs
          · simp
          · have := ih s hs; simp only [List.length_append]; omega
    intro s hs
    have := key _ s hs
    rw [hj] at this; omega
  have hwn : (splC 32 t).length ≤ 100001 := by
    have key : ∀ s : List Nat, (splC 32 s).length ≤ s.length + 1 := by
      intro s
      induction s with
      | nil => simp [splC]
      | cons a r ih =>
        simp only [splC]
        split
        · simp; omega
        · simp; omega
    have := key t; omega
  generalize splC 32 t = ws at *
  refine wp_split 6 [some (.int w), some (.str t), some (.str []), some (.int 1), none, none, some (.obj S.length), none] (.lst [] :: S) ?_ ?_
  · simp only [b10, List.take_succ_cons, List.take_zero]
    simp (disch := first | omega | (simp; done) | (simp; omega)) [if_pos, if_neg, e, h0]
  simp only [b10, List.drop_succ_cons, List.drop_zero]
  simp (disch := first | omega | (simp; done) | (simp; omega)) [if_pos, if_neg, hsp]
  refine wp_seq (wp_for (fun i env S' => ∃ (rec : List (List Nat)) (bf : List Nat) (col : Nat), (rec.length ≤ 120 ∧ col ≤ 1 + i * 100001 ∧ bf.length ≤ 2 ∧ rdW w (ws.drop i) rec bf col = rdW w ws [] [] 1) ∧ env = [some (.int w), some (.str t), some (.str bf), some (.int (col : Int)), none, none, some (.obj S.length), none] ∧ S' = .lst (ws.map .str) :: .lst (rec.map .str) :: S) ⟨[], [], 1, ⟨by simp, by omega, by simp, rfl⟩, rfl, rfl⟩ (by rintro _ _ _ ⟨_, _, _, _, _, rfl⟩; simp) ?_ ?_)
  · rintro i x env S' hx ⟨rec, bf, col, ⟨hr, hc, hb, heq⟩, rfl, rfl⟩
    rw [List.getElem?_map] at hx
    obtain ⟨s, hs, rfl⟩ := Option.map_eq_some_iff.mp hx
    obtain ⟨hi, rfl⟩ := List.getElem?_eq_some_iff.mp hs
    have hsl := hwl _ (List.getElem_mem hi)
    rw [List.drop_eq_getElem_cons hi] at heq
    generalize ws[i] = s at *
    have hi1 : i ≤ 100000 := by omega
    have hcol : col.log2 < 1920 := by
      have h : ((col : Nat) : Int).natAbs.log2 < 1920 := fld_small (by omega) (by omega)
      simpa using h
    have hto : ∀ S, slD (.str s) none (some (.int (w : Int))) S = .ok (.str (s.take w)) S := fun S => by rw [sl_sto (by omega) (by omega), Int.toNat_natCast]
    have hfr : ∀ S, slD (.str s) (some (.int (w : Int))) none S = .ok (.str (s.drop w)) S := fun S => by rw [sl_sfr (by omega) (by omega), Int.toNat_natCast]
    have hrun := fun S => sp_run (n + 4) S (s.drop w) (by simp; omega)
    have hlev := fun S => sp_is_level n w (.str (s.take w)) S hw (okE_txt (by simp; omega))
    simp only [isLvD_str] at hlev
    simp only [rdW] at heq
    generalize hws : (ws.map D.str) = WS at *
    cases hp : parse w s with
    | none =>
      rw [hp] at heq
      simp only at heq
      unfold parse at hp
      split at hp
      · cases hp
      rename_i hcond
      simp only [Bool.and_eq_true, decide_eq_true_eq, not_and, ne_eq, Decidable.not_not] at hcond
      rw [← heq]
      cases hlv : isLvT w (s.take w) with
      | true =>
        have h0 := hcond hlv
        rw [h0] at hrun
        simp (disch := first | omega | (simp; done) | (simp; omega)) [if_pos, if_neg, hto, hfr, hrun, hlev, hlv, hcol]
        exact ⟨rfl, finX_ok (pre := [_, _]) rfl (by simp)⟩
      | false =>
        simp (disch := first | omega | (simp; done) | (simp; omega)) [if_pos, if_neg, hto, hfr, hrun, hlev, hlv, hcol]
        exact ⟨rfl, finX_ok (pre := [_, _]) rfl (by simp)⟩
    | some p =>
      obtain ⟨l, c⟩ := p
      rw [hp] at heq
      simp only at heq
      unfold parse at hp
      split at hp
      · rename_i hcond
        simp only [Bool.and_eq_true, decide_eq_true_eq] at hcond
        simp only [Option.some.injEq, Prod.mk.injEq] at hp
        obtain ⟨rfl, rfl⟩ := hp
        have hc0 : ¬ ((runT (s.drop w) : Nat) : Int) = 0 := by omega
        rw [hcond.1] at hlev
        obtain ⟨l, hl⟩ : ∃ l, l = s.take w := ⟨_, rfl⟩
        obtain ⟨c, hcc⟩ : ∃ c, c = runT (s.drop w) := ⟨_, rfl⟩
        have hll : l.length ≤ 2 := by rw [hl]; have := (lv_no hcond.1).1; omega
        have hc0' : 1 ≤ c := by omega
        have hc1' : c < 1000 := by
          have := hcond.2
          rw [hcc]
          unfold runT at this ⊢
          split at this
          · rename_i h42
            rw [if_pos h42]
            have ok := cnt_ok this
            have := (dig_dg ok).1
            unfold cntT; rw [if_pos ok]; exact this
          · exact absurd rfl this
        rw [← hl] at heq hto hlev
        rw [← hcc] at heq hrun hc0
        by_cases hbf : l = bf
        · rw [if_pos (Or.inl hbf)] at heq
          rw [← heq]
          subst hbf
          simp (disch := first | omega | (simp; done) | (simp; omega)) [if_pos, if_neg, hto, hfr, hrun, hlev, hc0, hcol]
          exact ⟨rfl, finX_ok (pre := [_, _]) rfl (by simp)⟩
        · by_cases h120 : 120 < rec.length + c
          · rw [if_pos (Or.inr h120)] at heq
            rw [← heq]
            have h120' : (120 : Int) < (rec.length : Int) + (c : Int) := by omega
            simp (disch := first | omega | (simp; done) | (simp; omega)) [if_pos, if_neg, hto, hfr, hrun, hlev, hc0, hbf, h120', hcol]
            exact ⟨rfl, finX_ok (pre := [_, _]) rfl (by simp)⟩
          · rw [if_neg (by simp only [not_or]; exact ⟨hbf, h120⟩)] at heq
            have h120' : ¬ (120 : Int) < (rec.length : Int) + (c : Int) := by omega
            have hmul := mul_l1 (S := .lst [.str l] :: .lst WS :: .lst (rec.map .str) :: S) (x := .str l) (n := c) (k := S.length + 1 + 1) (by simp) (by omega)
            have hext : extD (.obj S.length) (.obj (S.length + 1 + 1 + 1)) (.lst (List.replicate c (.str l)) :: .lst [.str l] :: .lst WS :: .lst (rec.map .str) :: S) = .ok .non (.lst (List.replicate c (.str l)) :: .lst [.str l] :: .lst WS :: .lst (rec.map .str ++ List.replicate c (.str l)) :: S) := by
              rw [ext_l (xs := rec.map .str) (ys := List.replicate c (.str l)) (by simp (disch := first | omega | (simp; done) | (simp; omega)) [if_pos, if_neg, id]) (by simp (disch := first | omega | (simp; done) | (simp; omega)) [if_pos, if_neg, id]) (by simp; omega)]
              simp (disch := first | omega | (simp; done) | (simp; omega)) [if_pos, if_neg, id]
            simp only [List.length_cons] at hmul
            generalize hrep : List.replicate c (D.str l) = RP at *
            simp (disch := first | omega | (simp; done) | (simp; omega)) [if_pos, if_neg, hto, hfr, hrun, hlev, hc0, hbf, h120', hmul, hext]
            have hRP : (rec ++ List.replicate c l).map D.str = rec.map .str ++ RP := by rw [← hrep]; simp
            have hRb : ∀ n, D.bels n RP = true := fun n => by
              have : RP = (List.replicate c l).map D.str := by rw [← hrep]; simp
              rw [this]; exact bels_strs n _
            refine ⟨rec ++ List.replicate c l, l, col + s.length + 1, ⟨by simp; omega, by omega, hll, heq⟩, ⟨rfl, by simp⟩, ?_⟩
            rw [hRP]
            have htr := trim_put (S := .lst WS :: .lst (rec.map .str) :: S) (pre := [.lst RP, .lst [.str l]]) (m := S.length) (o := .lst (rec.map .str ++ RP)) (env := [some (D.int ↑w), some (D.str t), some (D.str l), some (D.int (↑col + ↑s.length + 1)), none, none, some (D.obj (List.length S)), none]) (by simp; omega) (by simp [hRb])
            have hput : put (.lst WS :: .lst (rec.map .str) :: S) S.length (.lst (rec.map .str ++ RP)) = .lst WS :: .lst (rec.map .str ++ RP) :: S := by simp (disch := first | omega | (simp; done) | (simp; omega)) [if_pos, if_neg, id]
            rw [hput] at htr
            exact htr
      · cases hp
  · rintro env S' ⟨rec, bf, col, ⟨hr, hc, hb, heq⟩, rfl, rfl⟩
    rw [List.length_map, List.drop_length] at heq
    simp only [rdW] at heq
    rw [← heq]
    simp (disch := first | omega | (simp; done) | (simp; omega)) [if_pos, if_neg, toR]
end HT
end
section
set_option maxHeartbeats 0
set_option linter.all false
set_option maxRecDepth 100000
namespace HT
open Pw
theorem read_xs (n : Nat) (S : Store) (w : Nat) (d : D) (hw : w = 1 ∨ w = 2) (h : okE d = true) (hs : ∀ t, d ≠ .str t) : den P (n + 6) none 10 [.int w, d] S = .exc 15 (badF 1) S := by
  refine den_wp (f := ⟨2, 8, b10⟩) rfl rfl ?_
  have e := wiresk (n + 1) w S hw
  have hf : finX S S [.int 1, .int 1] = S := finX_ok (pre := []) rfl (by simp)
  cases d with
  | str t => exact absurd rfl (hs t)
  | exc => simp at h
  | _ => simp (disch := first | omega | (simp; done) | (simp; omega)) [if_pos, if_neg, b10, e, badF, hf]
theorem read_xw (n : Nat) (S : Store) (d x : D) (h : okE d = true) (hb : isIn 1 2 d = false) : den P (n + 6) none 10 [d, x] S = .exc 1 [] S := by
  refine den_wp (f := ⟨2, 8, b10⟩) rfl rfl ?_
  simp (disch := first | omega | (simp; done) | (simp; omega)) [if_pos, if_neg, b10, wiresx (n + 1) d S h hb]
  exact finX_nil (pre := []) rfl
theorem write_xr (n : Nat) (S : Store) (w : Nat) (d : D) (hw : w = 1 ∨ w = 2) (h : okE d = true) (hb : isRecD w d = false) : den P (n + 8) none 8 [.int w, d] S = .exc 3 [] S := by
  refine den_wp (f := ⟨2, 5, b8⟩) rfl rfl ?_
  simp (disch := first | omega | (simp; done) | (simp; omega)) [if_pos, if_neg, b8, chkRx n w d S hw h hb]
  exact finX_nil (pre := []) rfl
theorem write_xw (n : Nat) (S : Store) (d x : D) (h : okE d = true) (hb : isIn 1 2 d = false) : den P (n + 8) none 8 [d, x] S = .exc 1 [] S := by
  refine den_wp (f := ⟨2, 5, b8⟩) rfl rfl ?_
  simp (disch := first | omega | (simp; done) | (simp; omega)) [if_pos, if_neg, b8, chkRw n d x S h hb]
  exact finX_nil (pre := []) rfl
def signsW (k : Nat) (r : List (List Nat)) : List Nat := r.map fun l => l[k]?.getD 0
theorem sp_wire (n : Nat) (S : Store) (w k : Nat) (r : List (List Nat)) (hw : w = 1 ∨ w = 2) (h : RecOk w r) (hk : k < w) : den P (n + 8) none 11 [.int w, toR r, .int k] S = .ok (.str (signsW k r)) S := by
  refine den_wp (f := ⟨3, 4, b11⟩) rfl rfl ?_
  have e := chkR n w (toR r) S hw (h.e hw) h.d
  have e2 : den P (n + 7) none 2 [.int (k : Int), .int 0, .int ((w : Int) - 1)] S = .ok .non S := by
    rw [sp_check_number (n + 4) _ _ _ S rfl, if_pos (by simp [isIn]; omega)]
  have hl := h.len
  rw [show toR r = .tup (r.map .str) from rfl] at *
  simp (disch := first | omega | (simp; done) | (simp; omega)) [if_pos, if_neg, b11, e, e2]
  rw [compK_on r D.str (fun l => .str [l[k]?.getD 0]) (by omega) (fun l hl => by
    have hll := (lv_no (h.lv l hl)).1
    have hkl : k < l.length := by omega
    exact ⟨_, rfl, by simp, by simp (disch := first | omega | (simp; done) | (simp; omega)) [if_pos, if_neg, hkl]⟩)]
  have hj := joinS_one (signsW k r)
  have hm : (r.map fun l => D.str [l[k]?.getD 0]) = r.map fun l => D.str ((fun l => [l[k]?.getD 0]) l) := rfl
  rw [hm]
  have hs : (r.map ((fun x : List Nat => x.length) ∘ fun l : List Nat => [l[k]?.getD 0])).sum ≤ 16777216 := by
    have : ∀ l : List (List Nat), (l.map ((fun x : List Nat => x.length) ∘ fun l : List Nat => [l[k]?.getD 0])).sum = l.length := by
      intro l; induction l with
      | nil => rfl
      | cons a t ih => rw [List.map_cons, List.sum_cons, ih]; simp; omega
    rw [this]; omega
  unfold signsW at hj ⊢
  rw [List.map_map] at hj
  simp only [Function.comp_def] at hj hs
  simp (disch := first | omega | (simp; done) | (simp; omega)) [if_pos, if_neg, hs, hj, Function.comp_def]
theorem wire_xr (n : Nat) (S : Store) (w : Nat) (d x : D) (hw : w = 1 ∨ w = 2) (h : okE d = true) (hb : isRecD w d = false) : den P (n + 8) none 11 [.int w, d, x] S = .exc 3 [] S := by
  refine den_wp (f := ⟨3, 4, b11⟩) rfl rfl ?_
  simp (disch := first | omega | (simp; done) | (simp; omega)) [if_pos, if_neg, b11, chkRx n w d S hw h hb]
  exact finX_nil (pre := []) rfl
theorem wire_xw (n : Nat) (S : Store) (d x y : D) (h : okE d = true) (hb : isIn 1 2 d = false) : den P (n + 8) none 11 [d, x, y] S = .exc 1 [] S := by
  refine den_wp (f := ⟨3, 4, b11⟩) rfl rfl ?_
  simp (disch := first | omega | (simp; done) | (simp; omega)) [if_pos, if_neg, b11, chkRw n d x S h hb]
  exact finX_nil (pre := []) rfl
theorem wire_xk (n : Nat) (S : Store) (w : Nat) (r : List (List Nat)) (x : D) (hw : w = 1 ∨ w = 2) (h : RecOk w r) (hx : okE x = true) (hb : isIn 0 ((w : Int) - 1) x = false) : den P (n + 8) none 11 [.int w, toR r, x] S = .exc 1 [] S := by
  refine den_wp (f := ⟨3, 4, b11⟩) rfl rfl ?_
  have e := chkR n w (toR r) S hw (h.e hw) h.d
  have e2 : den P (n + 7) none 2 [x, .int 0, .int ((w : Int) - 1)] S = .exc 1 [] S := by
    rw [sp_check_number (n + 4) _ _ _ S hx, hb]; rfl
  simp (disch := first | omega | (simp; done) | (simp; omega)) [if_pos, if_neg, b11, e, e2]
  exact finX_nil (pre := []) rfl
/-! the law's own reader -/
theorem sp_levels (n : Nat) (S : Store) (w : Nat) (hw : w = 1 ∨ w = 2) : den P (n + 1) none 16 [.int w] S = .ok (.obj S.length) (.lst ((levs w).map .str) :: S) := by
  refine den_wp (f := ⟨1, 1, b16⟩) rfl rfl ?_
  rcases hw with rfl | rfl
  · simp (disch := first | omega | (simp; done) | (simp; omega)) [if_pos, if_neg, b16, levs]
  · simp (disch := first | omega | (simp; done) | (simp; omega)) [if_pos, if_neg, b16, levs]
theorem sp_count (n : Nat) (S : Store) (s : List Nat) (hl : s.length ≤ 16777000) : den P (n + 1) none 18 [.str s] S = .ok (.int (cntT s : Nat)) S := by
  refine den_wp (f := ⟨1, 3, b18⟩) rfl rfl ?_
  unfold cntT
  by_cases h1 : 1 ≤ s.length
  · have h1' : ¬ (s.length : Int) < 1 := by omega
    by_cases h2 : s.length ≤ 3
    · have h2' : ¬ (3 : Int) < (s.length : Int) := by omega
      obtain ⟨a, ha, hi0⟩ : ∃ a, s.head? = some a ∧ ∀ S, idxD (.str s) (.int 0) S = .ok (.str [a]) S := by
        cases s with
        | nil => simp at h1
        | cons a r => exact ⟨a, rfl, fun S => by rw [idx_s0 (by omega)]; rfl⟩
      by_cases h3 : a = 48
      · subst h3
        simp (disch := first | omega | (simp; done) | (simp; omega)) [if_pos, if_neg, b18, h1', h2', hi0, okDg, ha]
      · simp (disch := first | omega | (simp; done) | (simp; omega)) [if_pos, if_neg, b18, h1', h2', hi0, h3]
        refine wp_seq (wp_for (fun i env S' => env = [some (.str s), some (.int ((digv (s.take i) : Nat) : Int)), none] ∧ S' = S ∧ (s.take i).all isDg = true) ⟨rfl, rfl, rfl⟩ (by rintro _ _ _ ⟨_, rfl, _⟩; simp) ?_ ?_)
        · rintro i x env S' hx ⟨rfl, rfl, hall⟩
          rw [List.getElem?_map] at hx
          obtain ⟨c, hc, rfl⟩ := Option.map_eq_some_iff.mp hx
          have htk : s.take (i + 1) = s.take i ++ [c] := by rw [List.take_add_one, hc]; rfl
          have hnd : isDg c = false → okDg s = false := fun h => by
            have : s.all isDg = false := List.all_eq_false.mpr ⟨c, List.mem_of_getElem? hc, by simp [h]⟩
            simp [okDg, this]
          rw [htk]
          have hdg : digv (s.take i ++ [c]) = digv (s.take i) * 10 + (c - 48) := by unfold digv; rw [List.foldl_append]; rfl
          have hsm : digv (s.take i) < 100000 := by
            have : ∀ (l : List Nat), l.length ≤ 3 → l.all isDg = true → digv l < 100000 := by
              intro l hl hall
              rw [List.all_eq_true] at hall
              match l, hl, hall with
              | [], _, _ => simp [digv]
              | [a], _, h => have := h a (by simp); simp [isDg] at this; simp [digv]; omega
              | [a, b], _, h => have := h a (by simp); have := h b (by simp); simp [isDg] at *; simp [digv]; omega
              | [a, b, c], _, h => have := h a (by simp); have := h b (by simp); have := h c (by simp); simp [isDg] at *; simp [digv]; omega
            exact this _ (by simp; omega) hall
          rw [hdg]
          generalize digv (s.take i) = k at *
          generalize s.take i = pre at *
          cases hdc : isDg c with
          | true =>
            have hcc := hdc
            simp only [isDg, Bool.and_eq_true, decide_eq_true_eq] at hcc
            have hin := fun S => in_dg c S
            have hfd : ∀ S, findD (.str [48, 49, 50, 51, 52, 53, 54, 55, 56, 57]) (.str [c]) S = .ok (.int ((c : Int) - 48)) S := fun S => by
              show (if (decide ([48, 49, 50, 51, 52, 53, 54, 55, 56, 57] = [48, 49, 50, 51, 52, 53, 54, 55, 56, 57]) && (decide (48 ≤ c) && decide (c < 58))) = true then Res.ok (D.int ((c : Int) - 48)) S else .bad) = _
              rw [if_pos (by simp; omega)]
            simp (disch := first | omega | (simp; done) | (simp; omega)) [if_pos, if_neg, hfd, mul_sm]
            exact ⟨by omega, by simpa using hall, hdc⟩
          | false =>
            have hn : ¬c = 48 ∧ ¬c = 49 ∧ ¬c = 50 ∧ ¬c = 51 ∧ ¬c = 52 ∧ ¬c = 53 ∧ ¬c = 54 ∧ ¬c = 55 ∧ ¬c = 56 ∧ ¬c = 57 := by
              simp only [isDg, Bool.and_eq_false_iff, decide_eq_false_iff_not] at hdc; omega
            have hok := hnd hdc
            simp (disch := first | omega | (simp; done) | (simp; omega)) [if_pos, if_neg, hn, hok]
        · rintro env S' ⟨rfl, rfl, hall⟩
          rw [List.length_map, List.take_length] at hall ⊢
          have hok : okDg s = true := by simp [okDg, h1, h2, ha, h3, hall]
          simp (disch := first | omega | (simp; done) | (simp; omega)) [if_pos, if_neg, hok]
    · have h2' : (3 : Int) < (s.length : Int) := by omega
      simp (disch := first | omega | (simp; done) | (simp; omega)) [if_pos, if_neg, b18, h1', h2', okDg, h2]
  · have h1' : (s.length : Int) < 1 := by omega
    simp (disch := first | omega | (simp; done) | (simp; omega)) [if_pos, if_neg, b18, h1', okDg, h1]
end HT
end
section
set_option maxHeartbeats 0
set_option linter.all false
set_option maxRecDepth 100000
namespace HT
open Pw
def recS : List Nat := [114, 101, 99, 111, 114, 100]
def fltS : List Nat := [102, 97, 117, 108, 116]
def dueD : List (List Nat) ⊕ Nat → D
  | .inl r => .tup [.str recS, toR r]
  | .inr col => .tup [.str fltS, .int 1, .int (col : Int)]
theorem bel_dueD (n : Nat) (x) : D.bel n (dueD x) = true := by cases x <;> simp [dueD]
theorem split_ok {t : List Nat} (c : Nat) (hc : c < 128) (hl : t.length ≤ 100000) (S : Store) : splitD (.str t) (.str [c]) S = .ok (.obj S.length) (.lst ((splC c t).map .str) :: S) := by
  show (if (decide (c < 128) && decide (t.length + 2 ≤ line)) = true then Res.ok (D.obj S.length) (.lst ((splC c t).map .str) :: S) else .bad) = _
  rw [if_pos (by simp [line]; omega)]
theorem splC_len (c : Nat) : ∀ s, (splC c s).length ≤ s.length + 1 := by
  intro s
  induction s with
  | nil => simp [splC]
  | cons a r ih =>
    simp only [splC]
    split
    · simp; omega
    · simp; omega
theorem splC_each (c : Nat) : ∀ (s x : List Nat), x ∈ splC c s → x.length ≤ s.length := by
  intro s
  induction s with
  | nil => intro x hx; simp [splC] at hx; simp [hx]
  | cons a r ih =>
    intro x hx
    simp only [splC] at hx
    split at hx
    · rcases List.mem_cons.mp hx with rfl | hx
      · simp
      · have := ih x hx; simp; omega
    · cases hs : splC c r with
      | nil => rw [hs] at hx; cases hx
      | cons y ys =>
        rw [hs] at hx
        rcases List.mem_cons.mp hx with rfl | hx
        · have := ih y (by rw [hs]; simp); simp; omega
        · have := ih x (by rw [hs]; simp [hx]); simp; omega
theorem sp_law_read (n : Nat) (S : Store) (w : Nat) (t : List Nat) (hw : w = 1 ∨ w = 2) (hl : t.length ≤ 100000) : den P (n + 2) none 19 [.int w, .str t] S = .ok (dueD (readT w t)) S := by
  refine den_wp (f := ⟨2, 6, b19⟩) rfl rfl ?_
  unfold readT
  by_cases h0 : t = []
  · subst h0
    simp (disch := first | omega | (simp; done) | (simp; omega)) [if_pos, if_neg, b19, dueD, toR, recS]
  rw [if_neg h0]
  have hsp := fun S => split_ok 32 (by omega) hl S
  have hwl := fun s hs => splC_each 32 t s hs
  have hwn := splC_len 32 t
  generalize splC 32 t = ws at *
  refine wp_split 3 [some (.int w), some (.str t), some (.int 1), none, some (.obj S.length), none] (.lst [] :: S) ?_ ?_
  · simp only [b19, List.take_succ_cons, List.take_zero]
    simp (disch := first | omega | (simp; done) | (simp; omega)) [if_pos, if_neg, h0]
  simp only [b19, List.drop_succ_cons, List.drop_zero]
  simp (disch := first | omega | (simp; done) | (simp; omega)) [if_pos, if_neg, hsp]
  refine wp_seq (wp_for (fun i env S' => ∃ (pre : Store) (m : Nat) (rec : List (List Nat)) (bf : List Nat) (col : Nat), (rec.length ≤ 120 ∧ col ≤ 1 + i * 100001 ∧ bf.length ≤ 2 ∧ (∀ l ∈ rec, l ≠ []) ∧ (rec = [] ∧ bf = [] ∨ rec.getLast? = some bf) ∧ rdW w (ws.drop i) rec bf col = rdW w ws [] [] 1) ∧ env = [some (.int w), some (.str t), some (.int (col : Int)), none, some (.obj m), none] ∧ S' = pre ++ .lst (ws.map .str) :: .lst [] :: S ∧ get S' m = some (.lst (rec.map .str))) ⟨[], S.length, [], [], 1, ⟨by simp, by omega, by simp, by simp, Or.inl ⟨rfl, rfl⟩, rfl⟩, rfl, rfl, by simp (disch := first | omega | (simp; done) | (simp; omega)) [if_pos, if_neg, id]⟩ (by
    rintro _ _ _ ⟨pre, _, _, _, _, _, _, rfl, _⟩
    have : get (pre ++ .lst (ws.map .str) :: .lst [] :: S) (S.length + 1) = some (.lst (ws.map .str)) := get_app (by simp (disch := first | omega | (simp; done) | (simp; omega)) [if_pos, if_neg, id]) _
    simp [stands, obAt, this]) ?_ ?_)
  · rintro i x env S' hx ⟨pre, m, rec, bf, col, ⟨hr, hc, hb, hne, hbf, heq⟩, rfl, hS', hm⟩
    rw [List.getElem?_map] at hx
    obtain ⟨s, hs, rfl⟩ := Option.map_eq_some_iff.mp hx
    obtain ⟨hi, rfl⟩ := List.getElem?_eq_some_iff.mp hs
    have hsl := hwl _ (List.getElem_mem hi)
    rw [List.drop_eq_getElem_cons hi] at heq
    generalize ws[i] = s at *
    have hi1 : i ≤ 100000 := by omega
    have hsp2 := fun S => split_ok (t := s) 42 (by omega) (by omega) S
    have hcn := fun q S (hq : q.length ≤ s.length) => sp_count n S q (by omega)
    have hlv := fun S => sp_levels n S w hw
    have hml := getLt hm
    simp only [rdW] at heq
    rw [← parse2_eq hw] at heq
    have hSpre : S' = (pre ++ [.lst (ws.map .str), .lst []]) ++ S := by rw [hS']; simp
    have faultF : ∀ (P2 : Store), fin S (P2 ++ S') (.tup [.str [102, 97, 117, 108, 116], .int 1, .int (col : Int)]) = .ok (dueD (.inr col)) S := fun P2 => by
      rw [hSpre]
      exact fin_val (pre := P2 ++ (pre ++ [.lst (ws.map .str), .lst []])) (by simp) (by simp)
    by_cases hlen : (splC 42 s).length = 2
    · obtain ⟨p, q, hpq⟩ : ∃ p q, splC 42 s = [p, q] := by
        match h : splC 42 s, hlen with
        | [p, q], _ => exact ⟨p, q, rfl⟩
      have hpl : p.length ≤ s.length := splC_each 42 s p (by rw [hpq]; simp)
      have hql : q.length ≤ s.length := splC_each 42 s q (by rw [hpq]; simp)
      have hcq := fun S => hcn q S hql
      rw [hpq] at hsp2
      by_cases hpm : p ∈ levs w
      · by_cases hc0 : cntT q = 0
        · have hpar : parse2 w s = none := by unfold parse2; rw [hpq]; simp [hc0]
          rw [hpar] at heq
          simp only at heq
          rw [← heq]
          rw [hc0] at hcq
          simp (disch := first | omega | (simp; done) | (simp; omega)) [if_pos, if_neg, hsp2, hlv, inD_strs, hpm, hcq]
          exact faultF [_, _]
        · have hpar : parse2 w s = some (p, cntT q) := by unfold parse2; rw [hpq]; simp [hpm, hc0]
          rw [hpar] at heq
          simp only at heq
          generalize hcc : cntT q = c at *
          have hc0' : ¬ (c : Int) = 0 := by omega
          have hpne : p ≠ [] := by
            have h1 : isLvT w p = true := by rw [isLv_levs hw]; simpa using hpm
            have := (lv_no h1).1
            rintro rfl
            simp at this; omega
          have hp2 : p.length ≤ 2 := by
            have h1 : isLvT w p = true := by rw [isLv_levs hw]; simpa using hpm
            have := (lv_no h1).1; omega
          have hc1 : c < 1000 := by
            have h1 : cntT q ≠ 0 := by omega
            have ok := cnt_ok h1
            have := (dig_dg ok).1
            rw [← hcc]; unfold cntT; rw [if_pos ok]; exact this
          obtain ⟨T, hT⟩ : ∃ T : Store, T = .lst ((levs w).map .str) :: .lst [.str p, .str q] :: S' := ⟨_, rfl⟩
          have hTl : T.length = S'.length + 2 := by rw [hT]; rfl
          refine wp_split 2 [some (.int w), some (.str t), some (.int (col : Int)), some (.obj S'.length), some (.obj m), some (.str s)] T ?_ ?_
          · simp only [List.take_succ_cons, List.take_zero]
            simp (disch := first | omega | (simp; done) | (simp; omega)) [if_pos, if_neg, hsp2, hlv, inD_strs, hpm, hcq, hc0', hT]
          simp only [List.drop_succ_cons, List.drop_zero]
          have hTm : get T m = some (.lst (rec.map .str)) := by rw [hT]; exact getOld (getOld hm)
          have hTp : get T S'.length = some (.lst [.str p, .str q]) := by rw [hT]; simp (disch := first | omega | (simp; done) | (simp; omega)) [if_pos, if_neg, id]
          have hTS : T = [.lst ((levs w).map .str), .lst [.str p, .str q]] ++ S' := hT
          have fT : fin S T (.tup [.str [102, 97, 117, 108, 116], .int 1, .int (col : Int)]) = .ok (dueD (.inr col)) S := by rw [hTS]; exact faultF _
          clear faultF
          have hmul := mul_l1 (S := .lst [.str p] :: T) (x := .str p) (n := c) (k := T.length) (by simp) (by omega)
          have hadd : binD .add (.obj m) (.obj (T.length + 1)) (.lst (List.replicate c (.str p)) :: .lst [.str p] :: T) = .ok (.obj (T.length + 2)) (.lst (rec.map .str ++ List.replicate c (.str p)) :: .lst (List.replicate c (.str p)) :: .lst [.str p] :: T) := by
            rw [add_l (x := rec.map .str) (y := List.replicate c (.str p)) (by exact getOld (getOld hTm)) (by simp (disch := first | omega | (simp; done) | (simp; omega)) [if_pos, if_neg, id]) (by simp; omega)]
            rfl
          simp only [List.length_cons] at hmul
          generalize hrep : List.replicate c (D.str p) = RP at *
          have hRP : (rec ++ List.replicate c p).map D.str = rec.map .str ++ RP := by rw [← hrep]; simp
          have done_ : ¬ p = bf → ¬ 120 < rec.length + c → ∃ pre m2 rec2 bf2 col2, ((rec2 : List (List Nat)).length ≤ 120 ∧ (col2 : Nat) ≤ 1 + (i + 1) * 100001 ∧ (bf2 : List Nat).length ≤ 2 ∧ (∀ l ∈ rec2, ¬ l = []) ∧ (rec2 = [] ∧ bf2 = [] ∨ rec2.getLast? = some bf2) ∧ rdW w (ws.drop (i + 1)) rec2 bf2 col2 = rdW w ws [] [] 1) ∧
              [some (D.int (w : Int)), some (.str t), some (.int ((col : Int) + (s.length : Int) + 1)), none, some (.obj (T.length + 2)), none] = [some (D.int (w : Int)), some (.str t), some (.int (col2 : Int)), none, some (.obj m2), none] ∧
              (SO.lst (rec.map .str ++ RP) :: .lst RP :: .lst [.str p] :: T) = pre ++ .lst (ws.map .str) :: .lst [] :: S ∧ get (SO.lst (rec.map .str ++ RP) :: .lst RP :: .lst [.str p] :: T) m2 = some (.lst (rec2.map .str)) := fun hbq h120 => by
            rw [if_neg (by simp only [not_or]; exact ⟨hbq, h120⟩)] at heq
            refine ⟨.lst (rec.map .str ++ RP) :: .lst RP :: .lst [.str p] :: .lst ((levs w).map .str) :: .lst [.str p, .str q] :: pre, T.length + 2, rec ++ List.replicate c p, p, col + s.length + 1, ⟨by simp; omega, by omega, hp2, fun l hl => ?_, Or.inr ?_, heq⟩, by simp, by rw [hT, hS']; simp, by rw [hRP]; simp (disch := first | omega | (simp; done) | (simp; omega)) [if_pos, if_neg, id]⟩
            · rcases List.mem_append.mp hl with hl | hl
              · exact hne l hl
              · rw [(List.mem_replicate.mp hl).2]; exact hpne
            · rw [List.getLast?_append, List.getLast?_replicate, if_neg (by omega)]; rfl
          have htrim : ∀ env, envBel S'.length env = false → trim S' (SO.lst (rec.map .str ++ RP) :: .lst RP :: .lst [.str p] :: T) env = SO.lst (rec.map .str ++ RP) :: .lst RP :: .lst [.str p] :: T := fun env h => trim_no h
          have hcT := hcq T
          rcases hbf with ⟨hb1, hb2⟩ | hlast
          · have hbq : ¬ p = bf := by rw [hb2]; exact hpne
            have hl0 : rec.length = 0 := by rw [hb1]; rfl
            have hl0' : ¬ 0 < rec.length := by omega
            by_cases h120 : 120 < rec.length + c
            · rw [if_pos (Or.inr h120)] at heq
              rw [← heq]
              have h120' : (120 : Int) < (rec.length : Int) + (c : Int) := by omega
              clear hb1 hl0
              simp (disch := first | omega | (simp; done) | (simp; omega)) [if_pos, if_neg, hTm, hTp, hl0', hcT, h120']
              exact fT
            · have h120' : ¬ (120 : Int) < (rec.length : Int) + (c : Int) := by omega
              have hd := done_ hbq h120
              clear hb1 hl0
              simp (disch := first | omega | (simp; done) | (simp; omega)) [if_pos, if_neg, hTm, hTp, hl0', hcT, h120', hcq, hmul, hadd, htrim]
              simpa using hd
          · have hrl : 0 < rec.length := by
              cases rec with
              | nil => simp at hlast
              | cons => simp
            have hl1 : ∀ T2, idxG (some (.lst (rec.map .str))) (-1) T2 = .ok (.str bf) T2 := fun T2 => by
              obtain ⟨r0, hr0⟩ := List.getLast?_eq_some_iff.mp hlast
              rw [hr0, List.map_append]; exact idxG_last
            by_cases hbq : p = bf
            · rw [if_pos (Or.inl hbq)] at heq
              rw [← heq]
              subst hbq
              simp (disch := first | omega | (simp; done) | (simp; omega)) [if_pos, if_neg, hTm, hTp, hrl, hl1]
              exact fT
            · by_cases h120 : 120 < rec.length + c
              · rw [if_pos (Or.inr h120)] at heq
                rw [← heq]
                have h120' : (120 : Int) < (rec.length : Int) + (c : Int) := by omega
                have hbq' : ¬ bf = p := fun z => hbq z.symm
                simp (disch := first | omega | (simp; done) | (simp; omega)) [if_pos, if_neg, hTm, hTp, hrl, hl1, hbq', hcT, h120']
                exact fT
              · have h120' : ¬ (120 : Int) < (rec.length : Int) + (c : Int) := by omega
                have hbq' : ¬ bf = p := fun z => hbq z.symm
                have hd := done_ hbq h120
                simp (disch := first | omega | (simp; done) | (simp; omega)) [if_pos, if_neg, hTm, hTp, hrl, hl1, hbq', hcT, h120', hcq, hmul, hadd, htrim]
                simpa using hd
      · have hpar : parse2 w s = none := by unfold parse2; rw [hpq]; simp [hpm]
        rw [hpar] at heq
        simp only at heq
        rw [← heq]
        simp (disch := first | omega | (simp; done) | (simp; omega)) [if_pos, if_neg, hsp2, hlv, inD_strs, hpm]
        exact faultF [_, _]
    · have hlen' : ¬ (((splC 42 s).length : Nat) : Int) = 2 := by omega
      have hpar : parse2 w s = none := by
        unfold parse2
        split
        · rename_i p q h; rw [h] at hlen; simp at hlen
        · rfl
      rw [hpar] at heq
      simp only at heq
      rw [← heq]
      generalize splC 42 s = ps at *
      simp (disch := first | omega | (simp; done) | (simp; omega)) [if_pos, if_neg, hsp2, hlen']
      exact faultF [_]
  · rintro env S' ⟨pre, m, rec, bf, col, ⟨hr, hc, hb, hne, hbf, heq⟩, rfl, hS', hm⟩
    rw [List.length_map, List.drop_length] at heq
    simp only [rdW] at heq
    rw [← heq]
    simp (disch := first | omega | (simp; done) | (simp; omega)) [if_pos, if_neg, hm, dueD, toR, recS]
    rw [hS']
    exact fin_val (pre := pre ++ [.lst (ws.map .str), .lst []]) (by simp) (by simp)
end HT
end
section
set_option maxHeartbeats 0
set_option linter.all false
set_option maxRecDepth 100000
namespace HT
open Pw
theorem told_r (n : Nat) (S : Store) (w : Nat) (d : D) (r : List (List Nat)) (h : den P (n + 1) none 10 [.int w, d] S = .ok (toR r) S) : den P (n + 2) none 23 [.int w, d] S = .ok (dueD (.inl r)) S := by
  refine den_wp (f := ⟨2, 3, b23⟩) rfl rfl ?_
  simp (disch := first | omega | (simp; done) | (simp; omega)) [if_pos, if_neg, b23, h, dueD, recS]
theorem told_f (n : Nat) (S : Store) (w : Nat) (d : D) (col : Nat) (h : den P (n + 1) none 10 [.int w, d] S = .exc 15 (badF col) S) : den P (n + 2) none 23 [.int w, d] S = .ok (dueD (.inr col)) S := by
  refine den_wp (f := ⟨2, 3, b23⟩) rfl rfl ?_
  have hcl : P.Cl[15]? = some [15, 14, 0, 17] := rfl
  have hct : catches P.Cl 15 [15] = true := rfl
  simp (disch := first | omega | (simp; done) | (simp; omega)) [if_pos, if_neg, b23, h, hcl, hct, dueD, fltS, badF, lbls]
theorem sp_told (n : Nat) (S : Store) (w : Nat) (t : List Nat) (hw : w = 1 ∨ w = 2) (hl : t.length ≤ 100000) : den P (n + 7) none 23 [.int w, .str t] S = .ok (dueD (readT w t)) S := by
  have h := sp_read n S w t hw hl
  unfold rdRes at h
  cases hr : readT w t with
  | inl r => rw [hr] at h; exact told_r (n + 5) S w _ r h
  | inr col => rw [hr] at h; exact told_f (n + 5) S w _ col h
theorem told_x (n : Nat) (S : Store) (w : Nat) (d : D) (hw : w = 1 ∨ w = 2) (h : okE d = true) (hs : ∀ t, d ≠ .str t) : den P (n + 7) none 23 [.int w, d] S = .ok (dueD (.inr 1)) S :=
  told_f (n + 5) S w d 1 (read_xs n S w d hw h hs)
/-! asking for what raises -/
theorem ask0 {c : Nat} (n : Nat) (S : Store) (d e f : D) (h : den P (n + 1) none 8 [d, e] S = .exc c [] S) : den P (n + 2) none 24 [.int 0, d, e, f] S = .exc c [] S := by
  refine den_wp (f := ⟨4, 4, b24⟩) rfl rfl ?_
  simp (disch := first | omega | (simp; done) | (simp; omega)) [if_pos, if_neg, b24, h]
  exact finX_nil (pre := []) rfl
theorem ask1 {c : Nat} (n : Nat) (S : Store) (d e f : D) (h : den P (n + 1) none 11 [d, e, f] S = .exc c [] S) : den P (n + 2) none 24 [.int 1, d, e, f] S = .exc c [] S := by
  refine den_wp (f := ⟨4, 4, b24⟩) rfl rfl ?_
  simp (disch := first | omega | (simp; done) | (simp; omega)) [if_pos, if_neg, b24, h]
  exact finX_nil (pre := []) rfl
theorem ask2 {c : Nat} (n : Nat) (S : Store) (d e f : D) (h : den P (n + 1) none 6 [d, e] S = .exc c [] S) : den P (n + 2) none 24 [.int 2, d, e, f] S = .exc c [] S := by
  refine den_wp (f := ⟨4, 4, b24⟩) rfl rfl ?_
  simp (disch := first | omega | (simp; done) | (simp; omega)) [if_pos, if_neg, b24, h]
  exact finX_nil (pre := []) rfl
theorem ask3 {c : Nat} (n : Nat) (S : Store) (d e f : D) (h : den P (n + 1) none 10 [d, e] S = .exc c [] S) : den P (n + 2) none 24 [.int 3, d, e, f] S = .exc c [] S := by
  refine den_wp (f := ⟨4, 4, b24⟩) rfl rfl ?_
  simp (disch := first | omega | (simp; done) | (simp; omega)) [if_pos, if_neg, b24, h]
  exact finX_nil (pre := []) rfl
theorem bad_record (n : Nat) (S : Store) (k d e f : D) (h : den P (n + 1) none 24 [k, d, e, f] S = .exc 3 [] S) : den P (n + 2) none 25 [k, d, e, f] S = .ok (.bl true) S := by
  refine den_wp (f := ⟨4, 5, b25⟩) rfl rfl ?_
  have hcl : P.Cl[3]? = some [3, 0, 17] := rfl
  have hct : catches P.Cl 3 [3] = true := rfl
  simp (disch := first | omega | (simp; done) | (simp; omega)) [if_pos, if_neg, b25, h, hcl, hct, lbls]
theorem bad_number (n : Nat) (S : Store) (k d e f : D) (h : den P (n + 1) none 24 [k, d, e, f] S = .exc 1 [] S) : den P (n + 2) none 26 [k, d, e, f] S = .ok (.bl true) S := by
  refine den_wp (f := ⟨4, 5, b26⟩) rfl rfl ?_
  have hcl : P.Cl[1]? = some [1, 0, 17] := rfl
  have hct : catches P.Cl 1 [1] = true := rfl
  simp (disch := first | omega | (simp; done) | (simp; omega)) [if_pos, if_neg, b26, h, hcl, hct, lbls]
/-- with a number of wires that is none, all four raise BadNumber -/
theorem no_wires (n : Nat) (S : Store) (d e f : D) (hd : okE d = true) (hb : isIn 1 2 d = false) : ∀ k, k < 4 → den P (n + 10) none 26 [.int (k : Nat), d, e, f] S = .ok (.bl true) S := by
  intro k hk
  have : k = 0 ∨ k = 1 ∨ k = 2 ∨ k = 3 := by omega
  rcases this with rfl | rfl | rfl | rfl
  · exact bad_number (n + 8) S _ _ _ _ (ask0 (n + 7) S d e f (write_xw n S d e hd hb))
  · exact bad_number (n + 8) S _ _ _ _ (ask1 (n + 7) S d e f (wire_xw n S d e f hd hb))
  · exact bad_number (n + 8) S _ _ _ _ (ask2 (n + 7) S d e f (rec_xw (n + 2) d e S hd hb))
  · exact bad_number (n + 8) S _ _ _ _ (ask3 (n + 7) S d e f (read_xw (n + 2) S d e hd hb))
end HT
end
section
set_option maxHeartbeats 0
set_option linter.all false
set_option maxRecDepth 100000
namespace Pw
theorem wp_iteT {C : Ctx} {c : Tst} {a b : List Stm} {env : Env} {S S1 : Store} {Q : Flow → Store → Prop} (h : evT C c env S = .ok true S1) (h2 : wp (evSs C a env S1) Q) : wp (evSs C [.ite c a b] env S) Q := by
  have e : evSs C [.ite c a b] env S = (evSs C a env S1).bind fun fl S => (match fl with
    | .nx env => .ok (.nx env) S
    | fl => .ok fl S) := by
    simp only [evSs, evS, h]; rfl
  rw [e]
  refine wp_bind (wp_mono h2 fun fl S' hq => ?_)
  cases fl <;> simpa using hq
end Pw
namespace HT
open Pw
def lastL (runs : List Rn) : List Nat := match runs.getLast? with
  | some p => p.1
  | none => []
theorem good_snoc : ∀ (runs : List Rn) (bf l : List Nat) (c : Nat), Good bf runs → l ≠ (match runs.getLast? with | some p => p.1 | none => bf) → 1 ≤ c → Good bf (runs ++ [(l, c)])
  | [], bf, l, c, _, h, hc => ⟨h, hc, trivial⟩
  | (x, d) :: r, bf, l, c, hg, h, hc => by
    obtain ⟨h1, h2, h3⟩ := hg
    refine ⟨h1, h2, good_snoc r x l c h3 ?_ hc⟩
    cases r with
    | nil => simpa using h
    | cons y ys =>
      rw [List.getLast?_cons_cons] at h
      cases hz : (y :: ys).getLast? with
      | none => simp at hz
      | some z => rw [hz] at h; exact h
theorem lastL_snoc (runs : List Rn) (p : Rn) : lastL (runs ++ [p]) = p.1 := by simp [lastL]
structure RunsOk (w : Nat) (runs : List Rn) : Prop where
  g : Good [] runs
  v : ∀ p ∈ runs, RunOk w p
  l : (flat runs).length ≤ 120
theorem runs_snoc {w : Nat} {runs : List Rn} {l : List Nat} {c : Nat} (hw : w = 1 ∨ w = 2) (h : RunsOk w runs) (hl : l ∈ levs w) (hne : l ≠ lastL runs) (hc : 1 ≤ c) (ht : (flat runs).length + c ≤ 120) : RunsOk w (runs ++ [(l, c)]) ∧ (flat (runs ++ [(l, c)])).length = (flat runs).length + c := by
  have hf : (flat (runs ++ [(l, c)])).length = (flat runs).length + c := by rw [flat_app, List.length_append]; simp [flat]
  refine ⟨⟨good_snoc runs [] l c h.g (by unfold lastL at hne; exact hne) hc, fun p hp => ?_, by rw [hf]; exact ht⟩, hf⟩
  rcases List.mem_append.mp hp with hp | hp
  · exact h.v p hp
  · simp at hp; subst hp
    exact ⟨by rw [isLv_levs hw]; simpa using hl, hc, by simp only; omega⟩
theorem runs_len {w : Nat} {runs : List Rn} (h : RunsOk w runs) : runs.length ≤ 120 := by
  have : ∀ (r : List Rn), (∀ p ∈ r, 1 ≤ p.2) → r.length ≤ (flat r).length := by
    intro r
    induction r with
    | nil => intro _; simp
    | cons p r ih =>
      intro hp
      have h1 := hp p (by simp)
      have h2 := ih (fun q hq => hp q (by simp [hq]))
      rw [flat_cons, List.length_append, List.length_replicate, List.length_cons]; omega
  have := this runs (fun p hp => (h.v p hp).c1)
  have := h.l; omega
/-- the levels that are not the last one -/
def oth (w : Nat) (l : List Nat) : List (List Nat) := (levs w).filter fun x => decide (x ≠ l)
theorem oth_pos {w : Nat} (hw : w = 1 ∨ w = 2) (l : List Nat) : 1 ≤ (oth w l).length ∧ (oth w l).length ≤ 4 := by
  have h2 : (oth w l).length ≤ (levs w).length := List.length_filter_le _ _
  have h3 : (levs w).length ≤ 4 := by rcases hw with rfl | rfl <;> decide
  refine ⟨?_, by omega⟩
  have hex : ∃ x ∈ levs w, x ≠ l := by
    rcases hw with rfl | rfl
    · by_cases h : l = [48]
      · exact ⟨[49], by decide, by rw [h]; decide⟩
      · exact ⟨[48], by decide, fun z => h z.symm⟩
    · by_cases h : l = [48, 48]
      · exact ⟨[48, 49], by decide, by rw [h]; decide⟩
      · exact ⟨[48, 48], by decide, fun z => h z.symm⟩
  obtain ⟨x, hx, hn⟩ := hex
  exact List.length_pos_of_mem (List.mem_filter.mpr ⟨hx, by simpa using hn⟩)
theorem levs_short {w : Nat} (hw : w = 1 ∨ w = 2) : ∀ l ∈ levs w, l.length ≤ 2 := by rcases hw with rfl | rfl <;> decide
/-- drawing one of the other levels -/
theorem sp_oth (n : Nat) (pre S : Store) (t : Nat) (ns : List Int) (w : Nat) (l : List Nat) (hw : w = 1 ∨ w = 2) (ht : t < S.length) :
    ∃ (x : List Nat) (ns' : List Int), x ∈ levs w ∧ x ≠ l ∧ ∀ (m : Nat), (∀ T, get T m = some (.lst ((oth w l).map .str)) → lenD T (.obj m) = some ((oth w l).length : Int)) ∧ (∃ v : Nat, den P (n + 1) none 14 [.obj t, .int ((oth w l).length : Int)] (pre ++ tp S t ns) = .ok (.int v) (pre ++ tp S t ns') ∧ ((oth w l).map D.str)[v]? = some (.str x)) := by
  have hp := oth_pos hw l
  obtain ⟨v, ns', h1, h2⟩ := sp_takeP n pre S t ns (oth w l).length ht (by omega)
  have hm : (oth w l)[v] ∈ oth w l := List.getElem_mem h1
  have hm2 := List.mem_filter.mp hm
  exact ⟨(oth w l)[v], ns', hm2.1, by simpa using hm2.2, fun m => ⟨fun T hT => by simp [lenD, hT], v, h2, by simp [h1]⟩⟩

def L5 : List D := [.int 5, .int 13, .int 121]
abbrev bR (S : Store) (t : Nat) (ns : List Int) (runs : List Rn) : Store := .lst L5 :: .lst (runs.map rnD) :: tp S t ns
def suiteR : List Stm := [.set (.v 7) (.ls (.comp (.v 6) (.v 6) (.val (.call 16 [.v 1])) [.val (.cmp .ne (.v 6) (.v 5))])),
      .set (.v 5) (.idx (.v 7) (.call 14 [.v 0, .f1 .len (.v 7)])),
      .set (.v 2) (.bin .add (.c (.int 1)) (.call 14 [.v 0, .idx (.ls (.disp [.c (.int 120), .c (.int 12), .c (.int 2)])) (.v 3)])),
      .set (.v 2) (.f2 .min (.v 2) (.bin .sub (.c (.int 120)) (.v 9))),
      .ex (.app (.v 8) (.tup [.v 5, .v 2])),
      .set (.v 9) (.bin .add (.v 9) (.v 2))]
theorem sp_suite (n : Nat) (S : Store) (t : Nat) (ns : List Int) (w few k : Nat) (runs : List Rn) (hw : w = 1 ∨ w = 2) (ht : t < S.length) (hf : few < 3) (hr : RunsOk w runs) (h120 : (flat runs).length < 120) :
    wp (evSs ⟨den P (n + 1), P.G, P.Cl, none⟩ suiteR [some (.obj t), some (.int w), none, some (.int few), some (.int k), some (.str (lastL runs)), none, none, some (.obj S.length), some (.int ((flat runs).length : Nat))] (bR S t ns runs))
      (fun fl S' => ∃ (l : List Nat) (c : Nat) (ns2 : List Int) (pre : Store), RunsOk w (runs ++ [(l, c)]) ∧ fl = .nx [some (.obj t), some (.int w), some (.int c), some (.int few), some (.int k), some (.str l), none, some (.obj (S.length + 3)), some (.obj S.length), some (.int ((flat (runs ++ [(l, c)])).length : Nat))] ∧ S' = pre ++ bR S t ns2 (runs ++ [(l, c)])) := by
  have hp := oth_pos hw (lastL runs)
  have hls := levs_short hw
  have hlast2 : (lastL runs).length ≤ 2 := by
    unfold lastL
    cases hg : runs.getLast? with
    | none => simp
    | some p => have := (lv_no (hr.v p (List.mem_of_getLast? hg)).lv).1; simp only; omega
  have hrl := runs_len hr
  have htl : (tp S t ns).length = S.length := by simp
  have hlv := fun T => sp_levels n T w hw
  obtain ⟨O, hO⟩ : ∃ O, O = (oth w (lastL runs)).map D.str := ⟨_, rfl⟩
  have hOl : O.length = (oth w (lastL runs)).length := by rw [hO]; simp
  let pre1 : Store := [.lst O, .lst ((levs w).map .str), .lst L5, .lst (runs.map rnD)]
  obtain ⟨v, ns1, hv1, hv2⟩ := sp_takeP n pre1 S t ns (oth w (lastL runs)).length ht (by omega)
  have hvO : v < O.length := by omega
  have hx : O[v] = .str ((oth w (lastL runs))[v]) := by simp [hO]
  have hm := List.mem_filter.mp (List.getElem_mem hv1)
  generalize hxd : (oth w (lastL runs))[v] = x at *
  have hxl := hls x hm.1
  refine wp_split 1 [some (.obj t), some (.int w), none, some (.int few), some (.int k), some (.str (lastL runs)), none, some (.obj (S.length + 3)), some (.obj S.length), some (.int ((flat runs).length : Nat))] (pre1 ++ tp S t ns) ?_ ?_
  · simp only [suiteR, List.take_succ_cons, List.take_zero]
    simp (disch := first | omega | (simp; done) | (simp; omega)) [if_pos, if_neg, hlv]
    rw [compK_fon (levs w) D.str (fun x => decide (x ≠ lastL runs)) (fun x => .str x) (by rcases hw with rfl | rfl <;> decide) (fun b hb => by
      have := hls b hb
      refine ⟨_, rfl, ?_, fun _ => by simp (disch := first | omega | (simp; done) | (simp; omega)) [if_pos, if_neg, id]⟩
      by_cases hbl : b = lastL runs
      · simp (disch := first | omega | (simp; done) | (simp; omega)) [if_pos, if_neg, hbl]
      · simp (disch := first | omega | (simp; done) | (simp; omega)) [if_pos, if_neg, hbl])]
    have hO2 : List.map (fun x => D.str x) (List.filter (fun x => decide (x ≠ lastL runs)) (levs w)) = O := by rw [hO]; rfl
    rw [hO2]
    simp (disch := first | omega | (simp; done) | (simp; omega)) [if_pos, if_neg, htl]
    try rfl
  have hg1 : get (pre1 ++ tp S t ns) (S.length + 3) = some (.lst O) := by
    show get (.lst O :: .lst ((levs w).map .str) :: .lst L5 :: .lst (runs.map rnD) :: tp S t ns) (S.length + 3) = _
    rw [get_cons, if_pos (by simp)]
  have hg2 : get (pre1 ++ tp S t ns1) (S.length + 3) = some (.lst O) := by
    show get (.lst O :: .lst ((levs w).map .str) :: .lst L5 :: .lst (runs.map rnD) :: tp S t ns1) (S.length + 3) = _
    rw [get_cons, if_pos (by simp)]
  have hTl1 : (pre1 ++ tp S t ns1).length = S.length + 4 := by simp [pre1]
  refine wp_split 1 [some (.obj t), some (.int w), none, some (.int few), some (.int k), some (.str x), none, some (.obj (S.length + 3)), some (.obj S.length), some (.int ((flat runs).length : Nat))] (pre1 ++ tp S t ns1) ?_ ?_
  · simp only [suiteR, List.take_succ_cons, List.take_zero, List.drop_succ_cons, List.drop_zero]
    rw [← hOl] at hv2
    generalize pre1 ++ tp S t ns = T1 at *
    generalize pre1 ++ tp S t ns1 = T2 at *
    simp (disch := first | omega | (simp; done) | (simp; omega)) [if_pos, if_neg, hg1, hv2, hg2, hvO, hx]
  obtain ⟨cm, hcm1, hcm2, hcmi⟩ : ∃ cm : Nat, 1 ≤ cm ∧ cm ≤ 120 ∧ ∀ T, idxG (some (.lst [.int 120, .int 12, .int 2])) (few : Int) T = .ok (.int (cm : Nat)) T := by
    have : few = 0 ∨ few = 1 ∨ few = 2 := by omega
    rcases this with rfl | rfl | rfl
    · exact ⟨120, by omega, by omega, fun T => idxG_n _ 0 T⟩
    · exact ⟨12, by omega, by omega, fun T => idxG_n _ 1 T⟩
    · exact ⟨2, by omega, by omega, fun T => idxG_n _ 2 T⟩
  obtain ⟨v3, ns2, hv3, hv4⟩ := sp_takeP n (.lst [.int 120, .int 12, .int 2] :: pre1) S t ns1 cm ht (by omega)
  simp only [List.cons_append] at hv4
  obtain ⟨c, hc⟩ : ∃ c : Nat, c = min (1 + v3) (120 - (flat runs).length) := ⟨_, rfl⟩
  have hmin : ∀ T, f2D .min (.int (1 + (v3 : Int))) (.int (120 - ((flat runs).length : Int))) T = .ok (.int (c : Int)) T := fun T => by
    have := minN (1 + v3) (120 - (flat runs).length) T
    rw [← hc] at this
    rw [← this]; congr 2
    omega
  have hrs := runs_snoc hw hr hm.1 (by simpa using hm.2) (c := c) (by omega) (by omega)
  refine wp_split 2 [some (.obj t), some (.int w), some (.int c), some (.int few), some (.int k), some (.str x), none, some (.obj (S.length + 3)), some (.obj S.length), some (.int ((flat runs).length : Nat))] (.lst [.int 120, .int 12, .int 2] :: (pre1 ++ tp S t ns2)) ?_ ?_
  · simp only [suiteR, List.take_succ_cons, List.take_zero, List.drop_succ_cons, List.drop_zero]
    generalize pre1 ++ tp S t ns1 = T2 at *
    generalize pre1 ++ tp S t ns2 = T3 at *
    simp (disch := first | omega | (simp; done) | (simp; omega)) [if_pos, if_neg, -idxG_n, -f2_min, hcmi, hv4, hmin]
  simp only [suiteR, List.drop_succ_cons, List.drop_zero]
  have hp4 : put (.lst [.int 120, .int 12, .int 2] :: (pre1 ++ tp S t ns2)) S.length (.lst ((runs ++ [(x, c)]).map rnD)) = [.lst [.int 120, .int 12, .int 2], .lst O, .lst ((levs w).map .str)] ++ bR S t ns2 (runs ++ [(x, c)]) := by
    have hZ : (tp S t ns2).length = S.length := by simp
    show put (.lst [.int 120, .int 12, .int 2] :: .lst O :: .lst ((levs w).map .str) :: .lst L5 :: .lst (runs.map rnD) :: tp S t ns2) S.length _ = .lst [.int 120, .int 12, .int 2] :: .lst O :: .lst ((levs w).map .str) :: .lst L5 :: .lst ((runs ++ [(x, c)]).map rnD) :: tp S t ns2
    generalize tp S t ns2 = Z at *
    generalize (runs ++ [(x, c)]).map rnD = Y
    simp (disch := first | omega | (simp; done) | (simp; omega)) [if_pos, if_neg, put_cons, hZ]
  have hg4 : get (.lst [.int 120, .int 12, .int 2] :: (pre1 ++ tp S t ns2)) S.length = some (.lst (runs.map rnD)) := by
    have hZ : (tp S t ns2).length = S.length := by simp
    show get (.lst [.int 120, .int 12, .int 2] :: .lst O :: .lst ((levs w).map .str) :: .lst L5 :: .lst (runs.map rnD) :: tp S t ns2) S.length = _
    generalize tp S t ns2 = Z at *
    simp (disch := first | omega | (simp; done) | (simp; omega)) [if_pos, if_neg, get_cons, hZ]
  have hmr : (runs ++ [(x, c)]).map rnD = runs.map rnD ++ [.tup [.str x, .int (c : Int)]] := by simp [rnD]
  rw [hmr] at hp4
  generalize (.lst [.int 120, .int 12, .int 2] :: (pre1 ++ tp S t ns2) : Store) = T4 at *
  simp (disch := first | omega | (simp; done) | (simp; omega)) [if_pos, if_neg, hg4, hp4]
  exact ⟨x, c, hrs.1, ⟨rfl, rfl, by rw [hrs.2]; simp⟩, ns2, [.lst [.int 120, .int 12, .int 2], .lst O, .lst ((levs w).map .str)], rfl⟩
end HT
end
section
set_option maxHeartbeats 0
set_option linter.all false
set_option maxRecDepth 100000
namespace HT
open Pw
theorem okOld_tp (n : Nat) (S : Store) (t : Nat) (ns ns2 : List Int) : okOld n (tp S t ns) (tp S t ns2) = true := by
  have h := okOld_put (n := n) (m := t) (o := .lst (ns2.map .int)) (by rw [obel_lst]; exact bels_int' _ _) (tp S t ns)
  simp only [tp, put_put] at h
  exact h
theorem trim_bR {pre S : Store} {t : Nat} {ns ns2 : List Int} {runs runs2 : List Rn} {env : Env} (he : envBel (S.length + 2) env = true) : trim (bR S t ns runs) (pre ++ bR S t ns2 runs2) env = bR S t ns2 runs2 := by
  refine trim_chg (pre := pre) rfl (by simp) (by simpa using he) ?_
  simp only [okOld_cons, okOld_tp, Bool.and_true]
  simp
def condR : Tst := .and (.val (.cmp .lt (.v 9) (.c (.int 120)))) (.or (.val (.cmp .eq (.v 3) (.c (.int 2)))) (.val (.cmp .gt (.call 14 [.v 0, .c (.int 5)]) (.c (.int 0)))))
def envR (S : Store) (t w few : Nat) (k : Option D) (runs : List Rn) : Env := [some (.obj t), some (.int w), none, some (.int few), k, some (.str (lastL runs)), none, none, some (.obj S.length), some (.int ((flat runs).length : Nat))]
theorem sp_round (n : Nat) (S : Store) (t : Nat) (ns : List Int) (w few k : Nat) (runs : List Rn) (hw : w = 1 ∨ w = 2) (ht : t < S.length) (hf : few < 3) (hr : RunsOk w runs) :
    wp (evSs ⟨den P (n + 1), P.G, P.Cl, none⟩ [.ite condR suiteR []] (envR S t w few (some (.int k)) runs) (bR S t ns runs))
      (fun fl S' => ∃ (runs2 : List Rn) (ns2 : List Int), RunsOk w runs2 ∧ ∃ env, fl = .nx env ∧ kill [2, 4, 7] env = envR S t w few none runs2 ∧ trim (bR S t ns runs) S' (envR S t w few none runs2) = bR S t ns2 runs2) := by
  have hbel : ∀ runs2, envBel (S.length + 2) (envR S t w few none runs2) = true := fun runs2 => by simp [envR]; omega
  have hgo : ∀ ns1, (flat runs).length < 120 → wp (evSs ⟨den P (n + 1), P.G, P.Cl, none⟩ suiteR (envR S t w few (some (.int k)) runs) (bR S t ns1 runs))
      (fun fl S' => ∃ (runs2 : List Rn) (ns2 : List Int), RunsOk w runs2 ∧ ∃ env, fl = .nx env ∧ kill [2, 4, 7] env = envR S t w few none runs2 ∧ trim (bR S t ns runs) S' (envR S t w few none runs2) = bR S t ns2 runs2) := fun ns1 h => by
    refine wp_mono (sp_suite n S t ns1 w few k runs hw ht hf hr h) ?_
    rintro fl S' ⟨l, c, ns2, pre, h1, rfl, rfl⟩
    refine ⟨runs ++ [(l, c)], ns2, h1, _, rfl, ?_, trim_bR (hbel _)⟩
    simp [envR, lastL_snoc]
  by_cases h120 : (flat runs).length < 120
  · have h120' : ((flat runs).length : Int) < 120 := by omega
    by_cases h2 : few = 2
    · subst h2
      exact wp_iteT (S1 := bR S t ns runs) (by simp (disch := first | omega | (simp; done) | (simp; omega)) [if_pos, if_neg, condR, envR, h120']) (hgo ns h120)
    · have h2' : ¬ (few : Int) = 2 := by omega
      obtain ⟨v, ns1, hv1, hv2⟩ := sp_takeP n [.lst L5, .lst (runs.map rnD)] S t ns 5 ht (by omega)
      have hv2 : den P (n + 1) none 14 [.obj t, .int 5] (bR S t ns runs) = .ok (.int v) (bR S t ns1 runs) := hv2
      by_cases hv0 : 0 < v
      · have hv0' : (0 : Int) < (v : Int) := by omega
        refine wp_iteT (S1 := bR S t ns1 runs) ?_ (hgo ns1 h120)
        clear hgo
        generalize bR S t ns runs = T0 at *
        generalize bR S t ns1 runs = T1 at *
        simp (disch := first | omega | (simp; done) | (simp; omega)) [if_pos, if_neg, condR, envR, h120', h2', hv2, hv0']
        exact hv0
      · have hv0' : ¬ (0 : Int) < (v : Int) := by omega
        have htr : trim (bR S t ns runs) (bR S t ns1 runs) (envR S t w few none runs) = bR S t ns1 runs := trim_bR (pre := []) (hbel _)
        have e : evSs ⟨den P (n + 1), P.G, P.Cl, none⟩ [.ite condR suiteR []] (envR S t w few (some (.int k)) runs) (bR S t ns runs) = .ok (.nx (envR S t w few (some (.int k)) runs)) (bR S t ns1 runs) := by
          clear htr
          generalize bR S t ns runs = T0 at *
          generalize bR S t ns1 runs = T1 at *
          simp (disch := first | omega | (simp; done) | (simp; omega)) [if_pos, if_neg, condR, envR, h120', h2', hv2, hv0']
        rw [e, wp_ok]
        exact ⟨runs, ns1, hr, _, rfl, by simp [envR], htr⟩
  · have h120' : ¬ ((flat runs).length : Int) < 120 := by omega
    have e : evSs ⟨den P (n + 1), P.G, P.Cl, none⟩ [.ite condR suiteR []] (envR S t w few (some (.int k)) runs) (bR S t ns runs) = .ok (.nx (envR S t w few (some (.int k)) runs)) (bR S t ns runs) := by
      generalize bR S t ns runs = T0 at *
      simp (disch := first | omega | (simp; done) | (simp; omega)) [if_pos, if_neg, condR, envR, h120']
    rw [e, wp_ok]
    exact ⟨runs, ns, hr, _, rfl, by simp [envR], by simp⟩
theorem sp_runs (n : Nat) (S : Store) (t : Nat) (ns : List Int) (w : Nat) (hw : w = 1 ∨ w = 2) (ht : t < S.length) :
    ∃ x : List Rn × List Int, RunsOk w x.1 ∧ den P (n + 2) none 17 [.obj t, .int w] (tp S t ns) = .ok (.obj S.length) (.lst (x.1.map rnD) :: tp S t x.2) := by
  refine den_post (f := ⟨2, 10, b17⟩) (fun x : List Rn × List Int => RunsOk w x.1) (fun x => .ok (.obj S.length) (.lst (x.1.map rnD) :: tp S t x.2)) rfl rfl ?_
  have htl : ∀ ns, (tp S t ns).length = S.length := fun ns => by simp
  obtain ⟨few, ns1, hf, hfew⟩ := sp_takeP n [.lst (([] : List Rn).map rnD)] S t ns 3 ht (by omega)
  have hfew : den P (n + 1) none 14 [.obj t, .int 3] (.lst [] :: tp S t ns) = .ok (.int few) (.lst [] :: tp S t ns1) := hfew
  obtain ⟨lim, hlim, hlm⟩ : ∃ lim : Nat, (∀ T, idxG (some (.lst [.int 5, .int 13, .int 121])) (few : Int) T = .ok (.int (lim : Nat)) T) ∧ lim ≤ 121 := by
    have : few = 0 ∨ few = 1 ∨ few = 2 := by omega
    rcases this with rfl | rfl | rfl
    · exact ⟨5, fun T => idxG_n _ 0 T, by omega⟩
    · exact ⟨13, fun T => idxG_n _ 1 T, by omega⟩
    · exact ⟨121, fun T => idxG_n _ 2 T, by omega⟩
  refine wp_split 4 (envR S t w few none []) (.lst (([] : List Rn).map rnD) :: tp S t ns1) ?_ ?_
  · simp only [b17, List.take_succ_cons, List.take_zero]
    have h0 := htl ns
    generalize tp S t ns = T0 at *
    generalize tp S t ns1 = T1 at *
    simp (disch := first | omega | (simp; done) | (simp; omega)) [if_pos, if_neg, hfew, h0, envR, lastL, flat]
    try rfl
  have hstep : wp (evSs ⟨den P (n + 1), P.G, P.Cl, none⟩ [.forS (.v 4) (.rng (.idx (.ls (.disp [.c (.int 5), .c (.int 13), .c (.int 121)])) (.v 3))) [.ite condR suiteR []] [2, 4, 7]] (envR S t w few none []) (.lst (([] : List Rn).map rnD) :: tp S t ns1)) (fun fl S' => ∃ (runs : List Rn) (ns2 : List Int), RunsOk w runs ∧ fl = .nx (envR S t w few none runs) ∧ S' = bR S t ns2 runs) := by
    have hfor := wp_for (C := ⟨den P (n + 1), P.G, P.Cl, none⟩) (t := .v 4) (body := [.ite condR suiteR []]) (ks := [2, 4, 7]) (o := none) (xs := (List.range lim).map fun i : Nat => D.int (i : Int)) (env := envR S t w few none []) (S := bR S t ns1 []) (Q := fun fl S' => ∃ (runs : List Rn) (ns2 : List Int), RunsOk w runs ∧ fl = .nx (envR S t w few none runs) ∧ S' = bR S t ns2 runs)
      (fun i env S' => ∃ (runs : List Rn) (ns2 : List Int), RunsOk w runs ∧ env = envR S t w few none runs ∧ S' = bR S t ns2 runs)
      ⟨[], ns1, ⟨trivial, by simp, by simp [flat]⟩, rfl, rfl⟩ (by intros; rfl) ?_ ?_
    · have hl5 := htl ns1
      simp (disch := first | omega | (simp; done) | (simp; omega)) [if_pos, if_neg, -idxG_n, envR, hlim, hl5]
      refine wp_seq (wp_mono hfor ?_)
      rintro fl S' ⟨runs, ns2, hr, rfl, rfl⟩
      simp (disch := first | omega | (simp; done) | (simp; omega)) [if_pos, if_neg, id]
      exact ⟨runs, hr, by simp [envR], rfl, ns2, rfl⟩
    · rintro i x env S' hx ⟨runs, ns2, hr, rfl, rfl⟩
      obtain ⟨hi, rfl⟩ := range_at hx
      show wp (evSs _ [.ite condR suiteR []] (envR S t w few (some (.int i)) runs) (bR S t ns2 runs)) _
      refine wp_mono (sp_round n S t ns2 w few i runs hw ht hf hr) ?_
      rintro fl S' ⟨runs2, ns3, h1, env, rfl, h2, h3⟩
      rw [rnd_nx, h2, h3]
      exact ⟨runs2, ns3, h1, rfl, rfl⟩
    · rintro env S' ⟨runs, ns2, hr, rfl, rfl⟩
      exact ⟨runs, ns2, hr, rfl, rfl⟩
  simp only [b17, List.drop_succ_cons, List.drop_zero]
  refine wp_app2 [.forS (.v 4) (.rng (.idx (.ls (.disp [.c (.int 5), .c (.int 13), .c (.int 121)])) (.v 3))) [.ite condR suiteR []] [2, 4, 7]] _ _ _ (wp_mono hstep ?_)
  rintro fl S' ⟨runs, ns2, hr, rfl, rfl⟩
  refine ⟨_, rfl, ?_⟩
  have hfin : ∀ (pre : Store) (runs : List Rn) (ns3 : List Int), fin (tp S t ns) (pre ++ .lst (runs.map rnD) :: tp S t ns3) (.obj S.length) = .ok (.obj S.length) (.lst (runs.map rnD) :: tp S t ns3) := fun pre runs ns3 => by
    have h3 := htl ns3
    have h0 := htl ns
    have hd : (pre ++ .lst (runs.map rnD) :: tp S t ns3).drop ((pre ++ .lst (runs.map rnD) :: tp S t ns3).length - (tp S t ns).length) = tp S t ns3 := by
      have e1 : (pre ++ .lst (runs.map rnD) :: tp S t ns3) = (pre ++ [.lst (runs.map rnD)]) ++ tp S t ns3 := by simp
      rw [e1, List.length_append, h0, h3, Nat.add_sub_cancel, List.drop_left]
    have hg : get (pre ++ .lst (runs.map rnD) :: tp S t ns3) S.length = some (.lst (runs.map rnD)) := get_app (by rw [get_cons, if_pos h3.symm]) _
    have ho := okOld_tp (tp S t ns).length S t ns ns3
    have hb1 : D.bel (tp S t ns).length (.obj S.length) = false := by rw [h0]; simp
    have hb2 : SO.bel (tp S t ns).length (.lst (runs.map rnD)) = true := by simp
    have hne : ¬ (pre ++ .lst (runs.map rnD) :: tp S t ns3).length = (tp S t ns).length := by rw [List.length_append, List.length_cons, h0, h3]; omega
    unfold fin
    rw [if_neg hne]
    rw [h0] at hd ho hb1 hb2 ⊢
    simp only [hd, ho, hb1, hg, hb2, if_true, Bool.false_eq_true, if_false]
  have hrl := runs_len hr
  have hl2 := htl ns2
  by_cases h120 : (flat runs).length < 120
  · have h120' : ((flat runs).length : Int) < 120 := by omega
    obtain ⟨v, ns3, hv1, hv2⟩ := sp_takeP n [.lst L5, .lst (runs.map rnD)] S t ns2 3 ht (by omega)
    have hv2 : den P (n + 1) none 14 [.obj t, .int 3] (bR S t ns2 runs) = .ok (.int v) (bR S t ns3 runs) := hv2
    by_cases hv0 : v = 1
    · subst hv0
      have hp := oth_pos hw (lastL runs)
      have hls := levs_short hw
      have hlast2 : (lastL runs).length ≤ 2 := by
        unfold lastL
        cases hg : runs.getLast? with
        | none => simp
        | some p => have := (lv_no (hr.v p (List.mem_of_getLast? hg)).lv).1; simp only; omega
      have hlv := fun T => sp_levels n T w hw
      obtain ⟨O, hO⟩ : ∃ O, O = (oth w (lastL runs)).map D.str := ⟨_, rfl⟩
      have hOl : O.length = (oth w (lastL runs)).length := by rw [hO]; simp
      let pre1 : Store := [.lst O, .lst ((levs w).map .str), .lst L5, .lst (runs.map rnD)]
      obtain ⟨u, ns4, hu1, hu2⟩ := sp_takeP n pre1 S t ns3 (oth w (lastL runs)).length ht (by omega)
      have huO : u < O.length := by omega
      have hx : O[u] = .str ((oth w (lastL runs))[u]) := by simp [hO]
      have hm := List.mem_filter.mp (List.getElem_mem hu1)
      generalize hxd : (oth w (lastL runs))[u] = x at *
      obtain ⟨c, hc⟩ : ∃ c : Nat, c = 120 - (flat runs).length := ⟨_, rfl⟩
      have hci : (120 : Int) - ((flat runs).length : Int) = (c : Int) := by omega
      have hrs := runs_snoc hw hr hm.1 (by simpa using hm.2) (c := c) (by omega) (by omega)
      have hmr : (runs ++ [(x, c)]).map rnD = runs.map rnD ++ [.tup [.str x, .int (c : Int)]] := by simp [rnD]
      refine wp_split 1 [some (.obj t), some (.int w), none, some (.int few), none, some (.str (lastL runs)), none, some (.obj (S.length + 3)), some (.obj S.length), some (.int ((flat runs).length : Nat))] ([.lst O, .lst ((levs w).map .str)] ++ bR S t ns4 (runs ++ [(x, c)])) ?_ ?_
      · simp only [List.take_succ_cons, List.take_zero]
        refine wp_iteT (S1 := bR S t ns3 runs) ?_ ?_
        · clear hfin
          generalize bR S t ns2 runs = T0 at *
          generalize bR S t ns3 runs = T1 at *
          simp (disch := first | omega | (simp; done) | (simp; omega)) [if_pos, if_neg, envR, h120', hv2]
        · have hl3 := htl ns3
          refine wp_split 1 [some (.obj t), some (.int w), none, some (.int few), none, some (.str (lastL runs)), none, some (.obj (S.length + 3)), some (.obj S.length), some (.int ((flat runs).length : Nat))] (pre1 ++ tp S t ns3) ?_ ?_
          · simp only [List.take_succ_cons, List.take_zero]
            simp (disch := first | omega | (simp; done) | (simp; omega)) [if_pos, if_neg, hlv, envR]
            rw [compK_fon (levs w) D.str (fun x => decide (x ≠ lastL runs)) (fun x => .str x) (by rcases hw with rfl | rfl <;> decide) (fun b hb => by
              have := hls b hb
              refine ⟨_, rfl, ?_, fun _ => by simp (disch := first | omega | (simp; done) | (simp; omega)) [if_pos, if_neg, id]⟩
              by_cases hbl : b = lastL runs
              · simp (disch := first | omega | (simp; done) | (simp; omega)) [if_pos, if_neg, hbl]
              · simp (disch := first | omega | (simp; done) | (simp; omega)) [if_pos, if_neg, hbl])]
            have hO2 : List.map (fun x => D.str x) (List.filter (fun x => decide (x ≠ lastL runs)) (levs w)) = O := by rw [hO]; rfl
            rw [hO2]
            simp (disch := first | omega | (simp; done) | (simp; omega)) [if_pos, if_neg, hl3]
            try rfl
          have hg1 : get (pre1 ++ tp S t ns3) (S.length + 3) = some (.lst O) := by
            show get (.lst O :: .lst ((levs w).map .str) :: .lst L5 :: .lst (runs.map rnD) :: tp S t ns3) (S.length + 3) = _
            rw [get_cons, if_pos (by simp)]
          have hg2 : get (pre1 ++ tp S t ns4) (S.length + 3) = some (.lst O) := by
            show get (.lst O :: .lst ((levs w).map .str) :: .lst L5 :: .lst (runs.map rnD) :: tp S t ns4) (S.length + 3) = _
            rw [get_cons, if_pos (by simp)]
          have hp4 : put (pre1 ++ tp S t ns4) S.length (.lst ((runs ++ [(x, c)]).map rnD)) = [.lst O, .lst ((levs w).map .str)] ++ bR S t ns4 (runs ++ [(x, c)]) := by
            have hZ : (tp S t ns4).length = S.length := by simp
            show put (.lst O :: .lst ((levs w).map .str) :: .lst L5 :: .lst (runs.map rnD) :: tp S t ns4) S.length _ = .lst O :: .lst ((levs w).map .str) :: .lst L5 :: .lst ((runs ++ [(x, c)]).map rnD) :: tp S t ns4
            clear hfin
            generalize tp S t ns4 = Z at *
            generalize (runs ++ [(x, c)]).map rnD = Y
            simp (disch := first | omega | (simp; done) | (simp; omega)) [if_pos, if_neg, put_cons, hZ]
          have hg4 : ∀ ns5, get (pre1 ++ tp S t ns5) S.length = some (.lst (runs.map rnD)) := fun ns5 => by
            have hZ : (tp S t ns5).length = S.length := by simp
            show get (.lst O :: .lst ((levs w).map .str) :: .lst L5 :: .lst (runs.map rnD) :: tp S t ns5) S.length = _
            clear hfin
            generalize tp S t ns5 = Z at *
            simp (disch := first | omega | (simp; done) | (simp; omega)) [if_pos, if_neg, get_cons, hZ]
          have hg5 := hg4 ns3
          have hg6 := hg4 ns4
          have hmr2 := hmr
          rw [hmr] at hp4
          rw [← hOl] at hu2
          simp only [List.drop_succ_cons, List.drop_zero]
          clear hfin hg4
          generalize pre1 ++ tp S t ns3 = T5 at *
          generalize pre1 ++ tp S t ns4 = T6 at *
          simp (disch := first | omega | (simp; done) | (simp; omega)) [if_pos, if_neg, hg1, hg5, hg6, hu2, hg2, huO, hx, hci, hp4]
      · have hf := hfin [.lst O, .lst ((levs w).map .str), .lst L5] (runs ++ [(x, c)]) ns4
        have hf : fin (tp S t ns) ([.lst O, .lst ((levs w).map .str)] ++ bR S t ns4 (runs ++ [(x, c)])) (.obj S.length) = .ok (.obj S.length) (.lst ((runs ++ [(x, c)]).map rnD) :: tp S t ns4) := hf
        clear hfin
        simp only [List.drop_succ_cons, List.drop_zero]
        generalize [.lst O, .lst ((levs w).map .str)] ++ bR S t ns4 (runs ++ [(x, c)]) = T7 at *
        simp (disch := first | omega | (simp; done) | (simp; omega)) [if_pos, if_neg, hf]
        exact ⟨runs ++ [(x, c)], hrs.1, by simp, ns4, rfl⟩
    · have hv0' : ¬ (v : Int) = 1 := by omega
      have hl3 := htl ns3
      have hf := hfin [.lst L5] runs ns3
      have hf : fin (tp S t ns) (bR S t ns3 runs) (.obj S.length) = .ok (.obj S.length) (.lst (runs.map rnD) :: tp S t ns3) := hf
      generalize bR S t ns2 runs = T0 at *
      generalize bR S t ns3 runs = T1 at *
      simp (disch := first | omega | (simp; done) | (simp; omega)) [if_pos, if_neg, envR, h120', hv2, hv0', hf]
      exact ⟨runs, hr, rfl, ns3, rfl⟩
  · have h120' : ¬ ((flat runs).length : Int) < 120 := by omega
    have hf := hfin [.lst L5] runs ns2
    have hf : fin (tp S t ns) (bR S t ns2 runs) (.obj S.length) = .ok (.obj S.length) (.lst (runs.map rnD) :: tp S t ns2) := hf
    generalize bR S t ns2 runs = T0 at *
    simp (disch := first | omega | (simp; done) | (simp; omega)) [if_pos, if_neg, envR, h120', hf]
    exact ⟨runs, hr, rfl, ns2, rfl⟩
end HT
end
section
set_option maxHeartbeats 0
set_option linter.all false
set_option maxRecDepth 100000
namespace HT
open Pw
def sgn : List Nat := [48, 49, 42, 32, 49, 50, 51, 48, 53, 55, 56, 57, 120, 45, 43, 46, 97, 10]
theorem sp_sign (n : Nat) (pre S : Store) (t : Nat) (ns : List Int) (ht : t < S.length) : ∃ (c : Nat) (ns' : List Int), den P (n + 2) none 20 [.obj t] (pre ++ tp S t ns) = .ok (.str [c]) (pre ++ tp S t ns') := by
  obtain ⟨v, ns', hv, h⟩ := sp_takeP n pre S t ns 18 ht (by omega)
  have h : den P (n + 1) none 14 [.obj t, .int 18] (pre ++ tp S t ns) = .ok (.int v) (pre ++ tp S t ns') := h
  have hv' : v < sgn.length := hv
  refine ⟨sgn[v], ns', den_wp (f := ⟨1, 2, b20⟩) rfl rfl ?_⟩
  have hl : (pre ++ tp S t ns').length = (pre ++ tp S t ns).length := by simp
  have hix : ∀ T, idxD (.str [48, 49, 42, 32, 49, 50, 51, 48, 53, 55, 56, 57, 120, 45, 43, 46, 97, 10]) (.int (v : Int)) T = .ok (.str [sgn[v]]) T := fun T => by
    have := idx_s (s := sgn) (S := T) (by decide) v
    rw [List.getElem?_eq_getElem hv'] at this
    exact this
  generalize pre ++ tp S t ns = T0 at *
  generalize pre ++ tp S t ns' = T1 at *
  simp (disch := first | omega | (simp; done) | (simp; omega)) [if_pos, if_neg, -idx_s, b20, h, hix]
  exact fin_len hl
theorem sp_drawn (n : Nat) (S : Store) (t : Nat) (ns : List Int) (ht : t < S.length) : ∃ x : List Nat × List Int, x.1.length ≤ 18 ∧ den P (n + 3) none 22 [.obj t] (tp S t ns) = .ok (.str x.1) (tp S t x.2) := by
  refine den_post (f := ⟨1, 3, b22⟩) (fun x : List Nat × List Int => x.1.length ≤ 18) (fun x => .ok (.str x.1) (tp S t x.2)) rfl rfl ?_
  obtain ⟨v, ns1, hv, h⟩ := sp_take (n + 1) S t ns 19 ht (by omega)
  have h : den P (n + 2) none 14 [.obj t, .int 19] (tp S t ns) = .ok (.int v) (tp S t ns1) := h
  have hlen : ∀ ns2, (tp S t ns2).length = (tp S t ns).length := fun ns2 => by simp
  generalize hT0 : tp S t ns = T0 at *
  simp (disch := first | omega | (simp; done) | (simp; omega)) [if_pos, if_neg, b22, h]
  refine wp_seq (wp_forR v (fun x : List Nat × List Int => [some (.obj t), none, some (.str x.1)]) (fun x => tp S t x.2) (fun i x => x.1.length = i) ([], ns1) rfl rfl rfl ?_ ?_)
  · rintro i ⟨s, m⟩ hi hs
    simp only at hs
    obtain ⟨c, m2, hc⟩ := sp_sign n [] S t m ht
    have hc : den P (n + 2) none 20 [.obj t] (tp S t m) = .ok (.str [c]) (tp S t m2) := hc
    have c1 : (tp S t m2).length = (tp S t m).length := by simp
    simp only
    generalize hm' : tp S t m = Tm at *
    generalize hn' : tp S t m2 = Tn at *
    simp (disch := first | omega | (simp; done) | (simp; omega)) [if_pos, if_neg, hc]
    refine ⟨(s ++ [c], m2), by simp [hs], rfl, ?_⟩
    rw [trim_same c1]; exact hn'.symm
  · rintro ⟨s, m⟩ hs
    simp only at hs
    have hf := fin_len (S := T0) (S' := tp S t m) (d := .str s) (hlen m)
    simp (disch := first | omega | (simp; done) | (simp; omega)) [if_pos, if_neg, id]
    exact ⟨s, by omega, m, hf⟩
theorem set_td2 {α : Type} {l : List α} {i : Nat} {a : α} (h : i < l.length) : l.take i ++ a :: l.drop (i + 1) = l.set i a := by
  rw [List.set_eq_take_append_cons_drop, if_pos h]
/-! the size of words -/
def tsz (ws : List (List Nat)) : Nat := (ws.map List.length).sum + ws.length
theorem tsz_cons (a : List Nat) (r) : tsz (a :: r) = a.length + 1 + tsz r := by simp [tsz]; omega
theorem tsz_app (a b : List (List Nat)) : tsz (a ++ b) = tsz a + tsz b := by simp [tsz]; omega
theorem tsz_take (k : Nat) (ws : List (List Nat)) : tsz (ws.take k) ≤ tsz ws := by
  have := tsz_app (ws.take k) (ws.drop k)
  rw [List.take_append_drop] at this; omega
theorem tsz_drop (k : Nat) (ws : List (List Nat)) : tsz (ws.drop k) ≤ tsz ws := by
  have := tsz_app (ws.take k) (ws.drop k)
  rw [List.take_append_drop] at this; omega
theorem tsz_mem {ws : List (List Nat)} {x : List Nat} (h : x ∈ ws) : x.length + 1 ≤ tsz ws := by
  induction ws with
  | nil => cases h
  | cons a r ih =>
    rw [tsz_cons]
    rcases List.mem_cons.mp h with rfl | h
    · omega
    · have := ih h; omega
theorem tsz_set (ws : List (List Nat)) (k : Nat) (x : List Nat) : tsz (ws.set k x) ≤ tsz ws + x.length + 1 := by
  by_cases h : k < ws.length
  · rw [← set_td2 h, tsz_app, tsz_cons]
    have := tsz_take k ws
    have h2 := tsz_app (ws.take k) (ws.drop k)
    rw [List.take_append_drop] at h2
    have h3 : tsz (ws.drop (k + 1)) ≤ tsz (ws.drop k) := by
      have := tsz_drop 1 (ws.drop k)
      rw [List.drop_drop] at this
      exact this
    omega
  · rw [List.set_eq_of_length_le (by omega)]; omega
theorem join_len : ∀ ws : List (List Nat), (joinS [32] ws).length ≤ tsz ws
  | [] => by simp [joinS]
  | [a] => by simp [joinS, tsz]
  | a :: b :: r => by
    have := join_len (b :: r)
    show (a ++ [32] ++ joinS [32] (b :: r)).length ≤ _
    rw [tsz_cons]; simp; omega
theorem tsz_split : ∀ s : List Nat, tsz (splC 32 s) = s.length + 1
  | [] => rfl
  | a :: r => by
    have ih := tsz_split r
    simp only [splC]
    split
    · rw [tsz_cons, ih]; simp; omega
    · cases h : splC 32 r with
      | nil => exact absurd h (splC_ne 32 r)
      | cons x xs =>
        rw [h, tsz_cons] at ih
        show tsz ((a :: x) :: xs) = _
        rw [tsz_cons]; simp; omega
end HT
end
section
set_option maxHeartbeats 0
set_option linter.all false
set_option maxRecDepth 100000
namespace HT
open Pw
def lv0 (w : Nat) : List Nat := List.replicate w 48
def nobj (w : Nat) (r : List (List Nat)) : Nat → List SO
  | 0 => [.lst (r.map .str)]
  | 14 => [.dct []]
  | 15 => [.lst [.str (lv0 w)]]
  | 16 => [.dct [(.int 0, .str (lv0 w))]]
  | _ => []
def nbad (w : Nat) : Nat → D
  | 2 => .non
  | 3 => .int 1
  | 4 => .bl true
  | 5 => .str []
  | 6 => .str (List.replicate (3 - w) 48)
  | 7 => .tup [.str [49]]
  | _ => .str (List.replicate w 50)
def nval (w at_ : Nat) (r : List (List Nat)) : Nat → D
  | 1 => .tup (r.map .str ++ List.replicate (121 - r.length) (.str (lv0 w)))
  | 9 => .non
  | 10 => .int 7
  | 11 => .bl false
  | 12 => .str [49, 42, 49]
  | 13 => .str (lv0 w)
  | 0 => .non
  | 14 => .non
  | 15 => .non
  | 16 => .non
  | c => gx (r.map .str) at_ (nbad w c)
def nres (c w at_ : Nat) (r : List (List Nat)) (B : Nat) : D := if nobj w r c = [] then nval w at_ r c else .obj B
theorem sp_no (n : Nat) (S : Store) (c w a : Nat) (r : List (List Nat)) (hc : c < 17) (hw : w = 1 ∨ w = 2) (h : RecOk w r) (ha : a ≤ 119) : den P (n + 1) none 27 [.int c, .int w, toR r, .int a] S = .ok (nres c w a r S.length) (nobj w r c ++ S) := by
  refine den_wp (f := ⟨4, 6, b27⟩) rfl rfl ?_
  have hl := h.len
  have hm1 : ∀ S, binD .mul (.str [48]) (.int (w : Int)) S = .ok (.str (lv0 w)) S := fun S => by
    rw [mul_s (by omega) (by omega), Int.toNat_natCast]; try simp [lv0]
  have hm2 : ∀ S, binD .mul (.str [48]) (.int (3 - (w : Int))) S = .ok (.str (List.replicate (3 - w) 48)) S := fun S => by
    rw [mul_s (by omega) (by omega)]
    rw [show (3 - (w : Int)).toNat = 3 - w by omega]; try simp
  have hm3 : ∀ S, binD .mul (.str [50]) (.int (w : Int)) S = .ok (.str (List.replicate w 50)) S := fun S => by
    rw [mul_s (by omega) (by omega), Int.toNat_natCast]; try simp
  have hm4 : ∀ S, binD .mul (.tup [.str (lv0 w)]) (.int (121 - (r.length : Int))) S = .ok (.tup (List.replicate (121 - r.length) (.str (lv0 w)))) S := fun S => by
    rw [show (121 - (r.length : Int)) = ((121 - r.length : Nat) : Int) by omega]
    exact mul_t1 ⟨by omega, by omega⟩
  rw [show toR r = .tup (r.map .str) from rfl]
  have hrb : ∀ n, D.bels n (r.map D.str) = true := fun n => bels_strs n r
  have hRl : (r.map D.str).length = r.length := by simp
  have hnv : ∀ c, 2 ≤ c → c < 9 → nval w a r c = gx (r.map .str) a (nbad w c) ∧ nobj w r c = [] := by
    intro c h1 h2
    have : c = 2 ∨ c = 3 ∨ c = 4 ∨ c = 5 ∨ c = 6 ∨ c = 7 ∨ c = 8 := by omega
    rcases this with rfl | rfl | rfl | rfl | rfl | rfl | rfl <;> exact ⟨rfl, rfl⟩
  have hik : isKey (.int 0) = true := rfl
  have hlb : (lv0 w).length ≤ 2 := by simp [lv0]; omega
  by_cases h9 : c < 9
  · by_cases h2 : 2 ≤ c
    · obtain ⟨e1, e2⟩ := hnv c h2 h9
      rw [nres, if_pos e2, e1, e2]
      have this : c = 2 ∨ c = 3 ∨ c = 4 ∨ c = 5 ∨ c = 6 ∨ c = 7 ∨ c = 8 := by omega
      generalize r.map D.str = R at *
      generalize hz2 : List.replicate (3 - w) 48 = Z2 at *
      generalize hz3 : List.replicate w 50 = Z3 at *
      generalize lv0 w = LV at *
      rcases this with rfl | rfl | rfl | rfl | rfl | rfl | rfl
      all_goals
        simp (disch := first | omega | (simp; done) | (simp; omega)) [if_pos, if_neg, b27, hm1, hm2, hm3, gx, nbad, hz2, hz3]
        first
          | done
          | exact fin_val (pre := [_]) rfl (by simp [hrb])
    · have : c = 0 ∨ c = 1 := by omega
      rcases this with rfl | rfl
      · simp (disch := first | omega | (simp; done) | (simp; omega)) [if_pos, if_neg, b27, hm1, nres, nobj]
      · simp (disch := first | omega | (simp; done) | (simp; omega)) [if_pos, if_neg, b27, hm1, hm4, nres, nobj, nval]
        refine fin_val (pre := []) rfl ?_
        rw [bel_tup, belsA, List.all_eq_true]
        intro x hx
        rcases List.mem_append.mp hx with hx | hx
        · obtain ⟨l, _, rfl⟩ := List.mem_map.mp hx; simp
        · rw [(List.mem_replicate.mp hx).2]; simp
  · have : c = 9 ∨ c = 10 ∨ c = 11 ∨ c = 12 ∨ c = 13 ∨ c = 14 ∨ c = 15 ∨ c = 16 := by omega
    rcases this with rfl | rfl | rfl | rfl | rfl | rfl | rfl | rfl
    all_goals
      simp (disch := first | omega | (simp; done) | (simp; omega)) [if_pos, if_neg, b27, hm1, hik, nres, nobj, nval]
      first
        | done
        | exact fin_val (pre := [_, _, _, _]) rfl (by simp)
        | exact fin_any [_, _, _, _] rfl (by omega) (by simp (disch := first | omega | (simp; done) | (simp; omega)) [if_pos, if_neg, id]) (by simp [SO.bel])
end HT
end
section
set_option maxHeartbeats 0
set_option linter.all false
set_option maxRecDepth 100000
namespace HT
open Pw
theorem nbad_no {w : Nat} (hw : w = 1 ∨ w = 2) (c : Nat) : isLvD w (nbad w c) = false ∧ okE (nbad w c) = true ∧ plD 1 (nbad w c) = true := by
  unfold nbad
  rcases hw with rfl | rfl <;> split <;> exact ⟨by decide, by decide, by decide⟩
theorem okEs_rec {w : Nat} {r : List (List Nat)} (hw : w = 1 ∨ w = 2) (h : RecOk w r) : okEs (r.map D.str) = true := okEs_of (h.e hw) rfl
theorem nval_cases (w a : Nat) (r : List (List Nat)) (c : Nat) (hc : c < 17) (h : nobj w r c = []) : nval w a r c = .tup (r.map .str ++ List.replicate (121 - r.length) (.str (lv0 w))) ∨ (∃ k, nval w a r c = gx (r.map .str) a (nbad w k)) ∨ nval w a r c = .non ∨ nval w a r c = .int 7 ∨ nval w a r c = .bl false ∨ nval w a r c = .str [49, 42, 49] ∨ nval w a r c = .str (lv0 w) := by
  have : c = 0 ∨ c = 1 ∨ c = 2 ∨ c = 3 ∨ c = 4 ∨ c = 5 ∨ c = 6 ∨ c = 7 ∨ c = 8 ∨ c = 9 ∨ c = 10 ∨ c = 11 ∨ c = 12 ∨ c = 13 ∨ c = 14 ∨ c = 15 ∨ c = 16 := by omega
  rcases this with rfl | rfl | rfl | rfl | rfl | rfl | rfl | rfl | rfl | rfl | rfl | rfl | rfl | rfl | rfl | rfl | rfl
  · cases h
  · exact Or.inl rfl
  · exact Or.inr (Or.inl ⟨2, rfl⟩)
  · exact Or.inr (Or.inl ⟨3, rfl⟩)
  · exact Or.inr (Or.inl ⟨4, rfl⟩)
  · exact Or.inr (Or.inl ⟨5, rfl⟩)
  · exact Or.inr (Or.inl ⟨6, rfl⟩)
  · exact Or.inr (Or.inl ⟨7, rfl⟩)
  · exact Or.inr (Or.inl ⟨8, rfl⟩)
  · exact Or.inr (Or.inr (Or.inl rfl))
  · exact Or.inr (Or.inr (Or.inr (Or.inl rfl)))
  · exact Or.inr (Or.inr (Or.inr (Or.inr (Or.inl rfl))))
  · exact Or.inr (Or.inr (Or.inr (Or.inr (Or.inr (Or.inl rfl)))))
  · exact Or.inr (Or.inr (Or.inr (Or.inr (Or.inr (Or.inr rfl)))))
  · cases h
  · cases h
  · cases h
theorem pl3_str (l : List Nat) : plD 3 (.str l) = true := rfl
theorem nres_bad (c w a : Nat) (r : List (List Nat)) (B : Nat) (hc : c < 17) (hw : w = 1 ∨ w = 2) (h : RecOk w r) : okE (nres c w a r B) = true ∧ isRecD w (nres c w a r B) = false := by
  unfold nres
  split
  · rename_i hn
    have hl := h.len
    have hes := okEs_rec hw h
    rcases nval_cases w a r c hc hn with e | ⟨k, e⟩ | e | e | e | e | e
    · rw [e]
      constructor
      · have : okEs (List.replicate (121 - r.length) (D.str (lv0 w))) = true := by
          rw [okEs_all, List.all_eq_true]; intro x hx; rw [(List.mem_replicate.mp hx).2]
          exact okE_txt (by simp [lv0]; omega)
        simp only [okE_tup, okEs_app, hes, this, Bool.and_true, decide_eq_true_eq]
        simp; omega
      · simp only [isRecD, Bool.and_eq_false_iff, decide_eq_false_iff_not]
        left; simp; omega
    · rw [e]
      obtain ⟨b1, b2, _⟩ := nbad_no hw k
      refine ⟨okE_gx hes (by simp; omega) b2, ?_⟩
      simp only [gx, isRecD, all_gx b1, Bool.and_false]
    · rw [e]; exact ⟨by simp, rfl⟩
    · rw [e]; exact ⟨by simp, rfl⟩
    · rw [e]; exact ⟨by simp, rfl⟩
    · rw [e]; exact ⟨by simp, rfl⟩
    · rw [e]; exact ⟨okE_txt (by simp [lv0]; omega), rfl⟩
  · exact ⟨by simp, rfl⟩
theorem nval_pl (c w a : Nat) (r : List (List Nat)) (hc : c < 17) (hw : w = 1 ∨ w = 2) (h : RecOk w r) (hn : nobj w r c = []) : plD 3 (nval w a r c) = true := by
  have hl := h.len
  rcases nval_cases w a r c hc hn with e | ⟨k, e⟩ | e | e | e | e | e
  · rw [e]
    simp only [plD, Bool.and_eq_true, decide_eq_true_eq, List.all_eq_true]
    refine ⟨by simp; omega, fun x hx => ?_⟩
    rcases List.mem_append.mp hx with hx | hx
    · obtain ⟨l, _, rfl⟩ := List.mem_map.mp hx; rfl
    · rw [(List.mem_replicate.mp hx).2]; rfl
  · rw [e]
    simp only [gx, plD, Bool.and_eq_true, decide_eq_true_eq, List.all_eq_true]
    refine ⟨by simp; omega, fun x hx => ?_⟩
    rcases mem_gx hx with rfl | hx
    · exact pl_mono _ _ (nbad_no hw k).2.2
    · obtain ⟨l, _, rfl⟩ := List.mem_map.mp hx; rfl
  · rw [e]; rfl
  · rw [e]; rfl
  · rw [e]; rfl
  · rw [e]; rfl
  · rw [e]; rfl
theorem ne_self3 {S : Store} {d : D} (h : plD 3 d = true) : cmpD S .ne d d = some false := by
  have e : deq S fuel d d = some true := deq_refl S 3 d h fuel (by decide)
  have t : topOk S true d d = true := by
    cases d with
    | obj => simp [plD] at h
    | exc => simp [plD] at h
    | _ => rfl
  simp only [cmpD, t, if_true, e]; rfl
theorem nres_ne (c w a : Nat) (r : List (List Nat)) (L T : Store) (hc : c < 17) (hw : w = 1 ∨ w = 2) (h : RecOk w r) : cmpD (nobj w r c ++ (L ++ (nobj w r c ++ T))) .ne (nres c w a r T.length) (nres c w a r (L ++ (nobj w r c ++ T)).length) = some false := by
  unfold nres
  by_cases hn : nobj w r c = []
  · rw [if_pos hn, if_pos hn]
    exact ne_self3 (nval_pl c w a r hc hw h hn)
  · rw [if_neg hn, if_neg hn]
    have hcc : c = 0 ∨ c = 14 ∨ c = 15 ∨ c = 16 := by
      unfold nobj at hn
      split at hn <;> first | omega | exact absurd rfl hn
    have g2 : ∀ o, nobj w r c = [o] → get (nobj w r c ++ (L ++ (nobj w r c ++ T))) T.length = some o := fun o e => by
      rw [e]; exact get_app (get_app (get_self o T) L) [o]
    have g1 : ∀ o, nobj w r c = [o] → get (nobj w r c ++ (L ++ (nobj w r c ++ T))) (L ++ (nobj w r c ++ T)).length = some o := fun o e => by
      rw [e]; exact get_self o _
    generalize hB : (L ++ (nobj w r c ++ T)).length = B at *
    generalize hS : nobj w r c ++ (L ++ (nobj w r c ++ T)) = S2 at *
    rcases hcc with rfl | rfl | rfl | rfl
    · have a1 := g1 _ rfl
      have a2 := g2 _ rfl
      have := lst_eq 39 _ _ _ _ a2 a1 rfl (sames _ _ (fun x hx => by obtain ⟨l, _, rfl⟩ := List.mem_map.mp hx; rfl) (by omega))
      simp [cmpD, topOk, topEq, a2, this, fuel]
    · have a1 := g1 _ rfl
      have a2 := g2 _ rfl
      have := dct_eq 39 _ _ _ _ a2 a1 rfl rfl
      simp [cmpD, topOk, topEq, a2, this, fuel]
    · have a1 := g1 _ rfl
      have a2 := g2 _ rfl
      have := lst_eq 39 _ _ _ _ a2 a1 rfl (alls_cons (deq_sm (S := S2) (d := .str (lv0 w)) rfl (by omega)) rfl)
      simp [cmpD, topOk, topEq, a2, this, fuel]
    · have a1 := g1 _ rfl
      have a2 := g2 _ rfl
      have := dct_eq 39 _ _ _ _ a2 a1 rfl (alls_cons (deq_sm (S := S2) (d := .str (lv0 w)) rfl (by omega)) rfl)
      simp [cmpD, topOk, topEq, a2, this, fuel]
end HT
end
section
set_option maxHeartbeats 0
set_option linter.all false
set_option maxRecDepth 100000
namespace HT
open Pw
theorem pickD {L : List D} {p : D → Prop} (h : ∀ x ∈ L, p x) {v : Nat} (hv : v < L.length) : ∃ x, p x ∧ ∀ T, idxG (some (.lst L)) (v : Int) T = .ok x T := ⟨L[v], h _ (List.getElem_mem hv), fun T => by rw [idxG_n]; simp [hv]⟩
theorem sp_refused (n : Nat) (S : Store) (t : Nat) (ns : List Int) (w : Nat) (r : List (List Nat)) (ht : t < S.length) (hw : w = 1 ∨ w = 2) (h : RecOk w r) : ∃ ns' : List Int, True ∧ den P (n + 11) none 28 [.obj t, .int w, toR r] (tp S t ns) = .ok (.bl true) (tp S t ns') := by
  refine den_post (f := ⟨3, 10, b28⟩) (fun _ : List Int => True) (fun ns' => .ok (.bl true) (tp S t ns')) rfl rfl ?_
  have hl := h.len
  obtain ⟨c, ns1, hc, hc2⟩ := sp_take (n + 9) S t ns 17 ht (by omega)
  obtain ⟨mn, hmn⟩ : ∃ mn : Nat, mn = min r.length 119 := ⟨_, rfl⟩
  have hmin : ∀ T, f2D .min (.int (r.length : Int)) (.int 119) T = .ok (.int (mn : Int)) T := fun T => by rw [hmn]; exact minN r.length 119 T
  obtain ⟨a, ns2, ha, ha2⟩ := sp_take (n + 9) S t ns1 (mn + 1) ht (by omega)
  have hc2 : den P (n + 10) none 14 [.obj t, .int 17] (tp S t ns) = .ok (.int c) (tp S t ns1) := hc2
  have ha2 : den P (n + 10) none 14 [.obj t, .int ((mn : Int) + 1)] (tp S t ns1) = .ok (.int a) (tp S t ns2) := ha2
  have hno := fun T => sp_no (n + 9) T c w a r hc hw h (by omega)
  have hbad := fun B => nres_bad c w a r B hc hw h
  have hne := fun L T => nres_ne c w a r L T hc hw h
  obtain ⟨N, hN⟩ : ∃ N, N = nobj w r c := ⟨_, rfl⟩
  rw [← hN] at hno
  simp only [← hN] at hne
  have htl : ∀ ns, (tp S t ns).length = S.length := fun ns => by simp
  have hB0 := hno (tp S t ns2)
  rw [htl] at hB0
  obtain ⟨b, hb⟩ : ∃ b, b = nres c w a r S.length := ⟨_, rfl⟩
  rw [← hb] at hB0
  have hbb := hbad S.length
  rw [← hb] at hbb
  have lenR : ∀ T, lenD T (toR r) = some (r.length : Int) := fun T => by simp [toR]
  refine wp_split 3 [some (.obj t), some (.int w), some (toR r), some (.int a), some b, some (.int c), none, none, none, none] (N ++ tp S t ns2) ?_ ?_
  · simp only [b28, List.take_succ_cons, List.take_zero]
    generalize tp S t ns = T0 at *
    generalize tp S t ns1 = T1 at *
    generalize tp S t ns2 = T2 at *
    simp (disch := first | omega | (simp; done) | (simp; omega)) [if_pos, if_neg, -f2_min, hc2, lenR, hmin, ha2, hB0]
  -- the wrong number of wires
  let L4 : Nat → List D := fun q => [.int 0, .int 3, .bl true, .bl false, .non, .str [49], .tup [.int 1], .obj q, .int (-1)]
  obtain ⟨v4, ns3, hv4, h4⟩ := sp_takeP (n + 9) (.lst (L4 (N ++ tp S t ns2).length) :: .lst [.int 2] :: N) S t ns2 9 ht (by omega)
  obtain ⟨num, ⟨hnum1, hnum2⟩, hnum⟩ := pickD (L := L4 (N ++ tp S t ns2).length) (p := fun x => okE x = true ∧ isIn 1 2 x = false) (by
    intro x hx
    simp only [L4, List.mem_cons, List.not_mem_nil, or_false] at hx
    rcases hx with rfl | rfl | rfl | rfl | rfl | rfl | rfl | rfl | rfl <;> exact ⟨by simp, rfl⟩) (v := v4) hv4
  have h4 : den P (n + 10) none 14 [.obj t, .int 9] _ = _ := h4
  simp only [L4, List.cons_append] at h4 hnum
  refine wp_split 1 [some (.obj t), some (.int w), some (toR r), some (.int a), some b, some (.int c), some num, none, none, none] (.lst (L4 (N ++ tp S t ns2).length) :: .lst [.int 2] :: (N ++ tp S t ns3)) ?_ ?_
  · simp only [b28, List.take_succ_cons, List.take_zero, List.drop_succ_cons, List.drop_zero]
    have hl2 : (N ++ tp S t ns3).length = (N ++ tp S t ns2).length := by simp
    generalize N ++ tp S t ns2 = T2 at *
    generalize N ++ tp S t ns3 = T3 at *
    have hgT : get (.lst (L4 T2.length) :: .lst [.int 2] :: T3) (T2.length + 1) = some (.lst (L4 T2.length)) := by rw [get_cons, if_pos (by simp; omega)]
    simp only [L4] at hgT
    simp (disch := first | omega | (simp; done) | (simp; omega)) [if_pos, if_neg, -idxG_n, h4, hgT, hnum]
    rfl
  -- the wrong wire
  obtain ⟨T3, hT3⟩ : ∃ T3 : Store, T3 = .lst (L4 (N ++ tp S t ns2).length) :: .lst [.int 2] :: N := ⟨_, rfl⟩
  have e3 : ∀ ns, (.lst (L4 (N ++ tp S t ns2).length) :: .lst [.int 2] :: (N ++ tp S t ns) : Store) = T3 ++ tp S t ns := fun ns => by rw [hT3]; rfl
  rw [e3]
  let L5' : Nat → List D := fun q => [.int (-1), .int (w : Int), .bl true, .non, .str [48], .tup [.int 0], .obj q, .int 5]
  obtain ⟨v5, ns4, hv5, h5⟩ := sp_takeP (n + 9) (.lst (L5' (T3 ++ tp S t ns3).length) :: .lst [.int 0] :: T3) S t ns3 8 ht (by omega)
  obtain ⟨wr, ⟨hwr1, hwr2⟩, hwr⟩ := pickD (L := L5' (T3 ++ tp S t ns3).length) (p := fun x => okE x = true ∧ isIn 0 ((w : Int) - 1) x = false) (by
    intro x hx
    simp only [L5', List.mem_cons, List.not_mem_nil, or_false] at hx
    rcases hx with rfl | rfl | rfl | rfl | rfl | rfl | rfl | rfl
    · exact ⟨by simp, rfl⟩
    · exact ⟨by simp, by simp only [isIn, Bool.and_eq_false_iff, decide_eq_false_iff_not]; omega⟩
    · exact ⟨by simp, rfl⟩
    · exact ⟨by simp, rfl⟩
    · exact ⟨by simp, rfl⟩
    · exact ⟨by simp, rfl⟩
    · exact ⟨by simp, rfl⟩
    · exact ⟨by simp, by simp only [isIn, Bool.and_eq_false_iff, decide_eq_false_iff_not]; omega⟩) (v := v5) hv5
  have h5 : den P (n + 10) none 14 [.obj t, .int 8] _ = _ := h5
  simp only [L5', List.cons_append] at h5 hwr
  refine wp_split 1 [some (.obj t), some (.int w), some (toR r), some (.int a), some b, some (.int c), some num, none, none, some wr] (.lst (L5' (T3 ++ tp S t ns3).length) :: .lst [.int 0] :: (T3 ++ tp S t ns4)) ?_ ?_
  · simp only [b28, List.take_succ_cons, List.take_zero, List.drop_succ_cons, List.drop_zero]
    have hl2 : (T3 ++ tp S t ns4).length = (T3 ++ tp S t ns3).length := by simp
    clear e3
    generalize T3 ++ tp S t ns3 = T5 at *
    generalize T3 ++ tp S t ns4 = T6 at *
    have hgT : get (.lst (L5' T5.length) :: .lst [.int 0] :: T6) (T5.length + 1) = some (.lst (L5' T5.length)) := by rw [get_cons, if_pos (by simp; omega)]
    simp only [L5'] at hgT
    simp (disch := first | omega | (simp; done) | (simp; omega)) [if_pos, if_neg, -idxG_n, h5, hgT, hwr]
    rfl
  obtain ⟨L, hL⟩ : ∃ L : Store, L = [.lst (L5' (T3 ++ tp S t ns3).length), .lst [.int 0], .lst (L4 (N ++ tp S t ns2).length), .lst [.int 2]] := ⟨_, rfl⟩
  have eZ : (.lst (L5' (T3 ++ tp S t ns3).length) :: .lst [.int 0] :: (T3 ++ tp S t ns4) : Store) = L ++ (N ++ tp S t ns4) := by
    have e : T3 ++ tp S t ns4 = .lst (L4 (N ++ tp S t ns2).length) :: .lst [.int 2] :: (N ++ tp S t ns4) := by rw [hT3]; rfl
    rw [hL, e]; rfl
  rw [eZ]
  obtain ⟨Z, hZ⟩ : ∃ Z, Z = L ++ (N ++ tp S t ns4) := ⟨_, rfl⟩
  have q1 : den P (n + 10) none 6 [.int w, b] Z = .ok (.bl false) Z := by rw [sp_is_record (n + 4) w b Z hw hbb.1, hbb.2]
  have q2 : den P (n + 10) none 15 [.bl false, .bl false] Z = .ok (.bl true) Z := sp_same 0 (.bl false) rfl (n + 9) Z
  have q3 : ∀ x, den P (n + 10) none 25 [.int 0, .int w, b, x] Z = .ok (.bl true) Z := fun x => bad_record (n + 8) Z _ _ _ _ (ask0 (n + 7) Z _ b x (write_xr n Z w b hw hbb.1 hbb.2))
  have q4 : ∀ x, den P (n + 10) none 25 [.int 1, .int w, b, x] Z = .ok (.bl true) Z := fun x => bad_record (n + 8) Z _ _ _ _ (ask1 (n + 7) Z _ b x (wire_xr n Z w b x hw hbb.1 hbb.2))
  have q5 : den P (n + 10) none 27 [.int c, .int w, toR r, .int a] Z = .ok (nres c w a r Z.length) (N ++ Z) := hno Z
  have q6 : cmpD (N ++ Z) .ne b (nres c w a r Z.length) = some false := by
    have := hne L (tp S t ns4)
    rw [htl, ← hb, ← hZ] at this
    exact this
  refine wp_split 3 [some (.obj t), some (.int w), some (toR r), some (.int a), some b, some (.int c), some num, none, none, some wr] (N ++ Z) ?_ ?_
  · simp only [b28, List.take_succ_cons, List.take_zero, List.drop_succ_cons, List.drop_zero]
    rw [← hZ]
    clear e3 eZ hne hno
    generalize N ++ Z = Z2 at *
    simp (disch := first | omega | (simp; done) | (simp; omega)) [if_pos, if_neg, q1, q2, q3, q4, q5, q6]
  have eY : N ++ Z = (N ++ (L ++ N)) ++ tp S t ns4 := by rw [hZ]; simp
  rw [eY]
  obtain ⟨Y, hY⟩ : ∃ Y : Store, Y = N ++ (L ++ N) := ⟨_, rfl⟩
  rw [← hY]
  have p1 : ∀ T, den P (n + 10) none 26 [.int 1, .int w, toR r, wr] T = .ok (.bl true) T := fun T => bad_number (n + 8) T _ _ _ _ (ask1 (n + 7) T _ _ wr (wire_xk n T w r wr hw h hwr1 hwr2))
  have p2 : ∀ T k, k < 4 → ∀ e f, den P (n + 10) none 26 [.int (k : Nat), num, e, f] T = .ok (.bl true) T := fun T k hk e f => no_wires n T num e f hnum1 hnum2 k hk
  have p3 : ∀ T, den P (n + 10) none 26 [.int 3, num, .str [49, 42, 49], .int 0] T = .ok (.bl true) T := fun T => p2 T 3 (by omega) _ _
  refine wp_split 2 [some (.obj t), some (.int w), some (toR r), some (.int a), some b, some (.int c), some num, none, none, some wr] (Y ++ tp S t ns4) ?_ ?_
  · simp only [b28, List.take_succ_cons, List.take_zero, List.drop_succ_cons, List.drop_zero]
    clear eY eZ e3 hno hne q5 q6
    generalize Y ++ tp S t ns4 = Y4 at *
    simp (disch := first | omega | (simp; done) | (simp; omega)) [if_pos, if_neg, p1]
    refine wp_seq (wp_see ?_ ?_)
    · intro x hx
      obtain ⟨k, hk, rfl⟩ := List.mem_map.mp (show x ∈ (List.range 4).map (fun i : Nat => D.int (i : Int)) from hx)
      have hk := List.mem_range.mp hk
      have pk := p2 Y4 k hk b wr
      simp (disch := first | omega | (simp; done) | (simp; omega)) [if_pos, if_neg, pk]
    · simp (disch := first | omega | (simp; done) | (simp; omega)) [if_pos, if_neg, id]
  -- what is no text
  let L6 : Nat → List D := fun q => [.non, .int 5, .bl true, .tup [.str [49, 42, 49]], .obj q, .obj (q + 1), toR r, .obj (q + 1 + 1)]
  obtain ⟨v6, ns5, hv6, h6⟩ := sp_takeP (n + 9) (.lst (L6 (Y ++ tp S t ns4).length) :: .lst (r.map .str) :: .dct [] :: .lst [.str [49, 42, 49]] :: Y) S t ns4 8 ht (by omega)
  obtain ⟨tx, ⟨htx1, htx2⟩, htx⟩ := pickD (L := L6 (Y ++ tp S t ns4).length) (p := fun x => okE x = true ∧ ∀ s, x ≠ .str s) (by
    intro x hx
    simp only [L6, List.mem_cons, List.not_mem_nil, or_false] at hx
    rcases hx with rfl | rfl | rfl | rfl | rfl | rfl | rfl | rfl
    · exact ⟨by simp, by intro s hs; cases hs⟩
    · exact ⟨by simp, by intro s hs; cases hs⟩
    · exact ⟨by simp, by intro s hs; cases hs⟩
    · exact ⟨by simp, by intro s hs; cases hs⟩
    · exact ⟨by simp, by intro s hs; cases hs⟩
    · exact ⟨by simp, by intro s hs; cases hs⟩
    · exact ⟨h.e hw, by intro s hs; cases hs⟩
    · exact ⟨by simp, by intro s hs; cases hs⟩) (v := v6) hv6
  have h6 : den P (n + 10) none 14 [.obj t, .int 8] _ = _ := h6
  simp only [L6, List.cons_append] at h6 htx
  obtain ⟨Q6, hQ6⟩ : ∃ Q6 : Store, Q6 = [.lst (L6 (Y ++ tp S t ns4).length), .lst (r.map .str), .dct [], .lst [.str [49, 42, 49]]] ++ Y := ⟨_, rfl⟩
  have t1 : ∀ T, den P (n + 10) none 23 [.int w, tx] T = .ok (dueD (.inr 1)) T := fun T => told_x (n + 3) T w tx hw htx1 htx2
  have t2 : ∀ T, den P (n + 10) none 15 [dueD (.inr 1), dueD (.inr 1)] T = .ok (.bl true) T := fun T => sp_same 1 (dueD (.inr 1)) (by decide) (n + 8) T
  have hfin : fin (tp S t ns) (Q6 ++ tp S t ns5) (.bl true) = .ok (.bl true) (tp S t ns5) := by
    have := fin_tp (S := tp S t ns) (pre := Q6) (t := t) (o := .lst (ns.map .int)) (u := .lst (ns5.map .int)) (d := .bl true) (by simp) (by rw [obel_lst]; exact bels_int' _ _)
    simpa [tp] using this
  have eQ : ∀ m, (.lst (L6 (Y ++ tp S t ns4).length) :: .lst (r.map .str) :: .dct [] :: .lst [.str [49, 42, 49]] :: (Y ++ tp S t m) : Store) = Q6 ++ tp S t m := fun m => by rw [hQ6]; rfl
  have eQ5 := eQ ns5
  have hl2 : (Y ++ tp S t ns5).length = (Y ++ tp S t ns4).length := by simp
  simp only [b28, List.drop_succ_cons, List.drop_zero]
  clear eY eZ e3 hno hne q5 q6 eQ
  rw [show toR r = .tup (r.map .str) from rfl] at *
  generalize Y ++ tp S t ns4 = Y4 at *
  generalize Y ++ tp S t ns5 = Y5 at *
  have hgT : get (.lst (L6 Y4.length) :: .lst (r.map .str) :: .dct [] :: .lst [.str [49, 42, 49]] :: Y5) (Y4.length + 1 + 1 + 1) = some (.lst (L6 Y4.length)) := by rw [get_cons, if_pos (by simp; omega)]
  simp only [L6] at hgT eQ5
  simp only [dueD, fltS] at t1 t2
  have t2' : ∀ T, den P (n + 10) none 15 [.tup [.str [102, 97, 117, 108, 116], .int 1, .int 1], .tup [.str [102, 97, 117, 108, 116], .int 1, .int 1]] T = .ok (.bl true) T := t2
  simp (disch := first | omega | (simp; done) | (simp; omega)) [if_pos, if_neg, -idxG_n, h6, hgT, htx, t1, t2', p3]
  rw [← eQ5] at hfin
  exact ⟨ns5, hfin⟩
end HT
end
section
set_option maxHeartbeats 0
set_option linter.all false
set_option maxRecDepth 100000
namespace HT
open Pw
theorem sp_changed (n : Nat) (S : Store) (t : Nat) (ns : List Int) (w : Nat) (s : List Nat) (ht : t < S.length) (hw : w = 1 ∨ w = 2) (hs : s.length ≤ 20000) :
    ∃ x : List Nat × List Int, x.1.length ≤ 4 * s.length + 2000 ∧ den P (n + 3) none 21 [.obj t, .int w, .str s] (tp S t ns) = .ok (.str x.1) (tp S t x.2) := by
  refine den_post (f := ⟨3, 9, b21⟩) (fun x : List Nat × List Int => x.1.length ≤ 4 * s.length + 2000) (fun x => .ok (.str x.1) (tp S t x.2)) rfl rfl ?_
  obtain ⟨way, ns1, hway, h1⟩ := sp_take (n + 1) S t ns 8 ht (by omega)
  obtain ⟨a, ns2, ha, h2⟩ := sp_take (n + 1) S t ns1 (s.length + 1) ht (by omega)
  have h1 : den P (n + 2) none 14 [.obj t, .int 8] (tp S t ns) = .ok (.int way) (tp S t ns1) := h1
  have h2 : den P (n + 2) none 14 [.obj t, .int ((s.length : Int) + 1)] (tp S t ns1) = .ok (.int a) (tp S t ns2) := h2
  have hfl : ∀ k z, fin (tp S t ns) (tp S t k) (.str z) = .ok (.str z) (tp S t k) := fun k z => fin_len (by simp)
  have hfp : ∀ pre k z, fin (tp S t ns) (pre ++ tp S t k) (.str z) = .ok (.str z) (tp S t k) := fun pre k z => by
    have := fin_tp (S := tp S t ns) (pre := pre) (t := t) (o := .lst (ns.map .int)) (u := .lst (k.map .int)) (d := .str z) (by simp) (by rw [obel_lst]; exact bels_int' _ _)
    simpa [tp] using this
  refine wp_split 2 [some (.obj t), some (.int w), some (.str s), some (.int a), none, none, none, some (.int way), none] (tp S t ns2) ?_ ?_
  · simp only [b21, List.take_succ_cons, List.take_zero]
    clear hfl hfp
    generalize tp S t ns = T0 at *
    generalize tp S t ns1 = T1 at *
    generalize tp S t ns2 = T2 at *
    simp (disch := first | omega | (simp; done) | (simp; omega)) [if_pos, if_neg, h1, h2]
  simp only [b21, List.drop_succ_cons, List.drop_zero]
  have hto : ∀ (k : Nat) T, slD (.str s) none (some (.int (k : Int))) T = .ok (.str (s.take k)) T := fun k T => by rw [sl_sto (by omega) (by omega), Int.toNat_natCast]
  have hfr : ∀ (k : Nat) T, slD (.str s) (some (.int (k : Int))) none T = .ok (.str (s.drop k)) T := fun k T => by rw [sl_sfr (by omega) (by omega), Int.toNat_natCast]
  have hfr1 : ∀ T, slD (.str s) (some (.int ((a : Int) + 1))) none T = .ok (.str (s.drop (a + 1))) T := fun T => hfr (a + 1) T
  obtain ⟨c, ns3, hc⟩ := sp_sign n [] S t ns2 ht
  have hc : den P (n + 2) none 20 [.obj t] (tp S t ns2) = .ok (.str [c]) (tp S t ns3) := hc
  have htk : (s.take a).length ≤ s.length := by simp; omega
  by_cases w0 : way = 0
  · have hf := hfl ns3 (s.take a ++ [c] ++ s.drop a)
    subst w0
    clear hfl hfp
    generalize tp S t ns = T0 at *
    generalize tp S t ns2 = T2 at *
    generalize hT3 : tp S t ns3 = T3 at *
    simp (disch := first | omega | (simp; done) | (simp; omega)) [if_pos, if_neg, hto, hfr, hc]
    refine ⟨s.take a ++ c :: s.drop a, by simp; omega, ns3, ?_⟩
    rw [hT3]
    simpa using hf
  by_cases w1 : way = 1
  · have hf := hfl ns2 (s.take a ++ s.drop (a + 1))
    subst w1
    clear hfl hfp
    generalize tp S t ns = T0 at *
    generalize hT2 : tp S t ns2 = T2 at *
    simp (disch := first | omega | (simp; done) | (simp; omega)) [if_pos, if_neg, hto, hfr1]
    refine ⟨s.take a ++ s.drop (a + 1), by simp; omega, ns2, ?_⟩
    rw [hT2]
    simpa using hf
  by_cases w2 : way = 2
  · have hf := hfl ns3 (s.take a ++ [c] ++ s.drop (a + 1))
    subst w2
    clear hfl hfp
    generalize tp S t ns = T0 at *
    generalize tp S t ns2 = T2 at *
    generalize hT3 : tp S t ns3 = T3 at *
    simp (disch := first | omega | (simp; done) | (simp; omega)) [if_pos, if_neg, hto, hfr1, hc]
    refine ⟨s.take a ++ c :: s.drop (a + 1), by simp; omega, ns3, ?_⟩
    rw [hT3]
    simpa using hf
  have hsp := fun T => split_ok (t := s) 32 (by omega) (by omega) T
  have hz := tsz_split s
  have hne := splC_ne 32 s
  obtain ⟨ws, hws⟩ : ∃ ws, ws = splC 32 s := ⟨_, rfl⟩
  rw [← hws] at hsp hz hne
  have hpos : 0 < ws.length := List.length_pos_iff.mpr hne
  have hwl : ws.length ≤ s.length + 1 := by unfold tsz at hz; omega
  obtain ⟨sp, ns4, hsp1, h4⟩ := sp_takeP (n + 1) [.lst (ws.map .str)] S t ns2 ws.length ht hpos
  have h4 : den P (n + 2) none 14 [.obj t, .int (ws.length : Int)] (.lst (ws.map .str) :: tp S t ns2) = .ok (.int sp) (.lst (ws.map .str) :: tp S t ns4) := h4
  have hx : (ws.map D.str)[sp]? = some (.str ws[sp]) := by simp [hsp1]
  have hxl : (ws[sp]).length + 1 ≤ tsz ws := tsz_mem (List.getElem_mem hsp1)
  have htl : ∀ k, (tp S t k).length = S.length := fun k => by simp
  have w0' : ¬ (way : Int) = 0 := by omega
  have w1' : ¬ (way : Int) = 1 := by omega
  have w2' : ¬ (way : Int) = 2 := by omega
  refine wp_split 5 [some (.obj t), some (.int w), some (.str s), some (.int a), none, none, some (.int sp), some (.int way), some (.obj S.length)] (.lst (ws.map .str) :: tp S t ns4) ?_ ?_
  · simp only [List.take_succ_cons, List.take_zero]
    have hl2 := htl ns2
    have hWl : (ws.map D.str).length = ws.length := by simp
    clear hfl hfp htl hx
    generalize ws.map D.str = W at *
    generalize tp S t ns2 = T2 at *
    generalize tp S t ns4 = T4 at *
    simp (disch := first | omega | (simp; done) | (simp; omega)) [if_pos, if_neg, w0', w1', w2', hsp, hl2, hWl, h4]
  simp only [List.drop_succ_cons, List.drop_zero]
  have hend : ∀ (pre : Store) (m : Nat) (k : List Int) (v : List (List Nat)) (e4 e5 : Option D), get (pre ++ tp S t k) m = some (.lst (v.map .str)) → tsz v ≤ 4 * s.length + 2000 →
      wp (evSs ⟨den P (n + 2), P.G, P.Cl, none⟩ [.ret (.join (.c (.str [32])) (.seq (.v 8)))] [some (.obj t), some (.int w), some (.str s), some (.int a), e4, e5, some (.int sp), some (.int way), some (.obj m)] (pre ++ tp S t k)) (fun fl S' => ∃ x : List Nat × List Int, x.1.length ≤ 4 * s.length + 2000 ∧ outF (tp S t ns) fl S' = .ok (.str x.1) (tp S t x.2)) := by
    intro pre m k v e4 e5 hg hv
    have hf := hfp pre k (joinS [32] v)
    have hj := join_len v
    have hst : strsD (v.map D.str) = some v := by simpa using strsD_map (fun x => x) v
    have hsum : (v.map List.length).sum + v.length * 1 ≤ 16777216 := by unfold tsz at hv; omega
    have hsum' : (v.map fun x : List Nat => x.length).sum + v.length ≤ 16777216 := by simpa using hsum
    clear hfl hfp
    generalize pre ++ tp S t k = T7 at *
    generalize v.map D.str = V at *
    simp (disch := first | omega | (simp; done) | (simp; omega)) [if_pos, if_neg, hg, hst, hsum']
    exact ⟨joinS [32] v, by omega, k, hf⟩
  have hWix : ∀ T, idxG (some (.lst (ws.map .str))) (sp : Int) T = .ok (.str ws[sp]) T := fun T => by rw [idxG_n, hx]; rfl
  have hl4 := htl ns4
  have hWl : (ws.map D.str).length = ws.length := by simp
  have ht1 := tsz_take sp ws
  have ht2 := tsz_drop sp ws
  by_cases w3 : way = 3
  · subst w3
    have hins : insD (.obj S.length) (.int (sp : Int)) (.str ws[sp]) (.lst (ws.map .str) :: tp S t ns4) = .ok .non (.lst ((ws.take sp ++ [ws[sp]] ++ ws.drop sp).map .str) :: tp S t ns4) := by
      have hg : get (.lst (ws.map .str) :: tp S t ns4) S.length = some (.lst (ws.map .str)) := by rw [get_cons, if_pos hl4.symm]
      show (match get (.lst (ws.map .str) :: tp S t ns4) S.length with
        | some (.lst xs) => if (decide (xs.length < line) && (decide (0 ≤ (sp : Int)) && decide ((sp : Int) < 2 ^ 62))) = true then Res.ok D.non (put (.lst (ws.map .str) :: tp S t ns4) S.length (.lst (xs.take (sp : Int).toNat ++ [D.str ws[sp]] ++ xs.drop (sp : Int).toNat))) else .bad
        | _ => .bad) = _
      rw [hg]
      simp only [Int.toNat_natCast]
      rw [if_pos (by simp [line]; omega), put_cons, if_pos hl4.symm, List.map_append, List.map_append, List.map_take, List.map_drop]
      rfl
    refine wp_split 1 [some (.obj t), some (.int w), some (.str s), some (.int a), none, none, some (.int sp), some (.int ((3 : Nat) : Int)), some (.obj S.length)] ([.lst ((ws.take sp ++ [ws[sp]] ++ ws.drop sp).map .str)] ++ tp S t ns4) ?_ ?_
    · simp only [List.take_succ_cons, List.take_zero]
      clear hfl hfp htl hend
      generalize (ws.take sp ++ [ws[sp]] ++ ws.drop sp).map D.str = W2 at *
      generalize ws[sp] = x at *
      generalize ws.map D.str = W at *
      generalize tp S t ns4 = T4 at *
      simp (disch := first | omega | (simp; done) | (simp; omega)) [if_pos, if_neg, hl4, hWix, hins]
    · exact hend [_] S.length ns4 _ none none (by rw [List.singleton_append, get_cons, if_pos hl4.symm]) (by rw [tsz_app, tsz_app]; simp only [tsz_cons]; have : tsz ([] : List (List Nat)) = 0 := rfl; omega)
  have w3' : ¬ (way : Int) = 3 := by omega
  by_cases w4 : way = 4 ∧ sp + 1 < ws.length
  · obtain ⟨rfl, h41⟩ := w4
    have h41' : (sp : Int) + 1 < (ws.length : Int) := by omega
    have hx1 : (ws.map D.str)[sp + 1]? = some (.str ws[sp + 1]) := by simp [h41]
    have hWix1 : ∀ T, idxG (some (.lst (ws.map .str))) ((sp : Int) + 1) T = .ok (.str ws[sp + 1]) T := fun T => by
      have := idxG_n1 (ws.map D.str) sp T
      rw [this, hx1]; rfl
    have hyl : (ws[sp + 1]).length + 1 ≤ tsz ws := tsz_mem (List.getElem_mem h41)
    have ht3 := tsz_drop (sp + 2) ws
    have hs1 : ∀ T n, get T n = some (.lst (ws.map .str)) → slD (.obj n) none (some (.int (sp : Int))) T = .ok (.obj T.length) (.lst ((ws.take sp).map .str) :: T) := fun T n hg => by
      rw [sl_lto hg (by omega), Int.toNat_natCast, List.map_take]
    have hs2 : ∀ T n, get T n = some (.lst (ws.map .str)) → slD (.obj n) (some (.int ((sp : Int) + 2))) none T = .ok (.obj T.length) (.lst ((ws.drop (sp + 2)).map .str) :: T) := fun T n hg => by
      have e : ((sp : Int) + 2).toNat = sp + 2 := by omega
      have := cut_from (ws.map D.str) (i := (sp : Int) + 2) (by omega)
      simp [slD, intO, hg, this, e, List.map_drop]
    obtain ⟨A, hA⟩ : ∃ A, A = (ws.take sp).map D.str := ⟨_, rfl⟩
    obtain ⟨Cc, hC⟩ : ∃ Cc, Cc = (ws.drop (sp + 2)).map D.str := ⟨_, rfl⟩
    have hAl : A.length ≤ ws.length := by rw [hA]; first | (simp; done) | (simp; omega)
    have hCl : Cc.length ≤ ws.length := by rw [hC]; first | (simp; done) | (simp; omega)
    have hgW : get (.lst (ws.map .str) :: tp S t ns4) S.length = some (.lst (ws.map .str)) := by rw [get_cons, if_pos hl4.symm]
    have hT4l : (.lst (ws.map .str) :: tp S t ns4 : Store).length = S.length + 1 := by rw [List.length_cons, hl4]
    have hv : (ws.take sp ++ [ws[sp + 1], ws[sp]] ++ ws.drop (sp + 2)).map D.str = A ++ [.str ws[sp + 1], .str ws[sp]] ++ Cc := by rw [hA, hC]; simp
    have hCW : (ws.map D.str).drop (sp + 2) = Cc := by rw [hC, List.map_drop]
    rw [← hA] at hs1
    rw [← hC] at hs2
    refine wp_split 1 [some (.obj t), some (.int w), some (.str s), some (.int a), none, none, some (.int sp), some (.int ((4 : Nat) : Int)), some (.obj (S.length + 5))] ([.lst (A ++ [.str ws[sp + 1], .str ws[sp]] ++ Cc), .lst Cc, .lst (A ++ [.str ws[sp + 1], .str ws[sp]]), .lst [.str ws[sp + 1], .str ws[sp]], .lst A, .lst (ws.map .str)] ++ tp S t ns4) ?_ ?_
    · simp only [List.take_succ_cons, List.take_zero]
      show wp _ (fun fl S' => fl = _ ∧ S' = .lst (A ++ [.str ws[sp + 1], .str ws[sp]] ++ Cc) :: .lst Cc :: .lst (A ++ [.str ws[sp + 1], .str ws[sp]]) :: .lst [.str ws[sp + 1], .str ws[sp]] :: .lst A :: .lst (ws.map .str) :: tp S t ns4)
      clear hfl hfp htl hend hv hA hC
      generalize ws[sp + 1] = y at *
      generalize ws[sp] = x at *
      generalize (ws.map D.str) = W at *
      generalize (.lst W :: tp S t ns4 : Store) = T4 at *
      have a1 := hs1 T4 S.length hgW
      have a2 : binD .add (.obj (S.length + 1)) (.obj (S.length + 1 + 1)) (.lst [.str y, .str x] :: .lst A :: T4) = .ok (.obj (S.length + 1 + 1 + 1)) (.lst (A ++ [.str y, .str x]) :: .lst [.str y, .str x] :: .lst A :: T4) := by
        rw [add_l (x := A) (y := [.str y, .str x]) (by simp (disch := first | omega | (simp; done) | (simp; omega)) [if_pos, if_neg, hT4l]) (by simp (disch := first | omega | (simp; done) | (simp; omega)) [if_pos, if_neg, hT4l]) (by simp; omega)]
        simp (disch := first | omega | (simp; done) | (simp; omega)) [if_pos, if_neg, hT4l]
      have a3 := hs2 (.lst (A ++ [.str y, .str x]) :: .lst [.str y, .str x] :: .lst A :: T4) S.length (getOld (getOld (getOld hgW)))
      have a4 : binD .add (.obj (S.length + 1 + 1 + 1)) (.obj (S.length + 1 + 1 + 1 + 1)) (.lst Cc :: .lst (A ++ [.str y, .str x]) :: .lst [.str y, .str x] :: .lst A :: T4) = .ok (.obj (S.length + 1 + 1 + 1 + 1 + 1)) (.lst (A ++ [.str y, .str x] ++ Cc) :: .lst Cc :: .lst (A ++ [.str y, .str x]) :: .lst [.str y, .str x] :: .lst A :: T4) := by
        rw [add_l (x := A ++ [.str y, .str x]) (y := Cc) (by simp (disch := first | omega | (simp; done) | (simp; omega)) [if_pos, if_neg, hT4l]) (by simp (disch := first | omega | (simp; done) | (simp; omega)) [if_pos, if_neg, hT4l]) (by simp; omega)]
        simp (disch := first | omega | (simp; done) | (simp; omega)) [if_pos, if_neg, hT4l]
      simp only [List.length_cons, hT4l] at a3 a1
      have hgW1 : get (.lst A :: T4) S.length = some (.lst W) := getOld hgW
      simp (disch := first | omega | (simp; done) | (simp; omega)) [if_pos, if_neg, hWl, h41', hgW, a1, hgW1, hWix1, hWix, hT4l, a2, a3, a4]
      rw [show ((sp : Int) + 2).toNat = sp + 2 by omega]; exact hCW
    · exact hend [_, _, _, _, _, _] (S.length + 5) ns4 (ws.take sp ++ [ws[sp + 1], ws[sp]] ++ ws.drop (sp + 2)) none none (by rw [hv]; simp only [List.cons_append, List.nil_append]; rw [get_cons, if_pos (by simp)]) (by rw [tsz_app, tsz_app]; simp only [tsz_cons]; have : tsz ([] : List (List Nat)) = 0 := rfl; omega)
  have hlw : ∀ T, slD (.str ws[sp]) none (some (.int (w : Int))) T = .ok (.str ((ws[sp]).take w)) T := fun T => by rw [sl_sto (by omega) (by omega), Int.toNat_natCast]
  have hfw : ∀ T, slD (.str ws[sp]) (some (.int (w : Int))) none T = .ok (.str ((ws[sp]).drop w)) T := fun T => by rw [sl_sfr (by omega) (by omega), Int.toNat_natCast]
  have hstr : ∀ (k : Nat) T, k < 1000 → f1D .str (.int (k : Int)) T = .ok (.str (dg k)) T := fun k T hk => by
    have hl : (k : Int).natAbs.log2 < 1920 := by
      have := Nat.log2_le_self k
      simp only [Int.natAbs_natCast]; omega
    show (if (k : Int).natAbs.log2 < 1920 then Res.ok (D.str (codes (toString (k : Int)))) T else .bad) = _
    rw [if_pos hl, dg_ok k hk]
  have hdgl : ∀ k, (dg k).length ≤ 3 := fun k => by
    unfold dg
    split
    · simp
    · split <;> simp
  have w4a : ¬ (way : Int) = 4 ∨ ¬ ((sp : Int) + 1 < (ws.length : Int)) := by omega
  by_cases w5 : way = 5
  · subst w5
    let E2 : List D := [.str [], .str [48]]
    obtain ⟨v5, ns5, hv5, h5⟩ := sp_takeP (n + 1) [.lst E2, .lst (ws.map .str)] S t ns4 2 ht (by omega)
    obtain ⟨v6, ns6, hv6, h6⟩ := sp_takeP (n + 1) [.lst E2, .lst (ws.map .str)] S t ns5 1000 ht (by omega)
    have h5 : den P (n + 2) none 14 [.obj t, .int 2] (.lst E2 :: .lst (ws.map .str) :: tp S t ns4) = .ok (.int v5) (.lst E2 :: .lst (ws.map .str) :: tp S t ns5) := h5
    have h6 : den P (n + 2) none 14 [.obj t, .int 1000] (.lst E2 :: .lst (ws.map .str) :: tp S t ns5) = .ok (.int v6) (.lst E2 :: .lst (ws.map .str) :: tp S t ns6) := h6
    obtain ⟨e, he1, he2⟩ : ∃ e : List Nat, e.length ≤ 1 ∧ ∀ T, idxG (some (.lst E2)) (v5 : Int) T = .ok (.str e) T := by
      have : v5 = 0 ∨ v5 = 1 := by omega
      rcases this with rfl | rfl
      · exact ⟨[], by simp, fun T => idxG_n _ 0 T⟩
      · exact ⟨[48], by simp, fun T => idxG_n _ 1 T⟩
    have h7 := fun T => hstr v6 T hv6
    have hd6 := hdgl v6
    have hl5 := htl ns5
    have hl6 := htl ns6
    obtain ⟨nw, hnw, hnwl⟩ : ∃ nw : List Nat, nw = (ws[sp]).take w ++ [42] ++ e ++ dg v6 ∧ nw.length ≤ 10 := ⟨_, rfl, by simp; omega⟩
    have hset : ∀ T, setG S.length (.int (sp : Int)) (.str nw) (some (.lst (ws.map .str))) T = some (put T S.length (.lst ((ws.set sp nw).map .str))) := fun T => by
      rw [setG_l (by simpa using hsp1), List.map_set]
    have hts := tsz_set ws sp nw
    have hW2 : (ws.map D.str).set sp (.str ((ws[sp]).take w ++ 42 :: (e ++ dg v6))) = (ws.set sp nw).map D.str := by rw [List.map_set, hnw]; simp
    refine wp_split 1 [some (.obj t), some (.int w), some (.str s), some (.int a), some (.str ((ws[sp]).take w)), none, some (.int sp), some (.int ((5 : Nat) : Int)), some (.obj S.length)] ([.lst E2, .lst ((ws.set sp nw).map .str)] ++ tp S t ns6) ?_ ?_
    · simp only [List.take_succ_cons, List.take_zero]
      show wp _ (fun fl S' => fl = _ ∧ S' = .lst E2 :: .lst ((ws.set sp nw).map .str) :: tp S t ns6)
      have hxt : ((ws[sp]).take w).length ≤ 2 := by simp; omega
      clear hfl hfp htl hend
      generalize (ws.set sp nw).map D.str = W2 at *
      generalize (ws[sp]).take w = xt at *
      generalize ws[sp] = x at *
      generalize (ws.map D.str) = W at *
      generalize tp S t ns4 = T4 at *
      generalize tp S t ns5 = T5 at *
      generalize tp S t ns6 = T6 at *
      simp only [E2] at h5 h6 he2 ⊢
      simp (disch := first | omega | (simp; done) | (simp; omega)) [if_pos, if_neg, -idxG_n, hl4, hl5, hl6, hWix, hlw, h5, he2, h6, h7]
      exact hW2
    · exact hend [_, _] S.length ns6 (ws.set sp nw) (some (.str ((ws[sp]).take w))) none (by simp only [List.cons_append, List.nil_append]; rw [get_cons, if_neg (by first | (simp; done) | (simp; omega)), get_cons, if_pos (by simp)]) (by omega)
  have w5' : ¬ (way : Int) = 5 := by omega
  by_cases w6 : way = 6
  · subst w6
    obtain ⟨LV, hLV⟩ : ∃ LV, LV = (levs w).map D.str := ⟨_, rfl⟩
    have hLl : LV.length = (levs w).length := by rw [hLV]; simp
    have hlp : 0 < (levs w).length := by rcases hw with rfl | rfl <;> decide
    obtain ⟨v5, ns5, hv5, h5⟩ := sp_takeP (n + 1) [.lst LV, .lst (ws.map .str)] S t ns4 (levs w).length ht hlp
    obtain ⟨v6, ns6, hv6, h6⟩ := sp_takeP (n + 1) [.lst LV, .lst (ws.map .str)] S t ns5 130 ht (by omega)
    have h5 : den P (n + 2) none 14 [.obj t, .int ((levs w).length : Int)] (.lst LV :: .lst (ws.map .str) :: tp S t ns4) = .ok (.int v5) (.lst LV :: .lst (ws.map .str) :: tp S t ns5) := h5
    have h6 : den P (n + 2) none 14 [.obj t, .int 130] (.lst LV :: .lst (ws.map .str) :: tp S t ns5) = .ok (.int v6) (.lst LV :: .lst (ws.map .str) :: tp S t ns6) := h6
    obtain ⟨e, he1, he2⟩ : ∃ e : List Nat, e.length ≤ 2 ∧ ∀ T, idxG (some (.lst LV)) (v5 : Int) T = .ok (.str e) T := ⟨(levs w)[v5], levs_short hw _ (List.getElem_mem hv5), fun T => by rw [idxG_n, hLV]; simp [hv5]⟩
    have h7 := fun T => hstr v6 T (by omega)
    have hlv := fun T => sp_levels (n + 1) T w hw
    rw [← hLV] at hlv
    rw [← hLl] at h5
    have hd6 := hdgl v6
    have hl5 := htl ns5
    have hl6 := htl ns6
    obtain ⟨nw, hnw, hnwl⟩ : ∃ nw : List Nat, nw = e ++ [42] ++ dg v6 ∧ nw.length ≤ 10 := ⟨_, rfl, by simp; omega⟩
    have hts : tsz (ws ++ [nw]) ≤ tsz ws + 11 := by rw [tsz_app, tsz_cons]; have : tsz ([] : List (List Nat)) = 0 := rfl; omega
    have hW2 : ws.map D.str ++ [.str (e ++ 42 :: dg v6)] = (ws ++ [nw]).map D.str := by rw [hnw]; simp
    refine wp_split 1 [some (.obj t), some (.int w), some (.str s), some (.int a), none, some (.obj (S.length + 1)), some (.int sp), some (.int ((6 : Nat) : Int)), some (.obj S.length)] ([.lst LV, .lst ((ws ++ [nw]).map .str)] ++ tp S t ns6) ?_ ?_
    · simp only [List.take_succ_cons, List.take_zero]
      show wp _ (fun fl S' => fl = _ ∧ S' = .lst LV :: .lst ((ws ++ [nw]).map .str) :: tp S t ns6)
      clear hfl hfp htl hend
      generalize (ws ++ [nw]).map D.str = W2 at *
      generalize (ws.map D.str) = W at *
      generalize tp S t ns4 = T4 at *
      generalize tp S t ns5 = T5 at *
      generalize tp S t ns6 = T6 at *
      simp (disch := first | omega | (simp; done) | (simp; omega)) [if_pos, if_neg, -idxG_n, hl4, hl5, hl6, hlv, h5, he2, h6, h7]
      exact hW2
    · exact hend [_, _] S.length ns6 (ws ++ [nw]) none (some (.obj (S.length + 1))) (by simp only [List.cons_append, List.nil_append]; rw [get_cons, if_neg (by first | (simp; done) | (simp; omega)), get_cons, if_pos (by simp)]) (by omega)
  have w6' : ¬ (way : Int) = 6 := by omega
  have hw3 : 3 - w = 1 ∨ 3 - w = 2 := by omega
  obtain ⟨LV, hLV⟩ : ∃ LV, LV = (levs (3 - w)).map D.str := ⟨_, rfl⟩
  have hlp : 2 ≤ (levs (3 - w)).length := by rcases hw3 with h | h <;> rw [h] <;> decide
  obtain ⟨v5, ns5, hv5, h5⟩ := sp_takeP (n + 1) [.lst LV, .lst (ws.map .str)] S t ns4 2 ht (by omega)
  have h5 : den P (n + 2) none 14 [.obj t, .int 2] (.lst LV :: .lst (ws.map .str) :: tp S t ns4) = .ok (.int v5) (.lst LV :: .lst (ws.map .str) :: tp S t ns5) := h5
  have hv5' : v5 < (levs (3 - w)).length := by omega
  obtain ⟨e, he1, he2⟩ : ∃ e : List Nat, e.length ≤ 2 ∧ ∀ T, idxG (some (.lst LV)) (v5 : Int) T = .ok (.str e) T := ⟨(levs (3 - w))[v5], levs_short hw3 _ (List.getElem_mem hv5'), fun T => by rw [idxG_n, hLV]; simp [hv5']⟩
  have hlv : ∀ T, den P (n + 2) none 16 [.int (3 - (w : Int))] T = .ok (.obj T.length) (.lst LV :: T) := fun T => by
    have := sp_levels (n + 1) T (3 - w) hw3
    rw [← hLV] at this
    rw [show (3 - (w : Int)) = ((3 - w : Nat) : Int) by omega]; exact this
  have hl5 := htl ns5
  obtain ⟨nw, hnw, hnwl⟩ : ∃ nw : List Nat, nw = e ++ (ws[sp]).drop w ∧ nw.length ≤ 2 + tsz ws := ⟨_, rfl, by simp; omega⟩
  have hset : ∀ T, setG S.length (.int (sp : Int)) (.str nw) (some (.lst (ws.map .str))) T = some (put T S.length (.lst ((ws.set sp nw).map .str))) := fun T => by
    rw [setG_l (by simpa using hsp1), List.map_set]
  have hts := tsz_set ws sp nw
  have hW2 : (ws.map D.str).set sp (.str (e ++ (ws[sp]).drop w)) = (ws.set sp nw).map D.str := by rw [List.map_set, hnw]
  refine wp_split 1 [some (.obj t), some (.int w), some (.str s), some (.int a), none, none, some (.int sp), some (.int (way : Int)), some (.obj S.length)] ([.lst LV, .lst ((ws.set sp nw).map .str)] ++ tp S t ns5) ?_ ?_
  · simp only [List.take_succ_cons, List.take_zero]
    show wp _ (fun fl S' => fl = _ ∧ S' = .lst LV :: .lst ((ws.set sp nw).map .str) :: tp S t ns5)
    have hxt : ((ws[sp]).drop w).length ≤ 30000 := by simp; omega
    have hgW : get (.lst (ws.map .str) :: tp S t ns4) S.length = some (.lst (ws.map .str)) := by rw [get_cons, if_pos hl4.symm]
    clear hfl hfp htl hend
    generalize (ws.set sp nw).map D.str = W2 at *
    generalize (ws[sp]).drop w = xt at *
    generalize ws[sp] = x at *
    generalize (ws.map D.str) = W at *
    generalize tp S t ns4 = T4 at *
    generalize tp S t ns5 = T5 at *
    by_cases h44 : (way : Int) = 4
    · have h45 : ¬ ((sp : Int) + 1 < (ws.length : Int)) := by omega
      simp (disch := first | omega | (simp; done) | (simp; omega)) [if_pos, if_neg, -idxG_n, w3', h44, h45, w5', w6', hl4, hl5, hWl, hWix, hfw, hlv, h5, he2]
      exact hW2
    · simp (disch := first | omega | (simp; done) | (simp; omega)) [if_pos, if_neg, -idxG_n, w3', h44, w5', w6', hl4, hl5, hWix, hfw, hlv, h5, he2]
      exact hW2
  · exact hend [_, _] S.length ns5 (ws.set sp nw) none none (by simp only [List.cons_append, List.nil_append]; rw [get_cons, if_neg (by first | (simp; done) | (simp; omega)), get_cons, if_pos (by simp)]) (by omega)
end HT
end
section
set_option maxHeartbeats 0
set_option linter.all false
set_option maxRecDepth 100000
namespace HT
open Pw
def envL (e4 : Option D) (m r t : Nat) (tx : List Nat) (w : Nat) : Env := [some (.obj 0), none, none, none, e4, some (.obj m), none, none, some (.obj r), none, some (.obj t), some (.str tx), none, some (.int w)]
theorem flat_take (runs : List Rn) (i : Nat) (p : Rn) (h : runs[i]? = some p) : flat (runs.take (i + 1)) = flat (runs.take i) ++ List.replicate p.2 p.1 := by
  rw [List.take_add_one, h, flat_app]
  simp [flat]
theorem flat_take_len (runs : List Rn) (i : Nat) : (flat (runs.take i)).length ≤ (flat runs).length := by
  have := flat_app (runs.take i) (runs.drop i)
  rw [List.take_append_drop] at this
  rw [this, List.length_append]; omega
theorem lv_loop {n : Nat} {B : Store} {m r t w : Nat} {tx : List Nat} {runs : List Rn} {Q : Flow → Store → Prop} (hr : RunsOk w runs) (hg : get B r = some (.lst (runs.map rnD))) (hm : get B m = some (.lst []))
    (hq : ∀ pre m2 e4, get (pre ++ B) m2 = some (.lst ((flat runs).map .str)) → Q (.nx (envL e4 m2 r t tx w)) (pre ++ B)) :
    wp (forK ⟨den P (n + 1), P.G, P.Cl, none⟩ (.tup [4, 1]) [.set (.v 5) (.bin .add (.v 5) (.bin .mul (.ls (.disp [.v 4])) (.v 1)))] [1] (some r) (runs.map rnD) (envL none m r t tx w) B) Q := by
  have h120 := hr.l
  refine wp_for (fun i env S' => ∃ pre m2 e4, env = envL e4 m2 r t tx w ∧ S' = pre ++ B ∧ get S' m2 = some (.lst ((flat (runs.take i)).map .str))) ⟨[], m, none, rfl, rfl, by rw [hm]; simp [flat]⟩ (by
    rintro _ _ _ ⟨pre, m2, e4, _, rfl, _⟩
    have := get_app hg pre
    simp [stands, obAt, this, hg]) ?_ ?_
  · rintro i x env T hx ⟨pre, m2, e4, rfl, hT, hgm⟩
    rw [List.getElem?_map] at hx
    obtain ⟨⟨l, c⟩, hp, rfl⟩ := Option.map_eq_some_iff.mp hx
    rw [flat_take runs i (l, c) hp]
    have hl1 := flat_take_len runs i
    have hl2 := flat_take_len runs (i + 1)
    rw [flat_take runs i (l, c) hp, List.length_append, List.length_replicate] at hl2
    simp only at hl2
    generalize flat (runs.take i) = F at *
    have hmul := mul_l1 (S := .lst [.str l] :: T) (x := .str l) (n := c) (k := T.length) (by simp) (by omega)
    have hadd : binD .add (.obj m2) (.obj (T.length + 1)) (.lst (List.replicate c (.str l)) :: .lst [.str l] :: T) = .ok (.obj (T.length + 2)) (.lst (F.map .str ++ List.replicate c (.str l)) :: .lst (List.replicate c (.str l)) :: .lst [.str l] :: T) := by
      rw [add_l (x := F.map .str) (y := List.replicate c (.str l)) (by exact getOld (getOld hgm)) (by simp (disch := first | omega | (simp; done) | (simp; omega)) [if_pos, if_neg, id]) (by simp; omega)]
      rfl
    simp only [List.length_cons] at hmul
    have hF : (F ++ List.replicate c l).map D.str = F.map .str ++ List.replicate c (.str l) := by simp
    generalize hrep : List.replicate c (D.str l) = RP at *
    have htrim : ∀ env, envBel T.length env = false → trim T (SO.lst (F.map .str ++ RP) :: .lst RP :: .lst [.str l] :: T) env = SO.lst (F.map .str ++ RP) :: .lst RP :: .lst [.str l] :: T := fun env h => trim_no h
    rw [show rnD (l, c) = .tup [.str l, .int (c : Int)] from rfl]
    simp (disch := first | omega | (simp; done) | (simp; omega)) [if_pos, if_neg, envL, hmul, hadd, htrim]
    exact ⟨⟨.lst (F.map .str ++ RP) :: .lst RP :: .lst [.str l] :: pre, by rw [hT]; simp⟩, hrep.symm⟩
  · rintro env T ⟨pre, m2, e4, rfl, rfl, hgm⟩
    rw [List.length_map, List.take_length] at hgm
    exact hq pre m2 e4 hgm
theorem f1_str {k : Nat} (T : Store) (hk : k < 1000) : f1D .str (.int (k : Int)) T = .ok (.str (dg k)) T := by
  have hl : (k : Int).natAbs.log2 < 1920 := by
    have := Nat.log2_le_self k
    simp only [Int.natAbs_natCast]; omega
  show (if (k : Int).natAbs.log2 < 1920 then Res.ok (D.str (codes (toString (k : Int)))) T else .bad) = _
  rw [if_pos hl, dg_ok k hk]
theorem dg_len3 (k : Nat) : (dg k).length ≤ 3 := by
  unfold dg
  split
  · simp
  · split <;> simp
theorem wtxt_sum {w : Nat} {runs : List Rn} (hw : w = 1 ∨ w = 2) (hr : RunsOk w runs) : (List.map (fun x : List Nat => x.length) (runs.map wtxt)).sum + runs.length ≤ 2000 := by
  have hrl := runs_len hr
  have : ∀ (l : List Rn), (∀ p ∈ l, (wtxt p).length ≤ 10) → (List.map (fun x : List Nat => x.length) (l.map wtxt)).sum ≤ l.length * 10 := by
    intro l
    induction l with
    | nil => intro _; simp
    | cons a t ih =>
      intro h
      have h1 := h a (by simp)
      have h2 := ih (fun p hp => h p (by simp [hp]))
      simp only [List.map_cons, List.sum_cons, List.length_cons]; omega
  have := this runs (fun p hp => by
    have q := (lv_no (hr.v p hp).lv).1
    have := dg_len3 p.2
    simp only [wtxt, List.length_append, List.length_cons]; omega)
  omega
theorem k02_law (zs : List Int) (hl : zs.length ≤ 63) : ∃ S', den P 30 none 29 [.obj 0] [.ro (zs.map .int)] = .ok (.bl true) S' := by
  generalize hS0 : ([.ro (zs.map .int)] : Store) = S0
  have hg0 : get S0 0 = some (.ro (zs.map .int)) := by rw [← hS0]; simp
  have hl0 : S0.length = 1 := by rw [← hS0]; rfl
  suffices Hh : wp (evSs ⟨den P 29, P.G, P.Cl, none⟩ b29 [some (.obj 0), none, none, none, none, none, none, none, none, none, none, none, none, none] S0) fun fl S' => ∃ S2, outF S0 fl S' = .ok (.bl true) S2 from by
    have := den_post (p := P) (n := 29) (i := 29) (f := ⟨1, 14, b29⟩) (ds := [.obj 0]) (S := S0) (fun _ : Store => True) (fun S2 => .ok (.bl true) S2) rfl rfl (wp_mono Hh fun fl S' h => by obtain ⟨S2, h⟩ := h; exact ⟨S2, trivial, h⟩)
    obtain ⟨S2, _, h⟩ := this
    exact ⟨S2, h⟩
  obtain ⟨c0, hc0⟩ := sp_cell 28 S0 zs 0 hg0
  have hc0 : den P 29 none 12 [.obj 0, .int 0] S0 = .ok (.int c0) S0 := hc0
  obtain ⟨n0, _, ht0⟩ := sp_tape 28 S0 c0 0 300 (by omega) (by omega)
  have ht0 : den P 29 none 13 [.int c0, .int 0, .int 300] S0 = .ok (.obj S0.length) (.lst (n0.map .int) :: S0) := ht0
  obtain ⟨S, hS⟩ : ∃ S : Store, S = .lst (n0.map .int) :: S0 := ⟨_, rfl⟩
  have hSl : S.length = S0.length + 1 := by rw [hS]; rfl
  have hSt : S = tp S S0.length n0 := by
    rw [tp, put_same]
    rw [hS]; exact get_self _ _
  have hgS : ∀ k, get (tp S S0.length k) 0 = some (.ro (zs.map .int)) := fun k => by
    rw [tp, get_put_ne (by omega), hS]; exact getOld hg0
  obtain ⟨v, n1, hv, h1⟩ := sp_take 28 S S0.length n0 2 (by omega) (by omega)
  have h1 : den P 29 none 14 [.obj S0.length, .int 2] (tp S S0.length n0) = .ok (.int v) (tp S S0.length n1) := h1
  obtain ⟨w, hw, hwv⟩ : ∃ w : Nat, (w = 1 ∨ w = 2) ∧ (1 : Int) + (v : Int) = (w : Int) := ⟨1 + v, by omega, by omega⟩
  obtain ⟨⟨runs, n2⟩, hr, h2⟩ := sp_runs 27 S S0.length n1 w hw (by omega)
  have h2 : den P 29 none 17 [.obj S0.length, .int w] (tp S S0.length n1) = .ok (.obj S.length) (.lst (runs.map rnD) :: tp S S0.length n2) := h2
  have hr : RunsOk w runs := hr
  have hrl := runs_len hr
  have hsum := wtxt_sum hw hr
  have hgr : get (.lst (runs.map rnD) :: tp S S0.length n2) S.length = some (.lst (runs.map rnD)) := by rw [get_cons, if_pos (by simp)]
  refine wp_split 4 [some (.obj 0), none, none, none, none, none, none, none, some (.obj S.length), none, some (.obj S0.length), some (.str (wtext runs)), none, some (.int w)] (.lst (runs.map rnD) :: tp S S0.length n2) ?_ ?_
  · simp only [b29, List.take_succ_cons, List.take_zero]
    rw [← hS] at ht0
    rw [hSt] at ht0
    clear hSt
    generalize tp S S0.length n0 = T0 at *
    generalize tp S S0.length n1 = T1 at *
    generalize (.lst (runs.map rnD) :: tp S S0.length n2 : Store) = T2 at *
    simp (disch := first | omega | (simp; done) | (simp; omega)) [if_pos, if_neg, hc0, ht0, h1, hwv, h2, hgr]
    rw [compK_on runs rnD (fun p => .str (wtxt p)) (by omega) (fun p hp => by
      have q := hr.v p hp
      have q1 := (lv_no q.lv).1
      have q2 := dg_len3 p.2
      have f := fun T => f1_str (k := p.2) T q.c2
      exact ⟨_, rfl, by simp, by simp (disch := first | omega | (simp; done) | (simp; omega)) [if_pos, if_neg, rnD, f, wtxt]⟩)]
    have hst : strsD (runs.map fun p => D.str (wtxt p)) = some (runs.map wtxt) := strsD_map wtxt runs
    rw [List.map_map] at hsum
    simp (disch := first | omega | (simp; done) | (simp; omega)) [if_pos, if_neg, hst]
    rfl
  have hrec : RecOk w (flat runs) := ⟨hr.l, fun l hl => by
    simp only [flat, List.mem_flatten, List.mem_map] at hl
    obtain ⟨x, ⟨p, hp, rfl⟩, hx⟩ := hl
    rw [(List.mem_replicate.mp hx).2]; exact (hr.v p hp).lv⟩
  have hwt : wtext (grp (flat runs)) = wtext runs := by rw [grp_of hr.g]
  have hrd := read_write hr.g hr.v hr.l
  have htx : (wtext runs).length ≤ 2000 := by
    have := join_len (runs.map wtxt)
    have h3 : tsz (runs.map wtxt) = (List.map (fun x : List Nat => x.length) (runs.map wtxt)).sum + runs.length := by unfold tsz; simp
    unfold wtext; omega
  obtain ⟨B0, hB0⟩ : ∃ B0 : Store, B0 = .lst (runs.map rnD) :: tp S S0.length n2 := ⟨_, rfl⟩
  have hB0l : B0.length = S.length + 1 := by rw [hB0]; simp
  rw [← hB0] at hgr ⊢
  have hg00 : get B0 0 = some (.ro (zs.map .int)) := by rw [hB0]; exact getOld (hgS n2)
  have rest : ∀ (pre : Store) (m2 : Nat) (e4 : Option D), get (pre ++ (.lst [] :: B0)) m2 = some (.lst ((flat runs).map .str)) → wp (evSs ⟨den P 29, P.G, P.Cl, none⟩ (b29.drop 6) (envL e4 m2 S.length S0.length (wtext runs) w) (pre ++ (.lst [] :: B0))) (fun fl S' => ∃ S2, outF S0 fl S' = .ok (.bl true) S2) := by
    intro pre m2 e4 hgm
    have hz0 : get (pre ++ (.lst [] :: B0)) 0 = some (.ro (zs.map .int)) := get_app (getOld hg00) _
    generalize pre ++ (.lst [] :: B0) = Z at *
    have q1 : den P 29 none 6 [.int w, toR (flat runs)] Z = .ok (.bl true) Z := by rw [sp_is_record 23 w _ Z hw (hrec.e hw), hrec.d]
    have q2 : ∀ T, den P 29 none 15 [.bl true, .bl true] T = .ok (.bl true) T := fun T => sp_same 0 (.bl true) rfl 28 T
    have q3 : den P 29 none 8 [.int w, toR (flat runs)] Z = .ok (.str (wtext runs)) Z := by rw [sp_write 21 Z w _ hw hrec, hwt]
    have q4 : ∀ (x : List Nat) T, den P 29 none 15 [.str x, .str x] T = .ok (.bl true) T := fun x T => sp_same 0 (.str x) rfl 28 T
    have q5 : den P 29 none 23 [.int w, .str (wtext runs)] Z = .ok (dueD (.inl (flat runs))) Z := by rw [sp_told 22 Z w _ hw (by omega), hrd]
    have plR : ∀ r : List (List Nat), r.length ≤ 120 → plD 2 (dueD (.inl r)) = true := fun r h => by
      simp only [dueD, toR, plD, Bool.and_eq_true, decide_eq_true_eq, List.all_eq_true]
      refine ⟨by simp, fun x hx => ?_⟩
      simp only [List.mem_cons, List.not_mem_nil, or_false] at hx
      rcases hx with rfl | rfl
      · rfl
      · simp only [plD, Bool.and_eq_true, decide_eq_true_eq, List.all_eq_true, List.length_map]
        exact ⟨by omega, fun y hy => by obtain ⟨l, _, rfl⟩ := List.mem_map.mp hy; rfl⟩
    have q6 : ∀ T, den P 29 none 15 [dueD (.inl (flat runs)), dueD (.inl (flat runs))] T = .ok (.bl true) T := fun T => sp_same 2 _ (plR _ hr.l) 26 T
    have hs : ∀ x ∈ (flat runs), x.length = w := fun x hx => (lv_no (hrec.lv x hx)).1
    refine wp_split 4 [some (.obj 0), none, none, none, e4, some (.obj m2), some (toR (flat runs)), none, some (.obj S.length), none, some (.obj S0.length), some (.str (wtext runs)), none, some (.int w)] Z ?_ ?_
    · simp only [b29, List.take_succ_cons, List.take_zero, List.drop_succ_cons, List.drop_zero]
      have hw8 : ∀ k, k < w → den P 29 none 11 [.int w, toR (flat runs), .int (k : Nat)] Z = .ok (.str (signsW k (flat runs))) Z := fun k hk => sp_wire 21 Z w k _ hw hrec hk
      have hfl := hr.l
      simp only [dueD, recS] at q5 q6
      have htR : toR (flat runs) = .tup ((flat runs).map .str) := rfl
      have hjn : ∀ k, joinS [] ((flat runs).map fun l => [l[k]?.getD 0]) = signsW k (flat runs) := fun k => by
        have := joinS_one (signsW k (flat runs))
        unfold signsW at this ⊢
        rw [List.map_map] at this
        exact this
      clear htR
      simp only [toR] at q1 q3 q5 q6 hw8 ⊢
      generalize flat runs = F at *
      simp (disch := first | omega | (simp; done) | (simp; omega)) [if_pos, if_neg, envL, hgm, q1, q2, q3, q4, q5, q6]
      refine wp_seq (wp_see ?_ ?_)
      · intro x hx
        obtain ⟨k, hk, rfl⟩ := List.mem_map.mp hx
        have hk := List.mem_range.mp hk
        have hwk := hw8 k hk
        have hjk := hjn k
        simp (disch := first | omega | (simp; done) | (simp; omega)) [if_pos, if_neg, hgm]
        rw [compK_on F D.str (fun l => .str [l[k]?.getD 0]) (by omega) (fun l hl => by
          have hll := hs l hl
          have hkl : k < l.length := by omega
          exact ⟨_, rfl, by simp, by simp (disch := first | omega | (simp; done) | (simp; omega)) [if_pos, if_neg, hkl]⟩)]
        have hst : strsD (F.map fun l => D.str [l[k]?.getD 0]) = some (F.map fun l => [l[k]?.getD 0]) := strsD_map (fun l => [l[k]?.getD 0]) F
        have hsm : (F.map ((fun x : List Nat => x.length) ∘ fun l : List Nat => [l[k]?.getD 0])).sum ≤ 16777216 := by
          have : ∀ l : List (List Nat), (l.map ((fun x : List Nat => x.length) ∘ fun l : List Nat => [l[k]?.getD 0])).sum = l.length := by
            intro l; induction l with
            | nil => rfl
            | cons a t ih => rw [List.map_cons, List.sum_cons, ih]; simp; omega
          rw [this]; omega
        simp only [Function.comp_def] at hsm
        simp (disch := first | omega | (simp; done) | (simp; omega)) [if_pos, if_neg, hst, hsm, hjk, hwk, q4, Function.comp_def]
      · simp (disch := first | omega | (simp; done) | (simp; omega)) [if_pos, if_neg, id]
    obtain ⟨c1, hc1⟩ := sp_cell 28 Z zs 1 hz0
    have hc1 : den P 29 none 12 [.obj 0, .int 1] Z = .ok (.int c1) Z := hc1
    obtain ⟨n3, _, ht1⟩ := sp_tape 28 Z c1 1 60 (by omega) (by omega)
    have ht1 : den P 29 none 13 [.int c1, .int 1, .int 60] Z = .ok (.obj Z.length) (.lst (n3.map .int) :: Z) := ht1
    obtain ⟨Z2, hZ2⟩ : ∃ Z2 : Store, Z2 = .lst (n3.map .int) :: Z := ⟨_, rfl⟩
    have hZ2l : Z2.length = Z.length + 1 := by rw [hZ2]; rfl
    have hZ2t : Z2 = tp Z2 Z.length n3 := by
      rw [tp, put_same]
      rw [hZ2]; exact get_self _ _
    rw [← hZ2] at ht1
    have hpos : 0 < Z.length := getLt hz0
    have hz20 : ∀ k, get (tp Z2 Z.length k) 0 = some (.ro (zs.map .int)) := fun k => by
      rw [tp, get_put_ne (by omega), hZ2]; exact getOld hz0
    refine wp_split 1 [some (.obj 0), none, none, none, e4, some (.obj m2), some (toR (flat runs)), none, some (.obj S.length), none, some (.obj Z.length), some (.str (wtext runs)), none, some (.int w)] (tp Z2 Z.length n3) ?_ ?_
    · simp only [b29, List.take_succ_cons, List.take_zero, List.drop_succ_cons, List.drop_zero]
      rw [← hZ2t]
      simp (disch := first | omega | (simp; done) | (simp; omega)) [if_pos, if_neg, hc1, ht1]
    have fin_ : ∀ (tx : List Nat) (k : List Int), tx.length ≤ 100000 → wp (evSs ⟨den P 29, P.G, P.Cl, none⟩ (b29.drop 12) [some (.obj 0), none, none, none, e4, some (.obj m2), some (toR (flat runs)), none, some (.obj S.length), none, some (.obj Z.length), some (.str tx), none, some (.int w)] (tp Z2 Z.length k)) (fun fl S' => ∃ S2, outF S0 fl S' = .ok (.bl true) S2) := by
      intro tx k htx
      have hy0 := hz20 k
      generalize tp Z2 Z.length k = Y at *
      have u1 : den P 29 none 19 [.int w, .str tx] Y = .ok (dueD (readT w tx)) Y := sp_law_read 27 Y w tx hw htx
      have u2 : den P 29 none 23 [.int w, .str tx] Y = .ok (dueD (readT w tx)) Y := sp_told 22 Y w tx hw htx
      obtain ⟨c2, hc2⟩ := sp_cell 28 Y zs 2 hy0
      have hc2 : den P 29 none 12 [.obj 0, .int 2] Y = .ok (.int c2) Y := hc2
      obtain ⟨n5, _, ht2⟩ := sp_tape 28 Y c2 2 30 (by omega) (by omega)
      have ht2 : den P 29 none 13 [.int c2, .int 2, .int 30] Y = .ok (.obj Y.length) (.lst (n5.map .int) :: Y) := ht2
      obtain ⟨Y2, hY2⟩ : ∃ Y2 : Store, Y2 = .lst (n5.map .int) :: Y := ⟨_, rfl⟩
      have hY2t : Y2 = tp Y2 Y.length n5 := by
        rw [tp, put_same]
        rw [hY2]; exact get_self _ _
      obtain ⟨n6, _, hrf⟩ := sp_refused 18 Y2 Y.length n5 w (flat runs) (by rw [hY2]; simp) hw hrec
      rw [← hY2t] at hrf
      rw [← hY2] at ht2
      have hrf : den P 29 none 28 [.obj Y.length, .int w, toR (flat runs)] Y2 = .ok (.bl true) (tp Y2 Y.length n6) := hrf
      have hany : ∀ (T : Store), ∃ S2, fin S0 T (.bl true) = .ok (.bl true) S2 := fun T => by
        unfold fin
        split
        · exact ⟨_, rfl⟩
        · split
          · exact ⟨_, by rw [if_pos (bel_bl _ _)]⟩
          · exact ⟨_, rfl⟩
      generalize tp Y2 Y.length n6 = Y3 at *
      have hY3 := hany Y3
      simp only [b29, List.drop_succ_cons, List.drop_zero]
      cases hrt : readT w tx with
      | inl r =>
        obtain ⟨g1, g2, g3⟩ := write_read hrt
        have hro : RecOk w r := ⟨g2, g3⟩
        have v1 : den P 29 none 8 [.int w, toR r] Y = .ok (.str tx) Y := by rw [sp_write 21 Y w r hw hro, g1]
        have v2 : ∀ T, den P 29 none 15 [dueD (.inl r), dueD (.inl r)] T = .ok (.bl true) T := fun T => sp_same 2 _ (plR _ g2) 26 T
        rw [hrt] at u1 u2
        simp only [dueD, recS] at u1 u2 v2
        simp (disch := first | omega | (simp; done) | (simp; omega)) [if_pos, if_neg, u1, u2, v2, v1, q4, hc2, ht2, hrf]
        exact hY3
      | inr col =>
        have v2 : ∀ T, den P 29 none 15 [dueD (.inr col), dueD (.inr col)] T = .ok (.bl true) T := fun T => sp_same 1 _ (by simp [dueD, plD]) 27 T
        rw [hrt] at u1 u2
        simp only [dueD, fltS] at u1 u2 v2
        simp (disch := first | omega | (simp; done) | (simp; omega)) [if_pos, if_neg, u1, u2, v2, hc2, ht2, hrf]
        exact hY3
    obtain ⟨u, n4, hu, hu2⟩ := sp_take 28 Z2 Z.length n3 6 (by omega) (by omega)
    have hu2 : den P 29 none 14 [.obj Z.length, .int 6] (tp Z2 Z.length n3) = .ok (.int u) (tp Z2 Z.length n4) := hu2
    let E11 : List Nat → Env := fun tx => [some (.obj 0), none, none, none, e4, some (.obj m2), some (toR (flat runs)), none, some (.obj S.length), none, some (.obj Z.length), some (.str tx), none, some (.int w)]
    have h11 : wp (evSs ⟨den P 29, P.G, P.Cl, none⟩ [.ite (.val (.cmp .eq (.call 14 [.v 10, .c (.int 6)]) (.c (.int 5)))) [.set (.v 11) (.call 22 [.v 10])] [.forS (.v 3) (.rng (.bin .add (.c (.int 1)) (.call 14 [.v 10, .c (.int 2)]))) [.set (.v 11) (.call 21 [.v 10, .v 13, .v 11])] [3]]] (E11 (wtext runs)) (tp Z2 Z.length n3)) (fun fl S' => ∃ (tx : List Nat) (k : List Int), tx.length ≤ 100000 ∧ fl = .nx (E11 tx) ∧ S' = tp Z2 Z.length k) := by
      by_cases h5 : u = 5
      · subst h5
        obtain ⟨⟨tx, k⟩, hx1, hx2⟩ := sp_drawn 26 Z2 Z.length n4 (by omega)
        have hx2 : den P 29 none 22 [.obj Z.length] (tp Z2 Z.length n4) = .ok (.str tx) (tp Z2 Z.length k) := hx2
        simp only at hx1
        simp only [E11]
        clear fin_
        generalize tp Z2 Z.length n3 = A3 at *
        generalize tp Z2 Z.length n4 = A4 at *
        generalize hk : tp Z2 Z.length k = A5 at *
        simp (disch := first | omega | (simp; done) | (simp; omega)) [if_pos, if_neg, hu2, hx2]
        exact ⟨tx, by omega, rfl, k, hk.symm⟩
      · have h5' : ¬ (u : Int) = 5 := by omega
        obtain ⟨v2, n5, hv2, hv3⟩ := sp_take 28 Z2 Z.length n4 2 (by omega) (by omega)
        have hv3 : den P 29 none 14 [.obj Z.length, .int 2] (tp Z2 Z.length n4) = .ok (.int v2) (tp Z2 Z.length n5) := hv3
        obtain ⟨m, hm, hm2⟩ : ∃ m : Nat, (1 : Int) + (v2 : Int) = (m : Int) ∧ m ≤ 2 := ⟨1 + v2, by omega, by omega⟩
        have hrm : rngL 0 (m : Int) = (List.range m).map fun i : Nat => D.int (i : Int) := rngL_nat m
        simp only [E11]
        clear fin_
        have hlp := wp_forR (C := ⟨den P 29, P.G, P.Cl, none⟩) (j := 3) (body := [.set (.v 11) (.call 21 [.v 10, .v 13, .v 11])]) (ks := [3]) (Q := fun fl S' => ∃ (tx : List Nat) (k : List Int), tx.length ≤ 100000 ∧ fl = .nx (E11 tx) ∧ S' = tp Z2 Z.length k) m (fun x : List Nat × List Int => E11 x.1) (fun x => tp Z2 Z.length x.2) (fun i x => x.1.length ≤ (if i = 0 then 2000 else if i = 1 then 10000 else 50000)) (wtext runs, n5) (by simpa using htx) rfl rfl ?_ ?_
        · have cl4 : (tp Z2 Z.length n4).length = (tp Z2 Z.length n3).length := by simp
          simp only [E11] at hlp
          generalize tp Z2 Z.length n3 = A3 at *
          generalize tp Z2 Z.length n4 = A4 at *
          generalize tp Z2 Z.length n5 = A5 at *
          simp (disch := first | omega | (simp; done) | (simp; omega)) [if_pos, if_neg, hu2, h5', hv3, hm]
          refine wp_seq (wp_seq (wp_mono hlp ?_))
          rintro fl S' ⟨tx, k, h1, rfl, rfl⟩
          simp (disch := first | omega | (simp; done) | (simp; omega)) [if_pos, if_neg, id]
          exact ⟨tx, h1, rfl, k, rfl⟩
        · rintro i ⟨tx, k⟩ hi hb
          simp only at hb
          have hb2 : tx.length ≤ 20000 := by
            split at hb
            · omega
            · split at hb
              · omega
              · omega
          obtain ⟨⟨tx2, k2⟩, hx1, hx2⟩ := sp_changed 26 Z2 Z.length k w tx (by omega) hw hb2
          have hx2 : den P 29 none 21 [.obj Z.length, .int w, .str tx] (tp Z2 Z.length k) = .ok (.str tx2) (tp Z2 Z.length k2) := hx2
          simp only at hx1
          have c1 : (tp Z2 Z.length k2).length = (tp Z2 Z.length k).length := by simp
          simp only [E11]
          generalize tp Z2 Z.length k = A6 at *
          generalize hk : tp Z2 Z.length k2 = A7 at *
          simp (disch := first | omega | (simp; done) | (simp; omega)) [if_pos, if_neg, hx2]
          refine ⟨(tx2, k2), ?_, rfl, by rw [trim_same c1]; exact hk.symm⟩
          have hi2 : i = 0 ∨ i = 1 := by omega
          rcases hi2 with rfl | rfl
          · simp only [if_true] at hb
            show tx2.length ≤ 10000
            omega
          · have hb : tx.length ≤ 10000 := hb
            show tx2.length ≤ 50000
            omega
        · rintro ⟨tx, k⟩ hb
          simp only at hb
          refine ⟨tx, k, ?_, rfl, rfl⟩
          split at hb
          · omega
          · split at hb <;> omega
    simp only [b29, List.drop_succ_cons, List.drop_zero]
    refine wp_app2 [.ite (.val (.cmp .eq (.call 14 [.v 10, .c (.int 6)]) (.c (.int 5)))) [.set (.v 11) (.call 22 [.v 10])] [.forS (.v 3) (.rng (.bin .add (.c (.int 1)) (.call 14 [.v 10, .c (.int 2)]))) [.set (.v 11) (.call 21 [.v 10, .v 13, .v 11])] [3]]] _ _ _ (wp_mono h11 ?_)
    rintro fl S' ⟨tx, k, h1, rfl, rfl⟩
    exact ⟨_, rfl, fin_ tx k h1⟩
  refine wp_split 1 (envL none (S.length + 1) S.length S0.length (wtext runs) w) (.lst [] :: B0) ?_ ?_
  · simp only [b29, List.take_succ_cons, List.take_zero, List.drop_succ_cons, List.drop_zero]
    simp (disch := first | omega | (simp; done) | (simp; omega)) [if_pos, if_neg, hB0l, envL]
  · simp only [b29, List.drop_succ_cons, List.drop_zero]
    have hgr2 : get (.lst [] :: B0) S.length = some (.lst (runs.map rnD)) := getOld hgr
    have hgm2 : get (.lst [] :: B0) (S.length + 1) = some (.lst []) := by rw [get_cons, if_pos hB0l.symm]
    have hfor := lv_loop (n := 28) (B := .lst [] :: B0) (m := S.length + 1) (r := S.length) (t := S0.length) (w := w) (tx := wtext runs) (runs := runs) (Q := fun fl S' => ∃ pre m2 e4, get (pre ++ (.lst [] :: B0)) m2 = some (.lst ((flat runs).map .str)) ∧ fl = .nx (envL e4 m2 S.length S0.length (wtext runs) w) ∧ S' = pre ++ (.lst [] :: B0)) hr hgr2 hgm2 (fun pre m2 e4 h => ⟨pre, m2, e4, h, rfl, rfl⟩)
    have hst : wp (evSs ⟨den P 29, P.G, P.Cl, none⟩ [.forS (.tup [4, 1]) (.val (.v 8)) [.set (.v 5) (.bin .add (.v 5) (.bin .mul (.ls (.disp [.v 4])) (.v 1)))] [1]] (envL none (S.length + 1) S.length S0.length (wtext runs) w) (.lst [] :: B0)) (fun fl S' => ∃ pre m2 e4, get (pre ++ (.lst [] :: B0)) m2 = some (.lst ((flat runs).map .str)) ∧ fl = .nx (envL e4 m2 S.length S0.length (wtext runs) w) ∧ S' = pre ++ (.lst [] :: B0)) := by
      clear rest
      generalize (.lst [] :: B0 : Store) = B at *
      simp (disch := first | omega | (simp; done) | (simp; omega)) [if_pos, if_neg, envL, hgr2]
      refine wp_seq (wp_mono hfor ?_)
      rintro fl S' ⟨pre, m2, e4, h1, rfl, rfl⟩
      simp (disch := first | omega | (simp; done) | (simp; omega)) [if_pos, if_neg, envL]
      exact ⟨pre, m2, h1, rfl, rfl⟩
    refine wp_app2 [.forS (.tup [4, 1]) (.val (.v 8)) [.set (.v 5) (.bin .add (.v 5) (.bin .mul (.ls (.disp [.v 4])) (.v 1)))] [1]] _ _ _ (wp_mono hst ?_)
    rintro fl S' ⟨pre, m2, e4, h1, rfl, rfl⟩
    exact ⟨_, rfl, rest pre m2 e4 h1⟩
end HT
end
section
set_option Elab.async false
set_option linter.all false
set_option maxRecDepth 100000
set_option maxHeartbeats 0
/-- the law by what the evaluator says -/
theorem HT.holds_of (pure_ : ∀ ns : List Int, ns.length ≤ 63 → (∀ z ∈ ns, PySem.Builtin.Int.intBits z ≤ 1048576) → ∃ S, Pw.den HT.txt.prg 30 none 29 [.obj 0] [.ro (ns.map .int)] = .ok (.bl true) S) : PySem.Challenge.rw_pullwire_k02_record_texts.Holds := by
  open PySem PySem.W PySem.Calls PyProof.Rows in
  w_on; o_law
  refine HandSHeadRun.head_any (r := OpenLaw.row PySem.Challenge.rw_pullwire_k02_record_texts) (q := view (OpenLaw.row PySem.Challenge.rw_pullwire_k02_record_texts).prog [54]) (H := HT.txt.hook) (ob := HT.txt.ob) (M := 20000) (loose := HT.names) (d := HandSHeadRun.topDef (OpenLaw.row PySem.Challenge.rw_pullwire_k02_record_texts).prog 54) (kwd := []) HT.txt.ob_eq
    (by kernel_rfl) (fun s => by kernel_rfl) HT.run (by kernel_rfl) (by kernel_rfl) (by kernel_rfl) (by rfl) (by first | assumption | decide +kernel) (by decide +kernel) ⟨rfl, rfl, rfl, rfl, rfl, by decide +kernel⟩ ?hw ?hc
  case hw => w_witness2
  case hc =>
    exact Pw.Txt.walk HT.txt (l := PySem.Challenge.rw_pullwire_k02_record_texts) (n := 63) (k := 29) (j := 29) (a0 := HT.d29) (x := "script") rfl (by decide) (by kernel_rfl) ⟨rfl, by decide, by decide⟩ ⟨rfl, by kernel_rfl⟩ HT.look HT.bni HT.bnd rfl (by decide) rfl (by kernel_rfl) pure_
end
set_option Elab.async false
set_option maxRecDepth 100000
set_option maxHeartbeats 0
theorem PySem.Challenge.cw_pullwire_k02_record_texts_holds : PySem.Challenge.rw_pullwire_k02_record_texts.Holds := by
  exact HT.holds_of fun ns hl _ => HT.k02_law ns hl
