import PyProof.Rows.All
import Wide.All
import OpenK.AllK
import Wide.FinOn
import HandS.ForMost
import HandS.ForExc
import HandS.Wide
import HandS.TupLe
import HandS.TupAny
import HandS.TryMany
import HandS.HotCalls
import HandS.ExcIs
import HandS.IsInst
import HandS.CallSlots
import HandS.Conv
import HandS.Zip
import HandS.Rev
import HandS.Defaults
import KE.KDictKeyed
import HandS.TupMul
import HandS.List
import KE.KTupSum
import KE.KEqNest
import KE.KDictLaw
import PyProof.NeKinds
import HandS.Small
import HandS.Text
import KE.KExcSuper
import HandS.ExcInit
import HandS.ExcField
import HandS.Nested
import HandS.FStr
import HandS.SortInts
import HandS.Style
import HandS.More
import KE.DataMinMax
import KE.SortData
import HandS.ExcCtx
import HandS.Iter
import HandS.Head2
import HandS.HeadEnd
import HandS.HeadWalk
import HandS.HeadHook2
import HandS.EndBits
import PySem.Challenge.RW_pullwire_k31_timely_orders
section
set_option linter.all false
/-! Pw0: values, store, a small language and its evaluator (no model in sight) -/
namespace Pw
/-- a value: texts are lists of code points, tuples are trees, lists and dicts stand in the store -/
inductive D where
  | non | bl (b : Bool) | int (i : Int) | str (s : List Nat) | tup (xs : List D) | obj (n : Nat) | exc (c : Nat) (fs : List D)
mutual
def D.beq : D → D → Bool
  | .non, .non => true
  | .bl a, .bl b => a == b
  | .int a, .int b => a == b
  | .str a, .str b => a == b
  | .tup a, .tup b => D.beqs a b
  | .obj a, .obj b => a == b
  | .exc a x, .exc b y => a == b && D.beqs x y
  | _, _ => false
def D.beqs : List D → List D → Bool
  | [], [] => true
  | a :: r, b :: t => D.beq a b && D.beqs r t
  | _, _ => false
end
mutual
theorem D.beq_ok : ∀ a b : D, D.beq a b = true ↔ a = b
  | .non, b => by cases b <;> simp [D.beq]
  | .bl a, b => by cases b <;> simp [D.beq]
  | .int a, b => by cases b <;> simp [D.beq]
  | .str a, b => by cases b <;> simp [D.beq]
  | .obj a, b => by cases b <;> simp [D.beq]
  | .tup a, b => by cases b <;> simp [D.beq, D.beqs_ok a]
  | .exc a x, b => by cases b <;> simp [D.beq, D.beqs_ok x]
theorem D.beqs_ok : ∀ a b : List D, D.beqs a b = true ↔ a = b
  | [], b => by cases b <;> simp [D.beqs]
  | a :: r, b => by cases b <;> simp [D.beqs, D.beq_ok a, D.beqs_ok r]
end
instance : DecidableEq D := fun a b => if h : D.beq a b = true then isTrue ((D.beq_ok a b).mp h) else isFalse fun e => h ((D.beq_ok a b).mpr e)
/-- an object of the store -/
inductive SO where
  | lst (xs : List D) | ro (xs : List D) | dct (kvs : List (D × D)) | dcn (kvs : List (D × D)) | set (xs : List D) | ins (c : Nat) (fs : List (Nat × D))
  deriving DecidableEq
/-- the newest object stands first -/
abbrev Store := List SO
def get : Store → Nat → Option SO
  | [], _ => none
  | o :: r, n => if n = r.length then some o else get r n
def put : Store → Nat → SO → Store
  | [], _, _ => []
  | o :: r, n, x => if n = r.length then x :: r else o :: put r n x
-- handles below n
mutual
def D.bel (n : Nat) : D → Bool
  | .obj m => Nat.blt m n
  | .tup xs => D.bels n xs
  | .exc _ xs => D.bels n xs
  | _ => true
def D.bels (n : Nat) : List D → Bool
  | [] => true
  | x :: r => D.bel n x && D.bels n r
end
def SO.bel (n : Nat) : SO → Bool
  | .lst xs => D.bels n xs
  | .ro xs => D.bels n xs
  | .dct kvs => D.bels n (kvs.map (·.1)) && D.bels n (kvs.map (·.2))
  | .dcn kvs => D.bels n (kvs.map (·.1)) && D.bels n (kvs.map (·.2))
  | .set xs => D.bels n xs
  | .ins _ fs => D.bels n (fs.map (·.2))
/-- what stood before stands still, or points to what stood before -/
def okOld (n : Nat) : Store → Store → Bool
  | [], [] => true
  | a :: r, b :: t => (decide (a = b) || SO.bel n b) && okOld n r t
  | _, _ => false
inductive Res (α : Type) where
  | ok (a : α) (S : Store) | exc (c : Nat) (fs : List D) (S : Store) | bad
def Res.bind {α β : Type} : Res α → (α → Store → Res β) → Res β
  | .ok a S, f => f a S
  | .exc c fs S, _ => .exc c fs S
  | .bad, _ => .bad
abbrev Env := List (Option D)
abbrev Calls := Nat → List D → Store → Res D
inductive Bop where | add | sub | mul | fdiv | mod | pow | shl | shr | band
inductive Cop where | eq | ne | lt | le | gt | ge | inn | nin | is | isn
inductive Kd where | int | bool | str | tuple | list | dict | set | own (c : Nat)
inductive F1 where | len | int | str | abs
inductive F2 where | min | max
/-- targets -/
inductive Tg where | v (i : Nat) | tup (is : List Nat)
mutual
inductive Exp where
  | c (d : D) | v (i : Nat) | g (i : Nat)
  | bin (o : Bop) (a b : Exp) | neg (a : Exp) | notV (a : Exp) | andV (a b : Exp) | orV (a b : Exp)
  | cmp (o : Cop) (a b : Exp) | chn (o p : Cop) (a b c : Exp) | ife (t : Tst) (a b : Exp)
  | call (f : Nat) (as : List Exp) | hcall (f : Nat) (as : List Exp) | hot (f : Nat) | isX (cs : List Nat) | xf (cs : List Nat) (k : Nat) | anyH (a : Exp) | f1 (f : F1) (a : Exp) | f2 (f : F2) (a b : Exp) | isI (a : Exp) (ks : List Kd)
  | idx (a b : Exp) | sl (a : Exp) (lo hi : Option Exp) | rev (a : Exp) | tupR (a b c : Exp) | split (a b : Exp) | find (a b : Exp) | insl (o i a : Exp) | fs (a : Exp) (t : List Nat) (b : Exp)
  | tup (es : List Exp) | ls (l : Src) | dct (es : List Exp) | tupOf (l : Src) | allOf (l : Src) | anyOf (l : Src) | sumOf (l : Src) | minOf (l : Src) | maxOf (l : Src)
  | sorted (l : Src) | join (a : Exp) (l : Src)
  | app (o a : Exp) | pop (o : Exp) | ext (o a : Exp) | sw (o a : Exp)
inductive Src where
  | val (e : Exp) | seq (e : Exp) | lis (e : Exp) | keys (e : Exp) | rng (a : Exp) | rng2 (a b : Exp) | rng3 (a b c : Exp) | disp (es : List Exp) | comp (e : Exp) (t : Tg) (l : Src) (ifs : List Tst)
  | zip (a b : Exp) | comp2 (e : Exp) (t : Tg) (l : Src) (ifs : List Tst) (t1 : Tg) (l1 : Src) (ifs1 : List Tst)
inductive Tst where
  | val (e : Exp) | not (t : Tst) | and (a b : Tst) | or (a b : Tst)
end
inductive Stm where
  | pass | ex (e : Exp) | set (t : Tg) (e : Exp) | setIx (o i e : Exp)
  | ite (t : Tst) (a b : List Stm) | forS (t : Tg) (l : Src) (body : List Stm) (ks : List Nat) | whl (t : Tst) (body : List Stm) (ks : List Nat)
  | ret (e : Exp) | brk | cont | rais (c : Nat) (es : List Exp) | tryS (body : List Stm) (hs : List (List Nat × Option Nat × List Stm)) | kill (ks : List Nat)
/-! ### the meaning of the operations -/
def line : Nat := 16777216
def truth (S : Store) : D → Option Bool
  | .non => some false
  | .bl b => some b
  | .int i => some (decide (i ≠ 0))
  | .str s => if s.length ≤ line then some (!s.isEmpty) else none
  | .tup xs => some (!xs.isEmpty)
  | .obj n => (match get S n with
    | some (.lst xs) => some (!xs.isEmpty)
    | some (.ro xs) => some (!xs.isEmpty)
    | some (.dct xs) => some (!xs.isEmpty)
    | _ => none)
  | .exc _ _ => none
def b2i (b : Bool) : Int := if b then 1 else 0
/-- == item by item -/
def alls (f : D → D → Option Bool) : List D → List D → Option Bool
  | [], [] => some true
  | x :: r, y :: t => (f x y).bind fun c => (alls f r t).bind fun k => some (c && k)
  | _, _ => some false
/-- == of two values; lists and dicts by what they hold -/
def deq (S : Store) : Nat → D → D → Option Bool
  | 0, _, _ => none
  | n + 1, a, b => match a, b with
    | .int a, .int b => some (decide (a = b))
    | .str a, .str b => some (decide (a = b))
    | .bl a, .bl b => some (decide (a = b))
    | .bl a, .int b => some (decide (b2i a = b))
    | .int a, .bl b => some (decide (a = b2i b))
    | .non, .non => some true
    | .tup a, .tup b => if a.length = b.length then alls (deq S n) a b else (alls (deq S n) (a.take b.length) (b.take a.length)).bind fun _ => some false
    | .obj a, .obj b => (match get S a, get S b with
      | some (.lst x), some (.lst y) => if x.length = y.length then alls (deq S n) x y else some false
      | some (.dct x), some (.dct y) => if x.map (·.1) = y.map (·.1) then alls (deq S n) (x.map (·.2)) (y.map (·.2)) else none
      | _, _ => none)
    | .exc _ _, _ => none
    | _, .exc _ _ => none
    | .obj a, _ => (match get S a with
      | some (.lst _) => some false
      | _ => none)
    | _, .obj b => (match get S b with
      | some (.lst _) => some false
      | _ => none)
    | _, _ => some false
abbrev fuel : Nat := 40
/-- kinds that are compared by == where it stands -/
def topEq : D → D → Bool
  | .tup _, .tup _ => true
  | .obj _, .obj _ => true
  | .int _, .bl _ => false
  | .bl _, .int _ => false
  | .tup _, _ => false
  | _, .tup _ => false
  | .obj _, _ => false
  | _, .obj _ => false
  | .exc _ _, _ => false
  | _, .exc _ _ => false
  | _, _ => true
def topOk (S : Store) (ne : Bool) (a b : D) : Bool := topEq a b && match a with
  | .obj n => (match get S n with | some (.lst _) => true | some (.dct _) => true | _ => false)
  | _ => true
/-- < and <= of tuples, item by item -/
def lexs (f : D → D → Option Bool) (g : D → D → Option Bool) (z : Nat → Nat → Bool) : List D → List D → Option Bool
  | x :: r, y :: t => (f x y).bind fun c => if c then lexs f g z r t else g x y
  | a, b => some (z a.length b.length)
inductive Ord where | lt | le | gt | ge
def Ord.i (o : Ord) (a b : Int) : Bool := match o with
  | .lt => decide (a < b) | .le => decide (a ≤ b) | .gt => decide (b < a) | .ge => decide (b ≤ a)
def Ord.s (o : Ord) (a b : List Nat) : Bool := match o with
  | .lt => decide (a < b) | .le => !decide (b < a) | .gt => decide (b < a) | .ge => !decide (a < b)
def Ord.n (o : Ord) (a b : Nat) : Bool := match o with
  | .lt => decide (a < b) | .le => decide (a ≤ b) | .gt => decide (b < a) | .ge => decide (b ≤ a)
def dord (S : Store) (o : Ord) : Nat → D → D → Option Bool
  | 0, _, _ => none
  | n + 1, a, b => match a, b with
    | .int a, .int b => some (o.i a b)
    | .str a, .str b => some (o.s a b)
    | _, _ => none
def lookD (k : D) : List (D × D) → Option D
  | [] => none
  | (a, v) :: r => if a = k then some v else lookD k r
def isKey : D → Bool
  | .int _ => true
  | .str _ => true
  | _ => false
/-- a tuple that is a key: numbers, texts and such tuples in it -/
def keyIn : Nat → D → Bool
  | _, .int _ => true
  | _, .str _ => true
  | n + 1, .tup xs => xs.all (keyIn n)
  | _, _ => false
def keyT : D → Bool
  | .tup xs => xs.all (keyIn 6)
  | _ => false
def hasK (k : D) (kvs : List (D × D)) : Bool := (lookD k kvs).isSome
def flatD : D → Bool
  | .non => true
  | .bl _ => true
  | .int _ => true
  | .str _ => true
  | _ => false
/-- == of flat values -/
def feq : D → D → Bool
  | .non, .non => true
  | .bl a, .bl b => a == b
  | .bl a, .int b => b2i a == b
  | .int a, .bl b => a == b2i b
  | .int a, .int b => a == b
  | .str a, .str b => a == b
  | _, _ => false
def inD (x : D) (xs : List D) : Option Bool := if flatD x && xs.all flatD then some (xs.any fun y => feq y x) else none
def din (S : Store) (x y : D) : Option Bool := match y with
  | .str t => (match x with
    | .str [c] => some (decide (c ∈ t))
    | _ => none)
  | .tup xs => inD x xs
  | .obj n => (match get S n with
    | some (.lst xs) => inD x xs
    | some (.ro xs) => inD x xs
    | some (.dct kvs) => if isKey x then some (hasK x kvs) else if keyT x && kvs.isEmpty then some false else none
    | some (.dcn kvs) => if keyT x then some (hasK x kvs) else none
    | _ => none)
  | _ => none
def dis (x y : D) : Option Bool := match y with
  | .non => some (decide (x = .non))
  | .bl b => (match x with
    | .bl a => some (decide (a = b))
    | _ => none)
  | _ => none
def cmpD (S : Store) (o : Cop) (a b : D) : Option Bool := match o with
  | .eq => if topOk S false a b then deq S fuel a b else none
  | .ne => if topOk S true a b then (deq S fuel a b).map (!·) else none
  | .lt => dord S .lt fuel a b
  | .le => dord S .le fuel a b
  | .gt => dord S .gt fuel a b
  | .ge => dord S .ge fuel a b
  | .inn => din S a b
  | .nin => (din S a b).map (!·)
  | .is => dis a b
  | .isn => (dis a b).map (!·)
def Res.of {α : Type} (o : Option α) (S : Store) : Res α := match o with
  | some a => .ok a S
  | none => .bad
/-- two factors of at most that many bits in all -/
def mulOk (i j : Int) : Bool := decide (i.natAbs.log2 + j.natAbs.log2 < 1000000)
def binD (o : Bop) (a b : D) (S : Store) : Res D := match o, a, b with
  | .add, .int i, .int j => .ok (.int (i + j)) S
  | .add, .str i, .str j => if i.length + j.length ≤ line then .ok (.str (i ++ j)) S else .bad
  | .add, .tup i, .tup j => if i.length + j.length ≤ line then .ok (.tup (i ++ j)) S else .bad
  | .add, .obj i, .obj j => (match get S i, get S j with
    | some (.lst x), some (.lst y) => if x.length + y.length ≤ line then .ok (.obj S.length) (.lst (x ++ y) :: S) else .bad
    | _, _ => .bad)
  | .sub, .int i, .int j => .ok (.int (i - j)) S
  | .mul, .int i, .int j => if mulOk i j then .ok (.int (i * j)) S else .bad
  | .mul, .tup xs, .int j => if 0 < xs.length ∧ xs.length ≤ 1000 ∧ 1 ≤ j ∧ j ≤ 1000 then .ok (.tup (List.replicate j.toNat xs).flatten) S else .bad
  | .mul, .obj n, .int j => (match get S n with
    | some (.lst xs) => if -(2 ^ 62) ≤ j ∧ j ≤ line ∧ xs.length * j.toNat ≤ line then .ok (.obj S.length) (.lst (List.replicate j.toNat xs).flatten :: S) else .bad
    | _ => .bad)
  | .mul, .str [c], .int j => if j ≤ line ∧ -(2 ^ 62) ≤ j then .ok (.str (List.replicate j.toNat c)) S else .bad
  | .fdiv, .int i, .int j => if 0 < j ∧ j.natAbs.log2 < 9000 then .ok (.int (i / j)) S else .bad
  | .mod, .int i, .int j => if 0 < j then .ok (.int (i % j)) S else .bad
  | .pow, .int i, .int j => if 0 ≤ j ∧ j ≤ 1000000 ∧ i.natAbs < 2 ^ 64 then .ok (.int (i ^ j.toNat)) S else .bad
  | .shl, .int i, .int j => if 0 ≤ j ∧ j ≤ 1000000 ∧ i.natAbs < 2 ^ 64 then .ok (.int (i * 2 ^ j.toNat)) S else .bad
  | .shr, .int i, .int j => if 0 ≤ j then .ok (.int (i / 2 ^ j.toNat)) S else .bad
  | .band, .int i, .int j => if j = 1 then .ok (.int (i % 2)) S else .bad
  | _, _, _ => .bad
/-- decimal digits -/
def digits? : List Nat → Option Int
  | [] => none
  | s => if s.all (fun c => decide (48 ≤ c) && decide (c ≤ 57)) && decide (s.length ≤ 640) then some (s.foldl (fun n c => n * 10 + (c - 48 : Nat)) (0 : Int)) else none
def lenD (S : Store) : D → Option Int
  | .str s => if s.length ≤ line then some s.length else none
  | .tup xs => some xs.length
  | .obj n => (match get S n with
    | some (.lst xs) => some xs.length
    | some (.ro xs) => some xs.length
    | some (.dct xs) => some xs.length
    | _ => none)
  | _ => none
def codes (s : String) : List Nat := s.toList.map Char.toNat
def f1D (f : F1) (a : D) (S : Store) : Res D := match f, a with
  | .len, a => (Res.of (lenD S a) S).bind fun n S => .ok (.int n) S
  | .int, .int i => .ok (.int i) S
  | .int, .bl b => .ok (.int (b2i b)) S
  | .int, .str s => (match digits? s with
    | some n => .ok (.int n) S
    | none => .bad)
  | .str, .int i => if i.natAbs.log2 < 1920 then .ok (.str (codes (toString i))) S else .bad
  | .abs, .int i => .ok (.int (if i < 0 then -i else i)) S
  | _, _ => .bad
def f2D (f : F2) (a b : D) (S : Store) : Res D := match f, a, b with
  | .min, .int i, .int j => .ok (.int (if j < i then j else i)) S
  | .max, .int i, .int j => .ok (.int (if j > i then j else i)) S
  | _, _, _ => .bad
/-- the classes of the package: each class's bases, itself among them -/
abbrev Classes := List (List Nat)
def isKd (Cl : Classes) (S : Store) (d : D) : Kd → Option Bool
  | .int => (match d with
    | .int _ => some true | .bl _ => some true | .exc _ _ => none | _ => some false)
  | .bool => (match d with
    | .bl _ => some true | .exc _ _ => none | _ => some false)
  | .str => (match d with
    | .str _ => some true | .exc _ _ => none | _ => some false)
  | .tuple => (match d with
    | .tup _ => some true | .exc _ _ => none | _ => some false)
  | .list => (match d with
    | .obj n => (match get S n with
      | some (.lst _) => some true | some (.ro _) => some true | some (.dct _) => some false | _ => none)
    | .exc _ _ => none | _ => some false)
  | .dict => (match d with
    | .obj n => (match get S n with
      | some (.lst _) => some false | some (.ro _) => some false | some (.dct _) => some true | _ => none)
    | .exc _ _ => none | _ => some false)
  | .set => none
  | .own c => (match d with
    | .exc k _ => (Cl[k]?).map fun bs => bs.contains c
    | _ => none)
def isKds (Cl : Classes) (S : Store) (d : D) : List Kd → Option Bool
  | [] => some false
  | k :: r => (isKd Cl S d k).bind fun b => if b then some true else isKds Cl S d r
/-- a place from the front or from behind -/
def place (n : Nat) (i : Int) : Option Nat := if 0 ≤ i then (if i < n then some i.toNat else none) else if -(n : Int) ≤ i then some (i + n).toNat else none
def idxD (a i : D) (S : Store) : Res D := match a, i with
  | .str s, .int i => if s.length ≤ line then Res.of (((place s.length i).bind fun j => s[j]?).map fun c => .str [c]) S else .bad
  | .tup xs, .int i => Res.of ((place xs.length i).bind fun j => xs[j]?) S
  | .obj n, i => (match get S n with
    | some (.lst xs) => (match i with
      | .int i => Res.of ((place xs.length i).bind fun j => xs[j]?) S
      | _ => .bad)
    | some (.ro xs) => (match i with
      | .int i => Res.of ((place xs.length i).bind fun j => xs[j]?) S
      | _ => .bad)
    | some (.dct kvs) => if isKey i then Res.of (lookD i kvs) S else .bad
    | some (.dcn kvs) => if keyT i then Res.of (lookD i kvs) S else .bad
    | _ => .bad)
  | _, _ => .bad
def clip (n d : Nat) : Option Int → Nat
  | none => d
  | some i => if i < 0 then (i + n).toNat else min i.toNat n
def cut {α : Type} (xs : List α) (lo hi : Option Int) : List α := (xs.drop (clip xs.length 0 lo)).take (clip xs.length xs.length hi - clip xs.length 0 lo)
def intO : Option D → Option (Option Int)
  | none => some none
  | some (.int i) => some (some i)
  | _ => none
def slD (a : D) (lo hi : Option D) (S : Store) : Res D := match intO lo, intO hi with
  | some l, some h => (match a with
    | .str s => if s.length ≤ line then .ok (.str (cut s l h)) S else .bad
    | .tup xs => .ok (.tup (cut xs l h)) S
    | .obj n => (match get S n with
      | some (.lst xs) => .ok (.obj S.length) (.lst (cut xs l h) :: S)
      | _ => .bad)
    | _ => .bad)
  | _, _ => .bad
def revD (a : D) (S : Store) : Res D := match a with
  | .tup xs => .ok (.tup xs.reverse) S
  | .obj n => (match get S n with
    | some (.lst xs) => .ok (.obj S.length) (.lst xs.reverse :: S)
    | _ => .bad)
  | _ => .bad
/-- what a walk goes over; the second: the object that has to stand meanwhile -/
def items (d : D) (S : Store) : Option (List D × Option Nat) := match d with
  | .str s => some (s.map fun c => .str [c], none)
  | .tup xs => some (xs, none)
  | .obj n => (match get S n with
    | some (.lst xs) => some (xs, some n)
    | some (.ro xs) => some (xs, some n)
    | _ => none)
  | _ => none
/-- as an argument: a tuple, a list -/
def seqD (d : D) (S : Store) : Option (List D) := match d with
  | .tup xs => some xs
  | .obj n => (match get S n with
    | some (.lst xs) => some xs
    | some (.ro xs) => some xs
    | _ => none)
  | _ => none
def isLs (d : D) (S : Store) : Bool := match d with
  | .obj _ => true
  | _ => false
def keysD (d : D) (S : Store) : Option (List D) := match d with
  | .obj n => (match get S n with
    | some (.dct kvs) => if kvs.length < 64 then some (kvs.map (·.1)) else none
    | _ => none)
  | _ => none
def small (i : Int) : Bool := decide (-(2 ^ 62) ≤ i) && decide (i < 2 ^ 62)
def rngL (a b : Int) : List D := (List.range (b - a).toNat).map fun i => .int (a + (i : Nat))
def rngL3 (a b c : Int) : List D := (List.range (if c = -1 then (a - b).toNat else if a < b then ((b - a - 1) / c + 1).toNat else 0)).map fun i => .int (a + (i : Nat) * c)
/-- tuple(range(a, b, c)) -/
def tupRD (x y z : D) (S : Store) : Res D := match x, y, z with
  | .int i, .int j, .int k => if small i && small j && (decide (0 < k) && decide (k < 1073741824)) && decide ((rngL3 i j k).length ≤ line) then .ok (.tup (rngL3 i j k)) S else .bad
  | _, _, _ => .bad
/-- text.split(sign) -/
def splC (c : Nat) : List Nat → List (List Nat)
  | [] => [[]]
  | a :: r => if a = c then [] :: splC c r else (splC c r).modifyHead (a :: ·)
def splitD (x y : D) (S : Store) : Res D := match x, y with
  | .str s, .str [c] => if decide (c < 128) && decide (s.length + 2 ≤ line) then .ok (.obj S.length) (.lst ((splC c s).map .str) :: S) else .bad
  | _, _ => .bad
/-- "0123456789".find(digit) -/
def findD (x y : D) (S : Store) : Res D := match x, y with
  | .str s, .str [c] => if decide (s = [48, 49, 50, 51, 52, 53, 54, 55, 56, 57]) && (decide (48 ≤ c) && decide (c < 58)) then .ok (.int ((c : Int) - 48)) S else .bad
  | _, _ => .bad
/-- xs.insert(i, y) -/
def insD (x i y : D) (S : Store) : Res D := match x, i with
  | .obj n, .int k => (match get S n with
    | some (.lst xs) => if decide (xs.length < line) && (decide (0 ≤ k) && decide (k < 2 ^ 62)) then .ok .non (put S n (.lst (xs.take k.toNat ++ [y] ++ xs.drop k.toNat))) else .bad
    | _ => .bad)
  | _, _ => .bad
def shortS (x : D) (t : List Nat) : Bool := match x with
  | .str s => decide (s.length + t.length ≤ 1000)
  | _ => false
/-- f'{a}t{b}' -/
def fsD (x : D) (t : List Nat) (y : D) (S : Store) : Res D := match x, y with
  | .str s, .int i => if i.natAbs.log2 < 1920 then .ok (.str (s ++ t ++ codes (toString i))) S else .bad
  | _, _ => .bad
def stands (g : Option Nat) (o : Option SO) (S : Store) : Bool := match g with
  | none => true
  | some n => decide (get S n = o)
def obAt (g : Option Nat) (S : Store) : Option SO := g.bind fun n => get S n
def bind1 (t : Tg) (d : D) (env : Env) : Option Env := match t, d with
  | .v i, d => some (env.set i (some d))
  | .tup is, .tup xs => if is.length = xs.length then some ((is.zip xs).foldl (fun e p => e.set p.1 (some p.2)) env) else none
  | _, _ => none
def Tg.ix : Tg → List Nat
  | .v i => [i]
  | .tup is => is
def kill (ks : List Nat) (env : Env) : Env := ks.foldl (fun e k => e.set k none) env
def intsD : List D → Option (List Int)
  | [] => some []
  | .int i :: r => (intsD r).map (i :: ·)
  | _ => none
def bls : List D → Option (List Bool)
  | [] => some []
  | .bl b :: r => (bls r).map (b :: ·)
  | _ => none
def lbls (d : D) (S : Store) : Option (List Bool) := match d with
  | .obj n => (match get S n with
    | some (.lst xs) => bls xs
    | _ => none)
  | _ => none
def leL (a b : List Nat) : Bool := !decide (b < a)
def strsD : List D → Option (List (List Nat))
  | [] => some []
  | .str s :: r => (strsD r).map (s :: ·)
  | _ => none
def joinS (sep : List Nat) : List (List Nat) → List Nat
  | [] => []
  | [s] => s
  | s :: r => s ++ sep ++ joinS sep r
def putD (k v : D) : List (D × D) → List (D × D)
  | [] => [(k, v)]
  | (a, u) :: r => if a = k then (a, v) :: r else (a, u) :: putD k v r
def pairsD : List D → Option (List (D × D))
  | [] => some []
  | k :: v :: r => if isKey k then (pairsD r).map ((k, v) :: ·) else none
  | _ => none
def setIxD (o i v : D) (S : Store) : Option Store := match o with
  | .obj n => (match get S n with
    | some (.lst xs) => (match i with
      | .int i => (place xs.length i).map fun j => put S n (.lst (xs.set j v))
      | _ => none)
    | some (.dct kvs) => if isKey i && decide (kvs.length < 100000) then some (put S n (.dct (putD i v kvs))) else if keyT i && kvs.isEmpty then some (put S n (.dcn [(i, v)])) else none
    | some (.dcn kvs) => if keyT i && decide (kvs.length < 100000) then some (put S n (.dcn (putD i v kvs))) else none
    | _ => none)
  | _ => none
def appD (o v : D) (S : Store) : Res D := match o with
  | .obj n => (match get S n with
    | some (.lst xs) => if xs.length < line then .ok .non (put S n (.lst (xs ++ [v]))) else .bad
    | _ => .bad)
  | _ => .bad
def popD (o : D) (S : Store) : Res D := match o with
  | .obj n => (match get S n with
    | some (.lst xs) => (match xs.getLast? with
      | some v => .ok v (put S n (.lst xs.dropLast))
      | none => .bad)
    | _ => .bad)
  | _ => .bad
def extD (o v : D) (S : Store) : Res D := match o, v with
  | .obj n, .obj m => (match get S n, get S m with
    | some (.lst xs), some (.lst ys) => if xs.length + ys.length ≤ line then .ok .non (put S n (.lst (xs ++ ys))) else .bad
    | _, _ => .bad)
  | _, _ => .bad
def isL (d : D) (S : Store) : Bool := match d with
  | .obj n => (match get S n with
    | some (.lst _) => true
    | _ => false)
  | _ => false
def isS (d : D) : Bool := match d with
  | .str _ => true
  | _ => false
def swD (o v : D) : Option Bool := match o, v with
  | .str a, .str b => some (b.isPrefixOf a)
  | _, _ => none
/-- forget what was laid since S, where nothing points there -/
def envBel (n : Nat) (env : Env) : Bool := env.all fun o => match o with
  | some d => D.bel n d
  | none => true
def trim (S S' : Store) (env : Env) : Store := if S'.length = S.length then S' else
  if envBel S.length env && okOld S.length S (S'.drop (S'.length - S.length)) then S'.drop (S'.length - S.length) else S'
def fin (S S' : Store) (d : D) : Res D := if S'.length = S.length then .ok d S' else
  if okOld S.length S (S'.drop (S'.length - S.length)) then
    (if D.bel S.length d then .ok d (S'.drop (S'.length - S.length)) else match d with
      | .obj m => (match get S' m with
        | some o => if SO.bel S.length o then .ok (.obj S.length) (o :: S'.drop (S'.length - S.length)) else .ok d S'
        | none => .bad)
      | d => .ok d S')
  else .ok d S'
def finX (S S' : Store) (fs : List D) : Store := if S'.length = S.length then S' else
  if D.bels S.length fs && okOld S.length S (S'.drop (S'.length - S.length)) then S'.drop (S'.length - S.length) else S'
/-! ### the order of like values -/
mutual
def toksD : D → List (Int ⊕ List Nat)
  | .bl b => [.inl (if b = true then 1 else 0)]
  | .int n => [.inl n]
  | .str s => [.inr s]
  | .tup xs => toksDs xs
  | _ => []
def toksDs : List D → List (Int ⊕ List Nat)
  | [] => [.inl 0]
  | x :: r => .inl 1 :: (toksD x ++ toksDs r)
end
mutual
def likeD : D → D → Bool
  | .bl _, .bl _ => true
  | .int _, .int _ => true
  | .str _, .str _ => true
  | .tup a, .tup b => likeDs a b
  | _, _ => false
def likeDs : List D → List D → Bool
  | x :: r, y :: t => likeD x y && likeDs r t
  | [], _ => true
  | _ :: _, [] => false
end
def itLt : Int ⊕ List Nat → Int ⊕ List Nat → Bool
  | .inl a, .inl b => decide (a < b)
  | .inl _, .inr _ => true
  | .inr _, .inl _ => false
  | .inr a, .inr b => decide (a < b)
def lexT : List (Int ⊕ List Nat) → List (Int ⊕ List Nat) → Bool
  | [], [] => false
  | [], _ :: _ => true
  | _ :: _, [] => false
  | x :: r, y :: t => itLt x y || (!itLt y x && lexT r t)
def ltT (a b : D) : Bool := lexT (toksD a) (toksD b)
/-- texts, numbers, tuples of them, not deep -/
def flatQ : Nat → D → Bool
  | _, .bl _ => true
  | _, .int _ => true
  | _, .str _ => true
  | n + 1, .tup xs => xs.all (flatQ n)
  | _, _ => false
def minT (x : D) (xs : List D) : D := xs.foldl (fun a y => if ltT y a = true then y else a) x
def minLk (xs : List D) : Bool := xs.all fun a => flatQ 8 a && xs.all fun b => likeD a b
/-- a tuple that is not empty -/
def neT : D → Bool
  | .tup (_ :: _) => true
  | _ => false
/-- in ascending order: whole numbers, texts, like tuples -/
def sortD (xs : List D) : Option (List D) := match intsD xs with
  | some ns => some ((ns.mergeSort fun a b => decide (a ≤ b)).map .int)
  | none => (match strsD xs with
    | some ts => some ((ts.mergeSort leL).map .str)
    | none => if minLk xs && xs.all neT then some (xs.mergeSort fun a b => !ltT b a) else none)
/-! ### the evaluator -/
/-- a comprehension's walk -/
def compL (f : D → Store → Res (Option D)) (g : Store → Bool) : List D → Store → Res (List D)
  | [], S => if g S then .ok [] S else .bad
  | x :: r, S => if g S then (match f x S with
    | .ok o S => (compL f g r S).bind fun ys S => .ok (match o with | some y => y :: ys | none => ys) S
    | _ => .bad) else .bad
/-- rows behind one another -/
def compL2 (f : D → Store → Res (List D)) (g : Store → Bool) : List D → Store → Res (List D)
  | [], S => if g S then .ok [] S else .bad
  | x :: r, S => if g S then (match f x S with
    | .ok zs S => (compL2 f g r S).bind fun ys S => .ok (zs ++ ys) S
    | _ => .bad) else .bad
/-- the exception at hand: its class, its fields -/
abbrev Exn := Option (Nat × List D)
structure Ctx where
  Φ : Exn → Calls
  G : List D
  Cl : Classes
  exn : Exn
mutual
def evE (C : Ctx) : Exp → Env → Store → Res D
  | .c d, _, S => .ok d S
  | .v i, env, S => (match env[i]? with
    | some (some d) => .ok d S
    | _ => .bad)
  | .g i, _, S => Res.of (C.G[i]?) S
  | .bin o a b, env, S => (evE C a env S).bind fun x S => (evE C b env S).bind fun y S => binD o x y S
  | .neg a, env, S => (evE C a env S).bind fun x S => (match x with
    | .int i => .ok (.int (-i)) S
    | _ => .bad)
  | .notV a, env, S => (evE C a env S).bind fun x S => (match x with
    | .bl b => .ok (.bl (!b)) S
    | _ => .bad)
  | .andV a b, env, S => (evE C a env S).bind fun x S => (match x with
    | .bl b' => if b' then evE C b env S else .ok (.bl false) S
    | _ => .bad)
  | .orV a b, env, S => (evE C a env S).bind fun x S => (match x with
    | .bl b' => if b' then .ok (.bl true) S else evE C b env S
    | _ => .bad)
  | .cmp o a b, env, S => (evE C a env S).bind fun x S => (evE C b env S).bind fun y S => (Res.of (cmpD S o x y) S).bind fun c S => .ok (.bl c) S
  | .chn o p a b c, env, S => (evE C a env S).bind fun x S => (evE C b env S).bind fun y S => (Res.of (cmpD S o x y) S).bind fun k S =>
      if k then (evE C c env S).bind fun z S => (Res.of (cmpD S p y z) S).bind fun k S => .ok (.bl k) S else .ok (.bl false) S
  | .ife t a b, env, S => (evT C t env S).bind fun k S => if k then evE C a env S else evE C b env S
  | .call f as, env, S => (evEs C as env S).bind fun ds S => C.Φ none f ds S
  | .hcall f as, env, S => (evEs C as env S).bind fun ds S => C.Φ none f ds S
  | .hot f, _, S => if C.exn.isSome then (match C.Φ C.exn f [] S with
    | .ok d S => .ok d S
    | _ => .bad) else .bad
  | .isX cs, _, S => (match C.exn with
    | some (c, _) => (match C.Cl[c]? with
      | some bs => .ok (.bl (cs.any fun k => bs.contains k)) S
      | none => .bad)
    | none => .bad)
  | .xf cs k, _, S => (match C.exn with
    | some (c, fs) => if cs.contains c then Res.of fs[k]? S else .bad
    | none => .bad)
  | .anyH a, env, S => (evE C a env S).bind fun x S => (Res.of (lbls x S) S).bind fun k S => .ok (.bl (k.any id)) S
  | .f1 f a, env, S => (evE C a env S).bind fun x S => f1D f x S
  | .f2 f a b, env, S => (evE C a env S).bind fun x S => (evE C b env S).bind fun y S => f2D f x y S
  | .isI a ks, env, S => (evE C a env S).bind fun x S => (Res.of (isKds C.Cl S x ks) S).bind fun k S => .ok (.bl k) S
  | .idx a b, env, S => (evE C a env S).bind fun x S => (evE C b env S).bind fun y S => idxD x y S
  | .sl a lo hi, env, S => (evE C a env S).bind fun x S => (evO C lo env S).bind fun l S => (evO C hi env S).bind fun h S => slD x l h S
  | .rev a, env, S => (evE C a env S).bind fun x S => revD x S
  | .tupR a b c, env, S => (evE C a env S).bind fun x S => (evE C b env S).bind fun y S => (evE C c env S).bind fun z S => tupRD x y z S
  | .split a b, env, S => (evE C a env S).bind fun x S => if isS x then (evE C b env S).bind fun y S => splitD x y S else .bad
  | .find a b, env, S => (evE C a env S).bind fun x S => if isS x then (evE C b env S).bind fun y S => findD x y S else .bad
  | .insl o i a, env, S => (evE C o env S).bind fun x S => if isL x S then (evE C i env S).bind fun y S => (evE C a env S).bind fun z S => insD x y z S else .bad
  | .fs a t b, env, S => (evE C a env S).bind fun x S => if shortS x t then (evE C b env S).bind fun y S => fsD x t y S else .bad
  | .tup es, env, S => (evEs C es env S).bind fun ds S => .ok (.tup ds) S
  | .ls l, env, S => (evL C l env S).bind fun p S => .ok (.obj S.length) (.lst p.1 :: S)
  | .dct es, env, S => (evEs C es env S).bind fun ds S => (match pairsD ds with
    | some m => if ds.length ≤ 30 then .ok (.obj S.length) (.dct (m.foldl (fun m p => putD p.1 p.2 m) []) :: S) else .bad
    | none => .bad)
  | .tupOf l, env, S => (evL C l env S).bind fun p S => .ok (.tup p.1) S
  | .allOf l, env, S => (evL C l env S).bind fun p S => (Res.of (bls p.1) S).bind fun k S => .ok (.bl (k.all id)) S
  | .anyOf l, env, S => (evL C l env S).bind fun p S => (Res.of (bls p.1) S).bind fun k S => .ok (.bl (k.any id)) S
  | .sumOf l, env, S => (evL C l env S).bind fun p S => (Res.of (intsD p.1) S).bind fun k S => .ok (.int k.sum) S
  | .minOf l, env, S => (evL C l env S).bind fun p S => (match intsD p.1 with
    | some (x :: r) => .ok (.int (r.foldl min x)) S
    | _ => (match p.1 with
      | x :: r => if minLk (x :: r) = true then .ok (minT x r) S else .bad
      | [] => .bad))
  | .maxOf l, env, S => (evL C l env S).bind fun p S => (match intsD p.1 with
    | some (x :: r) => .ok (.int (r.foldl max x)) S
    | _ => .bad)
  | .sorted l, env, S => (evL C l env S).bind fun p S => (match sortD p.1 with
    | some ys => .ok (.obj S.length) (.lst ys :: S)
    | none => .bad)
  | .join a l, env, S => (evE C a env S).bind fun x S => if isS x then (evL C l env S).bind fun p S => (match x, strsD p.1 with
    | .str s, some ts => if (ts.map (·.length)).sum + ts.length * s.length ≤ line then .ok (.str (joinS s ts)) S else .bad
    | _, _ => .bad) else .bad
  | .app o a, env, S => (evE C o env S).bind fun x S => if isL x S then (evE C a env S).bind fun y S => appD x y S else .bad
  | .pop o, env, S => (evE C o env S).bind fun x S => if isL x S then popD x S else .bad
  | .ext o a, env, S => (evE C o env S).bind fun x S => if isL x S then (evE C a env S).bind fun y S => extD x y S else .bad
  | .sw o a, env, S => (evE C o env S).bind fun x S => if isS x then (evE C a env S).bind fun y S => (Res.of (swD x y) S).bind fun k S => .ok (.bl k) S else .bad
def evEs (C : Ctx) : List Exp → Env → Store → Res (List D)
  | [], _, S => .ok [] S
  | e :: r, env, S => (evE C e env S).bind fun x S => (evEs C r env S).bind fun xs S => .ok (x :: xs) S
def evO (C : Ctx) : Option Exp → Env → Store → Res (Option D)
  | none, _, S => .ok none S
  | some e, env, S => (evE C e env S).bind fun x S => (match x with
    | .int i => .ok (some (.int i)) S
    | _ => .bad)
def evL (C : Ctx) : Src → Env → Store → Res (List D × Option Nat)
  | .val e, env, S => (evE C e env S).bind fun x S => Res.of (items x S) S
  | .seq e, env, S => (evE C e env S).bind fun x S => Res.of ((seqD x S).map fun xs => (xs, none)) S
  | .lis e, env, S => (evE C e env S).bind fun x S => if isLs x S then Res.of ((seqD x S).map fun xs => (xs, none)) S else .bad
  | .keys e, env, S => (evE C e env S).bind fun x S => Res.of ((keysD x S).map fun xs => (xs, none)) S
  | .rng a, env, S => (evE C a env S).bind fun x S => (match x with
    | .int i => if small i then .ok (rngL 0 i, none) S else .bad
    | _ => .bad)
  | .rng2 a b, env, S => (evE C a env S).bind fun x S => (evE C b env S).bind fun y S => (match x, y with
    | .int i, .int j => if small i && small j then .ok (rngL i j, none) S else .bad
    | _, _ => .bad)
  | .rng3 a b c, env, S => (evE C a env S).bind fun x S => (evE C b env S).bind fun y S => (evE C c env S).bind fun z S => (match x, y, z with
    | .int i, .int j, .int k => if small i && small j && (decide (k = -1) || (decide (0 < k) && decide (k < 1073741824))) then .ok (rngL3 i j k, none) S else .bad
    | _, _, _ => .bad)
  | .disp es, env, S => (evEs C es env S).bind fun xs S => .ok (xs, none) S
  | .comp e t l ifs, env, S => (evL C l env S).bind fun p S => if p.1.length ≤ line then
      (compL (fun x S => match bind1 t x (kill t.ix env) with
        | some env => (match evTs C ifs env S with
          | .ok true S => (match evE C e env S with
            | .ok y S => .ok (some y) S
            | _ => .bad)
          | .ok false S => .ok none S
          | _ => .bad)
        | none => .bad) (stands p.2 (obAt p.2 S)) p.1 S).bind fun ys S => .ok (ys, none) S else .bad
  | .zip a b, env, S => (evE C a env S).bind fun x S => (evE C b env S).bind fun y S => (match x, y with
    | .tup xs, .tup ys => .ok ((xs.zip ys).map fun z => .tup [z.1, z.2], none) S
    | _, _ => .bad)
  | .comp2 e t l ifs t1 l1 ifs1, env, S => (evL C l env S).bind fun p S => if p.1.length ≤ line then
      (compL2 (fun x S => match bind1 t x (kill (t.ix ++ t1.ix) env) with
        | some env => (match evTs C ifs env S with
          | .ok true S => (match evL C l1 env S with
            | .ok p1 S => if p1.1.length ≤ line then compL (fun x S => match bind1 t1 x (kill t1.ix env) with
                | some env => (match evTs C ifs1 env S with
                  | .ok true S => (match evE C e env S with
                    | .ok y S => .ok (some y) S
                    | _ => .bad)
                  | .ok false S => .ok none S
                  | _ => .bad)
                | none => .bad) (stands p1.2 (obAt p1.2 S)) p1.1 S else .bad
            | _ => .bad)
          | .ok false S => .ok [] S
          | _ => .bad)
        | none => .bad) (stands p.2 (obAt p.2 S)) p.1 S).bind fun ys S => if ys.length ≤ line then .ok (ys, none) S else .bad else .bad
def evT (C : Ctx) : Tst → Env → Store → Res Bool
  | .val e, env, S => (evE C e env S).bind fun x S => Res.of (truth S x) S
  | .not t, env, S => (evT C t env S).bind fun k S => .ok (!k) S
  | .and a b, env, S => (evT C a env S).bind fun k S => if k then evT C b env S else .ok false S
  | .or a b, env, S => (evT C a env S).bind fun k S => if k then .ok true S else evT C b env S
def evTs (C : Ctx) : List Tst → Env → Store → Res Bool
  | [], _, S => .ok true S
  | t :: r, env, S => (evT C t env S).bind fun k S => if k then evTs C r env S else .ok false S
end
inductive Flow where | nx (env : Env) | rt (d : D) | bk (env : Env) | ct (env : Env) | ex (c : Nat) (fs : List D) (env : Env)
/-- an expression within a statement: what it raises leaves the statement -/
def Res.st {α : Type} (r : Res α) (env : Env) (k : α → Store → Res Flow) : Res Flow := match r with
  | .ok a S => k a S
  | .exc c fs S => .ok (.ex c fs env) S
  | .bad => .bad
def loopL (f : D → Env → Store → Res Flow) (ks : List Nat) (g : Store → Bool) : List D → Env → Store → Res Flow
  | [], env, S => if g S then .ok (.nx env) S else .bad
  | x :: r, env, S => if g S then (f x env S).bind fun fl S' => (match fl with
    | .nx env => loopL f ks g r (kill ks env) (trim S S' (kill ks env))
    | .ct env => loopL f ks g r (kill ks env) (trim S S' (kill ks env))
    | .bk env => .ok (.nx (kill ks env)) S'
    | .rt d => .ok (.rt d) S'
    | .ex c fs env => .ok (.ex c fs env) S') else .bad
def whlL (t : Env → Store → Res Bool) (f : Env → Store → Res Flow) (ks : List Nat) : Nat → Env → Store → Res Flow
  | 0, _, _ => .bad
  | n + 1, env, S => (t env S).st env fun k S1 => if k then (f env S1).bind fun fl S' => (match fl with
    | .nx env => whlL t f ks n (kill ks env) (trim S S' (kill ks env))
    | .ct env => whlL t f ks n (kill ks env) (trim S S' (kill ks env))
    | .bk env => .ok (.nx (kill ks env)) S'
    | .rt d => .ok (.rt d) S'
    | .ex c fs env => .ok (.ex c fs env) S') else .ok (.nx env) S1
abbrev turns : Nat := 1000000000
/-- fields of an exception: numbers that are not too long -/
def fldOk (ds : List D) : Bool := ds.all fun d => match d with
  | .int i => decide (i.natAbs.log2 < 1920)
  | _ => false
def catches (Cl : Classes) (c : Nat) (cs : List Nat) : Bool := ((Cl[c]?).getD []).any fun b => cs.contains b
mutual
def evS (C : Ctx) : Stm → Env → Store → Res Flow
  | .pass, env, S => .ok (.nx env) S
  | .ex e, env, S => (evE C e env S).st env fun _ S => .ok (.nx env) S
  | .set t e, env, S => (evE C e env S).st env fun x S => (match bind1 t x env with
    | some env => .ok (.nx env) S
    | none => .bad)
  | .setIx o i e, env, S => (evE C e env S).st env fun x S => (evE C o env S).st env fun y S => (evE C i env S).st env fun z S => (match setIxD y z x S with
    | some S => .ok (.nx env) S
    | none => .bad)
  | .ite t a b, env, S => (evT C t env S).st env fun k S => if k then evSs C a env S else evSs C b env S
  | .forS t l body ks, env, S => (evL C l env S).st env fun p S => loopL (fun x env S => match bind1 t x env with
    | some env => evSs C body env S
    | none => .bad) ks (stands p.2 (obAt p.2 S)) p.1 env S
  | .whl t body ks, env, S => whlL (evT C t) (evSs C body) ks turns env S
  | .ret e, env, S => (evE C e env S).st env fun x S => .ok (.rt x) S
  | .brk, env, S => .ok (.bk env) S
  | .cont, env, S => .ok (.ct env) S
  | .rais c es, env, S => (evEs C es env S).st env fun ds S => if fldOk ds then .ok (.ex c ds env) S else .bad
  | .tryS body hs, env, S => (evSs C body env S).bind fun fl S => (match fl with
    | .ex c fs env => evH C hs c fs env S
    | fl => .ok fl S)
  | .kill ks, env, S => .ok (.nx (kill ks env)) S
def evH (C : Ctx) : List (List Nat × Option Nat × List Stm) → Nat → List D → Env → Store → Res Flow
  | [], c, fs, env, S => .ok (.ex c fs env) S
  | (cs, sl, suite) :: r, c, fs, env, S => if catches C.Cl c cs then
      (match sl with
      | some i => if i < env.length then (evSs { C with exn := some (c, fs) } suite (env.set i none) S).bind fun fl S => (match fl with
        | .nx env => .ok (.nx (env.set i none)) S
        | .rt d => .ok (.rt d) S
        | _ => .bad) else .bad
      | none => (evSs { C with exn := some (c, fs) } suite env S).bind fun fl S => (match fl with
        | .nx env => .ok (.nx env) S
        | .rt d => .ok (.rt d) S
        | _ => .bad)) else evH C r c fs env S
def evSs (C : Ctx) : List Stm → Env → Store → Res Flow
  | [], env, S => .ok (.nx env) S
  | s :: r, env, S => (evS C s env S).bind fun fl S => (match fl with
    | .nx env => evSs C r env S
    | fl => .ok fl S)
end
structure Fn where
  np : Nat
  nl : Nat
  body : List Stm
def evFn (C : Ctx) (f : Fn) (ds : List D) (S : Store) : Res D :=
  if C.exn.isSome ∨ ds.length = f.np then match evSs C f.body (if C.exn.isSome then List.replicate f.nl none else ds.map some ++ List.replicate (f.nl - f.np) none) S with
    | .ok (.rt d) S' => fin S S' d
    | .ok (.nx _) S' => fin S S' .non
    | .ok (.ex c fs _) S' => .exc c fs (finX S S' fs)
    | _ => .bad
  else .bad
structure Prg where
  fns : List Fn
  G : List D
  Cl : Classes
def den (p : Prg) : Nat → Exn → Calls
  | 0, _, _, _, _ => .bad
  | n + 1, x, i, ds, S => (match p.fns[i]? with
    | some f => evFn ⟨den p n, p.G, p.Cl, x⟩ f ds S
    | none => .bad)
end Pw
end
section
set_option Elab.async false
set_option linter.all false
set_option maxRecDepth 100000
set_option maxHeartbeats 1000000
set_option autoImplicit false
/-! Pw1: how values, stores and rows of slots of Pw0 lie over the hand layer's abstract heap -/
namespace Pw
open PySem PySem.Spec PyProof.Rows L2
/-- the world; the exception at hand: its address, its slot, its dict -/
abbrev Ex1 := World × Option (Addr × Nat × Option (Addr × List (Str × V)))
mutual
inductive Rp (K : PySem.W.Frag) (φ : Nat → Addr) (ex : Ex1) (H : Hp) : V → D → Prop
  | non : Rp K φ ex H .non .non
  | bl (b : Bool) : Rp K φ ex H (.bl b) (.bl b)
  | int (i : Int) : Rp K φ ex H (.int i) (.int i)
  | str (x : Str) : Rp K φ ex H (.str x) (.str x.cps.toList)
  | tup {a : Addr} {vs : List V} {ds : List D} : SqT K H a vs → RpA K φ ex H vs ds → Rp K φ ex H (.ref a) (.tup ds)
  | obj (n : Nat) : Rp K φ ex H (.ref (φ n)) (.obj n)
  | exc {a : Addr} {c : Nat} {fs : List D} : False → Rp K φ ex H (.ref a) (.exc c fs)
inductive RpA (K : PySem.W.Frag) (φ : Nat → Addr) (ex : Ex1) (H : Hp) : List V → List D → Prop
  | nil : RpA K φ ex H [] []
  | cons {v : V} {d : D} {vs : List V} {ds : List D} : Rp K φ ex H v d → RpA K φ ex H vs ds → RpA K φ ex H (v :: vs) (d :: ds)
end
/-- tuples and known things stay -/
structure Kp (H H' : Hp) : Prop where
  tup : ∀ a vs, H a = some (.tup vs) → H' a = some (.tup vs)
  frz : ∀ a o u, H a = some (.frz o u) → H' a = some (.frz o u)
  xd : ∀ a fs, H a = some (.xd fs) → H' a = some (.xd fs)
theorem Kp.refl {H : Hp} : Kp H H := ⟨fun _ _ h => h, fun _ _ _ h => h, fun _ _ h => h⟩
theorem Kp.trans {H H1 H2 : Hp} (a : Kp H H1) (b : Kp H1 H2) : Kp H H2 := ⟨fun x v h => b.tup x v (a.tup x v h), fun x o u h => b.frz x o u (a.frz x o u h), fun x fs h => b.xd x fs (a.xd x fs h)⟩
theorem Kp.new {H : Hp} {p : Addr} {o : HO} (h : H p = none) : Kp H (upd H p o) :=
  ⟨fun a vs e => by rw [upd_ne (ne_of_none e h)]; exact e, fun a x u e => by rw [upd_ne (ne_of_none e h)]; exact e, fun a x e => by rw [upd_ne (ne_of_none e h)]; exact e⟩
theorem Kp.set {H : Hp} {p : Addr} {o o' : HO} (h : H p = some o) (hm : Mut (some o)) : Kp H (upd H p o') :=
  ⟨fun a vs e => by
    have ne : a ≠ p := fun z => by subst z; rw [e] at h; cases h; exact hm
    rw [upd_ne ne]; exact e, fun a x u e => by
    have ne : a ≠ p := fun z => by subst z; rw [e] at h; cases h; exact hm
    rw [upd_ne ne]; exact e, fun a x e => by
    have ne : a ≠ p := fun z => by subst z; rw [e] at h; cases h; exact hm
    rw [upd_ne ne]; exact e⟩
section
variable {K : PySem.W.Frag} {φ φ' : Nat → Addr} {ex : Ex1} {H H' : Hp}
theorem sqT_kp {a : Addr} {vs : List V} (h : SqT K H a vs) (k : Kp H H') : SqT K H' a vs := by
  rcases h with (h | ⟨o, h⟩) | h
  · exact .inl (.inl (k.tup _ _ h))
  · exact .inl (.inr ⟨o, k.frz _ _ _ h⟩)
  · exact .inr h
theorem bels_all {n : Nat} : ∀ {ds : List D}, D.bels n ds = true ↔ ∀ d ∈ ds, D.bel n d = true
  | [] => by simp [D.bels]
  | d :: r => by simp [D.bels, bels_all (ds := r)]
mutual
theorem Rp.mono {n : Nat} : ∀ {v : V} {d : D}, Rp K φ ex H v d → D.bel n d = true → (∀ m, m < n → φ' m = φ m) → Kp H H' → Rp K φ' ex H' v d
  | _, _, .non, _, _, _ => .non
  | _, _, .bl b, _, _, _ => .bl b
  | _, _, .int i, _, _, _ => .int i
  | _, _, .str x, _, _, _ => .str x
  | _, _, .tup h r, b, e, k => .tup (sqT_kp h k) (RpA.mono r (by simpa [D.bel] using b) e k)
  | _, _, .obj m, b, e, _ => by
    have hm : m < n := by simpa [D.bel] using b
    rw [← e m hm]
    exact .obj m
  | _, _, .exc h, _, _, _ => .exc h
theorem RpA.mono {n : Nat} : ∀ {vs : List V} {ds : List D}, RpA K φ ex H vs ds → D.bels n ds = true → (∀ m, m < n → φ' m = φ m) → Kp H H' → RpA K φ' ex H' vs ds
  | _, _, .nil, _, _, _ => .nil
  | _, _, .cons r t, b, e, k => by
    simp only [D.bels, Bool.and_eq_true] at b
    exact .cons (Rp.mono r b.1 e k) (RpA.mono t b.2 e k)
end
mutual
theorem D.bel_mono {m n : Nat} (h : m ≤ n) : ∀ d : D, D.bel m d = true → D.bel n d = true
  | .non, _ => rfl
  | .bl _, _ => rfl
  | .int _, _ => rfl
  | .str _, _ => rfl
  | .obj k, b => by
    have : k < m := by simpa [D.bel] using b
    show Nat.blt k n = true
    exact Nat.ble_eq_true_of_le (by omega)
  | .tup xs, b => by simp only [D.bel] at b ⊢; exact D.bels_mono h xs b
  | .exc _ xs, b => by simp only [D.bel] at b ⊢; exact D.bels_mono h xs b
theorem D.bels_mono {m n : Nat} (h : m ≤ n) : ∀ ds : List D, D.bels m ds = true → D.bels n ds = true
  | [], _ => rfl
  | d :: r, b => by
    simp only [D.bels, Bool.and_eq_true] at b ⊢
    exact ⟨D.bel_mono h d b.1, D.bels_mono h r b.2⟩
end
theorem SO.bel_mono {m n : Nat} (h : m ≤ n) (o : SO) (b : o.bel m = true) : o.bel n = true := by
  cases o with
  | lst xs => exact D.bels_mono h _ b
  | ro xs => exact D.bels_mono h _ b
  | set xs => exact D.bels_mono h _ b
  | ins c fs => exact D.bels_mono h _ b
  | dct kvs =>
    simp only [SO.bel, Bool.and_eq_true] at b ⊢
    exact ⟨D.bels_mono h _ b.1, D.bels_mono h _ b.2⟩
  | dcn kvs =>
    simp only [SO.bel, Bool.and_eq_true] at b ⊢
    exact ⟨D.bels_mono h _ b.1, D.bels_mono h _ b.2⟩
theorem RpA.length {vs : List V} {ds : List D} (r : RpA K φ ex H vs ds) : vs.length = ds.length := by
  induction ds generalizing vs with
  | nil => cases r; rfl
  | cons d t ih => cases r with | cons _ r => simp [ih r]
theorem RpA.get {vs : List V} {ds : List D} (r : RpA K φ ex H vs ds) {i : Nat} : (∀ d, ds[i]? = some d → ∃ v, vs[i]? = some v ∧ Rp K φ ex H v d) := by
  induction ds generalizing vs i with
  | nil => intro d e; simp at e
  | cons d t ih => cases r with
    | cons q r => cases i with
      | zero => intro e h; simp at h; subst h; exact ⟨_, rfl, q⟩
      | succ i => intro e h; simpa using ih r e (by simpa using h)
theorem RpA.getv {vs : List V} {ds : List D} (r : RpA K φ ex H vs ds) {i : Nat} {v : V} (h : vs[i]? = some v) : ∃ d, ds[i]? = some d ∧ Rp K φ ex H v d := by
  induction ds generalizing vs i with
  | nil => cases r; simp at h
  | cons d t ih => cases r with
    | cons q r => cases i with
      | zero => simp at h; subst h; exact ⟨_, rfl, q⟩
      | succ i => simpa using ih r (by simpa using h)
theorem RpA.append {vs ws : List V} {ds es : List D} (r : RpA K φ ex H vs ds) (s : RpA K φ ex H ws es) : RpA K φ ex H (vs ++ ws) (ds ++ es) := by
  induction ds generalizing vs with
  | nil => cases r; exact s
  | cons d t ih => cases r with | cons q r => exact .cons q (ih r)
theorem RpA.take {vs : List V} {ds : List D} (r : RpA K φ ex H vs ds) (n : Nat) : RpA K φ ex H (vs.take n) (ds.take n) := by
  induction ds generalizing vs n with
  | nil => cases r; simp; exact .nil
  | cons d t ih => cases r with
    | cons q r => cases n with
      | zero => exact .nil
      | succ n => exact .cons q (ih r n)
theorem RpA.drop {vs : List V} {ds : List D} (r : RpA K φ ex H vs ds) (n : Nat) : RpA K φ ex H (vs.drop n) (ds.drop n) := by
  induction ds generalizing vs n with
  | nil => cases r; simp; exact .nil
  | cons d t ih => cases r with
    | cons q r => cases n with
      | zero => exact .cons q r
      | succ n => exact ih r n
theorem RpA.set {vs : List V} {ds : List D} {v : V} {d : D} (r : RpA K φ ex H vs ds) (q : Rp K φ ex H v d) (i : Nat) : RpA K φ ex H (vs.set i v) (ds.set i d) := by
  induction ds generalizing vs i with
  | nil => cases r; exact .nil
  | cons e t ih => cases r with
    | cons p r => cases i with
      | zero => exact .cons q r
      | succ i => exact .cons p (ih r i)
theorem RpA.reverse {vs : List V} {ds : List D} (r : RpA K φ ex H vs ds) : RpA K φ ex H vs.reverse ds.reverse := by
  induction ds generalizing vs with
  | nil => cases r; exact .nil
  | cons e t ih => cases r with
    | cons p r =>
      rw [List.reverse_cons, List.reverse_cons]
      exact (ih r).append (.cons p .nil)
end
/-- a list that nobody writes: locked -/
def RoL (H : Hp) (a : Addr) (vs : List V) : Prop := ∃ o, H a = some (.frz o (.lst vs))
theorem RoL.sq {K : PySem.W.Frag} {H : Hp} {a : Addr} {vs : List V} (h : RoL H a vs) : SqL K H a vs := by
  obtain ⟨o, h⟩ := h
  exact .inl (.inr ⟨o, h⟩)
theorem RoL.kp {H H' : Hp} {a : Addr} {vs : List V} (h : RoL H a vs) (k : Kp H H') : RoL H' a vs := by
  obtain ⟨o, h⟩ := h
  exact ⟨o, k.frz _ _ _ h⟩
mutual
/-- a key that is a tuple, as the model's dicts know it -/
def keyN : D → NestedKey
  | .int i => .num i
  | .str l => .text ⟨l.toArray⟩
  | .tup xs => .tup (keyNs xs)
  | _ => .none
def keyNs : List D → List NestedKey
  | [] => []
  | x :: r => keyN x :: keyNs r
end
def entN (wd : World) (x : NestedKey × Addr × Value) : DictEntry := ⟨x.1.hash wd, .ref x.2.1, x.2.2⟩
/-- the object of a dict whose keys are tuples -/
def dN (wd : World) (a : Addr) (xs : List (NestedKey × Addr × Value)) : HO := .ext fun h => ∃ (o : Obj) (es : Array DictEntry) (ep : Nat), h.get? a = some o ∧ o.ExactDict ∧ o.data = .dict es ep ∧ es.toList = xs.map (entN wd) ∧ (xs.map (·.1)).Nodup
/-- what an object of the store is at its address -/
def ObR (K : PySem.W.Frag) (φ : Nat → Addr) (ex : Ex1) (H : Hp) (a : Addr) : SO → Prop
  | .lst ds => ∃ vs, H a = some (.lst vs) ∧ RpA K φ ex H vs ds
  | .ro ds => ∃ vs, RoL H a vs ∧ RpA K φ ex H vs ds
  | .dct kvs => ∃ ws : List (Key × V), H a = some (.dK ws) ∧ RpA K φ ex H (ws.map fun p => kV p.1) (kvs.map (·.1)) ∧ RpA K φ ex H (ws.map (·.2)) (kvs.map (·.2)) ∧ (ws.map (·.1)).Nodup
  | .dcn kvs => ∃ (xs : List (NestedKey × Addr × Value)) (vs : List V), H a = some (dN ex.1 a xs) ∧ (a == sysModules) = false ∧ RpA K φ ex H (xs.map fun x => V.ref x.2.1) (kvs.map (·.1)) ∧ Vals vs (xs.map (·.2.2)) ∧ RpA K φ ex H vs (kvs.map (·.2)) ∧ xs.map (·.1) = kvs.map (fun p => keyN p.1) ∧ ∀ p ∈ kvs, keyT p.1 = true
  | .set _ => False
  | .ins _ _ => False
/-- it may be written -/
def SO.mu : SO → Bool
  | .ro _ => false
  | _ => true
theorem get_lt {S : Store} {n : Nat} {o : SO} (h : get S n = some o) : n < S.length := by
  induction S with
  | nil => cases h
  | cons x r ih =>
    simp only [get] at h
    split at h
    · subst n; simp
    · have := ih h
      simp only [List.length_cons]
      omega
theorem get_some {S : Store} {n : Nat} (h : n < S.length) : ∃ o, get S n = some o := by
  induction S with
  | nil => simp at h
  | cons x r ih =>
    simp only [get]
    split
    · exact ⟨_, rfl⟩
    · exact ih (by simp only [List.length_cons] at h; omega)
theorem get_new {S : Store} {o : SO} : get (o :: S) S.length = some o := by simp [get]
theorem get_old {S : Store} {o : SO} {n : Nat} (h : n < S.length) : get (o :: S) n = get S n := by simp only [get]; rw [if_neg (by omega)]
theorem get_drop {S : Store} {k n : Nat} (h : n < (S.drop k).length) : get (S.drop k) n = get S n := by
  induction k generalizing S with
  | zero => rfl
  | succ k ih => cases S with
    | nil => rfl
    | cons x r =>
      rw [List.drop_succ_cons] at h ⊢
      rw [ih h, get_old]
      rw [List.length_drop] at h
      omega
@[simp] theorem put_length {S : Store} {n : Nat} {o : SO} : (put S n o).length = S.length := by
  induction S with
  | nil => rfl
  | cons x r ih =>
    simp only [put]
    split <;> simp [ih]
theorem get_put {S : Store} {n m : Nat} {o : SO} (h : n < S.length) : get (put S n o) m = if m = n then some o else get S m := by
  induction S with
  | nil => simp at h
  | cons x r ih =>
    simp only [put]
    by_cases e : n = r.length
    · subst e
      simp only [if_pos, get]
      all_goals (split <;> rfl)
    · rw [if_neg e]
      have hn : n < r.length := by simp only [List.length_cons] at h; omega
      simp only [get, put_length]
      by_cases e2 : m = r.length
      · subst e2; rw [if_pos rfl, if_pos rfl, if_neg (Ne.symm e)]
      · rw [if_neg e2, if_neg e2]; exact ih hn
/-- the store over the heap -/
structure SimO (K : PySem.W.Frag) (φ : Nat → Addr) (ex : Ex1) (H : Hp) (S : Store) : Prop where
  ob : ∀ n o, get S n = some o → ObR K φ ex H (φ n) o
  wf : ∀ n o, get S n = some o → o.bel S.length = true
  inj : ∀ m n om on, get S m = some om → get S n = some on → om.mu = true → on.mu = true → φ m = φ n → m = n
/-- the slots -/
structure SimE (K : PySem.W.Frag) (φ : Nat → Addr) (ex : Ex1) (H : Hp) (n : Nat) (σ : List (Option V)) (env : Env) : Prop where
  len : σ.length = env.length
  at_ : ∀ (i : Nat) (d : D), env[i]? = some (some d) → ∃ v, σ[i]? = some (some v) ∧ Rp K φ ex H v d ∧ D.bel n d = true
  xs : ∀ a i x, ex.2 = some (a, i, x) → σ[i]? = some (some (.ref a))
  xd : ∀ a i d fs, ex.2 = some (a, i, some (d, fs)) → H d = some (.xd fs)
structure Sim (K : PySem.W.Frag) (φ : Nat → Addr) (ex : Ex1) (H : Hp) (S : Store) (σ : List (Option V)) (env : Env) : Prop where
  o : SimO K φ ex H S
  e : SimE K φ ex H S.length σ env
/-- later: the store has grown (or not), the addresses are as before -/
structure Lat (φ φ' : Nat → Addr) (S S' : Store) (H H' : Hp) : Prop where
  le : S.length ≤ S'.length
  same : ∀ m, m < S.length → φ' m = φ m
  kp : Kp H H'
  fr : ∀ a o, H a = some o → (∀ n, n < S.length → φ n ≠ a) → H' a = some o
  nw : ∀ n, S.length ≤ n → n < S'.length → H (φ' n) = none
  no : ∀ a, H' a = none → H a = none
/-- what a walk's state asks of what lies between: old objects where they stood, known things as they were -/
structure LatW (φ φ' : Nat → Addr) (S S' : Store) (H H' : Hp) : Prop where
  le : S.length ≤ S'.length
  same : ∀ m, m < S.length → φ' m = φ m
  kp : Kp H H'
theorem Lat.w {φ φ' : Nat → Addr} {S S' : Store} {H H' : Hp} (l : Lat φ φ' S S' H H') : LatW φ φ' S S' H H' := ⟨l.le, l.same, l.kp⟩
section
variable {K : PySem.W.Frag} {φ φ' φ1 : Nat → Addr} {ex : Ex1} {H H' H1 : Hp} {S S' S1 : Store} {σ : List (Option V)} {env : Env} {v : V} {d : D}
theorem Lat.refl : Lat φ φ S S H H := ⟨Nat.le_refl _, fun _ _ => rfl, Kp.refl, fun _ _ h _ => h, fun n h1 h2 => absurd h2 (by omega), fun _ h => h⟩
theorem Lat.trans (a : Lat φ φ1 S S1 H H1) (b : Lat φ1 φ' S1 S' H1 H') : Lat φ φ' S S' H H' := by
  refine ⟨Nat.le_trans a.le b.le, fun m h => (b.same m (Nat.lt_of_lt_of_le h a.le)).trans (a.same m h), a.kp.trans b.kp, ?_, ?_, fun x h => a.no x (b.no x h)⟩
  · intro x o h hn
    refine b.fr x o (a.fr x o h hn) fun n hl z => ?_
    by_cases hs : n < S.length
    · rw [a.same n hs] at z; exact hn n hs z
    · have := a.nw n (by omega) hl
      rw [z, h] at this
      cases this
  · intro n h1 h2
    by_cases hs : n < S1.length
    · rw [b.same n hs]; exact a.nw n h1 hs
    · exact a.no _ (b.nw n (by omega) h2)
/-- the heap alone, a new thing -/
theorem Lat.newT {p : Addr} {o : HO} (hp : H p = none) : Lat φ φ S S H (upd H p o) :=
  ⟨Nat.le_refl _, fun _ _ => rfl, Kp.new hp, fun a u h _ => by rw [upd_ne (ne_of_none h hp)]; exact h, fun n h1 h2 => absurd h2 (by omega), fun a h => by
    by_cases z : a = p
    · rw [z]; exact hp
    · rw [upd_ne z] at h; exact h⟩
theorem Rp.lat (r : Rp K φ ex H v d) (b : D.bel S.length d = true) (l : Lat φ φ' S S' H H') : Rp K φ' ex H' v d := r.mono b l.same l.kp
theorem RpA.lat {vs : List V} {ds : List D} (r : RpA K φ ex H vs ds) (b : D.bels S.length ds = true) (l : Lat φ φ' S S' H H') : RpA K φ' ex H' vs ds := r.mono b l.same l.kp
theorem SimE.lat (e : SimE K φ ex H S.length σ env) (l : Lat φ φ' S S' H H') : SimE K φ' ex H' S'.length σ env :=
  ⟨e.len, fun i d h => let ⟨v, h1, h2, h3⟩ := e.at_ i d h; ⟨v, h1, h2.lat h3 l, D.bel_mono l.le d h3⟩, e.xs, fun a i d fs h => l.kp.xd _ _ (e.xd a i d fs h)⟩
/-- an object not touched -/
theorem ObR.lat {a : Addr} {o : SO} (x : ObR K φ ex H a o) (b : o.bel S.length = true) (ls : ∀ m, m < S.length → φ' m = φ m) (lk : Kp H H') (h : o.mu = true → ∀ u, H a = some u → H' a = some u) : ObR K φ' ex H' a o := by
  cases o with
  | lst ds => obtain ⟨vs, e, r⟩ := x; exact ⟨vs, h rfl _ e, r.mono b ls lk⟩
  | ro ds => obtain ⟨vs, e, r⟩ := x; exact ⟨vs, e.kp lk, r.mono b ls lk⟩
  | dct kvs =>
    obtain ⟨ws, e, r1, r2, nd⟩ := x
    simp only [SO.bel, Bool.and_eq_true] at b
    exact ⟨ws, h rfl _ e, r1.mono b.1 ls lk, r2.mono b.2 ls lk, nd⟩
  | dcn kvs =>
    obtain ⟨xs, vs, e, z, r1, rv, r2, kk⟩ := x
    simp only [SO.bel, Bool.and_eq_true] at b
    exact ⟨xs, vs, h rfl _ e, z, r1.mono b.1 ls lk, rv, r2.mono b.2 ls lk, kk⟩
  | set _ => exact x.elim
  | ins _ _ => exact x.elim
theorem ObR.there {a : Addr} {o : SO} (x : ObR K φ ex H a o) (m : o.mu = true) : ∃ u, H a = some u ∧ Mut (some u) := by
  cases o with
  | lst ds => obtain ⟨vs, e, _⟩ := x; exact ⟨_, e, trivial⟩
  | ro ds => cases m
  | dct kvs => obtain ⟨vs, e, _⟩ := x; exact ⟨_, e, trivial⟩
  | dcn kvs => obtain ⟨_, _, e, _⟩ := x; exact ⟨_, e, trivial⟩
  | set _ => exact x.elim
  | ins _ _ => exact x.elim
/-- the heap alone has changed, and not where the store stands -/
theorem SimO.heap (x : SimO K φ ex H S) (k : Kp H H') (h : ∀ n o, get S n = some o → o.mu = true → ∀ u, H (φ n) = some u → H' (φ n) = some u) : SimO K φ ex H' S :=
  ⟨fun n o e => (x.ob n o e).lat (x.wf n o e) (fun _ _ => rfl) k (h n o e), x.wf, x.inj⟩
/-- a new thing beside the store -/
theorem SimO.new (x : SimO K φ ex H S) {p : Addr} {o : HO} (hp : H p = none) : SimO K φ ex (upd H p o) S :=
  x.heap (Kp.new hp) fun n _ _ _ u e => by rw [upd_ne (ne_of_none e hp)]; exact e
/-- a new object of the store -/
theorem SimO.push (x : SimO K φ ex H S) {p : Addr} {u : HO} {o : SO} (hp : H p = none) (hb : o.bel S.length = true)
    (ho : ∀ φ', (∀ m, m < S.length → φ' m = φ m) → ObR K φ' ex (upd H p u) p o) :
    ∃ φ', Lat φ φ' S (o :: S) H (upd H p u) ∧ φ' S.length = p ∧ SimO K φ' ex (upd H p u) (o :: S) := by
  refine ⟨fun n => if n = S.length then p else φ n, ⟨by simp, fun m h => if_neg (by omega), Kp.new hp, (Lat.newT (φ := φ) (S := S) hp).fr, fun n h1 h2 => ?_, (Lat.newT (φ := φ) (S := S) hp).no⟩, if_pos rfl, fun n q e => ?_, fun n q e => ?_, fun m n om on em en mm mn e => ?_⟩
  · have : n = S.length := by simp only [List.length_cons] at h2; omega
    show H (if n = S.length then p else φ n) = none
    rw [if_pos this]; exact hp
  · have hn := get_lt e
    simp only [List.length_cons] at hn
    by_cases z : n = S.length
    · subst z
      rw [get_new] at e
      cases e
      show ObR K _ ex _ (if S.length = S.length then p else φ S.length) o
      rw [if_pos rfl]
      exact ho _ fun m h => if_neg (by omega)
    · have hl : n < S.length := by omega
      rw [get_old hl] at e
      show ObR K _ ex _ (if n = S.length then p else φ n) q
      rw [if_neg z]
      refine (x.ob n q e).lat (x.wf n q e) (fun m h => if_neg (by omega)) (Kp.new hp) fun _ w ew => ?_
      rw [upd_ne (ne_of_none ew hp)]
      exact ew
  · have hn := get_lt e
    simp only [List.length_cons] at hn ⊢
    by_cases z : n = S.length
    · subst z
      rw [get_new] at e
      cases e
      exact SO.bel_mono (by omega) _ hb
    · rw [get_old (by omega)] at e
      exact SO.bel_mono (by omega) _ (x.wf n q e)
  · have hm := get_lt em
    have hn := get_lt en
    simp only [List.length_cons] at hm hn
    have old : ∀ {n q}, get (o :: S) n = some q → n ≠ S.length → q.mu = true → φ n ≠ p := fun {n q} e z mu hz => by
      have h1 := get_lt e
      simp only [List.length_cons] at h1
      rw [get_old (by omega)] at e
      obtain ⟨w, hw, _⟩ := (x.ob n q e).there mu
      rw [hz, hp] at hw
      cases hw
    have e' : (if m = S.length then p else φ m) = (if n = S.length then p else φ n) := e
    by_cases z1 : m = S.length <;> by_cases z2 : n = S.length
    · rw [z1, z2]
    · rw [if_pos z1, if_neg z2] at e'
      exact absurd e'.symm (old en z2 mn)
    · rw [if_neg z1, if_pos z2] at e'
      exact absurd e' (old em z1 mm)
    · rw [if_neg z1, if_neg z2] at e'
      rw [get_old (by omega)] at em en
      exact x.inj m n om on em en mm mn e'
/-- an object of the store is written -/
theorem SimO.write (x : SimO K φ ex H S) {n : Nat} {o o' : SO} {u : HO} (hn : get S n = some o) (mu : o.mu = true) (hb : o'.bel S.length = true)
    (ho : ∀ w, H (φ n) = some w → ObR K φ ex (upd H (φ n) u) (φ n) o') :
    Lat φ φ S (put S n o') H (upd H (φ n) u) ∧ SimO K φ ex (upd H (φ n) u) (put S n o') := by
  have hl := get_lt hn
  obtain ⟨w, hw, hm⟩ := (x.ob n o hn).there mu
  have k : Kp H (upd H (φ n) u) := Kp.set hw hm
  refine ⟨⟨by simp, fun _ _ => rfl, k, fun a o h hn => by rw [upd_ne (fun z => hn n hl z.symm)]; exact h, fun m h1 h2 => absurd h2 (by simp; omega), fun a h => ?_⟩, fun m q e => ?_, fun m q e => ?_, fun m m' om on em en mm mn e => ?_⟩
  · by_cases z : a = φ n
    · rw [z, upd_same] at h; cases h
    · rw [upd_ne z] at h; exact h
  · rw [get_put hl] at e
    by_cases z : m = n
    · rw [if_pos z] at e; cases e; subst z; exact ho w hw
    · rw [if_neg z] at e
      refine (x.ob m q e).lat (x.wf m q e) (fun _ _ => rfl) k fun mq v ev => ?_
      rw [upd_ne fun z2 => z (x.inj m n q o e hn mq mu z2)]
      exact ev
  · rw [put_length]
    rw [get_put hl] at e
    by_cases z : m = n
    · rw [if_pos z] at e; cases e; exact hb
    · rw [if_neg z] at e; exact x.wf m q e
  · have back : ∀ {m q}, get (put S n o') m = some q → q.mu = true → ∃ q', get S m = some q' ∧ q'.mu = true := fun {m q} e mq => by
      rw [get_put hl] at e
      by_cases z : m = n
      · subst z; exact ⟨o, hn, mu⟩
      · rw [if_neg z] at e; exact ⟨q, e, mq⟩
    obtain ⟨q1, a1, b1⟩ := back em mm
    obtain ⟨q2, a2, b2⟩ := back en mn
    exact x.inj m m' q1 q2 a1 a2 b1 b2 e
/-- the older part of the store -/
theorem SimO.old (x : SimO K φ ex H S) {k : Nat} (h : ∀ n o, get (S.drop k) n = some o → o.bel (S.drop k).length = true) : SimO K φ ex H (S.drop k) :=
  ⟨fun n o e => x.ob n o (by rw [← get_drop (get_lt e)]; exact e), h, fun m n om on em en => x.inj m n om on (by rw [← get_drop (get_lt em)]; exact em) (by rw [← get_drop (get_lt en)]; exact en)⟩
end
end Pw
end
section
set_option Elab.async false
set_option linter.all false
set_option maxRecDepth 100000
set_option maxHeartbeats 4000000
set_option autoImplicit false
/-! Pw1m: a tuple taken once; the sum of a tuple -/
namespace Pw
open PySem PySem.Spec PyProof.Rows L2
/-- a tuple taken once is itself -/
theorem tuple_mul1 (l : Addr) (items : Array Value) (n : Nat) (dd : Option Addr) (sl : Array (Option Value)) (u : Tok) :
    Meets (Builtin.«tuple.__mul__» ⟨[.ref l, .int 1 u], []⟩) (fun _ R s => s.heap.get? l = some { cls := .type "tuple", dict := dd, data := .seq items n, slots := sl } ∧ R (.ok (.ret (Value.ref l))) s) :=
  .of_wp fun prog w A R s h => by
    obtain ⟨hp, g, d, tk, os⟩ := s
    obtain ⟨hl, h⟩ := h
    have f1 := AutoSeq1.idx_int
    have c1 : (items.isEmpty || (1 : Int) == 1) = true := by simp
    wp_walk using wpAny_loadPart' hl
    repeat (first
      | (refine wpAny_ite_false (decide_eq_false (by decide)) ?_; wp_walk using wpAny_loadPart' hl)
      | (refine wpAny_ite_true (decide_eq_true (by rw [c1])) ?_; wp_walk using wpAny_loadPart' hl))
    exact ⟨_, rfl, h⟩
section
variable {X : Cx}
def rRep1 (K : PySem.W.Frag) : R2 := fun x y H Q => ∃ l xs, x = .ref l ∧ y = .int 1 ∧ SqT K H l xs ∧ Q (.ref l) H
theorem op_rep1 : OpR X (binaryOp .Mult) (rRep1 X.K) := by
  intro pins s σ H x y v u Q I rx ry h
  obtain ⟨l, xs, rfl, rfl, hT, q⟩ := h
  cases rx
  obtain ⟨t, rfl⟩ := ry
  obtain ⟨its, r, ⟨⟨cls, dd, data, sl⟩, ho, hc, n, hd⟩, hs⟩ := I.tuple hT
  simp only at hc hd
  subst hc hd
  exact wpAny_binaryOp_repeat_ref (T := "tuple") (U := "int") (by decide) ⟨_, ho, rfl⟩ (fun s' => typeIs_int s' 1 t) noFill_tuple_mul F.fills_int_mul F.slot_int_rmul repeat_tuple F.slot_int_index.lookup
    (call_meets F.slot_int_rmul (typeIs_int s 1 t) F.entry_int_rmul (F.args_int_rmul_2 _ _) (int_rmul_tuple 1 t l its.toArray n dd sl)
      ⟨ho, rfl, ⟨_, ho, rfl⟩, call_meets F.slot_tuple_mul ⟨_, ho, rfl⟩ F.entry_tuple_mul (F.args_tuple_mul_2 _ _) (tuple_mul1 l its.toArray n dd sl t) ⟨ho, ⟨.ref l, H, I, rfl, q⟩⟩⟩)
def rSumT (K : PySem.W.Frag) : List V → Hp → VK → Prop := fun vs H Q => ∃ (a : Addr) (ns : List Int), vs = [V.ref a] ∧ SqT K H a (ns.map V.int) ∧ Q (.int ns.sum) H
theorem cr_sumT (hc : X.calm = true) : CallR X (.builtin "sum") (rSumT X.K) := by
  intro pins s σ H vs us Q I r h
  obtain ⟨a, ns, rfl, hs, q⟩ := h
  obtain ⟨its, rv, hl, _⟩ := I.tuple hs
  rw [Vals.ref1 r]
  have hi : IntsAre its ns := rv.ints
  have hl : s.heap.IsTuple a its.toArray := hl
  obtain ⟨xs, hx⟩ := hi.allInts.items
  have hn : numsOf its.toArray.toList = ns := by rw [show its.toArray.toList = its from rfl, hi.numsOf]
  rw [hx] at hl hn
  rw [nums_intItems] at hn
  refine PySem.W.ktm_sumG (I.ok.hd hc) hl fun h' tk t' hk => ?_
  rw [preSum_eq, List.take_of_length_le (by simp), hn]
  exact ⟨.int _, H, I.kept hk, ⟨_, rfl⟩, q⟩
end
end Pw
end
section
set_option Elab.async false
set_option linter.all false
set_option maxRecDepth 100000
set_option maxHeartbeats 1000000
set_option autoImplicit false
/-! Pw2: the operations of Pw0 against the hand layer's rules -/
namespace Pw
open PySem PySem.Spec PyProof.Rows L2
/-- what stands beside: the written part, the classes' addresses, the exception at hand -/
structure Wo where
  K : PySem.W.Frag
  ex : Ex1
variable (w : Wo)
/-- a value at its place -/
def RE (φ : Nat → Addr) (H : Hp) (S : Store) (v : V) (d : D) : Prop := Rp w.K φ w.ex H v d ∧ D.bel S.length d = true
def REs (φ : Nat → Addr) (H : Hp) (S : Store) (v : List V) (d : List D) : Prop := RpA w.K φ w.ex H v d ∧ D.bels S.length d = true
def RB (_ : Nat → Addr) (_ : Hp) (_ : Store) (v : Bool) (d : Bool) : Prop := v = d
/-- objects alone -/
def Rg0 {α β : Type} (R : (Nat → Addr) → Hp → Store → β → α → Prop) (φ : Nat → Addr) (S : Store) (H : Hp) (r : Res α) (Q : β → Hp → Prop) : Prop := match r with
  | .ok a S' => ∀ b φ' H', Lat φ φ' S S' H H' → SimO w.K φ' w.ex H' S' → R φ' H' S' b a → Q b H'
  | .exc _ _ _ => True
  | .bad => False
variable {w}
section
variable {φ : Nat → Addr} {S : Store} {H : Hp} {d : D} {v : V} {Q : VK}
theorem Rg0.same (h : Rg0 w (RE w) φ S H (.ok d S) Q) (o : SimO w.K φ w.ex H S) (r : Rp w.K φ w.ex H v d) (b : D.bel S.length d = true) : Q v H := h v φ H Lat.refl o ⟨r, b⟩
/-- a new tuple -/
theorem Rg0.tup {ds : List D} {vs : List V} {p : Addr} (h : Rg0 w (RE w) φ S H (.ok (.tup ds) S) Q) (o : SimO w.K φ w.ex H S) (r : RpA w.K φ w.ex H vs ds) (b : D.bels S.length ds = true) (hp : H p = none) :
    Q (.ref p) (upd H p (.tup vs)) :=
  h _ φ _ (Lat.newT hp) (o.new hp) ⟨.tup (SqT.of upd_same) (r.mono b (fun _ _ => rfl) (Kp.new hp)), b⟩
/-- a new list -/
theorem Rg0.lst {ds : List D} {vs : List V} {p : Addr} (h : Rg0 w (RE w) φ S H (.ok (.obj S.length) (.lst ds :: S)) Q) (o : SimO w.K φ w.ex H S) (r : RpA w.K φ w.ex H vs ds) (b : D.bels S.length ds = true) (hp : H p = none) :
    Q (.ref p) (upd H p (.lst vs)) := by
  obtain ⟨φ', l, e, o'⟩ := o.push (u := .lst vs) (o := .lst ds) hp b fun φ' e => ⟨vs, upd_same, r.mono b e (Kp.new hp)⟩
  refine h _ φ' _ l o' ⟨?_, ?_⟩
  · have := Rp.obj (K := w.K) (φ := φ') (ex := w.ex) (H := upd H p (.lst vs)) S.length
    rw [e] at this
    exact this
  · show Nat.blt S.length (S.length + 1) = true
    exact Nat.ble_eq_true_of_le (Nat.le_refl _)
theorem rp_str {K : PySem.W.Frag} {ex : Ex1} {x : Str} {s : List Nat} (h : x.cps.toList = s) : Rp K φ ex H (.str x) (.str s) := h ▸ .str x
theorem line_eq : sizeLine = line := by rw [sizeLine_eq]; rfl
theorem toList_app (x y : Str) : (x ++ y).cps.toList = x.cps.toList ++ y.cps.toList := by
  show (x.cps ++ y.cps).toList = _
  simp
theorem str_len (x : Str) : x.length = x.cps.toList.length := by
  show x.cps.size = _
  simp
end
section
variable {X : Cx} (w)
/-- an operator by what it does to values -/
def rB (o : Bop) : R2 := fun x y H Q => ∃ φ S dx dy, SimO w.K φ w.ex H S ∧ RE w φ H S x dx ∧ RE w φ H S y dy ∧ Rg0 w (RE w) φ S H (binD o dx dy S) Q
variable {w}
theorem Rg0.ite {α β : Type} {R : (Nat → Addr) → Hp → Store → β → α → Prop} {φ : Nat → Addr} {S : Store} {H : Hp} {Q : β → Hp → Prop} {c : Prop} [Decidable c] {r : Res α} (h : Rg0 w R φ S H (if c then r else .bad) Q) : c ∧ Rg0 w R φ S H r Q := by
  by_cases hc : c
  · rw [if_pos hc] at h; exact ⟨hc, h⟩
  · rw [if_neg hc] at h; exact h.elim
theorem opR_add (hK : w.K = X.K) : OpR X (binaryOp .Add) (rB w .add) := by
  intro pins s σ H x y v u Q I rx ry h
  obtain ⟨φ, S, dx, dy, so, ⟨px, bx⟩, ⟨py, by_⟩, h⟩ := h
  cases px <;> cases py <;> first | exact h.elim | skip
  · exact op_add pins s σ H _ _ v u Q I rx ry ⟨_, _, rfl, rfl, h.same so (.int _) rfl⟩
  · rename_i i j
    have h : Rg0 w (RE w) φ S H (if i.cps.toList.length + j.cps.toList.length ≤ line then .ok (.str (i.cps.toList ++ j.cps.toList)) S else .bad) Q := h
    obtain ⟨hl, h⟩ := h.ite
    refine op_add_str pins s σ H _ _ v u Q I rx ry ⟨i, j, rfl, rfl, ?_, ?_⟩
    · rw [str_len, str_len, line_eq]; exact hl
    · exact h.same so (rp_str (toList_app _ _)) rfl
  · rename_i a vs ds h1 r1 b vs' ds' h2 r2
    have h : Rg0 w (RE w) φ S H (if ds.length + ds'.length ≤ line then .ok (.tup (ds ++ ds')) S else .bad) Q := h
    obtain ⟨hl, h⟩ := h.ite
    rw [hK] at h1 h2
    have b1 : D.bels S.length ds = true := by simpa [D.bel] using bx
    have b2 : D.bels S.length ds' = true := by simpa [D.bel] using by_
    refine op_catA pins s σ H _ _ v u Q I rx ry ⟨a, b, vs, vs', rfl, rfl, h1, h2, ?_, fun e => ?_, fun _ e => ?_, fun _ _ p hp => ?_⟩
    · rw [r1.length, r2.length, line_eq]; exact hl
    · subst e
      cases r1
      exact h.same so (.tup (hK ▸ h2) r2) by_
    · subst e
      cases r2
      rw [List.append_nil] at h
      exact h.same so (.tup (hK ▸ h1) r1) bx
    · exact h.tup so (r1.append r2) (bels_all.mpr fun d hd => (List.mem_append.mp hd).elim (bels_all.mp b1 d) (bels_all.mp b2 d)) hp
  · rename_i m n
    have h : Rg0 w (RE w) φ S H (match get S m, get S n with
      | some (.lst x), some (.lst y) => if x.length + y.length ≤ line then .ok (.obj S.length) (.lst (x ++ y) :: S) else .bad
      | _, _ => .bad) Q := h
    cases e1 : get S m with
    | none => rw [e1] at h; exact h.elim
    | some o1 => cases e2 : get S n with
      | none => rw [e1, e2] at h; cases o1 <;> exact h.elim
      | some o2 =>
        rw [e1, e2] at h
        cases o1 <;> cases o2 <;> first | exact h.elim | skip
        rename_i ds ds'
        obtain ⟨hl, h⟩ := h.ite
        obtain ⟨vs, k1, r1⟩ := so.ob m _ e1
        obtain ⟨vs', k2, r2⟩ := so.ob n _ e2
        have b1 : D.bels S.length ds = true := so.wf m _ e1
        have b2 : D.bels S.length ds' = true := so.wf n _ e2
        refine op_cat pins s σ H _ _ v u Q I rx ry ⟨_, _, vs, vs', rfl, rfl, k1, k2, ?_, fun p hp => ?_⟩
        · rw [r1.length, r2.length, line_eq]; exact hl
        · exact h.lst so (r1.append r2) (bels_all.mpr fun d hd => (List.mem_append.mp hd).elim (bels_all.mp b1 d) (bels_all.mp b2 d)) hp
theorem opR_sub : OpR X (binaryOp .Sub) (rB w .sub) := by
  intro pins s σ H x y v u Q I rx ry h
  obtain ⟨φ, S, dx, dy, so, ⟨px, bx⟩, ⟨py, by_⟩, h⟩ := h
  cases px <;> cases py <;> first | exact h.elim | skip
  exact op_sub pins s σ H _ _ v u Q I rx ry ⟨_, _, rfl, rfl, h.same so (.int _) rfl⟩
theorem opR_fdiv : OpR X (binaryOp .FloorDiv) (rB w .fdiv) := by
  intro pins s σ H x y v u Q I rx ry h
  obtain ⟨φ, S, dx, dy, so, ⟨px, bx⟩, ⟨py, by_⟩, h⟩ := h
  cases px <;> cases py <;> first | exact h.elim | skip
  rename_i i j
  have h : Rg0 w (RE w) φ S H (if 0 < j ∧ j.natAbs.log2 < 9000 then .ok (.int (i / j)) S else .bad) Q := h
  obtain ⟨hc, h⟩ := h.ite
  exact op_fdivW pins s σ H _ _ v u Q I rx ry ⟨_, _, rfl, rfl, hc, h.same so (.int _) rfl⟩
theorem opR_mod : OpR X (binaryOp .Mod) (rB w .mod) := by
  intro pins s σ H x y v u Q I rx ry h
  obtain ⟨φ, S, dx, dy, so, ⟨px, bx⟩, ⟨py, by_⟩, h⟩ := h
  cases px <;> cases py <;> first | exact h.elim | skip
  rename_i i j
  have h : Rg0 w (RE w) φ S H (if 0 < j then .ok (.int (i % j)) S else .bad) Q := h
  obtain ⟨hc, h⟩ := h.ite
  exact op_mod pins s σ H _ _ v u Q I rx ry ⟨_, _, rfl, rfl, hc, h.same so (.int _) rfl⟩
theorem opR_pow : OpR X (binaryOp .Pow) (rB w .pow) := by
  intro pins s σ H x y v u Q I rx ry h
  obtain ⟨φ, S, dx, dy, so, ⟨px, bx⟩, ⟨py, by_⟩, h⟩ := h
  cases px <;> cases py <;> first | exact h.elim | skip
  rename_i i j
  have h : Rg0 w (RE w) φ S H (if 0 ≤ j ∧ j ≤ 1000000 ∧ i.natAbs < 2 ^ 64 then .ok (.int (i ^ j.toNat)) S else .bad) Q := h
  obtain ⟨hc, h⟩ := h.ite
  exact op_pow pins s σ H _ _ v u Q I rx ry ⟨_, _, rfl, rfl, hc, h.same so (.int _) rfl⟩
theorem opR_shl : OpR X (binaryOp .LShift) (rB w .shl) := by
  intro pins s σ H x y v u Q I rx ry h
  obtain ⟨φ, S, dx, dy, so, ⟨px, bx⟩, ⟨py, by_⟩, h⟩ := h
  cases px <;> cases py <;> first | exact h.elim | skip
  rename_i i j
  have h : Rg0 w (RE w) φ S H (if 0 ≤ j ∧ j ≤ 1000000 ∧ i.natAbs < 2 ^ 64 then .ok (.int (i * 2 ^ j.toNat)) S else .bad) Q := h
  obtain ⟨hc, h⟩ := h.ite
  exact op_shl pins s σ H _ _ v u Q I rx ry ⟨_, _, rfl, rfl, hc, h.same so (.int _) rfl⟩
theorem opR_shr : OpR X (binaryOp .RShift) (rB w .shr) := by
  intro pins s σ H x y v u Q I rx ry h
  obtain ⟨φ, S, dx, dy, so, ⟨px, bx⟩, ⟨py, by_⟩, h⟩ := h
  cases px <;> cases py <;> first | exact h.elim | skip
  rename_i i j
  have h : Rg0 w (RE w) φ S H (if 0 ≤ j then .ok (.int (i / 2 ^ j.toNat)) S else .bad) Q := h
  obtain ⟨hc, h⟩ := h.ite
  exact op_shr pins s σ H _ _ v u Q I rx ry ⟨_, _, rfl, rfl, hc, h.same so (.int _) rfl⟩
theorem opR_band : OpR X (binaryOp .BitAnd) (rB w .band) := by
  intro pins s σ H x y v u Q I rx ry h
  obtain ⟨φ, S, dx, dy, so, ⟨px, bx⟩, ⟨py, by_⟩, h⟩ := h
  cases px <;> cases py <;> first | exact h.elim | skip
  rename_i i j
  have h : Rg0 w (RE w) φ S H (if j = 1 then .ok (.int (i % 2)) S else .bad) Q := h
  obtain ⟨hc, h⟩ := h.ite
  subst hc
  refine op_and pins s σ H _ _ v u Q I rx ry ⟨_, _, rfl, rfl, ?_⟩
  show Q (.int (Builtin.bitAnd i 1)) H
  rw [bitAnd_m1]
  exact h.same so (.int _) rfl
theorem mul_bad {l : List Nat} {d : D} {S : Store} (h : ∀ j, d ≠ .int j) : binD .mul (.str l) d S = .bad := by
  rcases l with _ | ⟨c, _ | ⟨c2, l⟩⟩ <;> cases d <;> first | rfl | exact absurd rfl (h _)
theorem mul_one {l : List Nat} {j : Int} {S : Store} : (∃ c, l = [c] ∧ binD .mul (.str l) (.int j) S = if j ≤ line ∧ -(2 ^ 62) ≤ j then .ok (.str (List.replicate j.toNat c)) S else .bad) ∨ binD .mul (.str l) (.int j) S = .bad := by
  rcases l with _ | ⟨c, _ | ⟨c2, l⟩⟩
  · exact .inr rfl
  · exact .inl ⟨c, rfl, rfl⟩
  · exact .inr rfl
theorem rpA_rep {K : PySem.W.Frag} {φ : Nat → Addr} {ex : Ex1} {H : Hp} {vs : List V} {ds : List D} (r : RpA K φ ex H vs ds) : ∀ n : Nat, RpA K φ ex H (List.replicate n vs).flatten (List.replicate n ds).flatten
  | 0 => .nil
  | n + 1 => by
    rw [List.replicate_succ, List.replicate_succ, List.flatten_cons, List.flatten_cons]
    exact r.append (rpA_rep r n)
theorem opR_mul (hK : w.K = X.K) : OpR X (binaryOp .Mult) (rB w .mul) := by
  intro pins s σ H x y v u Q I rx ry h
  obtain ⟨φ, S, dx, dy, so, ⟨px, bx⟩, ⟨py, by_⟩, h⟩ := h
  cases px with
  | str x =>
    have bad : ∀ d, (∀ j, d ≠ .int j) → Rg0 w (RE w) φ S H (binD .mul (.str x.cps.toList) d S) Q → False := fun d hd hh => by rw [mul_bad hd] at hh; exact hh
    cases py with
    | int j =>
      rcases mul_one (l := x.cps.toList) (j := j) (S := S) with ⟨c, ec, e⟩ | e
      · rw [e] at h
        obtain ⟨⟨hc1, hc2⟩, h⟩ := h.ite
        obtain ⟨t, rfl⟩ := rx
        obtain ⟨t', rfl⟩ := ry
        obtain ⟨⟨l⟩⟩ := x
        have ec : l = [c] := ec
        subst ec
        refine SB.mul ⟨?_, fun h1 _ => ?_, fun h1 _ => ?_⟩ fun tk k => ⟨.str _, H, I.tok _, ⟨_, rfl⟩, h.same so (rp_str (mul_one_list c j)) rfl⟩
        · simp only [line] at hc1
          simp only [Bool.or_eq_false_iff, decide_eq_false_iff_not]
          omega
        · simp only [line] at hc1
          have e1 : ((⟨⟨[c]⟩⟩ : Str).length : Int) = 1 := rfl
          rw [e1]
          have : (1 : Int) ≤ (2 ^ 63 - 1) / j := by
            rw [Int.le_ediv_iff_mul_le (by omega)]
            omega
          omega
        · show decide _ = false
          simp only [line] at hc1
          have e1 : (⟨⟨[c]⟩⟩ : Str).length = 1 := rfl
          rw [e1, Nat.one_mul, decide_eq_false_iff_not, line_eq]
          simp only [line]
          omega
      · rw [e] at h; exact h.elim
    | _ => exact (bad _ (by intro j q; cases q) h).elim
  | int i =>
    cases py <;> first | exact h.elim | skip
    rename_i j
    have h : Rg0 w (RE w) φ S H (if mulOk i j = true then .ok (.int (i * j)) S else .bad) Q := h
    obtain ⟨hc, h⟩ := h.ite
    have hc : i.natAbs.log2 + j.natAbs.log2 < 1000000 := of_decide_eq_true hc
    exact op_mulW pins s σ H _ _ v u Q I rx ry ⟨_, _, rfl, rfl, hc, h.same so (.int _) rfl⟩
  | @tup a vs ds h1 r1 =>
    cases py <;> first | exact h.elim | skip
    rename_i j
    have h : Rg0 w (RE w) φ S H (if 0 < ds.length ∧ ds.length ≤ 1000 ∧ 1 ≤ j ∧ j ≤ 1000 then .ok (.tup (List.replicate j.toNat ds).flatten) S else .bad) Q := h
    obtain ⟨⟨hc1, hc2, hc3, hc4⟩, h⟩ := h.ite
    rw [hK] at h1
    have b1 : D.bels S.length ds = true := by simpa [D.bel] using bx
    by_cases e : j = 1
    · subst e
      refine op_rep1 pins s σ H _ _ v u Q I rx ry ⟨a, vs, rfl, rfl, h1, ?_⟩
      have e2 : (List.replicate (1 : Int).toNat ds).flatten = ds := by simp
      rw [e2] at h
      exact h.same so (.tup (hK ▸ h1) r1) bx
    · refine op_repT pins s σ H _ _ v u Q I rx ry ⟨a, j, vs, rfl, rfl, h1, fun z => ?_, by omega, hc4, by rw [r1.length]; exact hc2, fun p hp => ?_⟩
      · subst z
        have := r1.length
        simp at this
        omega
      · refine h.tup so (rpA_rep r1 j.toNat) (bels_all.mpr fun d hd => ?_) hp
        rw [List.mem_flatten] at hd
        obtain ⟨l, hl, hd⟩ := hd
        rw [(List.mem_replicate.mp hl).2] at hd
        exact bels_all.mp b1 d hd
  | obj m =>
    cases py <;> first | exact h.elim | skip
    rename_i j
    have h : Rg0 w (RE w) φ S H (match get S m with
      | some (.lst xs) => if -(2 ^ 62) ≤ j ∧ j ≤ line ∧ xs.length * j.toNat ≤ line then .ok (.obj S.length) (.lst (List.replicate j.toNat xs).flatten :: S) else .bad
      | _ => .bad) Q := h
    cases e1 : get S m with
    | none => rw [e1] at h; exact h.elim
    | some o1 =>
      rw [e1] at h
      cases o1 <;> first | exact h.elim | skip
      rename_i ds
      obtain ⟨⟨hc1, hc2, hc3⟩, h⟩ := h.ite
      obtain ⟨vs, k1, r1⟩ := so.ob m _ e1
      have b1 : D.bels S.length ds = true := so.wf m _ e1
      simp only [line] at hc2 hc3
      refine op_rep pins s σ H _ _ v u Q I rx ry ⟨_, j, vs, rfl, rfl, k1, by omega, by omega, by rw [r1.length, line_eq]; exact hc3, fun p hp => ?_⟩
      refine h.lst so (rpA_rep r1 j.toNat) (bels_all.mpr fun d hd => ?_) hp
      rw [List.mem_flatten] at hd
      obtain ⟨l, hl, hd⟩ := hd
      rw [(List.mem_replicate.mp hl).2] at hd
      exact bels_all.mp b1 d hd
  | _ => cases py <;> exact h.elim
end
end Pw
end
section
set_option Elab.async false
set_option linter.all false
set_option maxRecDepth 100000
set_option maxHeartbeats 1000000
set_option autoImplicit false
/-! Pw3: comparisons -/
namespace Pw
open PySem PySem.Spec PyProof.Rows L2
theorem alls_true {f : D → D → Option Bool} : ∀ {xs ys : List D}, (∀ (i : Nat) (x y : D), xs[i]? = some x → ys[i]? = some y → ∀ c, f x y = some c → c = true) → xs.length = ys.length → ∀ c, alls f xs ys = some c → c = true
  | [], [], _, _, c, h => by cases h; rfl
  | x :: r, y :: t, h, hl, c, e => by
    simp only [alls] at e
    cases q : f x y with
    | none => rw [q] at e; cases e
    | some k =>
      rw [q] at e
      have hk := h 0 x y rfl rfl k q
      subst hk
      cases z : alls f r t with
      | none => rw [z] at e; cases e
      | some k2 =>
        rw [z] at e
        cases e
        exact alls_true (fun i a b ha hb => h (i + 1) a b (by simpa using ha) (by simpa using hb)) (by simpa using hl) k2 z
  | [], _ :: _, _, hl, _, _ => by simp at hl
  | _ :: _, [], _, hl, _, _ => by simp at hl
section
variable {X : Cx} {w : Wo} {pins : List (Addr × Obj)} {σ : L2.St} {H : Hp} {s : Shared} {φ : Nat → Addr} {S : Store}
theorem deq_bad {n : Nat} {a : D} {c : Nat} {fs : List D} : deq S n (.exc c fs) a = none ∧ deq S n a (.exc c fs) = none := by
  cases n with
  | zero => exact ⟨rfl, rfl⟩
  | succ n => cases a <;> exact ⟨rfl, rfl⟩
theorem tup_not_lst (I : Inv X pins σ H s) {a : Addr} {vs ws : List V} (h1 : SqT X.K H a vs) (e1 : SqL X.K H a ws) : False := by
  obtain ⟨_, _, ht, _⟩ := I.tuple h1
  obtain ⟨_, _, ⟨o, k, e2, c2, _⟩, _⟩ := I.list e1
  obtain ⟨o', e3, c3, _⟩ := ht
  rw [e2] at e3; cases e3
  rw [c2] at c3
  injection c3 with c3
  exact absurd c3 (by decide)
theorem deq_lst {n m m' : Nat} {c : Bool} (h : deq S (n + 1) (.obj m) (.obj m') = some c) :
    (∃ xs ys, get S m = some (.lst xs) ∧ get S m' = some (.lst ys) ∧ (if xs.length = ys.length then alls (deq S n) xs ys else some false) = some c) ∨
    (∃ xs ys, get S m = some (.dct xs) ∧ get S m' = some (.dct ys) ∧ xs.map (·.1) = ys.map (·.1) ∧ alls (deq S n) (xs.map (·.2)) (ys.map (·.2)) = some c) := by
  have h : (match get S m, get S m' with
      | some (.lst x), some (.lst y) => if x.length = y.length then alls (deq S n) x y else some false
      | some (.dct x), some (.dct y) => if x.map (·.1) = y.map (·.1) then alls (deq S n) (x.map (·.2)) (y.map (·.2)) else none
      | _, _ => none) = some c := h
  split at h
  · rename_i x y h1 h2
    exact .inl ⟨x, y, h1, h2, h⟩
  · rename_i x y h1 h2
    split at h
    · rename_i e
      exact .inr ⟨x, y, h1, h2, e, h⟩
    · cases h
  · cases h
theorem deq_objL {n m : Nat} {c : Bool} {d : D} (hd : ∀ k, d ≠ .obj k) (hx : ∀ a b, d ≠ .exc a b) (h : deq S (n + 1) (.obj m) d = some c) : (∃ xs, get S m = some (.lst xs)) ∧ c = false := by
  have h : (match get S m with
      | some (.lst _) => some false
      | _ => none) = some c := by
    cases d <;> first | exact h | exact absurd rfl (hd _) | exact absurd rfl (hx _ _)
  split at h
  · rename_i xs e
    cases h
    exact ⟨⟨xs, e⟩, rfl⟩
  · cases h
theorem deq_objR {n m : Nat} {c : Bool} {d : D} (hd : ∀ k, d ≠ .obj k) (hx : ∀ a b, d ≠ .exc a b) (h : deq S (n + 1) d (.obj m) = some c) : (∃ xs, get S m = some (.lst xs)) ∧ c = false := by
  have h : (match get S m with
      | some (.lst _) => some false
      | _ => none) = some c := by
    cases d <;> first | exact h | exact absurd rfl (hd _) | exact absurd rfl (hx _ _)
  split at h
  · rename_i xs e
    cases h
    exact ⟨⟨xs, e⟩, rfl⟩
  · cases h
/-- one value against itself -/
theorem deq_same (hK : w.K = X.K) (I : Inv X pins σ H s) (so : SimO w.K φ w.ex H S) : ∀ (n : Nat) (x y : V) (d e : D), x = y → Rp w.K φ w.ex H x d → Rp w.K φ w.ex H y e → ∀ c, deq S n d e = some c → c = true
  | 0, _, _, _, _, _, _, _, _, h => by cases h
  | n + 1, x, y, d, e, exy, r, q, c, h => by
    have ih := deq_same hK I so n
    have row : ∀ (vs : List V) (ds es : List D), RpA w.K φ w.ex H vs ds → RpA w.K φ w.ex H vs es → ∀ c, alls (deq S n) ds es = some c → c = true := fun vs ds es r1 r2 c hc =>
      alls_true (fun i a b ha hb k hk => by
        obtain ⟨v1, e1, p1⟩ := r1.get a ha
        obtain ⟨v2, e2, p2⟩ := r2.get b hb
        rw [e1] at e2; cases e2
        exact ih v1 v1 a b rfl p1 p2 k hk) (by rw [← r1.length, ← r2.length]) c hc
    cases r with
    | non =>
      cases q <;> cases exy
      cases h; rfl
    | bl b =>
      cases q <;> cases exy
      simp [deq] at h; exact h
    | int b =>
      cases q <;> cases exy
      simp [deq] at h; exact h
    | str b =>
      cases q <;> cases exy
      simp [deq] at h; exact h
    | exc _ => rw [deq_bad.1] at h; cases h
    | tup h1 r1 => cases q with
      | tup h2 r2 =>
        cases exy
        rw [hK] at h1 h2
        have ev := I.tuple_inj h1 h2
        subst ev
        have h : (if _ then alls (deq S n) _ _ else _) = some c := h
        rw [if_pos (by rw [← r1.length, ← r2.length])] at h
        exact row _ _ _ r1 r2 c h
      | obj m =>
        exfalso
        injection exy with exy
        subst exy
        obtain ⟨⟨xs, g⟩, _⟩ := deq_objR (by simp) (by simp) h
        obtain ⟨vs, e1, _⟩ := so.ob m _ g
        rw [hK] at h1
        exact tup_not_lst I h1 (SqL.of e1)
      | exc _ => rw [deq_bad.2] at h; cases h
      | _ => cases exy
    | obj m => cases q with
      | obj m2 =>
        injection exy with exy
        rcases deq_lst h with ⟨xs, ys, g1, g2, h⟩ | ⟨xs, ys, g1, g2, _, h⟩
        · have em := so.inj m m2 _ _ g1 g2 rfl rfl exy
          subst em
          rw [g1] at g2; cases g2
          rw [if_pos rfl] at h
          obtain ⟨vs, _, r1⟩ := so.ob m _ g1
          exact row _ _ _ r1 r1 c h
        · have em := so.inj m m2 _ _ g1 g2 rfl rfl exy
          subst em
          rw [g1] at g2; cases g2
          obtain ⟨vs, _, _, r1, _⟩ := so.ob m _ g1
          exact row _ _ _ r1 r1 c h
      | tup h2 r2 =>
        exfalso
        injection exy with exy
        subst exy
        obtain ⟨⟨xs, g⟩, _⟩ := deq_objL (by simp) (by simp) h
        obtain ⟨vs, e1, _⟩ := so.ob m _ g
        rw [hK] at h2
        exact tup_not_lst I h2 (SqL.of e1)
      | exc _ => rw [deq_bad.2] at h; cases h
      | _ => cases exy
theorem allR_of {f : D → D → Option Bool} : ∀ {xs ys : List D} {c : Bool}, xs.length = ys.length → alls f xs ys = some c → ∃ e : Nat → Bool, (List.range xs.length).all e = c ∧ ∀ (i : Nat) (x y : D), xs[i]? = some x → ys[i]? = some y → f x y = some (e i)
  | [], [], c, _, h => by cases h; exact ⟨fun _ => true, rfl, fun i x y h => by simp at h⟩
  | x :: r, y :: t, c, hl, h => by
    simp only [alls] at h
    cases q : f x y with
    | none => rw [q] at h; cases h
    | some k =>
      rw [q] at h
      cases z : alls f r t with
      | none => rw [z] at h; cases h
      | some k2 =>
        rw [z] at h
        cases h
        obtain ⟨e, he, hi⟩ := allR_of (by simpa using hl) z
        refine ⟨fun i => match i with | 0 => k | i + 1 => e i, ?_, fun i a b ha hb => ?_⟩
        · rw [List.length_cons, List.range_succ_eq_map, List.all_cons, List.all_map, ← he]
          simp [Function.comp_def]
        · cases i with
          | zero => simp at ha hb; subst ha hb; exact q
          | succ i => exact hi i a b (by simpa using ha) (by simpa using hb)
  | [], _ :: _, _, hl, _ => by simp at hl
  | _ :: _, [], _, hl, _ => by simp at hl
theorem kV_inj {a b : Key} (h : kV a = kV b) : a = b := by
  cases a <;> cases b <;> cases h <;> rfl
theorem str_ext {x y : Str} (h : x.cps.toList = y.cps.toList) : x = y := by
  obtain ⟨⟨a⟩⟩ := x
  obtain ⟨⟨b⟩⟩ := y
  simp at h
  subst h
  rfl
theorem rp_inv {K : PySem.W.Frag} {ex : Ex1} {x : V} {d : D} (r : Rp K φ ex H x d) : match d with
    | .non => x = .non
    | .bl b => x = .bl b
    | .int i => x = .int i
    | .str l => ∃ z : Str, x = .str z ∧ z.cps.toList = l
    | .tup ds => ∃ a vs, x = .ref a ∧ SqT K H a vs ∧ RpA K φ ex H vs ds
    | .obj n => x = .ref (φ n)
    | .exc c fs => False := by
  cases r with
  | non => rfl
  | bl b => rfl
  | int i => rfl
  | str z => exact ⟨z, rfl, rfl⟩
  | tup h r => exact ⟨_, _, rfl, h, r⟩
  | obj n => rfl
  | exc h => exact h
theorem rp_flat_inj {K : PySem.W.Frag} {ex : Ex1} {x y : V} {d : D} (fx : flatV x = true) (fy : flatV y = true) (r : Rp K φ ex H x d) (q : Rp K φ ex H y d) : x = y := by
  have r := rp_inv r
  have q := rp_inv q
  cases d with
  | non => rw [r, q]
  | bl b => rw [r, q]
  | int b => rw [r, q]
  | str b =>
    obtain ⟨z1, e1, h1⟩ := r
    obtain ⟨z2, e2, h2⟩ := q
    rw [e1, e2, str_ext (h1.trans h2.symm)]
  | tup b => obtain ⟨a, vs, e, _⟩ := r; rw [e] at fx; cases fx
  | obj b => rw [r] at fx; cases fx
  | exc c b => exact r.elim
/-- keys over the same row of values are the same -/
theorem keys_same {K : PySem.W.Frag} {ex : Ex1} : ∀ {ks ks' : List Key} {ds : List D}, RpA K φ ex H (ks.map kV) ds → RpA K φ ex H (ks'.map kV) ds → ks = ks'
  | [], [], _, _, _ => rfl
  | [], _ :: _, _, h1, h2 => by have a := h1.length; have b := h2.length; simp only [List.length_map, List.length_nil, List.length_cons] at a b; omega
  | _ :: _, [], _, h1, h2 => by have a := h1.length; have b := h2.length; simp only [List.length_map, List.length_nil, List.length_cons] at a b; omega
  | a :: r, b :: t, d :: ds, .cons q1 r1, .cons q2 r2 => by
    rw [kV_inj (rp_flat_inj (by cases a <;> rfl) (by cases b <;> rfl) q1 q2), keys_same r1 r2]
def ixOf {α : Type} [DecidableEq α] (a : α) : List α → Nat
  | [] => 0
  | x :: r => if x = a then 0 else ixOf a r + 1
theorem ixOf_nodup {α : Type} [DecidableEq α] : ∀ {l : List α}, l.Nodup → ∀ (i : Nat) (h : i < l.length), ixOf l[i] l = i
  | a :: r, nd, 0, h => by simp [ixOf]
  | a :: r, nd, i + 1, h => by
    have nd' := List.nodup_cons.mp nd
    have hi : i < r.length := by simpa using h
    have hm : r[i] ∈ r := List.getElem_mem hi
    have ne : ¬ a = r[i] := fun z => nd'.1 (z ▸ hm)
    rw [List.getElem_cons_succ, ixOf, if_neg ne, ixOf_nodup nd'.2 i hi]
theorem kv_keys : ∀ {ws : List (Key × V)} {vs : List (Key × Value)}, KV ws vs → ws.map (·.1) = vs.map (·.1)
  | _, _, .nil => rfl
  | _, _, .cons h t => by rw [List.map_cons, List.map_cons, h.1, kv_keys t]
theorem kv_vals : ∀ {ws : List (Key × V)} {vs : List (Key × Value)}, KV ws vs → Vals (ws.map (·.2)) (vs.map (·.2))
  | _, _, .nil => .nil
  | _, _, .cons h t => .cons h.2 (kv_vals t)
theorem str_beq {x y : Str} : (x == y) = decide (x.cps.toList = y.cps.toList) := by
  by_cases h : x = y
  · subst h; simp
  · have h2 : ¬ x.cps.toList = y.cps.toList := fun z => h (str_ext z)
    rw [decide_eq_false h2]
    simpa using h
open PySem.W in
/-- == of two values as the library's tree -/
theorem deq_tree (hK : w.K = X.K) (I : Inv X pins σ H s) (so : SimO w.K φ w.ex H S) : ∀ (n : Nat) (x y : V) (u v : Value) (d e : D), RelV x u → RelV y v → Rp w.K φ w.ex H x d → Rp w.K φ w.ex H y e → ∀ c, deq S n d e = some c → EqTree X.prog X.w s n u v c
  | 0, _, _, _, _, _, _, _, _, _, _, _, h => by cases h
  | n + 1, x, y, u, v, d, e, ru, rv, r, q, c, h => by
    have ih := deq_tree hK I so n
    have flat : ∀ (P : flatV x = true ∧ flatV y = true), eqV x y = c → EqTree X.prog X.w s (n + 1) u v c := fun P e => e ▸ EqTree.leaf fun A hu => eqAt_V ru rv P.1 P.2
    have row : ∀ (vs ws : List V) (ds es : List D) (as bs : List Value), RpA w.K φ w.ex H vs ds → RpA w.K φ w.ex H ws es → Vals vs as → Vals ws bs → ds.length = es.length → ∀ c, alls (deq S n) ds es = some c →
        ∃ k : Nat → Bool, (List.range as.toArray.size).all k = c ∧ ∀ j (h1 : j < as.toArray.size) (h2 : j < bs.toArray.size), EqTree X.prog X.w s n as.toArray[j] bs.toArray[j] (k j) := fun vs ws ds es as bs r1 r2 v1 v2 hl c hc => by
      obtain ⟨k, hk, hi⟩ := allR_of hl hc
      refine ⟨k, ?_, fun j h1 h2 => ?_⟩
      · rw [← hk, List.size_toArray, ← v1.length, r1.length]
      · have g1 : j < as.length := by simpa using h1
        have g2 : j < bs.length := by simpa using h2
        have l1 : j < vs.length := by rw [v1.length]; exact g1
        have l2 : j < ws.length := by rw [v2.length]; exact g2
        obtain ⟨d1, e1, p1⟩ := r1.getv (List.getElem?_eq_getElem l1)
        obtain ⟨d2, e2, p2⟩ := r2.getv (List.getElem?_eq_getElem l2)
        obtain ⟨u1, f1, q1⟩ := v1.get (List.getElem?_eq_getElem l1)
        obtain ⟨u2, f2, q2⟩ := v2.get (List.getElem?_eq_getElem l2)
        rw [List.getElem?_eq_getElem g1] at f1
        rw [List.getElem?_eq_getElem g2] at f2
        cases f1; cases f2
        exact ih _ _ _ _ _ _ q1 q2 p1 p2 _ (hi j _ _ e1 e2)
    have sames : u = v → EqTree X.prog X.w s (n + 1) u v c := fun z => by
      subst z
      have := deq_same hK I so (n + 1) x y d e (ru.inj rv) r q c h
      subst this
      exact .same
    have lists : ∀ {m m' : Nat} {xs ys : List D}, d = .obj m → e = .obj m' → get S m = some (.lst xs) → get S m' = some (.lst ys) → (if xs.length = ys.length then alls (deq S n) xs ys else some false) = some c → EqTree X.prog X.w s (n + 1) u v c := fun {m m' xs ys} ed ee g1 g2 hc => by
      subst ed ee
      have ex_ := rp_inv r
      have ey := rp_inv q
      dsimp only at ex_ ey
      subst ex_ ey
      have ru' := ru
      have rv' := rv
      cases ru'; cases rv'
      by_cases hne : (Value.ref (φ m)) = Value.ref (φ m')
      · exact sames hne
      · obtain ⟨vs, h1, r1⟩ := so.ob m _ g1
        obtain ⟨ws, h2, r2⟩ := so.ob m' _ g2
        obtain ⟨as, v1, p1, _⟩ := I.list (SqL.of h1)
        obtain ⟨bs, v2, p2, _⟩ := I.list (SqL.of h2)
        by_cases hl : xs.length = ys.length
        · rw [if_pos hl] at hc
          obtain ⟨k, hk, hi⟩ := row vs ws xs ys as bs r1 r2 v1 v2 hl c hc
          rw [← hk]
          exact .lists (fun z => hne (by rw [z])) p1.isList p2.isList (by simp only [List.size_toArray]; rw [← v1.length, ← v2.length, r1.length, r2.length, hl]) hi
        · rw [if_neg hl] at hc
          cases hc
          refine .listsLen (fun z => hne (by rw [z])) p1.isList p2.isList ?_
          have : as.length ≠ bs.length := by rw [← v1.length, ← v2.length, r1.length, r2.length]; exact hl
          simpa using this
    have dicts : ∀ {m m' : Nat} {xs ys : List (D × D)}, d = .obj m → e = .obj m' → get S m = some (.dct xs) → get S m' = some (.dct ys) → xs.map (·.1) = ys.map (·.1) → alls (deq S n) (xs.map (·.2)) (ys.map (·.2)) = some c → EqTree X.prog X.w s (n + 1) u v c := fun {m m' xs ys} ed ee g1 g2 hk hc => by
      subst ed ee
      have ex_ := rp_inv r
      have ey := rp_inv q
      dsimp only at ex_ ey
      subst ex_ ey
      have ru' := ru
      have rv' := rv
      cases ru'; cases rv'
      by_cases hne : (Value.ref (φ m)) = Value.ref (φ m')
      · exact sames hne
      · obtain ⟨ws, h1, k1, r1, nd1⟩ := so.ob m _ g1
        obtain ⟨ws', h2, k2, r2, nd2⟩ := so.ob m' _ g2
        obtain ⟨_, sy1, va, kv1, da⟩ := I.hok _ _ h1
        obtain ⟨_, sy2, vb, kv2, db⟩ := I.hok _ _ h2
        have hkk : ws.map (·.1) = ws'.map (·.1) := by
          rw [← hk] at k2
          refine keys_same (K := w.K) (φ := φ) (H := H) (ex := w.ex) (ds := xs.map (·.1)) ?_ ?_
          · rw [List.map_map]; exact k1
          · rw [List.map_map]; exact k2
        have ka1 : va.map (·.1) = ws.map (·.1) := (kv_keys kv1).symm
        have kb1 : vb.map (·.1) = ws.map (·.1) := by rw [hkk]; exact (kv_keys kv2).symm
        have ndb : (vb.map (·.1)).Nodup := by rw [kb1]; exact nd1
        have nda : (va.map (·.1)).Nodup := by rw [ka1]; exact nd1
        have hl : (xs.map (·.2)).length = (ys.map (·.2)).length := by have := congrArg List.length hk; simpa using this
        obtain ⟨k, hkc, hi⟩ := row _ _ _ _ (va.map (·.2)) (vb.map (·.2)) r1 r2 (kv_vals kv1) (kv_vals kv2) hl c hc
        have hlen : va.length = vb.length := by have := congrArg List.length (ka1.trans kb1.symm); simpa using this
        have ix : ∀ (i : Nat) (p : Key × Value), va[i]? = some p → ixOf p.1 (va.map (·.1)) = i := fun i p hp => by
          have hi' : i < (va.map (·.1)).length := by rw [List.length_map]; exact (List.getElem?_eq_some_iff.mp hp).1
          have e1 : (va.map (·.1))[i] = p.1 := by
            obtain ⟨h1, h2⟩ := List.getElem?_eq_some_iff.mp hp
            rw [List.getElem_map, h2]
          rw [← e1]
          exact ixOf_nodup nda i hi'
        have hall : (va.length == vb.length && va.all fun p => (valueAt vb p.1).isSome && k (ixOf p.1 (va.map (·.1)))) = c := by
          rw [← hkc, hlen, beq_self_eq_true, Bool.true_and]
          have hs : ∀ p ∈ va, (valueAt vb p.1).isSome = true := fun p hp => valueAt_isSome.mpr (by rw [kb1, ← ka1]; exact List.mem_map_of_mem hp)
          rw [List.size_toArray, List.length_map]
          rw [Bool.eq_iff_iff, List.all_eq_true, List.all_eq_true]
          constructor
          · intro h j hj
            have hj' : j < va.length := by simpa using hj
            have := h va[j] (List.getElem_mem hj')
            rw [ix j _ (List.getElem?_eq_getElem hj')] at this
            simp only [Bool.and_eq_true] at this
            exact this.2
          · intro h p hp
            rw [hs p hp, Bool.true_and]
            obtain ⟨j, hj, ej⟩ := List.getElem_of_mem hp
            rw [ix j p (by rw [← ej]; exact List.getElem?_eq_getElem hj)]
            exact h j (by simpa using hj)
        rw [← hall]
        refine .dicts (knd := mixKind X.prog X.w) (e := fun key => k (ixOf key (va.map (·.1)))) (fun z => hne (by rw [z])) sy1 sy2 da db fun key x y hx hy => ?_
        obtain ⟨j, hj, ej⟩ := List.getElem_of_mem hx
        have e1 := ix j (key, x) (by rw [← ej]; exact List.getElem?_eq_getElem hj)
        have e1 : ixOf key (va.map (·.1)) = j := e1
        rw [e1]
        have hjb : j < vb.length := by omega
        have kj : (vb[j]).1 = key := by
          have z1 : (vb.map (·.1))[j]? = (va.map (·.1))[j]? := by rw [kb1, ka1]
          rw [List.getElem?_map, List.getElem?_map, List.getElem?_eq_getElem hjb, List.getElem?_eq_getElem hj, ej] at z1
          exact Option.some.inj z1
        have yj : (vb[j]).2 = y := by
          have z := valueAt_of_mem ndb (k := key) (v := (vb[j]).2) (by rw [← kj]; exact List.getElem_mem hjb)
          rw [hy] at z
          exact (Option.some.inj z).symm
        have := hi j (by simpa using hj) (by simpa using hjb)
        simp only [List.getElem_toArray, List.getElem_map] at this
        rw [ej, yj] at this
        exact this
    have lst1 : ∀ {m : Nat} {xs : List D}, d = .obj m → get S m = some (.lst xs) → ∃ as, u = .ref (φ m) ∧ s.heap.IsList (φ m) as := fun {m xs} ed g => by
      subst ed
      have ex_ := rp_inv r
      dsimp only at ex_
      subst ex_
      cases ru
      obtain ⟨vs, h1, r1⟩ := so.ob m _ g
      obtain ⟨as, v1, p1, _⟩ := I.list (SqL.of h1)
      exact ⟨_, rfl, p1.isList⟩
    have lst2 : ∀ {m : Nat} {xs : List D}, e = .obj m → get S m = some (.lst xs) → ∃ as, v = .ref (φ m) ∧ s.heap.IsList (φ m) as := fun {m xs} ed g => by
      subst ed
      have ex_ := rp_inv q
      dsimp only at ex_
      subst ex_
      cases rv
      obtain ⟨vs, h1, r1⟩ := so.ob m _ g
      obtain ⟨as, v1, p1, _⟩ := I.list (SqL.of h1)
      exact ⟨_, rfl, p1.isList⟩
    have tup1 : ∀ {ds : List D}, d = .tup ds → ∃ a as, u = .ref a ∧ s.heap.IsTuple a as := fun {ds} ed => by
      subst ed
      obtain ⟨a, vs, ex_, h1, r1⟩ := rp_inv r
      subst ex_
      cases ru
      rw [hK] at h1
      obtain ⟨as, v1, p1, _⟩ := I.tuple h1
      exact ⟨_, _, rfl, p1⟩
    have tup2 : ∀ {ds : List D}, e = .tup ds → ∃ a as, v = .ref a ∧ s.heap.IsTuple a as := fun {ds} ed => by
      subst ed
      obtain ⟨a, vs, ex_, h1, r1⟩ := rp_inv q
      subst ex_
      cases rv
      rw [hK] at h1
      obtain ⟨as, v1, p1, _⟩ := I.tuple h1
      exact ⟨_, _, rfl, p1⟩
    have un : ∀ {A : Around}, A.units + (n + 1) < cLine → A.units < cLine := fun h => by omega
    cases d with
    | exc _ _ => rw [deq_bad.1] at h; cases h
    | obj m => cases e with
      | exc _ _ => rw [deq_bad.2] at h; cases h
      | obj m' =>
        rcases deq_lst h with ⟨xs, ys, g1, g2, hc⟩ | ⟨xs, ys, g1, g2, hk, hc⟩
        · exact lists rfl rfl g1 g2 hc
        · exact dicts rfl rfl g1 g2 hk hc
      | non =>
        obtain ⟨⟨xs, g⟩, rfl⟩ := deq_objL (by simp) (by simp) h
        obtain ⟨as, rfl, il⟩ := lst1 rfl g
        cases rp_inv q; cases rv
        exact .leaf fun A hu => SeqAt.EqAt.list_none il (un hu)
      | bl b =>
        obtain ⟨⟨xs, g⟩, rfl⟩ := deq_objL (by simp) (by simp) h
        obtain ⟨as, rfl, il⟩ := lst1 rfl g
        cases rp_inv q; cases rv
        exact .leaf fun A hu => SeqAt.EqAt.list_bool _ il (un hu)
      | int b =>
        obtain ⟨⟨xs, g⟩, rfl⟩ := deq_objL (by simp) (by simp) h
        obtain ⟨as, rfl, il⟩ := lst1 rfl g
        cases rp_inv q; obtain ⟨t, rfl⟩ := rv
        exact .leaf fun A hu => SeqAt.EqAt.list_int _ _ il (un hu)
      | str b =>
        obtain ⟨⟨xs, g⟩, rfl⟩ := deq_objL (by simp) (by simp) h
        obtain ⟨as, rfl, il⟩ := lst1 rfl g
        obtain ⟨z, rfl, _⟩ := rp_inv q
        obtain ⟨t, rfl⟩ := rv
        exact .leaf fun A hu => SeqAt.EqAt.list_str _ _ il (un hu)
      | tup b =>
        obtain ⟨⟨xs, g⟩, rfl⟩ := deq_objL (by simp) (by simp) h
        obtain ⟨as, rfl, il⟩ := lst1 rfl g
        obtain ⟨a, bs, rfl, it⟩ := tup2 rfl
        exact .leaf fun A hu => SeqAt.EqAt.list_tuple il it (un hu)
    | non => cases e with
      | exc _ _ => rw [deq_bad.2] at h; cases h
      | non => have z1 := rp_inv r; dsimp only at z1; subst z1; have z2 := rp_inv q; dsimp only at z2; subst z2; cases h; exact flat ⟨rfl, rfl⟩ rfl
      | bl k => have z1 := rp_inv r; dsimp only at z1; subst z1; have z2 := rp_inv q; dsimp only at z2; subst z2; cases h; exact flat ⟨rfl, rfl⟩ rfl
      | int k => have z1 := rp_inv r; dsimp only at z1; subst z1; have z2 := rp_inv q; dsimp only at z2; subst z2; cases h; exact flat ⟨rfl, rfl⟩ rfl
      | str k => have z1 := rp_inv r; dsimp only at z1; subst z1; obtain ⟨z', rfl, rfl⟩ := rp_inv q; cases h; exact flat ⟨rfl, rfl⟩ rfl
      | obj m =>
        obtain ⟨⟨xs, g⟩, rfl⟩ := deq_objR (by simp) (by simp) h
        obtain ⟨as, rfl, il⟩ := lst2 rfl g
        have z1 := rp_inv r; dsimp only at z1; subst z1
        cases ru
        exact .leaf fun A hu => SeqAt.EqAt.none_list il (un hu)
      | tup k =>
        cases h
        obtain ⟨a, bs, rfl, it⟩ := tup2 rfl
        have z1 := rp_inv r; dsimp only at z1; subst z1
        cases ru
        exact .leaf fun A hu => SeqAt.EqAt.none_tuple it (un hu)
    | bl b => cases e with
      | exc _ _ => rw [deq_bad.2] at h; cases h
      | non => have z1 := rp_inv r; dsimp only at z1; subst z1; have z2 := rp_inv q; dsimp only at z2; subst z2; cases h; exact flat ⟨rfl, rfl⟩ rfl
      | bl k => have z1 := rp_inv r; dsimp only at z1; subst z1; have z2 := rp_inv q; dsimp only at z2; subst z2; cases h; exact flat ⟨rfl, rfl⟩ (by show (b == k) = decide (b = k); cases b <;> cases k <;> rfl)
      | int k => have z1 := rp_inv r; dsimp only at z1; subst z1; have z2 := rp_inv q; dsimp only at z2; subst z2; cases h; exact flat ⟨rfl, rfl⟩ (Bool.beq_eq_decide_eq _ _)
      | str k => have z1 := rp_inv r; dsimp only at z1; subst z1; obtain ⟨z', rfl, rfl⟩ := rp_inv q; cases h; exact flat ⟨rfl, rfl⟩ rfl
      | obj m =>
        obtain ⟨⟨xs, g⟩, rfl⟩ := deq_objR (by simp) (by simp) h
        obtain ⟨as, rfl, il⟩ := lst2 rfl g
        have z1 := rp_inv r; dsimp only at z1; subst z1
        cases ru
        exact .leaf fun A hu => SeqAt.EqAt.bool_list _ il (un hu)
      | tup k =>
        cases h
        obtain ⟨a, bs, rfl, it⟩ := tup2 rfl
        have z1 := rp_inv r; dsimp only at z1; subst z1
        cases ru
        exact .leaf fun A hu => SeqAt.EqAt.bool_tuple _ it (un hu)
    | int b => cases e with
      | exc _ _ => rw [deq_bad.2] at h; cases h
      | non => have z1 := rp_inv r; dsimp only at z1; subst z1; have z2 := rp_inv q; dsimp only at z2; subst z2; cases h; exact flat ⟨rfl, rfl⟩ rfl
      | bl k => have z1 := rp_inv r; dsimp only at z1; subst z1; have z2 := rp_inv q; dsimp only at z2; subst z2; cases h; exact flat ⟨rfl, rfl⟩ (Bool.beq_eq_decide_eq _ _)
      | int k => have z1 := rp_inv r; dsimp only at z1; subst z1; have z2 := rp_inv q; dsimp only at z2; subst z2; cases h; exact flat ⟨rfl, rfl⟩ (by show (b == k) = decide (b = k); exact Bool.beq_eq_decide_eq b k)
      | str k => have z1 := rp_inv r; dsimp only at z1; subst z1; obtain ⟨z', rfl, rfl⟩ := rp_inv q; cases h; exact flat ⟨rfl, rfl⟩ rfl
      | obj m =>
        obtain ⟨⟨xs, g⟩, rfl⟩ := deq_objR (by simp) (by simp) h
        obtain ⟨as, rfl, il⟩ := lst2 rfl g
        have z1 := rp_inv r; dsimp only at z1; subst z1
        obtain ⟨t, rfl⟩ := ru
        exact .leaf fun A hu => SeqAt.EqAt.int_list _ _ il (un hu)
      | tup k =>
        cases h
        obtain ⟨a, bs, rfl, it⟩ := tup2 rfl
        have z1 := rp_inv r; dsimp only at z1; subst z1
        obtain ⟨t, rfl⟩ := ru
        exact .leaf fun A hu => SeqAt.EqAt.int_tuple _ _ it (un hu)
    | str b => cases e with
      | exc _ _ => rw [deq_bad.2] at h; cases h
      | non => obtain ⟨z, rfl, rfl⟩ := rp_inv r; have z2 := rp_inv q; dsimp only at z2; subst z2; cases h; exact flat ⟨rfl, rfl⟩ rfl
      | bl k => obtain ⟨z, rfl, rfl⟩ := rp_inv r; have z2 := rp_inv q; dsimp only at z2; subst z2; cases h; exact flat ⟨rfl, rfl⟩ rfl
      | int k => obtain ⟨z, rfl, rfl⟩ := rp_inv r; have z2 := rp_inv q; dsimp only at z2; subst z2; cases h; exact flat ⟨rfl, rfl⟩ rfl
      | str k => obtain ⟨z, rfl, rfl⟩ := rp_inv r; obtain ⟨z', rfl, rfl⟩ := rp_inv q; cases h; exact flat ⟨rfl, rfl⟩ str_beq
      | obj m =>
        obtain ⟨⟨xs, g⟩, rfl⟩ := deq_objR (by simp) (by simp) h
        obtain ⟨as, rfl, il⟩ := lst2 rfl g
        obtain ⟨z, rfl, rfl⟩ := rp_inv r
        obtain ⟨t, rfl⟩ := ru
        exact .leaf fun A hu => SeqAt.EqAt.str_list _ _ il (un hu)
      | tup k =>
        cases h
        obtain ⟨a, bs, rfl, it⟩ := tup2 rfl
        obtain ⟨z, rfl, rfl⟩ := rp_inv r
        obtain ⟨t, rfl⟩ := ru
        exact .leaf fun A hu => SeqAt.EqAt.str_tuple _ _ it (un hu)
    | tup ds => cases e with
      | exc _ _ => rw [deq_bad.2] at h; cases h
      | obj m =>
        obtain ⟨⟨xs, g⟩, rfl⟩ := deq_objR (by simp) (by simp) h
        obtain ⟨as, rfl, il⟩ := lst2 rfl g
        obtain ⟨a, bs, rfl, it⟩ := tup1 rfl
        exact .leaf fun A hu => SeqAt.EqAt.tuple_list it il (un hu)
      | tup es =>
        have hc : (if ds.length = es.length then alls (deq S n) ds es else (alls (deq S n) (ds.take es.length) (es.take ds.length)).bind fun _ => some false) = some c := h
        obtain ⟨a, vs, rfl, h1, r1⟩ := rp_inv r
        obtain ⟨b, ws, rfl, h2, r2⟩ := rp_inv q
        have ru' := ru
        have rv' := rv
        cases ru'; cases rv'
        by_cases hne : (Value.ref a) = Value.ref b
        · exact sames hne
        · rw [hK] at h1 h2
          obtain ⟨as, v1, p1, _⟩ := I.tuple h1
          obtain ⟨bs, v2, p2, _⟩ := I.tuple h2
          by_cases hl : ds.length = es.length
          · rw [if_pos hl] at hc
            obtain ⟨k, hk, hi⟩ := row vs ws ds es as bs r1 r2 v1 v2 hl c hc
            have e1 : as.length = bs.length := by rw [← v1.length, ← v2.length, r1.length, r2.length, hl]
            have := EqTree.tuples (prog := X.prog) (w := X.w) (n := n) (e := k) (fun z => hne (by rw [z])) p1 p2 hi
            have z : ((List.range (min as.toArray.size bs.toArray.size)).all k && as.toArray.size == bs.toArray.size) = c := by
              rw [← hk, List.size_toArray, List.size_toArray, ← e1, Nat.min_self, beq_self_eq_true, Bool.and_true]
            rw [z] at this
            exact this
          · rw [if_neg hl] at hc
            cases hz : alls (deq S n) (ds.take es.length) (es.take ds.length) with
            | none => rw [hz] at hc; cases hc
            | some k0 =>
              rw [hz] at hc
              cases hc
              obtain ⟨k, hk, hi⟩ := row _ _ _ _ (as.take es.length) (bs.take ds.length) (r1.take es.length) (r2.take ds.length) (v1.take es.length) (v2.take ds.length) (by simp only [List.length_take]; omega) k0 hz
              have la : as.length = ds.length := by rw [← v1.length, r1.length]
              have lb : bs.length = es.length := by rw [← v2.length, r2.length]
              have := EqTree.tuples (prog := X.prog) (w := X.w) (n := n) (e := k) (fun z => hne (by rw [z])) p1 p2 (fun j h1 h2 => by
                have j1 : j < as.length := by simpa using h1
                have j2 : j < bs.length := by simpa using h2
                have := hi j (by simp only [List.size_toArray, List.length_take]; omega) (by simp only [List.size_toArray, List.length_take]; omega)
                simpa using this)
              have z : ((List.range (min as.toArray.size bs.toArray.size)).all k && as.toArray.size == bs.toArray.size) = false := by
                have : (as.toArray.size == bs.toArray.size) = false := by
                  simp only [List.size_toArray, la, lb]
                  simpa using hl
                rw [this, Bool.and_false]
              rw [z] at this
              exact this
      | non =>
        cases h
        obtain ⟨a, bs, rfl, it⟩ := tup1 rfl
        have z2 := rp_inv q; dsimp only at z2; subst z2
        cases rv
        exact .leaf fun A hu => SeqAt.EqAt.tuple_none it (un hu)
      | bl k =>
        cases h
        obtain ⟨a, bs, rfl, it⟩ := tup1 rfl
        have z2 := rp_inv q; dsimp only at z2; subst z2
        cases rv
        exact .leaf fun A hu => SeqAt.EqAt.tuple_bool _ it (un hu)
      | int k =>
        cases h
        obtain ⟨a, bs, rfl, it⟩ := tup1 rfl
        have z2 := rp_inv q; dsimp only at z2; subst z2
        obtain ⟨t, rfl⟩ := rv
        exact .leaf fun A hu => SeqAt.EqAt.tuple_int _ _ it (un hu)
      | str k =>
        cases h
        obtain ⟨a, bs, rfl, it⟩ := tup1 rfl
        obtain ⟨z', rfl, rfl⟩ := rp_inv q
        obtain ⟨t, rfl⟩ := rv
        exact .leaf fun A hu => SeqAt.EqAt.tuple_str _ _ it (un hu)
end
end Pw
end
section
set_option Elab.async false
set_option linter.all false
set_option maxRecDepth 100000
set_option maxHeartbeats 1000000
set_option autoImplicit false
/-! Pw4: != of lists whose items are compared within one model; the comparison operators -/
namespace PwNe
open PySem PySem.SeqAt
open AutoSeq1 (wpAny_loadPart')
open MeetsSeq MeetsSeq2 MeetsSeq3
section
variable {P : Program} {W : World}
abbrev LObj (d : Option Addr) (a : Array Value) (m : Nat) (z : Array (Option Value)) : Obj := { cls := .type "list", dict := d, data := .seq a m, slots := z }
theorem turnNe (p q : Addr) (va vb : Array Value) (m m2 : Nat) (d d2 : Option Addr) (z z2 : Array (Option Value)) (eqs : va.size = vb.size) (f : Nat → Bool) (left : Nat) :
    ∀ i : Nat, va.size - i = left → MeetsIn P W (Builtin.«list.__eq__.loop» ⟨[.ref p, .ref q, rawInt i, rawInt 3], []⟩)
      (fun A R s => s.heap.get? p = some (LObj d va m z) ∧ s.heap.get? q = some (LObj d2 vb m2 z2) ∧
        (∀ j (g1 : j < va.size) (g2 : j < vb.size), EqIn P W A.in1 s va[j] vb[j] (f j)) ∧ R (.ok (.ret (.bool (!((List.range va.size).drop i).all f)))) s) := by
  induction left with
  | zero =>
    intro i hi A R s hyp
    obtain ⟨hp, g, dr, tk, os⟩ := s
    obtain ⟨x1, x2, cmp, fin⟩ := hyp
    wp_walk using wpAny_loadPart' x1, wpAny_loadPart' x2
    have n1 : va[((i : Nat) : Int).toNat]? = none := by simp; omega
    have n2 : vb[((i : Nat) : Int).toNat]? = none := by simp; omega
    have nothing : (List.range va.size).drop i = [] := by simp; omega
    rw [nothing] at fin
    rw [n1, n2]
    wp_walk using wpAny_loadPart' x1, wpAny_loadPart' x2
    show R (.ok (.ret (.bool (va.size != vb.size)))) _
    rw [eqs]
    simpa using fin
  | succ left ih =>
    intro i hi A R s hyp
    obtain ⟨hp, g, dr, tk, os⟩ := s
    obtain ⟨x1, x2, cmp, fin⟩ := hyp
    wp_walk using wpAny_loadPart' x1, wpAny_loadPart' x2
    have l1 : i < va.size := by omega
    have l2 : i < vb.size := by omega
    have n1 : va[((i : Nat) : Int).toNat]? = some va[i] := by simp [l1]
    have n2 : vb[((i : Nat) : Int).toNat]? = some vb[i] := by simp [l2]
    have here : (List.range va.size).drop i = i :: (List.range va.size).drop (i + 1) := by simp [List.drop_eq_getElem_cons, l1]
    have up : ((i : Int) + 1) = ((i + 1 : Nat) : Int) := by push_cast; rfl
    rw [here, List.all_cons] at fin
    rw [n1, n2]
    refine wpAny_bind (cmp i l1 l2 _ _ ?_)
    cases way : f i with
    | false =>
      rw [way] at fin
      wp_walk using wpAny_loadPart' x1, wpAny_loadPart' x2
      rw [n1, n2]
      wp_walk
      simpa using fin
    | true =>
      rw [way] at fin
      wp_walk
      rw [up]
      refine ⟨plainId_quiet plain_eq_loop _, codeAny_builtin entry_eq_loop ?_⟩
      rw [Around.under_plainId plain_eq_loop _]
      exact ih (i + 1) (by omega) A R _ ⟨x1, x2, cmp, by simpa using fin⟩
theorem wholeNe (p q : Addr) (va vb : Array Value) (m m2 : Nat) (d d2 : Option Addr) (z z2 : Array (Option Value)) (eqs : va.size = vb.size) (f : Nat → Bool) :
    MeetsIn P W (Builtin.«list.__ne__» ⟨[.ref p, .ref q], []⟩)
      (fun A R s => s.heap.get? p = some (LObj d va m z) ∧ s.heap.get? q = some (LObj d2 vb m2 z2) ∧
        (∀ j (g1 : j < va.size) (g2 : j < vb.size), EqIn P W A.in1 s va[j] vb[j] (f j)) ∧ R (.ok (.ret (.bool (!(List.range va.size).all f)))) s) := by
  intro A R s hyp
  obtain ⟨hp, g, dr, tk, os⟩ := s
  obtain ⟨x1, x2, cmp, fin⟩ := hyp
  have _sub := AutoSeq1.sub_list_list
  have same : ¬ (va.size != vb.size) = true := by simp [eqs]
  wp_walk using wpAny_loadPart' x1, wpAny_loadPart' x2
  refine ⟨plainId_quiet plain_eq_loop _, codeAny_builtin entry_eq_loop ?_⟩
  rw [Around.under_plainId plain_eq_loop _]
  exact turnNe p q va vb m m2 d d2 z z2 eqs f _ 0 rfl A R _ ⟨x1, x2, cmp, by simpa using fin⟩
theorem wholeNeT (p q : Addr) (va vb : Array Value) (m m2 : Nat) (d d2 : Option Addr) (z z2 : Array (Option Value)) (f : Nat → Bool) :
    MeetsIn P W (Builtin.«tuple.__ne__» ⟨[.ref p, .ref q], []⟩)
      (fun A R s => s.heap.get? p = some { cls := .type "tuple", dict := d, data := .seq va m, slots := z } ∧ s.heap.get? q = some { cls := .type "tuple", dict := d2, data := .seq vb m2, slots := z2 } ∧
        (∀ j (g1 : j < va.size) (g2 : j < vb.size), EqIn P W A.in1 s va[j] vb[j] (f j)) ∧ R (.ok (.ret (.bool (!((List.range (min va.size vb.size)).all f && va.size == vb.size))))) s) :=
  .of_wp fun A R s hyp => by
    obtain ⟨hp, g, dr, tk, os⟩ := s
    obtain ⟨x1, x2, cmp, last⟩ := hyp
    have _sub := AutoSeq1.sub_tuple_tuple
    have len : (va.toList.zip vb.toList).length = min va.size vb.size := by simp
    wp_walk using wpAny_loadPart' x1, wpAny_loadPart' x2, wpAny_forIn_list _ (fun l b t => b.1 = none ∧ t = ⟨hp, g, dr, tk, os⟩ ∧ ∃ i, l = (va.toList.zip vb.toList).drop i ∧
      R (.ok (.ret (.bool (!(((List.range (min va.size vb.size)).drop i).all f && va.size == vb.size))))) ⟨hp, g, dr, tk, os⟩) _
    case h => exact ⟨rfl, rfl, 0, rfl, by simpa using last⟩
    case fin =>
      rintro ⟨b1, b2⟩ t ⟨e0, rfl, i, none_left, done⟩
      simp only at e0
      subst e0
      have far : min va.size vb.size ≤ i := by
        rcases Nat.lt_or_ge i (va.toList.zip vb.toList).length with w | w
        · rw [List.drop_eq_getElem_cons w] at none_left; cases none_left
        · exact len ▸ w
      rw [List.drop_of_length_le (by simpa using far)] at done
      wp_walk
      exact ⟨_, rfl, by simpa [Builtin.Tuple.tupleCompareSizes, bne] using done⟩
    case turn =>
      rintro ⟨y, x⟩ l b t ⟨e0, rfl, i, here, done⟩
      have near : i < (va.toList.zip vb.toList).length := by
        rcases Nat.lt_or_ge i (va.toList.zip vb.toList).length with w | w
        · exact w
        · rw [List.drop_of_length_le w] at here; cases here
      have nm : i < min va.size vb.size := len ▸ near
      have n1 : i < va.size := Nat.lt_of_lt_of_le nm (Nat.min_le_left _ _)
      have n2 : i < vb.size := Nat.lt_of_lt_of_le nm (Nat.min_le_right _ _)
      rw [List.drop_eq_getElem_cons near] at here
      injection here with pair more
      have e1 : y = va[i] := by simpa using congrArg Prod.fst pair
      have e2 : x = vb[i] := by simpa using congrArg Prod.snd pair
      subst e1 e2
      have dr1 : (List.range (min va.size vb.size)).drop i = i :: (List.range (min va.size vb.size)).drop (i + 1) := by simp [List.drop_eq_getElem_cons, nm]
      rw [dr1, List.all_cons] at done
      refine wpAny_bind (cmp i n1 n2 _ _ ?_)
      cases way : f i with
      | false =>
        rw [way] at done
        wp_walk
        exact ⟨_, rfl, by simpa using done⟩
      | true =>
        rw [way] at done
        wp_walk
        exact ⟨rfl, rfl, i + 1, more, by simpa using done⟩
end
end PwNe

namespace Pw
open PySem PySem.Spec PyProof.Rows L2
section
variable {X : Cx} {w : Wo}
theorem rcNe {A : Around} {s : Shared} {p q : Addr} {va vb : Array Value} {f : Nat → Bool} {E : Value → Shared → Prop} {Q : Value → Shared → Prop} {P : Program} {W : World}
    (i1 : s.heap.IsList p va) (i2 : s.heap.IsList q vb) (eqs : va.size = vb.size) (room : A.units < cLine) (cmp : ∀ j (g1 : j < va.size) (g2 : j < vb.size), SeqAt.EqIn P W A.in1 s va[j] vb[j] (f j))
    (fin : Q (.bool (!(List.range va.size).all f)) s) : wpAny (model P W) A (compareOp .NotEq (.ref p) (.ref q)) Q E s := by
  obtain ⟨⟨c1, d1, dt1, s1⟩, o1, k1, n1, x1⟩ := id i1
  obtain ⟨⟨c2, d2, dt2, s2⟩, o2, k2, n2, x2⟩ := id i2
  simp only at k1 x1 k2 x2
  subst k1 x1 k2 x2
  have fin2 : Value.bool (!(List.range va.size).all f) ≠ Value.notImplemented ∧ Q (.bool (!(List.range va.size).all f)) s := ⟨(fun z => nomatch z), fin⟩
  exact wpAny_richCompare_same_room (T := "list") (op := .NotEq) ⟨_, o1, rfl⟩ ⟨_, o2, rfl⟩ F.slot_list_ne
    (call_meetsIn F.slot_list_ne ⟨_, o1, rfl⟩ F.entry_list_ne (F.args_list_ne_2 _ _) (PwNe.wholeNe p q va vb n1 n2 d1 d2 s1 s2 eqs f) ⟨o1, o2, cmp, fin2⟩) room
theorem rcNeT {A : Around} {s : Shared} {p q : Addr} {va vb : Array Value} {f : Nat → Bool} {E : Value → Shared → Prop} {Q : Value → Shared → Prop} {P : Program} {W : World}
    (i1 : s.heap.IsTuple p va) (i2 : s.heap.IsTuple q vb) (room : A.units < cLine) (cmp : ∀ j (g1 : j < va.size) (g2 : j < vb.size), SeqAt.EqIn P W A.in1 s va[j] vb[j] (f j))
    (fin : Q (.bool (!((List.range (min va.size vb.size)).all f && va.size == vb.size))) s) : wpAny (model P W) A (compareOp .NotEq (.ref p) (.ref q)) Q E s := by
  obtain ⟨⟨c1, d1, dt1, s1⟩, o1, k1, n1, x1⟩ := id i1
  obtain ⟨⟨c2, d2, dt2, s2⟩, o2, k2, n2, x2⟩ := id i2
  simp only at k1 x1 k2 x2
  subst k1 x1 k2 x2
  have fin2 : Value.bool (!((List.range (min va.size vb.size)).all f && va.size == vb.size)) ≠ Value.notImplemented ∧ Q (.bool (!((List.range (min va.size vb.size)).all f && va.size == vb.size))) s := ⟨(fun z => nomatch z), fin⟩
  exact wpAny_richCompare_same_room (T := "tuple") (op := .NotEq) ⟨_, o1, rfl⟩ ⟨_, o2, rfl⟩ F.slot_tuple_ne
    (call_meetsIn F.slot_tuple_ne ⟨_, o1, rfl⟩ F.entry_tuple_ne (F.args_tuple_ne_2 _ _) (PwNe.wholeNeT p q va vb n1 n2 d1 d2 s1 s2 f) ⟨o1, o2, cmp, fin2⟩) room
open PySem.W in
theorem rcNeD {A : Around} {s : Shared} {K : Type} [DecidableEq K] {P : Program} {W : World} {knd : KeyKind P W K} {p q : Addr} {ka kb : List (K × Value)} {r : Bool} {E : Value → Shared → Prop} {Q : Value → Shared → Prop}
    (h1 : (p == sysModules) = false) (h2 : (q == sysModules) = false) (d1 : s.heap.DictOf knd p ka) (d2 : s.heap.DictOf knd q kb) (room : A.units < cLine) (hits : ka.length = kb.length → KeqHitsIn P W A.in1 s kb ka r)
    (fin : Q (.bool (!(ka.length == kb.length && r))) s) : wpAny (model P W) A (compareOp .NotEq (.ref p) (.ref q)) Q E s := by
  refine wpAny_richCompare_same_room (op := .NotEq) d1.typeIs d2.typeIs PySem.F.slot_dict_ne (wpAny_call_entry PySem.F.slot_dict_ne d1.typeIs PySem.F.entry_dict_ne ?_ (PySem.F.args_dict_ne_2 _ _)) room
  show wpAny _ _ (Builtin.Dict.dictSlotArgs "__ne__" ⟨[.ref p, .ref q], []⟩ >>= _) _ _ s
  refine wpAny_bind ?_
  unfold Builtin.Dict.dictSlotArgs
  refine wpAny_bind (wpAny_notOrdered_dict d1.typeIs (show wpAny _ _ (pure (Value.ref p, Value.ref q)) _ _ s from wpAny_pure ?_))
  refine wpAny_bind (wpAny_isInstance (T := "dict") d2.typeIs PySem.F.sub_dict_dict ?_)
  simp only [Bool.not_true, Bool.false_eq_true, if_false]
  refine wpAny_bind (wpAny_pure (wpAny_bind (wpAny_pure (wpAny_bind (keq_samePairsIn h1 h2 d1 d2 hits (wpAny_pure ⟨_, rfl, (fun z => nomatch z), ?_⟩))))))
  simpa using fin
/-- a comparison by what it does to values -/
def rC (w : Wo) (o : Cop) : R2 := fun x y H Q => ∃ φ S dx dy, SimO w.K φ w.ex H S ∧ RE w φ H S x dx ∧ RE w φ H S y dy ∧ ∃ c, cmpD S o dx dy = some c ∧ Q (.bl c) H
theorem deq_flat {S : Store} {n : Nat} {a b : D} {x y : V} {c : Bool} {φ : Nat → Addr} {H : Hp} (rx : Rp w.K φ w.ex H x a) (ry : Rp w.K φ w.ex H y b) (t : topEq a b = true) (h : deq S (n + 1) a b = some c) (nt : ∀ ds, a ≠ .tup ds) (no : ∀ k, a ≠ .obj k) :
    scal x y = true ∧ decide (x = y) = c := by
  cases a with
  | tup ds => exact absurd rfl (nt ds)
  | obj k => exact absurd rfl (no k)
  | exc k fs => cases b <;> cases t
  | non =>
    cases rx
    cases b <;> first | (cases t; done) | (cases ry; cases h; exact ⟨rfl, rfl⟩)
  | bl i =>
    cases rx
    cases b <;> first | (cases t; done) | (cases ry; cases h; exact ⟨rfl, rfl⟩) | skip
    rename_i j
    cases ry; cases h; refine ⟨rfl, ?_⟩; cases i <;> cases j <;> rfl
  | int i =>
    cases rx
    cases b <;> first | (cases t; done) | (cases ry; cases h; exact ⟨rfl, rfl⟩) | skip
    rename_i j
    cases ry; cases h; refine ⟨rfl, ?_⟩
    rw [decide_eq_decide]
    exact ⟨fun z => V.int.inj z, fun z => by rw [z]⟩
  | str i =>
    cases rx
    cases b <;> first | (cases t; done) | (cases ry; cases h; exact ⟨rfl, rfl⟩) | skip
    rename_i j
    cases ry; cases h; refine ⟨rfl, ?_⟩
    rw [decide_eq_decide]
    exact ⟨fun z => by rw [V.str.inj z], fun z => by rw [str_ext z]⟩
theorem un_of (hu : X.A.units + 64 < cLine) {n : Nat} (h : n ≤ 60) : X.A.units + (n + 1) < cLine := by omega
open PySem.W in
/-- == and != of two lists, two tuples: the rows of items -/
theorem rows_eq {pins : List (Addr × Obj)} {σ : L2.St} {H : Hp} {s : Shared} {φ : Nat → Addr} {S : Store} (hK : w.K = X.K) (I : Inv X pins σ H s) (so : SimO w.K φ w.ex H S) {n : Nat} {vs ws : List V} {ds es : List D} {as bs : List Value}
    (r1 : RpA w.K φ w.ex H vs ds) (r2 : RpA w.K φ w.ex H ws es) (v1 : Vals vs as) (v2 : Vals ws bs) (hl : ds.length = es.length) {c : Bool} (hc : alls (deq S n) ds es = some c) :
    ∃ k : Nat → Bool, (List.range as.toArray.size).all k = c ∧ ∀ j (h1 : j < as.toArray.size) (h2 : j < bs.toArray.size), EqTree X.prog X.w s n as.toArray[j] bs.toArray[j] (k j) := by
  obtain ⟨k, hk, hi⟩ := allR_of hl hc
  refine ⟨k, ?_, fun j h1 h2 => ?_⟩
  · rw [← hk, List.size_toArray, ← v1.length, r1.length]
  · have g1 : j < as.length := by simpa using h1
    have g2 : j < bs.length := by simpa using h2
    have l1 : j < vs.length := by rw [v1.length]; exact g1
    have l2 : j < ws.length := by rw [v2.length]; exact g2
    obtain ⟨d1, e1, p1⟩ := r1.getv (List.getElem?_eq_getElem l1)
    obtain ⟨d2, e2, p2⟩ := r2.getv (List.getElem?_eq_getElem l2)
    obtain ⟨u1, f1, q1⟩ := v1.get (List.getElem?_eq_getElem l1)
    obtain ⟨u2, f2, q2⟩ := v2.get (List.getElem?_eq_getElem l2)
    rw [List.getElem?_eq_getElem g1] at f1
    rw [List.getElem?_eq_getElem g2] at f2
    cases f1; cases f2
    exact deq_tree hK I so n _ _ _ _ _ _ q1 q2 p1 p2 _ (hi j _ _ e1 e2)
open PySem.W in
/-- == and != of two dicts with the same keys: what is looked at -/
theorem dcts_eq {pins : List (Addr × Obj)} {σ : L2.St} {H : Hp} {s : Shared} {φ : Nat → Addr} {S : Store} (hK : w.K = X.K) (I : Inv X pins σ H s) (so : SimO w.K φ w.ex H S) {n m m2 : Nat} {xs ys : List (D × D)} {c : Bool}
    (g1 : get S m = some (.dct xs)) (g2 : get S m2 = some (.dct ys)) (hk : xs.map (·.1) = ys.map (·.1)) (hc : alls (deq S n) (xs.map (·.2)) (ys.map (·.2)) = some c) :
    ∃ (va vb : List (Key × Value)) (k : Key → Bool), (φ m == sysModules) = false ∧ (φ m2 == sysModules) = false ∧ s.heap.DictOf (mixKind X.prog X.w) (φ m) va ∧ s.heap.DictOf (mixKind X.prog X.w) (φ m2) vb ∧
      (∀ key x y, (key, x) ∈ va → valueAt vb key = some y → EqTree X.prog X.w s n x y (k key)) ∧ (va.length == vb.length && va.all fun p => (valueAt vb p.1).isSome && k p.1) = c := by
  obtain ⟨ws, h1, k1, r1, nd1⟩ := so.ob m _ g1
  obtain ⟨ws', h2, k2, r2, nd2⟩ := so.ob m2 _ g2
  obtain ⟨_, sy1, va, kv1, da⟩ := I.hok _ _ h1
  obtain ⟨_, sy2, vb, kv2, db⟩ := I.hok _ _ h2
  have hkk : ws.map (·.1) = ws'.map (·.1) := by
    rw [← hk] at k2
    refine keys_same (K := w.K) (φ := φ) (H := H) (ex := w.ex) (ds := xs.map (·.1)) ?_ ?_
    · rw [List.map_map]; exact k1
    · rw [List.map_map]; exact k2
  have ka1 : va.map (·.1) = ws.map (·.1) := (kv_keys kv1).symm
  have kb1 : vb.map (·.1) = ws.map (·.1) := by rw [hkk]; exact (kv_keys kv2).symm
  have ndb : (vb.map (·.1)).Nodup := by rw [kb1]; exact nd1
  have nda : (va.map (·.1)).Nodup := by rw [ka1]; exact nd1
  have hl : (xs.map (·.2)).length = (ys.map (·.2)).length := by have := congrArg List.length hk; simpa using this
  obtain ⟨k, hkc, hi⟩ := rows_eq (vs := _) (ws := _) (as := va.map (·.2)) (bs := vb.map (·.2)) hK I so r1 r2 (kv_vals kv1) (kv_vals kv2) hl hc
  have hlen : va.length = vb.length := by have := congrArg List.length (ka1.trans kb1.symm); simpa using this
  have ix : ∀ (i : Nat) (p : Key × Value), va[i]? = some p → ixOf p.1 (va.map (·.1)) = i := fun i p hp => by
    have hi' : i < (va.map (·.1)).length := by rw [List.length_map]; exact (List.getElem?_eq_some_iff.mp hp).1
    have e1 : (va.map (·.1))[i] = p.1 := by
      obtain ⟨h1, h2⟩ := List.getElem?_eq_some_iff.mp hp
      rw [List.getElem_map, h2]
    rw [← e1]
    exact ixOf_nodup nda i hi'
  refine ⟨va, vb, fun key => k (ixOf key (va.map (·.1))), sy1, sy2, da, db, fun key x y hx hy => ?_, ?_⟩
  · obtain ⟨j, hj, ej⟩ := List.getElem_of_mem hx
    have e1 : ixOf key (va.map (·.1)) = j := ix j (key, x) (by rw [← ej]; exact List.getElem?_eq_getElem hj)
    dsimp only
    rw [e1]
    have hjb : j < vb.length := by omega
    have kj : (vb[j]).1 = key := by
      have z1 : (vb.map (·.1))[j]? = (va.map (·.1))[j]? := by rw [kb1, ka1]
      rw [List.getElem?_map, List.getElem?_map, List.getElem?_eq_getElem hjb, List.getElem?_eq_getElem hj, ej] at z1
      exact Option.some.inj z1
    have yj : (vb[j]).2 = y := by
      have z := valueAt_of_mem ndb (k := key) (v := (vb[j]).2) (by rw [← kj]; exact List.getElem_mem hjb)
      rw [hy] at z
      exact (Option.some.inj z).symm
    have := hi j (by simpa using hj) (by simpa using hjb)
    simp only [List.getElem_toArray, List.getElem_map] at this
    rw [ej, yj] at this
    exact this
  · rw [← hkc, hlen, beq_self_eq_true, Bool.true_and]
    have hs : ∀ p ∈ va, (valueAt vb p.1).isSome = true := fun p hp => valueAt_isSome.mpr (by rw [kb1, ← ka1]; exact List.mem_map_of_mem hp)
    rw [List.size_toArray, List.length_map, Bool.eq_iff_iff, List.all_eq_true, List.all_eq_true]
    constructor
    · intro h j hj
      have hj' : j < va.length := by simpa using hj
      have := h va[j] (List.getElem_mem hj')
      dsimp only at this
      rw [ix j _ (List.getElem?_eq_getElem hj')] at this
      simp only [Bool.and_eq_true] at this
      exact this.2
    · intro h p hp
      dsimp only
      rw [hs p hp, Bool.true_and]
      obtain ⟨j, hj, ej⟩ := List.getElem_of_mem hp
      rw [ix j p (by rw [← ej]; exact List.getElem?_eq_getElem hj)]
      exact h j (by simpa using hj)
theorem opR_eq (hK : w.K = X.K) (hu : X.A.units + 64 < cLine) : OpR X (compareOp .Eq) (rC w .eq) := by
  intro pins s σ H x y v u Q I rx ry h
  obtain ⟨φ, S, dx, dy, so, ⟨px, bx⟩, ⟨py, by_⟩, c, hc, h⟩ := h
  have hc : (if topOk S false dx dy = true then deq S fuel dx dy else none) = some c := hc
  by_cases hto : topOk S false dx dy = true
  · rw [if_pos hto] at hc
    have ht : topEq dx dy = true := by
      unfold topOk at hto
      simp only [Bool.and_eq_true] at hto
      exact hto.1
    have uu : X.A.in1.units + 39 < cLine := by show X.A.units + 1 + 39 < cLine; omega
    cases dx with
    | tup ds => cases dy with
      | tup es =>
        have hc' : (if ds.length = es.length then alls (deq S 39) ds es else (alls (deq S 39) (ds.take es.length) (es.take ds.length)).bind fun _ => some false) = some c := hc
        obtain ⟨a, vs, rfl, h1, r1⟩ := rp_inv px
        obtain ⟨b, ws, rfl, h2, r2⟩ := rp_inv py
        cases rx; cases ry
        rw [hK] at h1 h2
        obtain ⟨as, v1, p1, _⟩ := I.tuple h1
        obtain ⟨bs, v2, p2, _⟩ := I.tuple h2
        have la : as.length = ds.length := by rw [← v1.length, r1.length]
        have lb : bs.length = es.length := by rw [← v2.length, r2.length]
        by_cases hl : ds.length = es.length
        · rw [if_pos hl] at hc'
          obtain ⟨k, hk, hi⟩ := rows_eq hK I so r1 r2 v1 v2 hl hc'
          refine PySem.W.eq_tuplesT (n := 39) p1 p2 hi (un_of hu (by omega)) ⟨.bl c, H, I, ?_, h⟩
          show Value.bool _ = Value.bool c
          have e1 : as.length = bs.length := by omega
          rw [← hk, List.size_toArray, List.size_toArray, ← e1, Nat.min_self, beq_self_eq_true, Bool.and_true]
        · rw [if_neg hl] at hc'
          cases hz : alls (deq S 39) (ds.take es.length) (es.take ds.length) with
          | none => rw [hz] at hc'; cases hc'
          | some k0 =>
            rw [hz] at hc'
            cases hc'
            obtain ⟨k, hk, hi⟩ := rows_eq hK I so (r1.take es.length) (r2.take ds.length) (v1.take es.length) (v2.take ds.length) (by simp only [List.length_take]; omega) hz
            refine PySem.W.eq_tuplesT (n := 39) (e := k) p1 p2 (fun j h1 h2 => ?_) (un_of hu (by omega)) ⟨.bl false, H, I, ?_, h⟩
            · have j1 : j < as.length := by simpa using h1
              have j2 : j < bs.length := by simpa using h2
              have := hi j (by simp only [List.size_toArray, List.length_take]; omega) (by simp only [List.size_toArray, List.length_take]; omega)
              simpa using this
            · have : (as.toArray.size == bs.toArray.size) = false := by
                simp only [List.size_toArray, la, lb]
                simpa using hl
              show Value.bool _ = Value.bool false
              rw [this, Bool.and_false]
      | _ => cases ht
    | obj m => cases dy with
      | obj m' =>
        have ex := rp_inv px
        have ey := rp_inv py
        dsimp only at ex ey
        subst ex ey
        cases rx; cases ry
        rcases deq_lst (n := 39) hc with ⟨xs, ys, g1, g2, hc'⟩ | ⟨xs, ys, g1, g2, hk, hc'⟩
        · obtain ⟨vs, h1, r1⟩ := so.ob m _ g1
          obtain ⟨ws, h2, r2⟩ := so.ob m' _ g2
          obtain ⟨as, v1, p1, _⟩ := I.list (SqL.of h1)
          obtain ⟨bs, v2, p2, _⟩ := I.list (SqL.of h2)
          by_cases hl : xs.length = ys.length
          · rw [if_pos hl] at hc'
            obtain ⟨k, hk, hi⟩ := rows_eq hK I so r1 r2 v1 v2 hl hc'
            refine PySem.W.eq_listsT (n := 39) p1.isList p2.isList ?_ hi (un_of hu (by omega)) ⟨.bl c, H, I, by rw [hk]; rfl, h⟩
            simp only [List.size_toArray]; rw [← v1.length, ← v2.length, r1.length, r2.length, hl]
          · rw [if_neg hl] at hc'
            cases hc'
            refine SeqAt.eq_list_lengthsAt p1.isList p2.isList ?_ (by omega) ⟨.bl false, H, I, rfl, h⟩
            have : as.length ≠ bs.length := by rw [← v1.length, ← v2.length, r1.length, r2.length]; exact hl
            simpa using this
        · obtain ⟨va, vb, k, s1, s2, da, db, ht, e⟩ := dcts_eq hK I so g1 g2 hk hc'
          refine PySem.W.eq_dictsT (n := 39) s1 s2 da db ht (un_of hu (by omega)) ⟨.bl c, H, I, by rw [e]; rfl, h⟩
      | _ => cases ht
    | _ =>
      obtain ⟨h1, h2⟩ := deq_flat px py ht hc (by intro ds z; cases z) (by intro k z; cases z)
      exact op_eq pins s σ H _ _ v u Q I rx ry ⟨h1, by rw [h2]; exact h⟩
  · rw [if_neg hto] at hc; cases hc
theorem opR_ne (hK : w.K = X.K) (hu : X.A.units + 64 < cLine) : OpR X (compareOp .NotEq) (rC w .ne) := by
  intro pins s σ H x y v u Q I rx ry h
  obtain ⟨φ, S, dx, dy, so, ⟨px, bx⟩, ⟨py, by_⟩, c', hc, h⟩ := h
  have hc : (if topOk S true dx dy = true then (deq S fuel dx dy).map (!·) else none) = some c' := hc
  by_cases ht : topOk S true dx dy = true
  · rw [if_pos ht] at hc
    obtain ⟨c, hd, e⟩ := Option.map_eq_some_iff.mp hc
    subst e
    clear hc
    have hc : deq S (39 + 1) dx dy = some c := hd
    have te : topEq dx dy = true := by
      unfold topOk at ht
      simp only [Bool.and_eq_true] at ht
      exact ht.1
    cases dx with
    | tup ds => cases dy with
      | tup es =>
        have hc' : (if ds.length = es.length then alls (deq S 39) ds es else (alls (deq S 39) (ds.take es.length) (es.take ds.length)).bind fun _ => some false) = some c := hc
        obtain ⟨a, vs, rfl, h1, r1⟩ := rp_inv px
        obtain ⟨b, ws, rfl, h2, r2⟩ := rp_inv py
        cases rx; cases ry
        rw [hK] at h1 h2
        obtain ⟨as, v1, p1, _⟩ := I.tuple h1
        obtain ⟨bs, v2, p2, _⟩ := I.tuple h2
        have la : as.length = ds.length := by rw [← v1.length, r1.length]
        have lb : bs.length = es.length := by rw [← v2.length, r2.length]
        by_cases hl : ds.length = es.length
        · rw [if_pos hl] at hc'
          obtain ⟨k, hk, hi⟩ := rows_eq hK I so r1 r2 v1 v2 hl hc'
          refine rcNeT p1 p2 (by omega) (fun j g1 g2 => (hi j g1 g2).at X.A.in1 (by show X.A.units + 1 + 39 < cLine; omega)) ⟨.bl (!c), H, I, ?_, h⟩
          show Value.bool _ = Value.bool (!c)
          have e1 : as.length = bs.length := by omega
          rw [← hk, List.size_toArray, List.size_toArray, ← e1, Nat.min_self, beq_self_eq_true, Bool.and_true]
        · rw [if_neg hl] at hc'
          cases hz : alls (deq S 39) (ds.take es.length) (es.take ds.length) with
          | none => rw [hz] at hc'; cases hc'
          | some k0 =>
            rw [hz] at hc'
            cases hc'
            obtain ⟨k, hk, hi⟩ := rows_eq hK I so (r1.take es.length) (r2.take ds.length) (v1.take es.length) (v2.take ds.length) (by simp only [List.length_take]; omega) hz
            refine rcNeT (f := k) p1 p2 (by omega) (fun j h1 h2 => ?_) ⟨.bl true, H, I, ?_, h⟩
            · have j1 : j < as.length := by simpa using h1
              have j2 : j < bs.length := by simpa using h2
              have := hi j (by simp only [List.size_toArray, List.length_take]; omega) (by simp only [List.size_toArray, List.length_take]; omega)
              have := this.at X.A.in1 (by show X.A.units + 1 + 39 < cLine; omega)
              simpa using this
            · have : (as.toArray.size == bs.toArray.size) = false := by
                simp only [List.size_toArray, la, lb]
                simpa using hl
              show Value.bool _ = Value.bool true
              rw [this, Bool.and_false]; rfl
      | _ => cases te
    | obj m => cases dy with
      | obj m' =>
        have ex := rp_inv px
        have ey := rp_inv py
        dsimp only at ex ey
        subst ex ey
        cases rx; cases ry
        rcases deq_lst (n := 39) hc with ⟨xs, ys, g1, g2, hc'⟩ | ⟨xs, ys, g1, g2, hk, hc'⟩
        · obtain ⟨vs, h1, r1⟩ := so.ob m _ g1
          obtain ⟨ws, h2, r2⟩ := so.ob m' _ g2
          obtain ⟨as, v1, p1, _⟩ := I.list (SqL.of h1)
          obtain ⟨bs, v2, p2, _⟩ := I.list (SqL.of h2)
          by_cases hl : xs.length = ys.length
          · rw [if_pos hl] at hc'
            obtain ⟨k, hk, hi⟩ := rows_eq hK I so r1 r2 v1 v2 hl hc'
            refine rcNe p1.isList p2.isList ?_ (by omega) (fun j g1 g2 => (hi j g1 g2).at X.A.in1 (by show X.A.units + 1 + 39 < cLine; omega)) ⟨.bl (!c), H, I, by rw [hk]; rfl, h⟩
            simp only [List.size_toArray]; rw [← v1.length, ← v2.length, r1.length, r2.length, hl]
          · rw [if_neg hl] at hc'
            cases hc'
            refine SeqAt.RcNeAt.lists_lengths p1.isList p2.isList ?_ (by omega) _ _ _ _ ⟨.bl true, H, I, rfl, h⟩
            have : as.length ≠ bs.length := by rw [← v1.length, ← v2.length, r1.length, r2.length]; exact hl
            simpa using this
        · obtain ⟨va, vb, k, s1, s2, da, db, ht, e⟩ := dcts_eq hK I so g1 g2 hk hc'
          refine rcNeD s1 s2 da db (by omega) (fun _ => PySem.W.KeqHitsIn.of _ fun k v y hm hv => (ht k v y hm hv).at X.A.in1 (by show X.A.units + 1 + 39 < cLine; omega)) ⟨.bl (!c), H, I, by rw [e]; rfl, h⟩
      | _ => cases te
    | _ =>
      obtain ⟨h1, h2⟩ := deq_flat px py te hc (by intro ds z; cases z) (by intro k z; cases z)
      exact op_ne pins s σ H _ _ v u Q I rx ry ⟨h1, by rw [h2]; exact h⟩
  · rw [if_neg ht] at hc; cases hc
end
end Pw
end
section
set_option Elab.async false
set_option linter.all false
set_option maxRecDepth 100000
set_option maxHeartbeats 2000000
set_option autoImplicit false
/-! Pw4d: dicts by what they hold: keys that stand alone, keys that are tuples -/
namespace Pw
open PySem PySem.Spec PyProof.Rows L2
def keyD : Key → D
  | .inl i => .int i
  | .inr x => .str x.cps.toList
theorem rp_key {K : PySem.W.Frag} {φ : Nat → Addr} {ex : Ex1} {H : Hp} {k : Key} {d : D} (r : Rp K φ ex H (kV k) d) : d = keyD k := by
  cases k with
  | inl i => cases (show Rp K φ ex H (.int i) d from r); rfl
  | inr x => cases (show Rp K φ ex H (.str x) d from r); rfl
theorem rp_keyD {K : PySem.W.Frag} {φ : Nat → Addr} {ex : Ex1} {H : Hp} (k : Key) : Rp K φ ex H (kV k) (keyD k) := by
  cases k with
  | inl i => exact .int i
  | inr x => exact .str x
theorem keyD_inj {k k' : Key} (h : keyD k = keyD k') : k = k' := by
  cases k <;> cases k' <;> first | (cases h; done) | skip
  · cases h; rfl
  · rw [str_ext (D.str.inj h)]
theorem putK_cons {a k : Key} {u v : V} {r : List (Key × V)} (nd : ((a, u) :: r).map (·.1) |>.Nodup) : putK ((a, u) :: r) k v = if a = k then (a, v) :: r else (a, u) :: putK r k v := by
  unfold putK
  by_cases h : a = k
  · subst h
    have hr : r.map (fun kv => if kv.1 = a then (kv.1, v) else kv) = r := by
      have : ∀ p ∈ r, (if p.1 = a then (p.1, v) else p) = p := fun p hp => by
        rw [if_neg]
        intro e
        simp only [List.map_cons, List.nodup_cons] at nd
        exact nd.1 (by rw [← e]; exact List.mem_map_of_mem hp)
      exact (List.map_congr_left this).trans (List.map_id _)
    simp [hr]
  · simp only [List.any_cons, decide_eq_false h, Bool.false_or, List.map_cons, if_neg h]
    split <;> rfl
theorem put_rel {K : PySem.W.Frag} {φ : Nat → Addr} {ex : Ex1} {H : Hp} {k : Key} {v : V} {dv : D} (rv : Rp K φ ex H v dv) : ∀ {kvs : List (D × D)} {ws : List (Key × V)}, RpA K φ ex H (ws.map fun p => kV p.1) (kvs.map (·.1)) → RpA K φ ex H (ws.map (·.2)) (kvs.map (·.2)) → (ws.map (·.1)).Nodup →
    RpA K φ ex H ((putK ws k v).map fun p => kV p.1) ((putD (keyD k) dv kvs).map (·.1)) ∧ RpA K φ ex H ((putK ws k v).map (·.2)) ((putD (keyD k) dv kvs).map (·.2)) ∧ ((putK ws k v).map (·.1)).Nodup ∧ ∀ x ∈ (putK ws k v).map (·.1), x = k ∨ x ∈ ws.map (·.1)
  | [], [], _, _, _ => by
    refine ⟨.cons (rp_keyD k) .nil, .cons rv .nil, by simp [putK], fun x hx => ?_⟩
    simp [putK] at hx
    exact .inl hx
  | (a, u) :: r, [], h, _, _ => by cases h
  | [], (a, u) :: t, h, _, _ => by cases h
  | (da, du) :: r, (a, u) :: t, h1, h2, nd => by
    simp only [List.map_cons] at h1 h2
    cases h1 with
    | cons q1 r1 => cases h2 with
      | cons q2 r2 =>
        have ea := rp_key q1
        subst ea
        rw [putK_cons nd]
        have nd' := nd
        simp only [List.map_cons, List.nodup_cons] at nd'
        by_cases h : a = k
        · subst h
          have e : putD (keyD a) dv ((keyD a, du) :: r) = (keyD a, dv) :: r := by unfold putD; rw [if_pos rfl]
          rw [if_pos rfl, e]
          exact ⟨.cons q1 r1, .cons rv r2, nd, fun x hx => .inr hx⟩
        · have e : putD (keyD k) dv ((keyD a, du) :: r) = (keyD a, du) :: putD (keyD k) dv r := by
            unfold putD
            rw [if_neg (fun z => h (keyD_inj z))]
            cases r <;> rfl
          obtain ⟨i1, i2, i3, i4⟩ := put_rel (k := k) rv r1 r2 nd'.2
          rw [if_neg h, e]
          refine ⟨.cons q1 i1, .cons q2 i2, ?_, fun x hx => ?_⟩
          · simp only [List.map_cons, List.nodup_cons]
            exact ⟨fun hm => (i4 a hm).elim h nd'.1, i3⟩
          · simp only [List.map_cons, List.mem_cons] at hx ⊢
            rcases hx with rfl | hx
            · exact .inr (.inl rfl)
            · exact (i4 x hx).imp id .inr
theorem bels_putD {n : Nat} {k v : D} (hk : D.bel n k = true) (hv : D.bel n v = true) : ∀ {kvs : List (D × D)}, (SO.dct kvs).bel n = true → (SO.dct (putD k v kvs)).bel n = true
  | [], _ => by
    show (D.bel n k && true && (D.bel n v && true)) = true
    rw [hk, hv]; rfl
  | (a, u) :: r, h => by
    have h' : D.bel n a = true ∧ D.bel n u = true ∧ (SO.dct r).bel n = true := by
      simp only [SO.bel, List.map_cons, D.bels, Bool.and_eq_true] at h ⊢
      exact ⟨h.1.1, h.2.1, h.1.2, h.2.2⟩
    unfold putD
    split
    · simp only [SO.bel, List.map_cons, D.bels, Bool.and_eq_true] at h ⊢
      exact ⟨h.1, hv, h.2.2⟩
    · have := bels_putD hk hv h'.2.2
      simp only [SO.bel, List.map_cons, D.bels, Bool.and_eq_true] at this ⊢
      exact ⟨⟨h'.1, this.1⟩, h'.2.1, this.2⟩

theorem look_rel {K : PySem.W.Frag} {φ : Nat → Addr} {ex : Ex1} {H : Hp} {k : Key} : ∀ {kvs : List (D × D)} {ws : List (Key × V)}, RpA K φ ex H (ws.map fun p => kV p.1) (kvs.map (·.1)) → RpA K φ ex H (ws.map (·.2)) (kvs.map (·.2)) →
    (valV ws k = none ∧ lookD (keyD k) kvs = none) ∨ ∃ v d, valV ws k = some v ∧ lookD (keyD k) kvs = some d ∧ Rp K φ ex H v d
  | [], [], _, _ => .inl ⟨rfl, rfl⟩
  | [], _ :: _, h, _ => by cases h
  | _ :: _, [], h, _ => by cases h
  | (da, du) :: r, (a, u) :: t, h1, h2 => by
    simp only [List.map_cons] at h1 h2
    cases h1 with
    | cons q1 r1 => cases h2 with
      | cons q2 r2 =>
        have ea := rp_key q1
        subst ea
        by_cases h : a = k
        · subst h
          exact .inr ⟨u, du, valV_pos rfl, by unfold lookD; rw [if_pos rfl], q2⟩
        · rcases look_rel (k := k) r1 r2 with ⟨e1, e2⟩ | ⟨v, d, e1, e2, e3⟩
          · exact .inl ⟨by rw [valV_neg h]; exact e1, by unfold lookD; rw [if_neg fun z => h (keyD_inj z)]; exact e2⟩
          · exact .inr ⟨v, d, by rw [valV_neg h]; exact e1, by unfold lookD; rw [if_neg fun z => h (keyD_inj z)]; exact e2, e3⟩
theorem lookD_mem {k d : D} : ∀ {kvs : List (D × D)}, lookD k kvs = some d → (k, d) ∈ kvs
  | [], h => by cases h
  | (a, u) :: r, h => by
    unfold lookD at h
    split at h
    · rename_i e
      cases h
      rw [e]
      exact List.mem_cons_self ..
    · exact List.mem_cons_of_mem _ (lookD_mem h)
/-! ### keys that are tuples -/
theorem str_back (z : Str) : (⟨z.cps.toList.toArray⟩ : Str) = z := by cases z; simp
section
variable {X : Cx} {pins : List (Addr × Obj)} {σ : L2.St} {H : Hp} {s : Shared} {φ : Nat → Addr} {ex : Ex1}
theorem nested_of (I : Inv X pins σ H s) : ∀ (n : Nat) (d : D) (v : V) (u : Value), keyIn n d = true → Rp X.K φ ex H v d → RelV v u → NestedIs s.heap (keyN d) u ∧ (keyN d).depth ≤ n := by
  intro n
  induction n with
  | zero =>
    intro d v u h r q
    cases d with
    | int i => cases r; obtain ⟨t, rfl⟩ := q; exact ⟨.int _ _, by simp [keyN, NestedKey.depth]⟩
    | str l =>
      obtain ⟨z, rfl, rfl⟩ := rp_inv r
      obtain ⟨t, rfl⟩ := q
      exact ⟨by simp only [keyN]; rw [str_back]; exact .text _ _, by simp [keyN, NestedKey.depth]⟩
    | _ => simp [keyIn] at h
  | succ n ih =>
    intro d v u h r q
    cases d with
    | int i => cases r; obtain ⟨t, rfl⟩ := q; exact ⟨.int _ _, by simp [keyN, NestedKey.depth]⟩
    | str l =>
      obtain ⟨z, rfl, rfl⟩ := rp_inv r
      obtain ⟨t, rfl⟩ := q
      exact ⟨by simp only [keyN]; rw [str_back]; exact .text _ _, by simp [keyN, NestedKey.depth]⟩
    | tup ds =>
      have all : ∀ {ds : List D} {vs : List V} {us : List Value}, (∀ d ∈ ds, keyIn n d = true) → RpA X.K φ ex H vs ds → Vals vs us → NestedAll s.heap (keyNs ds) us ∧ NestedKey.depthAll (keyNs ds) ≤ n := by
        intro ds
        induction ds with
        | nil => intro vs us _ r q; cases r; cases q; exact ⟨by simp only [keyNs]; exact .nil, by simp [keyNs, NestedKey.depthAll]⟩
        | cons d ds ihd =>
          intro vs us h r q
          cases r with
          | cons r1 r2 => cases q with
            | cons q1 q2 =>
              obtain ⟨a1, a2⟩ := ih d _ _ (h d (List.mem_cons_self ..)) r1 q1
              obtain ⟨b1, b2⟩ := ihd (fun d hd => h d (List.mem_cons_of_mem _ hd)) r2 q2
              exact ⟨by simp only [keyNs]; exact .cons a1 b1, by simp only [keyNs, NestedKey.depthAll]; omega⟩
      cases r with
      | tup hs ra =>
        cases (show u = Value.ref _ from q)
        obtain ⟨its, rv, ⟨o, h1, h2, n', h3⟩, _⟩ := I.tuple hs
        obtain ⟨c1, c2⟩ := all (fun d hd => List.all_eq_true.mp (by simpa [keyIn] using h) d hd) ra rv
        exact ⟨by simp only [keyN]; exact .tup h1 h2 h3 (by simpa using c1), by simp only [keyN, NestedKey.depth]; omega⟩
    | _ => simp [keyIn] at h
theorem key_ref {d : D} {v : V} {H : Hp} (h : keyT d = true) (r : Rp X.K φ ex H v d) : ∃ a, v = .ref a := by
  cases d with
  | tup ds => cases r; exact ⟨_, rfl⟩
  | _ => cases h
theorem keyT_in {d : D} (h : keyT d = true) : keyIn 7 d = true := by
  cases d with
  | tup ds => simpa [keyIn, keyT] using h
  | _ => cases h
theorem key_is (I : Inv X pins σ H s) {d : D} {a : Addr} (h : keyT d = true) (r : Rp X.K φ ex H (.ref a) d) : (nestedKind X.prog X.w).is s.heap (keyN d) a := by
  obtain ⟨h1, h2⟩ := nested_of I 7 d _ _ (keyT_in h) r rfl
  exact ⟨h1, by omega⟩
end
theorem keyN_inj : ∀ (n m : Nat) (d e : D), keyIn n d = true → keyIn m e = true → keyN d = keyN e → d = e := by
  intro n
  induction n with
  | zero =>
    intro m d e h1 h2 h
    cases d <;> first | (simp [keyIn] at h1; done) | skip
    all_goals (cases e <;> first | (simp [keyIn] at h2; done) | (simp [keyN] at h; done) | skip)
    · simp only [keyN, NestedKey.num.injEq] at h; rw [h]
    · simp only [keyN, NestedKey.text.injEq, Str.mk.injEq] at h
      exact congrArg D.str (by simpa using h)
  | succ n ih =>
    intro m d e h1 h2 h
    cases d <;> first | (simp [keyIn] at h1; done) | skip
    all_goals (cases e <;> first | (simp [keyIn] at h2; done) | (simp [keyN] at h; done) | skip)
    · simp only [keyN, NestedKey.num.injEq] at h; rw [h]
    · simp only [keyN, NestedKey.text.injEq, Str.mk.injEq] at h
      exact congrArg D.str (by simpa using h)
    · rename_i ds es
      cases m with
      | zero => simp [keyIn] at h2
      | succ m =>
        simp only [keyN, NestedKey.tup.injEq] at h
        have all : ∀ {ds es : List D}, (∀ d ∈ ds, keyIn n d = true) → (∀ d ∈ es, keyIn m d = true) → keyNs ds = keyNs es → ds = es := by
          intro ds
          induction ds with
          | nil => intro es _ _ h; cases es with | nil => rfl | cons _ _ => simp [keyNs] at h
          | cons d ds ihd =>
            intro es g1 g2 h
            cases es with
            | nil => simp [keyNs] at h
            | cons e es =>
              simp only [keyNs, List.cons.injEq] at h
              rw [ih m d e (g1 d (List.mem_cons_self ..)) (g2 e (List.mem_cons_self ..)) h.1, ihd (fun d hd => g1 d (List.mem_cons_of_mem _ hd)) (fun d hd => g2 d (List.mem_cons_of_mem _ hd)) h.2]
        rw [all (fun d hd => List.all_eq_true.mp (by simpa [keyIn] using h1) d hd) (fun d hd => List.all_eq_true.mp (by simpa [keyIn] using h2) d hd) h]
theorem keyT_inj {d e : D} (h1 : keyT d = true) (h2 : keyT e = true) (h : keyN d = keyN e) : d = e := keyN_inj 7 7 d e (keyT_in h1) (keyT_in h2) h
/-! ### a dict whose keys are tuples, at its address -/
section
variable {X : Cx} {pins : List (Addr × Obj)} {σ : L2.St} {H : Hp} {s : Shared} {φ : Nat → Addr} {w : Wo} {S : Store}
theorem dN_at {a : Addr} {wd : World} {xs : List (NestedKey × Addr × Value)} (I : Inv X pins σ H s) (e : H a = some (dN wd a xs)) : ∃ (o : Obj) (es : Array DictEntry) (ep : Nat), s.heap.get? a = some o ∧ o.ExactDict ∧ o.data = .dict es ep ∧ es.toList = xs.map (entN wd) ∧ (xs.map (·.1)).Nodup := by
  have x : ObjOk X.prog X.w H s.heap a (.ext fun h => ∃ (o : Obj) (es : Array DictEntry) (ep : Nat), h.get? a = some o ∧ o.ExactDict ∧ o.data = .dict es ep ∧ es.toList = xs.map (entN wd) ∧ (xs.map (·.1)).Nodup) := I.hok a _ e
  exact x.1
theorem dN_ok {P : Program} {wd : World} {H : Hp} {h : Heap} {a : Addr} {xs : List (NestedKey × Addr × Value)} (dd : h.DictOfH (nestedKind P wd) a xs) : ObjOk P wd H h a (dN wd a xs) := by
  obtain ⟨o, es, ep, h1, h2, h3, h4, _, h5⟩ := dd
  exact ⟨⟨o, es, ep, h1, h2, h3, h4, h5⟩, ⟨o, h1⟩, fun _ _ ⟨o, es, ep, q1, q⟩ st => ⟨o, es, ep, st _ q1, q⟩⟩
/-- what stands there -/
theorem dcn_at (hK : w.K = X.K) (hW : w.ex.1 = X.w) (I : Inv X pins σ H s) {n : Nat} {kvs : List (D × D)} (so : SimO w.K φ w.ex H S) (e : get S n = some (.dcn kvs)) : ∃ (xs : List (NestedKey × Addr × Value)) (vs : List V), H (φ n) = some (dN X.w (φ n) xs) ∧ (φ n == sysModules) = false ∧ s.heap.DictOfH (nestedKind X.prog X.w) (φ n) xs ∧
    RpA w.K φ w.ex H (xs.map fun x => V.ref x.2.1) (kvs.map (·.1)) ∧ Vals vs (xs.map (·.2.2)) ∧ RpA w.K φ w.ex H vs (kvs.map (·.2)) ∧ xs.map (·.1) = kvs.map (fun p => keyN p.1) ∧ ∀ p ∈ kvs, keyT p.1 = true := by
  obtain ⟨xs, vs, h1, h2, h3, h4, h5, h6, h7⟩ := so.ob n _ e
  rw [hW] at h1
  obtain ⟨o, es, ep, q1, q2, q3, q4, q5⟩ := dN_at I h1
  refine ⟨xs, vs, h1, h2, ⟨o, es, ep, q1, q2, q3, q4, fun x hx => ?_, q5⟩, h3, h4, h5, h6, h7⟩
  obtain ⟨i, hi⟩ := List.mem_iff_getElem?.mp hx
  obtain ⟨d, hd, r⟩ := h3.getv (i := i) (v := V.ref x.2.1) (by rw [List.getElem?_map, hi]; rfl)
  rw [List.getElem?_map, Option.map_eq_some_iff] at hd
  obtain ⟨p, hp, rfl⟩ := hd
  have hk : x.1 = keyN p.1 := by
    have e2 : (xs.map (·.1))[i]? = (kvs.map fun p => keyN p.1)[i]? := by rw [h6]
    rw [List.getElem?_map, List.getElem?_map, hi, hp] at e2
    exact Option.some.inj e2
  rw [hk]
  rw [hK] at r
  exact key_is I (h7 p (List.mem_of_getElem? hp)) r
theorem at_rel {K : PySem.W.Frag} {ex : Ex1} {k : D} (hk : keyT k = true) : ∀ {kvs : List (D × D)} {xs : List (NestedKey × Addr × Value)} {vs : List V}, xs.map (·.1) = kvs.map (fun p => keyN p.1) → Vals vs (xs.map (·.2.2)) → RpA K φ ex H vs (kvs.map (·.2)) → (∀ p ∈ kvs, keyT p.1 = true) →
    (atKey xs (keyN k) = none ∧ lookD k kvs = none) ∨ ∃ p v d, atKey xs (keyN k) = some p ∧ lookD k kvs = some d ∧ RelV v p.2 ∧ Rp K φ ex H v d
  | [], [], _, _, _, _, _ => .inl ⟨rfl, rfl⟩
  | [], _ :: _, _, h, _, _, _ => by simp at h
  | _ :: _, [], _, h, _, _, _ => by simp at h
  | (da, du) :: r, (a, b, u) :: t, vs, h, hv, h2, h7 => by
    simp only [List.map_cons, List.cons.injEq] at h
    simp only [List.map_cons] at hv h2
    cases hv with
    | cons v1 v2 => cases h2 with
      | cons q1 q2 =>
        by_cases e : da = k
        · subst e
          refine .inr ⟨(b, u), _, du, ?_, by unfold lookD; rw [if_pos rfl], v1, q1⟩
          unfold atKey
          rw [List.find?_cons]
          simp [h.1]
        · have ne : a ≠ keyN k := fun z => e (keyT_inj (h7 _ (List.mem_cons_self ..)) hk (by rw [← h.1]; exact z))
          have e1 : atKey ((a, b, u) :: t) (keyN k) = atKey t (keyN k) := by
            unfold atKey
            rw [List.find?_cons]
            simp [ne]
          have e2 : lookD k ((da, du) :: r) = lookD k r := by rw [lookD, if_neg e]
          rw [e1, e2]
          exact at_rel hk h.2 v2 q2 fun p hp => h7 p (List.mem_cons_of_mem _ hp)
/-- an entry put -/
theorem put_relN {K : PySem.W.Frag} {ex : Ex1} {k dv : D} {b : Addr} {v : V} {u : Value} (hk : keyT k = true) (rk : Rp K φ ex H (.ref b) k) (rv : Rp K φ ex H v dv) (ru : RelV v u) : ∀ {kvs : List (D × D)} {xs : List (NestedKey × Addr × Value)} {vs : List V}, xs.map (·.1) = kvs.map (fun p => keyN p.1) → RpA K φ ex H (xs.map fun x => V.ref x.2.1) (kvs.map (·.1)) → Vals vs (xs.map (·.2.2)) → RpA K φ ex H vs (kvs.map (·.2)) → (∀ p ∈ kvs, keyT p.1 = true) → (xs.map (·.1)).Nodup →
    ∃ vs', (storedH xs (keyN k) b u).map (·.1) = (putD k dv kvs).map (fun p => keyN p.1) ∧ RpA K φ ex H ((storedH xs (keyN k) b u).map fun x => V.ref x.2.1) ((putD k dv kvs).map (·.1)) ∧ Vals vs' ((storedH xs (keyN k) b u).map (·.2.2)) ∧ RpA K φ ex H vs' ((putD k dv kvs).map (·.2)) ∧ ∀ p ∈ putD k dv kvs, keyT p.1 = true
  | [], [], _, _, _, hv, h2, _, _ => by
    refine ⟨[v], by simp [storedH, atKey, putD], .cons rk .nil, .cons ru .nil, .cons rv .nil, fun p hp => ?_⟩
    simp only [putD, List.mem_singleton] at hp
    rw [hp]; exact hk
  | [], _ :: _, _, h, _, _, _, _, _ => by simp at h
  | _ :: _, [], _, h, _, _, _, _, _ => by simp at h
  | (da, du) :: r, (a, c, x) :: t, vs, h, h1, hv, h2, h7, nd => by
    simp only [List.map_cons, List.cons.injEq] at h
    simp only [List.map_cons] at hv h2 h1 nd
    cases h1 with
    | cons p1 p2 => cases hv with
      | @cons v0 _ vs0 _ v1 v2 => cases h2 with
        | cons q1 q2 =>
          by_cases e : da = k
          · subst e
            have ea : a = keyN da := h.1
            have e1 : storedH ((a, c, x) :: t) (keyN da) b u = (a, c, u) :: t := by
              have : (atKey ((a, c, x) :: t) (keyN da)).isSome = true := by unfold atKey; rw [List.find?_cons]; simp [ea]
              unfold storedH
              rw [if_pos this, List.map_cons]
              have hp : putAt (keyN da) u (a, c, x) = (a, c, u) := by unfold putAt; rw [if_pos ea]
              rw [hp]
              congr 1
              refine (List.map_congr_left fun y hy => ?_).trans (List.map_id _)
              unfold putAt
              rw [if_neg]
              · rfl
              · intro z
                rw [List.nodup_cons] at nd
                exact nd.1 (by rw [ea, ← z]; exact List.mem_map_of_mem hy)
            have e2 : putD da dv ((da, du) :: r) = (da, dv) :: r := by unfold putD; rw [if_pos rfl]
            rw [e1, e2]
            refine ⟨v :: vs0, by simp [ea, h.2], .cons p1 p2, .cons ru v2, .cons rv q2, fun p hp => ?_⟩
            rcases List.mem_cons.mp hp with rfl | hp
            · exact hk
            · exact h7 p (List.mem_cons_of_mem _ hp)
          · have ne : a ≠ keyN k := fun z => e (keyT_inj (h7 _ (List.mem_cons_self ..)) hk (by rw [← h.1]; exact z))
            have ea : atKey ((a, c, x) :: t) (keyN k) = atKey t (keyN k) := by
              unfold atKey
              rw [List.find?_cons]
              simp [ne]
            have e1 : storedH ((a, c, x) :: t) (keyN k) b u = (a, c, x) :: storedH t (keyN k) b u := by
              unfold storedH
              rw [ea]
              by_cases z : (atKey t (keyN k)).isSome = true
              · rw [if_pos z, if_pos z, List.map_cons]
                congr 1
                unfold putAt
                rw [if_neg ne]
              · rw [if_neg z, if_neg z]; rfl
            have e2 : putD k dv ((da, du) :: r) = (da, du) :: putD k dv r := by rw [putD, if_neg e]
            obtain ⟨vs', i1, i2, i3, i4, i5⟩ := put_relN hk rk rv ru h.2 p2 v2 q2 (fun p hp => h7 p (List.mem_cons_of_mem _ hp)) (List.nodup_cons.mp nd).2
            rw [e1, e2]
            refine ⟨v0 :: vs', by simp [h.1, i1], .cons p1 i2, .cons v1 i3, .cons q1 i4, fun p hp => ?_⟩
            rcases List.mem_cons.mp hp with rfl | hp
            · exact h7 _ (List.mem_cons_self ..)
            · exact i5 p hp
/-- an empty dict is one of tuples, too -/
theorem dct_empty (I : Inv X pins σ H s) {a : Addr} (e : H a = some (.dK [])) : (a == sysModules) = false ∧ s.heap.DictOfH (nestedKind X.prog X.w) a [] := by
  obtain ⟨_, hd, vs, rel, dd⟩ := dk_of I.hok e
  cases rel
  obtain ⟨o, es, ep, h1, h2, h3, _, h5, _⟩ := dd
  refine ⟨hd, o, es, ep, h1, h2, h3, ?_, fun x hx => by simp at hx, List.nodup_nil⟩
  cases hl : es.toList with
  | nil => rfl
  | cons x r => rw [hl] at h5; cases h5
theorem room_n (hu : X.A.units + 65 < cLine) : (nestedKind X.prog X.w).room X.A.in1 := by
  show X.A.units + 1 + 8 < cLine
  omega
/-- k in d -/
theorem din_dict (hK : w.K = X.K) (hW : w.ex.1 = X.w) (hu : X.A.units + 65 < cLine) (I : Inv X pins σ H s) (so : SimO w.K φ w.ex H S) {n : Nat} {x : V} {u : Value} {dx : D} {c : Bool} (rx : RelV x u) (px : Rp w.K φ w.ex H x dx) (h : din S dx (.obj n) = some c) (hd : ∃ kvs, get S n = some (.dct kvs) ∨ get S n = some (.dcn kvs)) {Q : Bool → Shared → Prop} {E : Value → Shared → Prop}
    (q : ∀ s', Inv X pins σ H s' → Q c s') : wpAny (model X.prog X.w) X.A (compareOp .In u (.ref (φ n))) (fun r s' => ∃ b, r = .bool b ∧ Q b s') E s ∧ wpAny (model X.prog X.w) X.A (compareOp .NotIn u (.ref (φ n))) (fun r s' => ∃ b, r = .bool (!b) ∧ Q b s') E s := by
  obtain ⟨kvs, e | e⟩ := hd
  · simp only [din, e] at h
    obtain ⟨ws, hH, k1, k2, nd⟩ := so.ob n _ e
    split at h
    · rename_i hk
      cases h
      obtain ⟨k, hkd, hi⟩ : ∃ k : Key, dx = keyD k ∧ x = kV k := by
        cases dx <;> first | (cases hk; done) | skip
        · cases px; exact ⟨.inl _, rfl, rfl⟩
        · obtain ⟨z, rfl, rfl⟩ := rp_inv px; exact ⟨.inr z, rfl, rfl⟩
      subst hkd hi
      have eo : (valV ws k).isSome = hasK (keyD k) kvs := by
        unfold hasK
        rcases look_rel (k := k) k1 k2 with ⟨a, b⟩ | ⟨v, d, a, b, _⟩ <;> rw [a, b] <;> rfl
      have g := DGet.k (k := k) hH
      exact ⟨d_in (by omega) I g rx fun s' I' => ⟨_, rfl, by rw [eo]; exact q s' I'⟩, d_notIn (by omega) I g rx fun s' I' => ⟨_, rfl, by rw [eo]; exact q s' I'⟩⟩
    · split at h
      · rename_i hk
        cases h
        simp only [Bool.and_eq_true] at hk
        have : kvs = [] := List.isEmpty_iff.mp hk.2
        subst this
        have : ws = [] := by cases ws with | nil => rfl | cons _ _ => cases k1
        subst this
        obtain ⟨a, rfl⟩ := key_ref hk.1 (hK ▸ px)
        cases (show u = Value.ref a from rx)
        obtain ⟨g1, g2⟩ := dct_empty I hH
        have ki := key_is I hk.1 (hK ▸ px)
        exact ⟨wpAny_in_heap (room_n hu) ki g1 g2 ⟨_, rfl, q _ (I.tok _)⟩, wpAny_notIn_heap (room_n hu) ki g1 g2 ⟨_, rfl, q _ (I.tok _)⟩⟩
      · cases h
  · simp only [din, e] at h
    split at h
    · rename_i hk
      cases h
      obtain ⟨a, rfl⟩ := key_ref hk (hK ▸ px)
      cases (show u = Value.ref a from rx)
      obtain ⟨xs, vs, h1, h2, h3, h4, h5, h6, h7, h8⟩ := dcn_at hK hW I so e
      have ki := key_is I hk (hK ▸ px)
      have eo : (atKey xs (keyN dx)).isSome = hasK dx kvs := by
        unfold hasK
        rcases at_rel (K := w.K) (ex := w.ex) (H := H) hk h7 h5 h6 h8 with ⟨a, b⟩ | ⟨p, v, d, a, b, _⟩ <;> rw [a, b] <;> rfl
      exact ⟨wpAny_in_heap (room_n hu) ki h2 h3 ⟨_, rfl, by rw [eo]; exact q _ (I.tok _)⟩, wpAny_notIn_heap (room_n hu) ki h2 h3 ⟨_, rfl, by rw [eo]; exact q _ (I.tok _)⟩⟩
    · cases h
/-- d[k] -/
theorem idx_dict (hK : w.K = X.K) (hW : w.ex.1 = X.w) (hu : X.A.units + 65 < cLine) (I : Inv X pins σ H s) (so : SimO w.K φ w.ex H S) {n : Nat} {x : V} {u : Value} {dx d : D} {kvs : List (D × D)} (rx : RelV x u) (px : Rp w.K φ w.ex H x dx) (hl : lookD dx kvs = some d) (hd : (get S n = some (.dct kvs) ∧ isKey dx = true) ∨ (get S n = some (.dcn kvs) ∧ keyT dx = true)) {Q : Value → Shared → Prop} {E : Value → Shared → Prop}
    (q : ∀ v r s', Inv X pins σ H s' → RelV v r → Rp w.K φ w.ex H v d → Q r s') : wpAny (model X.prog X.w) X.A (getItem (.ref (φ n)) u) Q E s := by
  rcases hd with ⟨e, hk⟩ | ⟨e, hk⟩
  · obtain ⟨ws, hH, k1, k2, nd⟩ := so.ob n _ e
    obtain ⟨k, hkd, hi⟩ : ∃ k : Key, dx = keyD k ∧ x = kV k := by
      cases dx <;> first | (cases hk; done) | skip
      · cases px; exact ⟨.inl _, rfl, rfl⟩
      · obtain ⟨z, rfl, rfl⟩ := rp_inv px; exact ⟨.inr z, rfl, rfl⟩
    subst hkd hi
    rcases look_rel (k := k) k1 k2 with ⟨a, b⟩ | ⟨v, d', a, b, r⟩
    · rw [b] at hl; cases hl
    · rw [b] at hl
      cases hl
      have g := DGet.k (k := k) hH
      rw [a] at g
      exact d_getItem (by omega) I g rx fun w' s' I' rv => q v w' s' I' rv r
  · obtain ⟨a, rfl⟩ := key_ref hk (hK ▸ px)
    cases (show u = Value.ref a from rx)
    obtain ⟨xs, vs, h1, h2, h3, h4, h5, h6, h7, h8⟩ := dcn_at hK hW I so e
    have ki := key_is I hk (hK ▸ px)
    rcases at_rel (K := w.K) (ex := w.ex) (H := H) hk h7 h5 h6 h8 with ⟨a, b⟩ | ⟨p, v, d', a, b, rv, r⟩
    · rw [b] at hl; cases hl
    · rw [b] at hl
      cases hl
      exact wpAny_getItem_heap (room_n hu) ki h3 a (q v _ _ (I.tok _) rv r)
/-- d[k] = v, k a tuple -/
theorem put_dcn (hK : w.K = X.K) (hW : w.ex.1 = X.w) (hu : X.A.units + 65 < cLine) (I : Inv X pins σ H s) (so : SimO w.K φ w.ex H S) {n : Nat} {x v : V} {u r : Value} {dx dv : D} {kvs : List (D × D)} (rx : RelV x u) (px : Rp w.K φ w.ex H x dx) (bx : D.bel S.length dx = true) (rv : RelV v r) (pv : Rp w.K φ w.ex H v dv) (bv : D.bel S.length dv = true) (hk : keyT dx = true) (hz : kvs.length < 100000)
    (hd : get S n = some (.dcn kvs) ∨ (get S n = some (.dct []) ∧ kvs = [])) {Q : Unit → Shared → Prop} {E : Value → Shared → Prop}
    (q : ∀ (H' : Hp) s', Inv X pins σ H' s' → Lat φ φ S (put S n (.dcn (putD dx dv kvs))) H H' → SimO w.K φ w.ex H' (put S n (.dcn (putD dx dv kvs))) → Q () s') : wpAny (model X.prog X.w) X.A (setItem (.ref (φ n)) u r) Q E s := by
  obtain ⟨a, rfl⟩ := key_ref hk (hK ▸ px)
  cases (show u = Value.ref a from rx)
  have ki := key_is I hk (hK ▸ px)
  have key : ∀ (xs : List (NestedKey × Addr × Value)) (vs : List V) (o0 : SO), get S n = some o0 → o0.mu = true → Mut (H (φ n)) → D.bels S.length (kvs.map (·.1)) = true → D.bels S.length (kvs.map (·.2)) = true → (φ n == sysModules) = false → s.heap.DictOfH (nestedKind X.prog X.w) (φ n) xs → RpA w.K φ w.ex H (xs.map fun x => V.ref x.2.1) (kvs.map (·.1)) → Vals vs (xs.map (·.2.2)) → RpA w.K φ w.ex H vs (kvs.map (·.2)) → xs.map (·.1) = kvs.map (fun p => keyN p.1) → (∀ p ∈ kvs, keyT p.1 = true) →
      wpAny (model X.prog X.w) X.A (setItem (.ref (φ n)) (.ref a) r) Q E s := fun xs vs o0 e mu hmu b1 b2 h2 h3 h4 h5 h6 h7 h8 => by
    have nd : (xs.map (·.1)).Nodup := by obtain ⟨_, _, _, _, _, _, _, _, nd⟩ := h3; exact nd
    have hl : xs.length ≤ sizeLine := by
      have := congrArg List.length h7
      simp only [List.length_map] at this
      rw [this, sizeLine_eq]; omega
    refine wpAny_setItem_heap (hsz := hl) (room_n hu) ki h3 fun h' dd' hs => ?_
    obtain ⟨vs', i1, i2, i3, i4, i5⟩ := put_relN hk px pv rv h7 h4 h5 h6 h8 nd
    have he : ∃ q, h'.get? (φ n) = some q := let ⟨q, _, _, hq, _⟩ := dd'; ⟨q, hq⟩
    have bb : (SO.dcn (putD dx dv kvs)).bel S.length = true := by
      have z : (SO.dct kvs).bel S.length = true := by simp only [SO.bel, b1, b2, Bool.and_self]
      exact bels_putD (n := S.length) bx bv z
    obtain ⟨lw, sw⟩ := so.write (n := n) (o := o0) (o' := .dcn (putD dx dv kvs)) (u := dN X.w (φ n) (storedH xs (keyN dx) a r)) e mu bb fun w' hw => by
      have kp : Kp H (upd H (φ n) (dN X.w (φ n) (storedH xs (keyN dx) a r))) := Kp.set hw (by rw [hw] at hmu; exact hmu)
      simp only [SO.bel, Bool.and_eq_true] at bb
      exact ⟨_, vs', by rw [hW]; exact upd_same, h2, i2.mono bb.1 (fun _ _ => rfl) kp, i3, i4.mono bb.2 (fun _ _ => rfl) kp, i1, i5⟩
    refine q _ _ (I.write (x := φ n) (e := φ n) hmu (.inl rfl) (fun b o hb z => (hs.2 b hb).trans z) he (dN_ok dd')) lw sw
  rcases hd with e | ⟨e, rfl⟩
  · obtain ⟨xs, vs, h1, h2, h3, h4, h5, h6, h7, h8⟩ := dcn_at hK hW I so e
    have b := so.wf n _ e
    simp only [SO.bel, Bool.and_eq_true] at b
    exact key xs vs _ e rfl (by rw [h1]; exact True.intro) b.1 b.2 h2 h3 h4 h5 h6 h7 h8
  · obtain ⟨ws, hH, k1, k2, nd⟩ := so.ob n _ e
    have : ws = [] := by cases ws with | nil => rfl | cons _ _ => cases k1
    subst this
    obtain ⟨g1, g2⟩ := dct_empty I hH
    exact key [] [] _ e rfl (by rw [hH]; exact True.intro) rfl rfl g1 g2 .nil .nil .nil rfl fun p hp => by simp at hp
end
end Pw
end
section
set_option Elab.async false
set_option linter.all false
set_option maxRecDepth 100000
set_option maxHeartbeats 1000000
set_option autoImplicit false
/-! Pw5: order, membership, identity -/
namespace Pw
open PySem PySem.Spec PyProof.Rows L2
section
variable {X : Cx} {w : Wo}
theorem dord_cases {S : Store} {o : Pw.Ord} {a b : D} {c : Bool} (h : dord S o 1 a b = some c) : (∃ i j, a = .int i ∧ b = .int j ∧ o.i i j = c) ∨ (∃ i j, a = .str i ∧ b = .str j ∧ o.s i j = c) ∨ ∃ x y, a = .tup x ∧ b = .tup y := by
  cases a <;> cases b <;> first | (cases h; done) | skip
  · cases h; exact .inl ⟨_, _, rfl, rfl, rfl⟩
  · cases h; exact .inr (.inl ⟨_, _, rfl, rfl, rfl⟩)

def ordOp : Pw.Ord → CmpOp
  | .lt => .Lt
  | .le => .LtE
  | .gt => .Gt
  | .ge => .GtE
def ordCop : Pw.Ord → Cop
  | .lt => .lt
  | .le => .le
  | .gt => .gt
  | .ge => .ge
theorem dord_flat {S : Store} {o : Pw.Ord} {n : Nat} {a b : D} {c : Bool} (h : dord S o (n + 1) a b = some c) : (∃ i j, a = .int i ∧ b = .int j ∧ o.i i j = c) ∨ (∃ i j, a = .str i ∧ b = .str j ∧ o.s i j = c) ∨ ∃ x y, a = .tup x ∧ b = .tup y := by
  cases a <;> cases b <;> first | (cases h; done) | skip
  · cases h; exact .inl ⟨_, _, rfl, rfl, rfl⟩
  · cases h; exact .inr (.inl ⟨_, _, rfl, rfl, rfl⟩)

theorem opR_ord (o : Pw.Ord) (nt : ∀ S x y, cmpD S (ordCop o) (.tup x) (.tup y) = none) : OpR X (compareOp (ordOp o)) (rC w (ordCop o)) := by
  intro pins s σ H x y v u Q I rx ry h
  obtain ⟨φ, S, dx, dy, so, ⟨px, bx⟩, ⟨py, by_⟩, c, hc, h⟩ := h
  have hd : dord S o fuel dx dy = some c := by cases o <;> exact hc
  rcases dord_flat hd with ⟨i, j, rfl, rfl, e⟩ | ⟨i, j, rfl, rfl, e⟩ | ⟨a, b, rfl, rfl⟩
  · cases px; cases py
    subst e
    cases o
    · exact op_lt pins s σ H _ _ v u Q I rx ry ⟨_, _, rfl, rfl, h⟩
    · exact op_le pins s σ H _ _ v u Q I rx ry ⟨_, _, rfl, rfl, h⟩
    · exact op_gt pins s σ H _ _ v u Q I rx ry ⟨_, _, rfl, rfl, h⟩
    · exact op_ge pins s σ H _ _ v u Q I rx ry ⟨_, _, rfl, rfl, h⟩
  · cases px; cases py
    subst e
    cases o
    · exact op_lt_str pins s σ H _ _ v u Q I rx ry ⟨_, _, rfl, rfl, h⟩
    · exact op_le_str pins s σ H _ _ v u Q I rx ry ⟨_, _, rfl, rfl, h⟩
    · exact op_gt_str pins s σ H _ _ v u Q I rx ry ⟨_, _, rfl, rfl, h⟩
    · exact op_ge_str pins s σ H _ _ v u Q I rx ry ⟨_, _, rfl, rfl, h⟩
  · rw [nt] at hc; cases hc
theorem feq_eqV {K : PySem.W.Frag} {φ : Nat → Addr} {ex : Ex1} {H : Hp} {x y : V} {a b : D} (rx : Rp K φ ex H x a) (ry : Rp K φ ex H y b) : eqV x y = feq a b := by
  cases rx <;> cases ry <;> first | rfl | exact str_beq.trans (Bool.beq_eq_decide_eq _ _).symm
theorem flat_of {K : PySem.W.Frag} {φ : Nat → Addr} {ex : Ex1} {H : Hp} {x : V} {a : D} (rx : Rp K φ ex H x a) (f : flatD a = true) : flatV x = true := by
  cases rx <;> first | rfl | cases f
theorem flats_of {K : PySem.W.Frag} {φ : Nat → Addr} {ex : Ex1} {H : Hp} : ∀ {vs : List V} {ds : List D}, RpA K φ ex H vs ds → ds.all flatD = true → vs.all flatV = true
  | _, _, .nil, _ => rfl
  | _, _, .cons r t, f => by
    simp only [List.all_cons, Bool.and_eq_true] at f ⊢
    exact ⟨flat_of r f.1, flats_of t f.2⟩
theorem any_feq {K : PySem.W.Frag} {φ : Nat → Addr} {ex : Ex1} {H : Hp} {x : V} {a : D} (rx : Rp K φ ex H x a) : ∀ {vs : List V} {ds : List D}, RpA K φ ex H vs ds → inV x vs = ds.any fun y => feq y a
  | _, _, .nil => rfl
  | _, _, .cons r t => by
    show (eqV _ x || inV x _) = _
    rw [feq_eqV r rx, any_feq rx t]
    rfl
theorem din_row {S : Store} {φ : Nat → Addr} {H : Hp} (so : SimO w.K φ w.ex H S) {y : V} {d e : D} {c : Bool} (ry : Rp w.K φ w.ex H y e) (h : din S d e = some c) :
    (∃ k s, d = .str [k] ∧ e = .str s ∧ decide (k ∈ s) = c) ∨ (∃ p vs ds, y = .ref p ∧ (SqL w.K H p vs ∨ SqT w.K H p vs) ∧ RpA w.K φ w.ex H vs ds ∧ inD d ds = some c) ∨ ∃ n, e = .obj n ∧ y = .ref (φ n) ∧ ∃ kvs, get S n = some (.dct kvs) ∨ get S n = some (.dcn kvs) := by
  cases e with
  | str t =>
    simp only [din] at h
    split at h
    · cases h; exact .inl ⟨_, _, rfl, rfl, rfl⟩
    · cases h
  | tup ds =>
    cases ry with
    | tup h1 r1 => exact .inr (.inl ⟨_, _, _, rfl, .inr h1, r1, h⟩)
  | obj n =>
    cases ry
    simp only [din] at h
    split at h
    · rename_i xs g
      obtain ⟨vs, h1, r1⟩ := so.ob n _ g
      exact .inr (.inl ⟨_, _, _, rfl, .inl (SqL.of h1), r1, h⟩)
    · rename_i xs g
      obtain ⟨vs, h1, r1⟩ := so.ob n _ g
      exact .inr (.inl ⟨_, _, _, rfl, .inl h1.sq, r1, h⟩)
    · rename_i kvs g
      exact .inr (.inr ⟨n, rfl, rfl, kvs, .inl g⟩)
    · rename_i kvs g
      exact .inr (.inr ⟨n, rfl, rfl, kvs, .inr g⟩)
    · cases h
  | _ => cases h
theorem one_sign {x : Str} {k : Nat} (h : x.cps.toList = [k]) : x = ⟨#[k]⟩ := str_ext h
theorem inD_some {d : D} {ds : List D} {c : Bool} (h : inD d ds = some c) : flatD d = true ∧ ds.all flatD = true ∧ (ds.any fun y => feq y d) = c := by
  unfold inD at h
  split at h
  · rename_i hf
    simp only [Bool.and_eq_true] at hf
    cases h
    exact ⟨hf.1, hf.2, rfl⟩
  · cases h
theorem opR_in (hK : w.K = X.K) (hW : w.ex.1 = X.w) (hu : X.A.units + 65 < cLine) : OpR X (compareOp .In) (rC w .inn) := by
  intro pins s σ H x y v u Q I rx ry h
  obtain ⟨φ, S, dx, dy, so, ⟨px, bx⟩, ⟨py, by_⟩, c, hc, h⟩ := h
  rcases din_row so py hc with ⟨k, t, rfl, rfl, e⟩ | ⟨p, vs, ds, rfl, hp, r1, hi⟩ | ⟨n, rfl, rfl, hd⟩
  · obtain ⟨z, rfl, ez⟩ := rp_inv px
    obtain ⟨z2, rfl, rfl⟩ := rp_inv py
    rw [one_sign ez] at rx
    exact op_in_sign pins s σ H _ _ v u Q I rx ry ⟨k, z2, rfl, rfl, by rw [e]; exact h⟩
  · obtain ⟨f1, f2, e⟩ := inD_some hi
    rw [hK] at hp
    refine op_in_seq pins s σ H _ _ v u Q I rx ry ⟨p, vs, rfl, hp, flat_of px f1, flats_of r1 f2, ?_⟩
    show Q (.bl (inV x vs)) H
    rw [any_feq px r1, e]
    exact h
  · cases (show u = Value.ref _ from ry)
    exact thn ((din_dict hK hW hu I so rx px hc hd (Q := fun b s' => Inv X pins σ H s' ∧ b = c) fun s' I' => ⟨I', rfl⟩).1) fun r s' ⟨b, e1, I', e2⟩ => by
      subst e1 e2
      exact ⟨.bl b, H, I', rfl, h⟩
theorem opR_nin (hK : w.K = X.K) (hW : w.ex.1 = X.w) (hu : X.A.units + 65 < cLine) : OpR X (compareOp .NotIn) (rC w .nin) := by
  intro pins s σ H x y v u Q I rx ry h
  obtain ⟨φ, S, dx, dy, so, ⟨px, bx⟩, ⟨py, by_⟩, c', hc, h⟩ := h
  obtain ⟨c, hd, e'⟩ := Option.map_eq_some_iff.mp (show (din S dx dy).map (!·) = some c' from hc)
  subst e'
  rcases din_row so py hd with ⟨k, t, rfl, rfl, e⟩ | ⟨p, vs, ds, rfl, hp, r1, hi⟩ | ⟨n, rfl, rfl, hdd⟩
  · obtain ⟨z, rfl, ez⟩ := rp_inv px
    obtain ⟨z2, rfl, rfl⟩ := rp_inv py
    rw [one_sign ez] at rx
    exact op_notIn_sign pins s σ H _ _ v u Q I rx ry ⟨k, z2, rfl, rfl, by rw [e]; exact h⟩
  · obtain ⟨f1, f2, e⟩ := inD_some hi
    rw [hK] at hp
    refine op_notIn_seq pins s σ H _ _ v u Q I rx ry ⟨p, vs, rfl, hp, flat_of px f1, flats_of r1 f2, ?_⟩
    show Q (.bl (!inV x vs)) H
    rw [any_feq px r1, e]
    exact h
  · cases (show u = Value.ref _ from ry)
    exact thn ((din_dict hK hW hu I so rx px hd hdd (Q := fun b s' => Inv X pins σ H s' ∧ b = c) fun s' I' => ⟨I', rfl⟩).2) fun r s' ⟨b, e1, I', e2⟩ => by
      subst e1 e2
      exact ⟨.bl (!b), H, I', rfl, h⟩
theorem non_iff {K : PySem.W.Frag} {φ : Nat → Addr} {ex : Ex1} {H : Hp} {x : V} {d : D} (r : Rp K φ ex H x d) : decide (x = .non) = decide (d = .non) := by
  cases r <;> simp
theorem dis_cases {x y : D} {c : Bool} (h : dis x y = some c) : (y = .non ∧ decide (x = .non) = c) ∨ ∃ a b, x = .bl a ∧ y = .bl b ∧ decide (a = b) = c := by
  unfold dis at h
  split at h
  · cases h; exact .inl ⟨rfl, rfl⟩
  · split at h
    · cases h; exact .inr ⟨_, _, rfl, rfl, rfl⟩
    · cases h
  · cases h
theorem opR_is : OpR X (compareOp .Is) (rC w .is) := by
  intro pins s σ H x y v u Q I rx ry h
  obtain ⟨φ, S, dx, dy, so, ⟨px, bx⟩, ⟨py, by_⟩, c, hc, h⟩ := h
  rcases dis_cases (show dis dx dy = some c from hc) with ⟨rfl, e⟩ | ⟨a, b, rfl, rfl, e⟩
  · cases py
    exact op_isN pins s σ H _ _ v u Q I rx ry ⟨rfl, by rw [non_iff px, e]; exact h⟩
  · cases px; cases py
    exact op_is_bl pins s σ H _ _ v u Q I rx ry ⟨a, b, rfl, rfl, by rw [e]; exact h⟩
theorem opR_isn : OpR X (compareOp .IsNot) (rC w .isn) := by
  intro pins s σ H x y v u Q I rx ry h
  obtain ⟨φ, S, dx, dy, so, ⟨px, bx⟩, ⟨py, by_⟩, c', hc, h⟩ := h
  obtain ⟨c, hd, e'⟩ := Option.map_eq_some_iff.mp (show (dis dx dy).map (!·) = some c' from hc)
  subst e'
  rcases dis_cases hd with ⟨rfl, e⟩ | ⟨a, b, rfl, rfl, e⟩
  · cases py
    exact op_notN pins s σ H _ _ v u Q I rx ry ⟨rfl, by rw [non_iff px, e]; exact h⟩
  · cases px; cases py
    exact op_isnot_bl pins s σ H _ _ v u Q I rx ry ⟨a, b, rfl, rfl, by rw [e]; exact h⟩
end
end Pw
end
section
set_option Elab.async false
set_option linter.all false
set_option maxRecDepth 100000
set_option maxHeartbeats 1000000
set_option autoImplicit false
/-! Pw6: subscripts, slices, calls of built-ins by values -/
namespace Pw
open PySem PySem.Spec PyProof.Rows L2
section
variable {X : Cx} {w : Wo}
theorem Rg0.of {α β : Type} {R : (Nat → Addr) → Hp → Store → β → α → Prop} {φ : Nat → Addr} {S S' : Store} {H : Hp} {Q : β → Hp → Prop} {o : Option α} (h : Rg0 w R φ S H (Res.of o S') Q) : ∃ a, o = some a ∧ Rg0 w R φ S H (.ok a S') Q := by
  cases o with
  | none => exact h.elim
  | some a => exact ⟨a, rfl, h⟩
theorem place_ix {n : Nat} {i : Int} : place n i = ixN n i := rfl
theorem at_row {φ : Nat → Addr} {H : Hp} {vs : List V} {ds : List D} (r : RpA w.K φ w.ex H vs ds) {i : Int} {d : D} (h : ((place ds.length i).bind fun j => ds[j]?) = some d) : ∃ v, atI vs i = some v ∧ Rp w.K φ w.ex H v d ∧ ∃ j : Nat, ds[j]? = some d := by
  cases e : place ds.length i with
  | none => rw [e] at h; cases h
  | some j =>
    rw [e] at h
    obtain ⟨v, h1, h2⟩ := r.get d h
    refine ⟨v, ?_, h2, j, h⟩
    unfold atI
    rw [r.length, ← place_ix, e]
    exact h1
theorem bel_at {n : Nat} {ds : List D} (b : D.bels n ds = true) {j : Nat} {d : D} (h : ds[j]? = some d) : D.bel n d = true := bels_all.mp b d (List.mem_of_getElem? h)
/-- d[k] behind its operands -/
theorem dict_tail (hK : w.K = X.K) (hW : w.ex.1 = X.w) (hu : X.A.units + 65 < cLine) {value slice : Expr} {pins : List (Addr × Obj)} {s : Shared} {σ : L2.St} {H : Hp} {φ : Nat → Addr} {S : Store} {n : Nat} {y : V} {v u : Value} {dy d : D} {kvs : List (D × D)} {Q : VK} (I : Inv X pins σ H s) (so : SimO w.K φ w.ex H S) (rx : RelV (.ref (φ n)) v) (ry : RelV y u) (py : Rp w.K φ w.ex H y dy) (hl : lookD dy kvs = some d)
    (hd : (get S n = some (.dct kvs) ∧ isKey dy = true) ∨ (get S n = some (.dcn kvs) ∧ keyT dy = true)) (ty : s.TypeIs (.ref (φ n)) "dict") (hs : subscripted slice false v u = operate [v, u] (getItem v u)) (q : ∀ v', Rp w.K φ w.ex H v' d → Q v' H) :
    wpAny (model X.prog X.w) X.A (subscriptTail value slice v u) (EP X pins σ Q) X.xe s := by
  cases (show v = Value.ref _ from rx)
  exact tail_any ty PySem.F.slot_dict_getitem.lookup (idx_dict hK hW hu I so ry py hl hd fun v' r s' I' rv rp => ⟨v', H, I', rv, q v' rp⟩) hs
/-- o[i] by what it does to values -/
def rX (w : Wo) : R2 := fun x y H Q => ∃ φ S dx dy, SimO w.K φ w.ex H S ∧ RE w φ H S x dx ∧ RE w φ H S y dy ∧ Rg0 w (RE w) φ S H (idxD dx dy S) Q
theorem ixR (hK : w.K = X.K) (hW : w.ex.1 = X.w) (hu : X.A.units + 65 < cLine) : IxR X (rX w) := by
  intro value slice pins s σ H x y v u Q I rx ry h hs
  obtain ⟨φ, S, dx, dy, so, ⟨px, bx⟩, ⟨py, by_⟩, h⟩ := h
  cases dx with
  | str t => cases dy with
    | int i =>
      obtain ⟨z, rfl, rfl⟩ := rp_inv px
      generalize ht : z.cps.toList = t at h
      have h : Rg0 w (RE w) φ S H (if t.length ≤ line then Res.of (((place t.length i).bind fun j => t[j]?).map fun c => .str [c]) S else .bad) Q := h
      obtain ⟨hl, h⟩ := h.ite
      obtain ⟨a, ea, h⟩ := h.of
      obtain ⟨c, ec, e2⟩ := Option.map_eq_some_iff.mp ea
      subst e2
      cases py
      have hq := h.same so (rp_str (x := ⟨#[c]⟩) rfl) rfl
      subst ht
      refine ix_str value slice pins s σ H _ _ v u Q I rx ry ⟨z, i, c, rfl, rfl, ?_, ec, hq⟩ hs
      rw [str_len, line_eq]; exact hl
    | _ => exact h.elim
  | tup ds => cases dy with
    | int i =>
      obtain ⟨d, ed, h⟩ := Rg0.of (show Rg0 w (RE w) φ S H (Res.of ((place ds.length i).bind fun j => ds[j]?) S) Q from h)
      cases py
      cases px with
      | tup h1 r1 =>
        obtain ⟨v', h2, h3, j, h4⟩ := at_row r1 ed
        rw [hK] at h1
        exact ix_tup value slice pins s σ H _ _ v u Q I rx ry ⟨_, _, i, v', rfl, rfl, h1, h2, h.same so h3 (bel_at (by simpa [D.bel] using bx) h4)⟩ hs
    | _ => exact h.elim
  | obj n =>
    cases px
    simp only [idxD] at h
    split at h
    · rename_i xs g
      split at h
      · rename_i i
        obtain ⟨d, ed, h⟩ := h.of
        cases py
        obtain ⟨vs, h1, r1⟩ := so.ob n _ g
        obtain ⟨v', h2, h3, j, h4⟩ := at_row r1 ed
        exact ix_list value slice pins s σ H _ _ v u Q I rx ry ⟨_, _, i, v', rfl, rfl, SqL.of h1, h2, h.same so h3 (bel_at (so.wf n _ g) h4)⟩ hs
      · exact h.elim
    · rename_i xs g
      split at h
      · rename_i i
        obtain ⟨d, ed, h⟩ := h.of
        cases py
        obtain ⟨vs, h1, r1⟩ := so.ob n _ g
        obtain ⟨v', h2, h3, j, h4⟩ := at_row r1 ed
        exact ix_list value slice pins s σ H _ _ v u Q I rx ry ⟨_, _, i, v', rfl, rfl, h1.sq, h2, h.same so h3 (bel_at (so.wf n _ g) h4)⟩ hs
      · exact h.elim
    · rename_i kvs g
      obtain ⟨hk, h⟩ := h.ite
      obtain ⟨d, ed, h⟩ := h.of
      have ty : s.TypeIs (.ref (φ n)) "dict" := by
        obtain ⟨ws, hH, _⟩ := so.ob n _ g
        obtain ⟨_, _, vs, _, dd⟩ := dk_of I.hok hH
        exact dd.typeIs
      have bb := so.wf n _ g
      simp only [SO.bel, Bool.and_eq_true] at bb
      exact dict_tail hK hW hu I so rx ry py ed (.inl ⟨g, hk⟩) ty hs fun v' r => h.same so r (bels_all.mp bb.2 d (List.mem_map_of_mem (lookD_mem ed)))
    · rename_i kvs g
      obtain ⟨hk, h⟩ := h.ite
      obtain ⟨d, ed, h⟩ := h.of
      have ty : s.TypeIs (.ref (φ n)) "dict" := by
        obtain ⟨xs, vs, _, _, dd, _⟩ := dcn_at hK hW I so g
        exact dd.typeIs
      have bb := so.wf n _ g
      simp only [SO.bel, Bool.and_eq_true] at bb
      exact dict_tail hK hW hu I so rx ry py ed (.inr ⟨g, hk⟩) ty hs fun v' r => h.same so r (bels_all.mp bb.2 d (List.mem_map_of_mem (lookD_mem ed)))
    · exact h.elim
  | _ => exact h.elim
/-! ### slices -/
theorem clip_ix (n d : Nat) (o : Option Int) : clip n d o = HT.sIx n d o := by
  cases o <;> rfl
/-- o[a:b] by what it does to values -/
def rSl (w : Wo) : V → Option Int → Option Int → Hp → VK → Prop := fun x lo hi H Q => ∃ φ S dx, SimO w.K φ w.ex H S ∧ RE w φ H S x dx ∧ Rg0 w (RE w) φ S H (slD dx (lo.map .int) (hi.map .int) S) Q
theorem intO_map (o : Option Int) : intO (o.map .int) = some o := by cases o <;> rfl
theorem bels_cut {n : Nat} {ds : List D} (b : D.bels n ds = true) (lo hi : Option Int) : D.bels n (cut ds lo hi) = true :=
  bels_all.mpr fun d hd => bels_all.mp b d (List.mem_of_mem_drop (List.mem_of_mem_take hd))
theorem cut_rp {φ : Nat → Addr} {H : Hp} {vs : List V} {ds : List D} (r : RpA w.K φ w.ex H vs ds) (lo hi : Option Int) : RpA w.K φ w.ex H (cutV vs lo hi) (cut ds lo hi) := by
  unfold cutV cut
  rw [clip_ix, clip_ix, r.length]
  exact (r.drop _).take _
theorem slR (hK : w.K = X.K) : SlR X (rSl w) := by
  intro pins s σ H x v vl vu lo hi sl Q I rx hs pl pu h
  obtain ⟨φ, S, dx, so, ⟨px, bx⟩, h⟩ := h
  unfold slD at h
  rw [intO_map, intO_map] at h
  dsimp only at h
  cases dx with
  | str t =>
    have h : Rg0 w (RE w) φ S H (if t.length ≤ line then .ok (.str (cut t lo hi)) S else .bad) Q := h
    obtain ⟨hl, h⟩ := h.ite
    obtain ⟨z, rfl, rfl⟩ := rp_inv px
    refine sl_str pins s σ H _ v vl vu lo hi sl Q I rx hs pl pu ⟨z, rfl, ?_, h.same so (rp_str ?_) rfl⟩
    · rw [str_len, line_eq]; exact hl
    · unfold cutS cut
      rw [clip_ix, clip_ix, str_len]
  | tup ds =>
    have b : D.bels S.length ds = true := by simpa [D.bel] using bx
    cases px with
    | tup h1 r1 =>
      rw [hK] at h1
      refine sl_tupA pins s σ H _ v vl vu lo hi sl Q I rx hs pl pu ⟨_, _, rfl, h1, fun e => ?_, fun _ p hp => ?_⟩
      · have ec : cut ds lo hi = ds := by
          unfold cut
          rw [clip_ix, clip_ix, ← r1.length, e.1, e.2, List.drop_zero, Nat.sub_zero, r1.length, List.take_length]
        have h : Rg0 w (RE w) φ S H (.ok (.tup (cut ds lo hi)) S) Q := h
        rw [ec] at h
        exact h.same so (.tup (hK ▸ h1) r1) bx
      · exact Rg0.tup h so (cut_rp r1 lo hi) (bels_cut b lo hi) hp
  | obj n =>
    cases px
    have h : Rg0 w (RE w) φ S H (match get S n with
      | some (.lst xs) => .ok (.obj S.length) (.lst (cut xs lo hi) :: S)
      | _ => .bad) Q := h
    split at h
    · rename_i xs g
      obtain ⟨vs, h1, r1⟩ := so.ob n _ g
      exact sl_list pins s σ H _ v vl vu lo hi sl Q I rx hs pl pu ⟨_, _, rfl, SqL.of h1, fun p hp => h.lst so (cut_rp r1 lo hi) (bels_cut (so.wf n _ g) lo hi) hp⟩
    · exact h.elim
  | _ => exact h.elim
/-! ### built-ins of one or two values -/
theorem one_arg {φ : Nat → Addr} {H : Hp} {S : Store} {xs : List V} {d : D} (r : REs w φ H S xs [d]) : ∃ x, xs = [x] ∧ Rp w.K φ w.ex H x d ∧ D.bel S.length d = true := by
  obtain ⟨r, b⟩ := r
  cases r with
  | cons q r =>
    cases r
    simp only [D.bels, Bool.and_eq_true] at b
    exact ⟨_, rfl, q, b.1⟩
theorem two_arg {φ : Nat → Addr} {H : Hp} {S : Store} {xs : List V} {d e : D} (r : REs w φ H S xs [d, e]) : ∃ x y, xs = [x, y] ∧ Rp w.K φ w.ex H x d ∧ Rp w.K φ w.ex H y e ∧ D.bel S.length d = true ∧ D.bel S.length e = true := by
  obtain ⟨r, b⟩ := r
  cases r with
  | cons q r =>
    cases r with
    | cons q2 r =>
      cases r
      simp only [D.bels, Bool.and_eq_true] at b
      exact ⟨_, _, rfl, q, q2, b.1, b.2.1⟩
/-- a call of a built-in with the arguments ds, by what it does to values -/
def rF (w : Wo) (ds : List D) (f : Store → Res D) : List V → Hp → VK → Prop := fun xs H Q => ∃ φ S, SimO w.K φ w.ex H S ∧ REs w φ H S xs ds ∧ Rg0 w (RE w) φ S H (f S) Q
theorem callR_len (hK : w.K = X.K) (d : D) : CallR X (.builtin "len") (rF w [d] fun S => f1D .len d S) := by
  intro pins s σ H xs us Q I r h
  obtain ⟨φ, S, so, ra, h⟩ := h
  obtain ⟨x, rfl, px, bx⟩ := one_arg ra
  have h : Rg0 w (RE w) φ S H ((Res.of (lenD S d) S).bind fun n S => .ok (.int n) S) Q := by cases d <;> exact h
  cases e : lenD S d with
  | none => rw [e] at h; exact h.elim
  | some n =>
    rw [e] at h
    have h : Rg0 w (RE w) φ S H (.ok (.int n) S) Q := h
    cases d with
    | str t =>
      have e : (if t.length ≤ line then some (t.length : Int) else none) = some n := e
      split at e
      · rename_i hl
        cases e
        obtain ⟨z, rfl, rfl⟩ := rp_inv px
        refine call_len_str pins s σ H _ us Q I r ⟨z, rfl, ?_, ?_⟩
        · rw [str_len, line_eq]; exact hl
        · rw [str_len]; exact h.same so (.int _) rfl
      · cases e
    | tup ds =>
      cases e
      cases px with
      | tup h1 r1 =>
        rw [hK] at h1
        refine call_len_seq pins s σ H _ us Q I r ⟨_, _, rfl, .inr h1, ?_⟩
        rw [r1.length]; exact h.same so (.int _) rfl
    | obj m =>
      cases px
      simp only [lenD] at e
      split at e
      · rename_i xs g
        cases e
        obtain ⟨vs, h1, r1⟩ := so.ob m _ g
        refine call_len_seq pins s σ H _ us Q I r ⟨_, _, rfl, .inl (SqL.of h1), ?_⟩
        rw [r1.length]; exact h.same so (.int _) rfl
      · rename_i xs g
        cases e
        obtain ⟨vs, h1, r1⟩ := so.ob m _ g
        refine call_len_seq pins s σ H _ us Q I r ⟨_, _, rfl, .inl (h1.sq), ?_⟩
        rw [r1.length]; exact h.same so (.int _) rfl
      · rename_i xs g
        cases e
        obtain ⟨ws, h1, r1, _⟩ := so.ob m _ g
        have el : ws.length = xs.length := by have := r1.length; simpa using this
        refine call_lenD pins s σ H _ us Q I r ⟨_, ws, rfl, h1, ?_⟩
        rw [el]; exact h.same so (.int _) rfl
      · cases e
    | _ => cases e
theorem digits_val : ∀ (l : List Nat) (k : Nat), ((l.foldl (fun acc c => acc * 10 + (c - 48)) k : Nat) : Int) = l.foldl (fun n c => n * 10 + ((c - 48 : Nat) : Int)) (k : Int)
  | [], _ => rfl
  | c :: l, k => by
    rw [List.foldl_cons, List.foldl_cons, digits_val l]
    congr 1
theorem digits_text {a : Str} {n : Int} (h : digits? a.cps.toList = some n) : PySem.intText? a = some n ∧ a.length ≤ 640 := by
  have hl : a.cps.toList.length = a.length := Array.length_toList
  unfold digits? at h
  split at h
  · cases h
  · rename_i l hne
    split at h
    · rename_i hc
      simp only [Bool.and_eq_true, decide_eq_true_eq, List.all_eq_true] at hc
      refine ⟨?_, by omega⟩
      rw [PySem.intText_digits (x := a) (fun c hx => hc.1 c hx) (fun z => hne z) (by omega), ← h]
      congr 1
      exact digits_val _ 0
    · cases h
theorem callR_int (d : D) : CallR X (.type "int") (rF w [d] fun S => f1D .int d S) := by
  intro pins s σ H xs us Q I r h
  obtain ⟨φ, S, so, ra, h⟩ := h
  obtain ⟨x, rfl, px, bx⟩ := one_arg ra
  cases d with
  | int i => cases px; exact call_int1 pins s σ H _ us Q I r (.inl ⟨_, rfl, h.same so (.int _) rfl⟩)
  | bl i => cases px; exact call_int1 pins s σ H _ us Q I r (.inr ⟨_, rfl, h.same so (.int _) rfl⟩)
  | str z =>
    cases px
    rename_i a
    have h : Rg0 w (RE w) φ S H (match digits? a.cps.toList with
      | some n => .ok (.int n) S
      | none => .bad) Q := h
    cases e : digits? a.cps.toList with
    | none => rw [e] at h; exact h.elim
    | some n =>
      rw [e] at h
      have h : Rg0 w (RE w) φ S H (.ok (.int n) S) Q := h
      obtain ⟨k1, k2⟩ := digits_text e
      exact call_int_str pins s σ H _ us Q I r ⟨a, n, rfl, k1, k2, h.same so (.int _) rfl⟩
  | _ => exact h.elim
theorem callR_str (d : D) : CallR X (.type "str") (rF w [d] fun S => f1D .str d S) := by
  intro pins s σ H xs us Q I r h
  obtain ⟨φ, S, so, ra, h⟩ := h
  obtain ⟨x, rfl, px, bx⟩ := one_arg ra
  cases d <;> first | exact h.elim | skip
  rename_i i
  cases px
  have h : Rg0 w (RE w) φ S H (if i.natAbs.log2 < 1920 then .ok (.str (codes (toString i))) S else .bad) Q := h
  split at h
  · rename_i hi
    refine call_str_int pins s σ H _ us Q I r ⟨i, rfl, hi, ?_⟩
    have e : (.str (codes (toString i)) : D) = .str (Str.ofString (toString i)).cps.toList := by
      congr 1; exact (PyProof.Rows.signs_ofString _).symm
    rw [e] at h
    exact h.same so (.str _) rfl
  · exact h.elim
theorem callR_min (hc : X.calm = true) (a b : D) : CallR X (.builtin "min") (rF w [a, b] fun S => f2D .min a b S) := by
  intro pins s σ H xs us Q I r h
  obtain ⟨φ, S, so, ra, h⟩ := h
  obtain ⟨x, y, rfl, px, py, bx, by_⟩ := two_arg ra
  cases a <;> cases b <;> first | exact h.elim | skip
  cases px; cases py
  exact call_min2 hc pins s σ H _ us Q I r ⟨_, _, rfl, h.same so (.int _) rfl⟩
theorem callR_max (hc : X.calm = true) (a b : D) : CallR X (.builtin "max") (rF w [a, b] fun S => f2D .max a b S) := by
  intro pins s σ H xs us Q I r h
  obtain ⟨φ, S, so, ra, h⟩ := h
  obtain ⟨x, y, rfl, px, py, bx, by_⟩ := two_arg ra
  cases a <;> cases b <;> first | exact h.elim | skip
  cases px; cases py
  exact call_max2 hc pins s σ H _ us Q I r ⟨_, _, rfl, h.same so (.int _) rfl⟩
theorem callR_abs (d : D) : CallR X (.builtin "abs") (rF w [d] fun S => f1D .abs d S) := by
  intro pins s σ H xs us Q I r h
  obtain ⟨φ, S, so, ra, h⟩ := h
  obtain ⟨x, rfl, px, bx⟩ := one_arg ra
  cases d <;> first | exact h.elim | skip
  cases px
  exact call_abs pins s σ H _ us Q I r ⟨_, rfl, h.same so (.int _) rfl⟩
end
end Pw
end
section
set_option Elab.async false
set_option linter.all false
set_option maxRecDepth 100000
set_option maxHeartbeats 4000000
set_option autoImplicit false
/-! Pw6i: an own exception's __init__: super().__init__(f'..'), then one field for each parameter -/
namespace Pw
open PySem PySem.Spec PyProof.Rows L2 TL
def eqS (a b : Str) : Bool := decide (a.cps.toList = b.cps.toList)
theorem eqS_ok {a b : Str} (h : eqS a b = true) : a = b := str_ext (of_decide_eq_true h)
/-- no name of the machine's own -/
def okName (x : Str) : Bool := !(x == ("__debug__" : Str)) && !(x == ("__classdict__" : Str)) && !(x == ("__name__" : Str))
theorem okName_ok {x : Str} (h : okName x = true) : (x == ("__debug__" : Str)) = false ∧ (x == ("__classdict__" : Str)) = false ∧ x ≠ "__name__" := by
  unfold okName at h
  simp only [Bool.and_eq_true, Bool.not_eq_true'] at h
  refine ⟨h.1.1, h.1.2, fun z => ?_⟩
  rw [z] at h
  simp at h
/-! ### how it is written -/
def cPart (ps : List Str) (e : Expr) : Bool := match e with
  | .Constant (.str z) _ _ => decide (z.length ≤ 1000)
  | .FormattedValue (.Name x _) k none _ => decide (k = -1) && ps.any (fun y => eqS y x) && okName x
  | _ => false
def cStore (p0 f x : Str) (s : Stmt) : Bool := match s with
  | .Assign [.Attribute (.Name y _) g _] (.Name z _) _ => eqS y p0 && eqS g f && eqS z x && okName y && okName z
  | _ => false
def cStores (p0 : Str) : List Str → List Str → List Stmt → Bool
  | [], [], [] => true
  | f :: fs, x :: xs, s :: ss => cStore p0 f x s && cStores p0 fs xs ss
  | _, _, _ => false
def cIni (p0 : Str) (ps fl : List Str) (body : List Stmt) : Bool := match body with
  | .Expr (.Call (.Attribute (.Call (.Name n _) [] [] _) m q3) [.JoinedStr (a :: b :: parts) _] [] q5) _ :: st => eqS n "super" && eqS m "__init__" && (a :: b :: parts).all (cPart ps) && decide (parts.length ≤ 20) && cStores p0 fl ps st && decide (fl.length ≤ 100) && decide (0 < fl.length) && (q3.endLine == q5.line)
  | _ => false
/-- what a class with such an __init__ is: C the class, D where it stands -/
structure IniC (K : PySem.W.Frag) (C D f : Addr) (fl : List Str) : Prop where
  oex : OexC K C
  ini : PySem.W.findIn K (.ref C) "__init__" = some (some (.ref f))
  typ : PySem.W.typeIn K (.ref f) = some (.type "function")
  mro : PySem.W.mroIn K C (.ref D) = some true
  sup : PySem.W.ks_superIn K C D "__init__" = some (some (.builtin "ValueError.__init__"))
  sub : PySem.W.subIn K (.ref C) (.type "ValueError") = some true
  no : ∀ g ∈ fl, PySem.W.findIn K (.ref C) g = some none
/-- what it is to do -/
def spI (K : PySem.W.Frag) (D f : Addr) (fl : List Str) : Sp := fun vs H Q _ => ∃ (a C : Addr) (is : List Int), vs = .ref a :: is.map V.int ∧ is.length = fl.length ∧ (∀ i ∈ is, i.natAbs.log2 < 1920) ∧ IniC K C D f fl ∧ H a = some (exo a C none) ∧
  ∀ dx H', H dx = none → dx ≠ a → H' a = some (exo a C (some dx)) → H' dx = some (exd dx (fl.zip (is.map V.int)).reverse) → (∀ b, b ≠ a → b ≠ dx → H' b = H b) → Q .non H'
/-- the function -/
structure IniF (P : Program) (K : PySem.W.Frag) (f D cc cda : Addr) (fd : FuncData) (q : Str) (params : Arguments) (body : List Stmt) (scope : Scope) (p0 : Str) (ps fl : List Str) : Prop where
  fn : ∃ (oc : Value) (od : Option Addr) (dV kV doc pm : Value) (an : Option Addr) (ct : Value) (osl : Array (Option Value)), fd = PySem.W.fnX "__init__" q params body scope [("__class__", cc)] dV kV doc pm an (.ref cda) ct ∧ K.lookup f = some ⟨oc, od, .func fd, osl⟩
  code : PySem.W.codeIn K (.ref cda) q = true
  file : ∃ (cl : Value) (cd : Option Addr) (vs : Array Value) (sl : Array (Option Value)) (fi : Str) (tf : Tok), K.lookup cda = some ⟨cl, cd, .fields vs, sl⟩ ∧ vs[2]? = some (.str fi tf) ∧ ((P.main.file : Str) == fi) = true
  cell : ∃ (cl : Value) (cd : Option Addr) (sl : Array (Option Value)), K.lookup cc = some ⟨cl, cd, .cell (some (.ref D)), sl⟩
  clsD : ∃ cd, PySem.W.clsIn K D = some cd
  sup : PySem.W.nsIn K mainGlobals "super" = some none
  opq : PySem.W.nsIn K cStatics "thirdparty.any" = some none
  top : (P.main.scope.names.lookup ("super" : Str)).isSome = false
  par : ∃ ar : Arg, (params.posonlyargs ++ params.args).head? = some ar ∧ ar.arg = p0
  sc : NdefX.NScope (p0 :: ps ++ [("__class__" : Str)]) (p0 :: ps) [("__class__" : Str)] scope
  sup2 : scope.names.lookup ("super" : Str) = some .globalImplicit
  look : cIni p0 ps fl body = true
/-! ### the text -/
section
variable {X : Cx}
theorem parts_ok {ps : List Str} {p0 : Str} {is : List Int} {σ : L2.St} (hN : X.N = p0 :: ps ++ [("__class__" : Str)]) (hv : ∀ x ∈ ps, Vis X.env.scope x) (hs : ∀ (i : Nat) (x : Str), ps[i]? = some x → ∃ k, is[i]? = some k ∧ σ[i + 1]? = some (some (.int k))) (hi : ∀ i ∈ is, i.natAbs.log2 < 1920) :
    ∀ (es : List Expr), es.all (cPart ps) = true → ∃ ts, PJ X es ts ∧ ∀ (acc : Str) (H : Hp) (Q : Str → Hp → Prop), acc.length + 3000 * es.length ≤ sizeLine → (∀ out, Q out H) → tJs ts acc σ H Q
  | [], _ => ⟨[], .nil, fun acc H Q _ q => q acc⟩
  | e :: es, h => by
    simp only [List.all_cons, Bool.and_eq_true] at h
    obtain ⟨ts, h1, h2⟩ := parts_ok hN hv hs hi es h.2
    have app : ∀ (a b : Str), (a ++ b).length = a.length + b.length := fun a b => by
      rw [str_len, str_len, str_len]; show (tl (a ++ b)).length = _; rw [tl_append, List.length_append]
    have hc := h.1
    unfold cPart at hc
    split at hc
    · rename_i z k pos
      have hz : z.length ≤ 1000 := of_decide_eq_true hc
      refine ⟨_, .cons pe_str h1, fun acc H Q hl q => ?_⟩
      rw [List.length_cons] at hl
      exact ⟨z, rfl, by rw [app]; omega, h2 _ _ _ (by rw [app]; omega) q⟩
    · rename_i x q1 k pos
      simp only [Bool.and_eq_true, decide_eq_true_eq, List.any_eq_true] at hc
      obtain ⟨⟨hk, y, hy, hxy⟩, hn⟩ := hc
      subst hk
      have exy := eqS_ok hxy; subst exy
      obtain ⟨i, hi1⟩ := List.mem_iff_getElem?.mp hy
      obtain ⟨k, hk1, hk2⟩ := hs i y hi1
      have hNi : X.N[i + 1]? = some y := by
        rw [hN]
        show (ps ++ [("__class__" : Str)])[i]? = some y
        rw [List.getElem?_append_left (List.getElem?_eq_some_iff.mp hi1).1]
        exact hi1
      refine ⟨_, .cons (pe_fmt (pe_var hNi (hv y hy) (okName_ok hn).1 (okName_ok hn).2.1)) h1, fun acc H Q hl q => ?_⟩
      rw [List.length_cons] at hl
      have hb := hi k (List.mem_of_getElem? hk1)
      have e := int_text_length_le (k := 1920) (by decide) hb
      have e2 : (Str.ofString (toString k)).length = (toString k).length := PySem.ofString_length _
      refine ⟨.int k, hk2, .inr ⟨k, rfl, hb, Str.ofString (toString k), rfl, ?_, h2 _ _ _ ?_ q⟩⟩
      · rw [app, e2]; omega
      · rw [app, e2]; omega
    · cases hc

theorem store1_ok {p0 f x : Str} {s : Stmt} {i : Nat} (h : cStore p0 f x s = true) (h0 : X.N[0]? = some p0) (v0 : Vis X.env.scope p0) (hi : X.N[i]? = some x) (vi : Vis X.env.scope x) : PS X s (tOst X.K f (tVar 0) (tVar i)) := by
  unfold cStore at h
  split at h
  · rename_i y q1 g q2 z q3 pos
    simp only [Bool.and_eq_true] at h
    obtain ⟨⟨⟨⟨e1, e2⟩, e3⟩, n1⟩, n2⟩ := h
    cases eqS_ok e1
    cases eqS_ok e2
    cases eqS_ok e3
    exact ps_ost (pe_var h0 v0 (okName_ok n1).1 (okName_ok n1).2.1) (pe_var hi vi (okName_ok n2).1 (okName_ok n2).2.1)
  · cases h
/-- the further fields -/
theorem stores_ok {p0 : Str} {a C : Addr} {σ : L2.St} (T : OexC X.K C) (h0 : X.N[0]? = some p0) (v0 : Vis X.env.scope p0) (s0 : σ[0]? = some (some (.ref a))) : ∀ (fl xs : List Str) (ss : List Stmt) (is : List Int) (j : Nat), cStores p0 fl xs ss = true → is.length = fl.length →
    (∀ (i : Nat) (x : Str), xs[i]? = some x → X.N[j + i]? = some x ∧ Vis X.env.scope x ∧ ∃ k, is[i]? = some k ∧ σ[j + i]? = some (some (.int k))) → (∀ g ∈ fl, PySem.W.findIn X.K (.ref C) g = some none) →
    ∃ t, PSs X ss t ∧ ∀ (D0 : Ends) (H : Hp) (dx : Addr) (fs : List (Str × V)), dx ≠ a → H a = some (exo a C (some dx)) → H dx = some (exd dx fs) → fs.length + fl.length ≤ 900 →
      (∀ H', H' a = some (exo a C (some dx)) → H' dx = some (exd dx ((fl.zip (is.map V.int)).reverse ++ fs)) → (∀ b, b ≠ a → b ≠ dx → H' b = H b) → D0.nx σ H') → t D0 σ H
  | [], [], [], is, j, _, _, _, _ => ⟨_, pss_nil, fun D0 H dx fs _ e1 e2 _ q => q H e1 (by simpa using e2) fun _ _ _ => rfl⟩
  | f :: fl, x :: xs, s :: ss, [], j, _, hl, _, _ => by cases hl
  | f :: fl, x :: xs, s :: ss, k :: is, j, h, hl, hx, hno => by
    simp only [cStores, Bool.and_eq_true] at h
    obtain ⟨n1, v1, k1, e1, e2⟩ := hx 0 x rfl
    cases e1
    obtain ⟨t, h1, h2⟩ := stores_ok T h0 v0 s0 fl xs ss is (j + 1) h.2 (Nat.succ.inj hl) (fun i y hy => by
      obtain ⟨n2, v2, k2, e3, e4⟩ := hx (i + 1) y hy
      exact ⟨by rw [Nat.add_assoc, Nat.add_comm 1 i]; exact n2, v2, k2, e3, by rw [Nat.add_assoc, Nat.add_comm 1 i]; exact e4⟩) (fun g hg => hno g (List.mem_cons_of_mem _ hg))
    refine ⟨_, pss_cons (store1_ok h.1 h0 v0 n1 v1) h1, fun D0 H dx fs ne ea ed hz q => ?_⟩
    refine ⟨.int k, e2, .ref a, s0, a, C, rfl, T, hno f (List.mem_cons_self ..), .inr ⟨dx, fs, ea, ed, by rw [List.length_cons] at hz; omega, ?_⟩⟩
    refine h2 D0 _ dx ((f, .int k) :: fs) ne (by rw [upd_ne (Ne.symm ne)]; exact ea) upd_same (by simp only [List.length_cons] at hz ⊢; omega) fun H' a1 a2 a3 => q H' a1 (by rw [a2]; simp) fun b b1 b2 => by rw [a3 b b1 b2, upd_ne b2]
  | [], [], _ :: _, _, _, h, _, _, _ => by simp [cStores] at h
  | [], _ :: _, _, _, _, h, _, _, _ => by simp [cStores] at h
  | _ :: _, [], _, _, _, h, _, _, _ => by simp [cStores] at h
  | _ :: _, _ :: _, [], _, _, h, _, _, _ => by simp [cStores] at h
/-- all fields -/
theorem stores_all {p0 : Str} {a C : Addr} {σ : L2.St} (T : OexC X.K C) (h0 : X.N[0]? = some p0) (v0 : Vis X.env.scope p0) (s0 : σ[0]? = some (some (.ref a))) {fl xs : List Str} {ss : List Stmt} {is : List Int} (h : cStores p0 fl xs ss = true) (hl : is.length = fl.length) (hz : fl.length ≤ 100) (hp : 0 < fl.length)
    (hx : ∀ (i : Nat) (x : Str), xs[i]? = some x → X.N[1 + i]? = some x ∧ Vis X.env.scope x ∧ ∃ k, is[i]? = some k ∧ σ[1 + i]? = some (some (.int k))) (hno : ∀ g ∈ fl, PySem.W.findIn X.K (.ref C) g = some none) :
    ∃ t, PSs X ss t ∧ ∀ (D0 : Ends) (H : Hp), H a = some (exo a C none) →
      (∀ dx H', H dx = none → dx ≠ a → H' a = some (exo a C (some dx)) → H' dx = some (exd dx (fl.zip (is.map V.int)).reverse) → (∀ b, b ≠ a → b ≠ dx → H' b = H b) → D0.nx σ H') → t D0 σ H := by
  match fl, xs, ss, is, h, hl, hz, hp, hx, hno with
  | f :: fl, x :: xs, s :: ss, k :: is, h, hl, hz, hp, hx, hno =>
    simp only [cStores, Bool.and_eq_true] at h
    obtain ⟨n1, v1, k1, e1, e2⟩ := hx 0 x rfl
    cases e1
    obtain ⟨t, h1, h2⟩ := stores_ok T h0 v0 s0 fl xs ss is 2 h.2 (Nat.succ.inj hl) (fun i y hy => by
      obtain ⟨n2, v2, k2, e3, e4⟩ := hx (i + 1) y hy
      have e : 2 + i = 1 + (i + 1) := by omega
      exact ⟨by rw [e]; exact n2, v2, k2, e3, by rw [e]; exact e4⟩) (fun g hg => hno g (List.mem_cons_of_mem _ hg))
    refine ⟨_, pss_cons (store1_ok h.1 h0 v0 n1 v1) h1, fun D0 H ea q => ?_⟩
    refine ⟨.int k, e2, .ref a, s0, a, C, rfl, T, hno f (List.mem_cons_self ..), .inl ⟨ea, fun dx hd ne => ?_⟩⟩
    refine h2 D0 _ dx [(f, .int k)] ne upd_same (by rw [upd_ne ne, upd_same]) (by simp only [List.length_cons, List.length_nil] at hz ⊢; omega) fun H' a1 a2 a3 => q dx H' hd ne a1 (by rw [a2]; simp) fun b b1 b2 => by rw [a3 b b1 b2, upd_ne b1, upd_ne b2]
  | [], _, _, _, _, _, _, hp, _, _ => cases hp
  | _ :: _, [], _, _, h, _, _, _, _, _ => simp [cStores] at h
  | _ :: _, _ :: _, [], _, h, _, _, _, _, _ => simp [cStores] at h
  | _ :: _, _ :: _, _ :: _, [], _, hl, _, _, _, _ => cases hl
theorem cStores_len {p0 : Str} : ∀ {fl xs : List Str} {ss : List Stmt}, cStores p0 fl xs ss = true → fl.length = xs.length
  | [], [], _, _ => rfl
  | _ :: fl, _ :: xs, [], h => by simp [cStores] at h
  | _ :: fl, _ :: xs, _ :: ss, h => by
    simp only [cStores, Bool.and_eq_true] at h
    rw [List.length_cons, List.length_cons, cStores_len h.2]
  | [], _ :: _, _, h => by simp [cStores] at h
  | _ :: _, [], _, h => by simp [cStores] at h
end
/-! ### the walk -/
section
open PySem.W
variable {prog : Program} {w : World} {A : Around} {E : Value → Shared → Prop} {h : Heap} {g : Array GenState} {d : Drawn} {t : Nat} {os : OsState} {K : Frag}
theorem call_mwV {u e t0 C : Addr} {rest : List Value} {Q : Value → Shared → Prop} (T : OexC K C) (X : K.In h) (he : h.get? e = some (PySem.HandSPX.excO C t0)) (hu : h.get? u = some (kxs_mw "ValueError.__init__" e)) (hrest : rest.length ≤ sizeLine)
    (hq : ∀ h' t1, (∀ b o, b ≠ e → h.get? b = some o → h'.get? b = some o) → h'.get? e = some (PySem.HandSPX.excO C t1) → Q .none ⟨h', g, d, t, os⟩) :
    wpAny (model prog w) A (call (.ref u) rest) Q E ⟨h, g, d, t, os⟩ := by
  obtain ⟨nm, q, N, bs, bm, sn, sub, ab, col, dd, k0, k1, k2, k3, k5, hC, hbm⟩ := T.cls
  have FB := F.excBase_ValueError
  refine wpAny_call (codeAny_of_tree ?_)
  show wpAny _ A.in1 (callAny (.ref u) ⟨rest, []⟩) _ _ _
  simp only [callAny]
  refine wpAny_bind (wpAny_load hu ?_)
  simp only [kxs_mw, show (Value.type "method-wrapper" == Value.type "method" || Value.type "method-wrapper" == Value.type "builtin_function_or_method" || Value.type "method-wrapper" == Value.type "method-wrapper") = true by decide, if_true]
  refine KFB.if_so (by decide) ?_
  refine wpAny_bind (check_bound_init FB.toExcCallFacts (X _ _ hC) he rfl ?_)
  refine wpAny_bind (wpAny_pure (wpAny_pure ?_))
  refine ⟨plainId_quiet FB.init.plain _, codeAny_builtin FB.initEntry ?_⟩
  exact exc_init_tree (cls := .ref C) (t0 := t0) (dv := none) (c2 := .none) (c3 := .none) (b4 := .bool false) he hrest fun h' k e' _ => hq h' _ k e'
end
theorem cIni_ok {p0 : Str} {ps fl : List Str} {body : List Stmt} (h : cIni p0 ps fl body = true) : ∃ (q1 q2 q3 q4 q5 q6 : Pos) (ea eb : Expr) (parts : List Expr) (st : List Stmt), body = .Expr (.Call (.Attribute (.Call (.Name "super" q1) [] [] q2) "__init__" q3) [.JoinedStr (ea :: eb :: parts) q4] [] q5) q6 :: st ∧
    (ea :: eb :: parts).all (cPart ps) = true ∧ parts.length ≤ 20 ∧ cStores p0 fl ps st = true ∧ fl.length ≤ 100 ∧ 0 < fl.length ∧ (q3.endLine == q5.line) = true := by
  unfold cIni at h
  split at h
  · rename_i n q1 q2 m q3 ea eb parts q4 q5 q6 st
    simp only [Bool.and_eq_true, decide_eq_true_eq] at h
    obtain ⟨⟨⟨⟨⟨⟨⟨c1, c2⟩, c3⟩, c4⟩, c5⟩, c6⟩, c7⟩, c8⟩ := h
    cases eqS_ok c1
    cases eqS_ok c2
    exact ⟨q1, q2, q3, q4, q5, q6, ea, eb, parts, st, rfl, c3, c4, c5, c6, c7, c8⟩
  · cases h
theorem meth_form {o e : Expr} {name : Str} {apos pos : Pos} {env : PySem.Env} (h1 : starEach [e] env = [(false, eval e env)]) (hline : (apos.endLine == pos.line) = true) : eval (.Call (.Attribute o name apos) [e] [] pos) env = (do
      let ov ← attributeBase o name env (eval o env)
      standAt apos.atName
      let (f, first) ← holding [ov] (getMethod ov name (do return (← importBound o env).getD true))
      callWith pos f first (backTo pos (starEach [e] env)) []) := by
  have hform : methodCallForm ([e].length + ([] : List Keyword).length) (backTo pos (starEach [e] env)) (backToKw pos (keywordEach [] env)) = true := by
    rw [h1]; rfl
  have hpos : methodCallPos true o env apos pos = pure pos := by unfold methodCallPos; simp [hline]
  rw [arm_eval_Call]
  unfold methodCall
  rw [hform, hpos]
  simp only [pure_bind]
  rfl
theorem ini_ok {P : Program} {wd : World} {K : PySem.W.Frag} {mg : Str → Option Value} {base : Heap} {k : Nat} {f D cc cda : Addr} {fd : FuncData} {q : Str} {params : Arguments} {body : List Stmt} {scope : Scope} {p0 : Str} {ps fl : List Str}
    (F : IniF P K f D cc cda fd q params body scope p0 ps fl) (hms : mg ("super" : Str) = none) : FnOk P wd K mg base (L2N.CX P wd) (k + 1) f fd (p0 :: ps) (spI K D f fl) := by
  obtain ⟨oc, od, dV, kV, doc, pm, an, ct, osl, rfl, lk⟩ := F.fn
  obtain ⟨q1, q2, q3, q4, q5, q6, ea, eb, parts, st, ebody, c3, c4, c5, c6, c7, c8⟩ := cIni_ok F.look
  have hfp := cStores_len c5
  refine ⟨fun vs H Q E ⟨a, C, is, e, hl, _⟩ => by rw [e, List.length_cons, List.length_map, List.length_cons, hl, hfp], fun A outer s H args us vs Q E hr e0 hb r hsp => ?_⟩
  obtain ⟨a, C, is, rfl, hl, hi, hC, ha, hq⟩ := hsp
  have KX : K.In s.heap := e0.mod.kin.keeps fun b o e => (e0.bs b o e).1
  have lim : s.heap.NoLimit := e0.mod.nolimit.keeps fun b o e => (e0.bs b o e).1
  obtain ⟨ccl, ccd, csl, lcc⟩ := F.cell
  obtain ⟨fcl, fcd, fvs, fsl, fi, tf, lcda, hvs, hfile⟩ := F.file
  obtain ⟨cd, hcd⟩ := F.clsD
  obtain ⟨ar, har, hra⟩ := F.par
  let NF0 : NdefX.NF := ⟨"__init__", q, params, body, scope, [("__class__", cc)], cda⟩
  have C0 : NdefX.CellsAt NF0.cl [("__class__" : Str)] [some (.ref D)] s.heap H := by
    have one : ∀ {y c}, NF0.cl.lookup y = some c → y = "__class__" ∧ c = cc := fun {y c} e => by
      have hm := PySem.mem_of_lookup e
      simp only [NF0, List.mem_singleton, Prod.mk.injEq] at hm
      exact hm
    have ic : s.heap.IsCell cc (some (.ref D)) := ⟨_, KX _ _ lcc, rfl⟩
    refine ⟨rfl, fun y c e => ?_, fun x y c e1 e2 => ?_, fun i y hy => ?_⟩
    · obtain ⟨_, rfl⟩ := one e
      exact ⟨(e0.bs _ _ (e0.mod.kin _ _ lcc)).2, _, ic⟩
    · rw [(one e1).1, (one e2).1]
    · cases i with
      | zero =>
        cases hy
        exact ⟨cc, rfl, fun v hv => by cases hv; exact ⟨_, rfl, ic⟩⟩
      | succ i => cases hy
  refine PySem.ks_codeAny_call_defAt hr.depth (KX _ _ lk) rfl lim (PySem.W.codeRec_of KX F.code) rfl hb F.sc.nocell (fun ⟨n, _⟩ hy => F.sc.par n (List.of_mem_zip hy).1) (fun h₁ hns hk₁ => ?_) F.sc.co F.sc.gen F.sc.kind
  have I : Inv (NdefX.ncx (L2N.CX P wd) P wd K mg base (p0 :: ps ++ [("__class__" : Str)]) NF0 f A outer s H E) [] (NdefX.startF (p0 :: ps ++ [("__class__" : Str)]) (V.ref a :: is.map V.int) [some (.ref D)]) H { s with heap := h₁, toks := s.toks + ((p0 :: ps).zip us).length } :=
    NdefX.inv_startN F.sc hr.hd e0 (by rw [List.length_cons, List.length_map, List.length_cons, hl, hfp]) r C0 hns hk₁
  have kI : K.In h₁ := KX.keeps hk₁
  obtain ⟨t1, hoe⟩ := exo_at e0.hok ha
  have hoe1 : h₁.get? a = some (PySem.HandSPX.excO C t1) := hk₁ _ _ hoe
  obtain ⟨us', rfl⟩ : ∃ us', us = Value.ref a :: us' := by
    cases r with
    | cons r1 r2 => cases (show _ = Value.ref a from r1); exact ⟨_, rfl⟩
  have hkc : scope.names.lookup ("__class__" : Str) = some .free := F.sc.frk _ (List.mem_singleton.mpr rfl)
  have hpl : scope.names.lookup p0 = some .local := F.sc.par _ (List.mem_cons_self ..)
  obtain ⟨mb, hb1, hb2⟩ := I.mod.blt
  obtain ⟨oD, hD1, hD2⟩ : ∃ oD, h₁.get? D = some oD ∧ oD.data = .cls cd := by
    unfold PySem.W.clsIn at hcd
    split at hcd
    · rename_i c d cd' sl ho
      cases hcd
      exact ⟨_, kI _ _ ho, rfl⟩
    · cases hcd
  obtain ⟨lm, hlm, hll⟩ := I.loc
  have hns0 : lm p0 = some (Value.ref a) := by
    obtain ⟨u, hu, hk⟩ := hll 0 p0 (.ref a) rfl rfl (.inl hpl)
    cases (show u = Value.ref a from hu)
    rcases hk with ⟨_, hk⟩ | ⟨hk, _⟩
    · exact hk
    · rcases hk with hk | hk
      · rw [show scope.names.lookup p0 = _ from hk] at hpl; cases hpl
      · rw [show scope.names.lookup p0 = _ from hk] at hpl; cases hpl
  rw [ebody]
  refine PySem.ks_wpAt_execs_cons (PySem.ks_wpAt_Expr_any (PySem.ks_wpAt_MethodCall ?_ (meth_form rfl c8)) (by unfold interactive; show (scope.kind == _ && _) = false; rw [F.sc.kind]; rfl) (by rfl))
  refine PySem.ks_wpAt_super_base F.sup2 hkc (by decide) rfl (kI _ _ lk) rfl har rfl (kI _ _ lcda) rfl hvs hfile F.top ?_
  refine PySem.W.ks_loadName_global F.sc.kind F.sup2 (PySem.Calls.loadGlobal_builtin (I.mod.glob.keeps I.bk) hms (hb1.keeps I.bk) ((hb2 _ (by decide)).trans (show bootBuiltins ("super" : Str) = some (.type "super") by decide +kernel)) ⟨rfl, ?_⟩)
  refine wpAny_loadName_free F.sc.kind hkc rfl ⟨_, kI _ _ lcc, rfl⟩ ?_
  rw [hra]
  refine wpAny_loadName_local F.sc.kind hpl hlm hns0 ?_
  refine PySem.ks_wpAny_isType_cls hD1 hD2 ⟨rfl, ?_⟩
  refine PySem.ks_wpAny_call_super hD1 hD2 hoe1 rfl (fun c z => by cases z) (PySem.W.looks_mroIn kI hC.mro) (fun h' e kp => ?_)
  obtain ⟨cdC, hcC⟩ : ∃ cdC, PySem.W.clsIn K C = some cdC := by
    have := hC.sup
    unfold PySem.W.ks_superIn at this
    cases hc : PySem.W.clsIn K C with
    | some cdC => exact ⟨cdC, rfl⟩
    | none => rw [hc] at this; cases this
  have hf := hC.sup
  unfold PySem.W.ks_superIn at hf
  rw [hcC] at hf
  have kI1 : K.In h' := kI.keeps kp
  have IA : PySem.W.InstAt h' a (PySem.HandSPX.excO C t1) C none := ⟨kp _ _ hoe1, rfl, rfl, trivial⟩
  refine PySem.W.kxs_getMethod PySem.W.kxs_ValueError e (PySem.W.looks_opaque kI1 F.opq) (l₀ := cdC.mro) ((PySem.W.looks_clsIn kI1 hcC).andThen .now) rfl kI1 hf (IA.type.andThen (PySem.W.looks_subIn kI1 hC.sub)) (PySem.W.ks_ne kI1 IA hcC) (by decide) ?_
  -- the call
  have kp2 : ∀ b o, h₁.get? b = some o → (h'.push (PySem.W.kxs_mw "ValueError.__init__" a)).get? b = some o := fun b o z => Heap.get?_push_of_some _ (kp b o z)
  have gu : (h'.push (PySem.W.kxs_mw "ValueError.__init__" a)).get? h'.objs.size = some (PySem.W.kxs_mw "ValueError.__init__" a) := Heap.get?_push_at rfl rfl
  have hsz : h₁.objs.size ≤ h'.objs.size := Nat.le_of_lt (Heap.lt_size e)
  have J1 : Inv (NdefX.ncx (L2N.CX P wd) P wd K mg base (p0 :: ps ++ [("__class__" : Str)]) NF0 f A outer s H E) [] (NdefX.startF (p0 :: ps ++ [("__class__" : Str)]) (V.ref a :: is.map V.int) [some (.ref D)]) H ⟨h'.push (PySem.W.kxs_mw "ValueError.__init__" a), s.gens, s.drawn, s.toks + ((p0 :: ps).zip (Value.ref a :: us')).length + 1, s.os⟩ := I.kept kp2
  have J2 := J1.pins_of (pins' := [(h'.objs.size, PySem.W.kxs_mw "ValueError.__init__" a)]) (fun p hp => by
    rw [List.mem_singleton] at hp
    subst hp
    exact ⟨gu, I.hok.fresh hsz, Nat.ne_of_gt (Nat.lt_of_lt_of_le I.lt hsz), I.nofs hsz, fun v z => by cases z⟩)
  have sl : ∀ (i : Nat) (x : Str), ps[i]? = some x → ∃ k, is[i]? = some k ∧ (NdefX.startF (p0 :: ps ++ [("__class__" : Str)]) (V.ref a :: is.map V.int) [some (.ref D)])[i + 1]? = some (some (.int k)) := fun i x hx => by
    have hi0 : i < is.length := by rw [hl, hfp]; exact (List.getElem?_eq_some_iff.mp hx).1
    refine ⟨is[i], List.getElem?_eq_getElem hi0, ?_⟩
    unfold NdefX.startF
    rw [List.getElem?_append_left (by simp; exact hi0)]
    simp [hi0]
  obtain ⟨ts, pj, tq⟩ := parts_ok (X := NdefX.ncx (L2N.CX P wd) P wd K mg base (p0 :: ps ++ [("__class__" : Str)]) NF0 f A outer s H E) rfl (fun x hx => .inl (F.sc.par x (List.mem_cons_of_mem _ hx))) sl hi (ea :: eb :: parts) c3
  have pa := pa_cons (pe_joined (pos := q4) pj) pa_nil rfl
  refine PySem.W.kxs_callWith (i := "ValueError.__init__") (x := a) rfl (PySem.Calls.evalArgs_plain (thn (pa.run q5 _ _ _ _ (fun xs H1 => ∃ out, xs = [.str out] ∧ H1 = H) J2 (tq _ _ _ ?_ fun out => ⟨out, rfl, rfl⟩)) fun us2 s2 ⟨xs, H2, I2, r2, out, ex, eH⟩ => ⟨(I2.pin _ (List.mem_append_right _ (List.mem_singleton.mpr rfl))).1, ?_⟩))
  · rw [List.length_cons, List.length_cons, sizeLine_eq]
    show 0 + _ ≤ _
    omega
  · subst ex eH
    have I3 : Inv (NdefX.ncx (L2N.CX P wd) P wd K mg base (p0 :: ps ++ [("__class__" : Str)]) NF0 f A outer s H2 E) [] _ H2 s2 := I2.pins_of (fun p hp => I2.pin p (List.mem_append_left _ (by simpa using hp)))
    have hu2 := (I2.pin (h'.objs.size, PySem.W.kxs_mw "ValueError.__init__" a) (List.mem_append_right _ (List.mem_singleton.mpr rfl))).1
    have hl2 : us2.length ≤ sizeLine := by
      rw [← r2.length, sizeLine_eq]
      show 1 ≤ _
      omega
    obtain ⟨t2, hoe2⟩ := exo_at I2.hok ha
    obtain ⟨hp2, g2, d2, tk2, os2⟩ := s2
    refine call_mwV hC.oex I2.kIn hoe2 hu2 hl2 (fun h3 t3 k3 e3 => ?_)
    have J4 := I3.write (t' := tk2) (x := a) (e := a) (o := exo a C none) (by rw [ha]; exact True.intro) (.inl rfl) k3 ⟨_, e3⟩ (exo_ok e3)
    have eu : upd H2 a (exo a C none) = H2 := by
      funext b
      by_cases hb : b = a
      · rw [hb, upd_same, ha]
      · rw [upd_ne hb]
    rw [eu] at J4
    refine wpAt_of_wpAny ?_
    obtain ⟨t, hst, hq2⟩ := stores_all (X := NdefX.ncx (L2N.CX P wd) P wd K mg base (p0 :: ps ++ [("__class__" : Str)]) NF0 f A outer s H2 E) (a := a) (C := C) (σ := NdefX.startF (p0 :: ps ++ [("__class__" : Str)]) (V.ref a :: is.map V.int) [some (.ref D)]) hC.oex rfl (.inl hpl) rfl c5 hl c6 c7 (fun i x hx => by
      obtain ⟨k, e1, e2⟩ := sl i x hx
      refine ⟨?_, .inl (F.sc.par x (List.mem_cons_of_mem _ (List.mem_of_getElem? hx))), k, e1, by rw [Nat.add_comm]; exact e2⟩
      rw [Nat.add_comm]
      show (ps ++ [("__class__" : Str)])[i]? = some x
      rw [List.getElem?_append_left (List.getElem?_eq_some_iff.mp hx).1]
      exact hx) hC.no
    have pre := hq2 { nx := fun _ H' => Q .non H', rt := Q } H2 ha fun dx H' a1 a2 a3 a4 a5 => hq dx H' a1 a2 a3 a4 a5
    refine wpAny_mono (hst.run [] _ _ H2 _ J4 pre) (fun fl s' hs => ?_) fun e s' hs => hs
    have fin : ∀ {σ' : L2.St} {H' : Hp} {v : V} {u : Value}, Inv (NdefX.ncx (L2N.CX P wd) P wd K mg base (p0 :: ps ++ [("__class__" : Str)]) NF0 f A outer s H2 E) [] σ' H' s' → L2.RelV v u → Q v H' → CE outer P wd H2 s Q u s' :=
      fun {σ' H' v u} J rv q => ⟨v, H', J.os, J.bare, J.base, J.hok, rv, q⟩
    cases fl with
    | ret u =>
      obtain ⟨v, σ', H', J, rv, q⟩ := hs
      exact fin J rv q
    | next =>
      obtain ⟨σ', H', J, q⟩ := hs
      exact fin (v := V.non) (u := Value.none) J rfl q
    | brk =>
      obtain ⟨_, _, _, q⟩ := hs
      exact False.elim q
    | cont =>
      obtain ⟨_, _, _, q⟩ := hs
      exact False.elim q
/-! ### C(e, ..) raised -/
theorem pmk_ini {X : Cx} {W : WX} {x : Str} {C D f : Addr} {k : Nat} {fd : FuncData} {ps fl : List Str} {e : Expr} {es : List Expr} {ta : TA} {p pos : Pos} (T : IniC X.K C D f fl) (F1 : FnOk X.prog X.w X.K X.mg X.base (L2N.CX X.prog X.w) k f fd ps (spI X.K D f fl)) (hr : Room (k + 1) X.A) (hb : Binds X.K fd ps [])
    (tk : L2N.Takes X W) (hg : Gl X x) (hm : X.mg x = some (.ref C)) (ha : PA X (e :: es) ta) (hdb : (x == ("__debug__" : Str)) = false) (he : starEach (e :: es) X.env = (false, eval e X.env) :: starEach es X.env) (hpl : (backTo pos (starEach es X.env)).any (·.1) = false) :
    L2N.PMk X (.Call (.Name x p) (e :: es) [] pos) (tMkO C (spI X.K D f fl) [] ta) := by
  intro pins s σ H Q I h
  obtain ⟨nm, q, N, bs, bm, sn, sub, ab, col, dd, k0, k1, k2, k3, k5, hC, hbm⟩ := T.oex.cls
  refine wpAny_Call_Name_kw (ld_glob I hg hm ?_ hdb)
  refine PySem.W.callWith_K (h₀ := X.base) I.ok.mod.kin T.oex.kC (thn (ha.run pos pins s σ H _ I h) fun us s1 ⟨vs, H1, I1, r1, hz, q1⟩ => ⟨I1.kIn, ?_⟩) he hpl
  show wpAny _ _ (call (.ref C) us) _ _ _
  obtain ⟨hp, g, dr, tk1, os⟩ := s1
  have le1 : hp.objs.size ≤ hp.objs.size + 1 := Nat.le_succ _
  have free1 : H1 (hp.objs.size + 1) = none := I1.hok.fresh le1
  have prom := q1 (hp.objs.size + 1) free1
  rw [List.append_nil] at prom
  have stay : ∀ b o, hp.get? b = some o → ((hp.push (PySem.W.kdv_tup us)).push (PySem.HandSPX.excO C hp.objs.size)).get? b = some o := fun b o e => Heap.get?_push_of_some _ (Heap.get?_push_of_some _ e)
  have made : ((hp.push (PySem.W.kdv_tup us)).push (PySem.HandSPX.excO C hp.objs.size)).get? (hp.objs.size + 1) = some (PySem.HandSPX.excO C hp.objs.size) := by heap_get
  have I2 := I1.laid (t' := tk1) (a := hp.objs.size + 1) (o := exo (hp.objs.size + 1) C none) (h' := (hp.push (PySem.W.kdv_tup us)).push (PySem.HandSPX.excO C hp.objs.size)) stay le1 (exo_ok made)
  have r2 : Vals (V.ref (hp.objs.size + 1) :: vs) (Value.ref (hp.objs.size + 1) :: us) := .cons rfl r1
  have len2 : (Value.ref (hp.objs.size + 1) :: us ++ []).length = ps.length := by
    rw [List.append_nil, ← r2.length]
    exact F1.len _ _ _ _ prom
  have b2 := hb _ (Value.ref (hp.objs.size + 1) :: us) I2.kIn len2
  rw [List.append_nil] at b2
  have few : us.length ≤ sizeLine := by
    rw [← Paired.length r1, sizeLine_eq]
    omega
  refine wpAny_call (PySem.HandSPX.call_own F.excBase_ValueError (fun Y => PySem.HandSPX.refsVE_contains Y bm hbm) (I1.kIn _ _ hC) (PySem.W.looks_findIn I1.kIn T.ini) (fun self => PySem.W.bind_fn I1.kIn self T.typ) few
    (codeAny_mono (F1.run _ X.stack _ _ ⟨Value.ref (hp.objs.size + 1) :: us, []⟩ _ _ _ (fun _ _ _ => False) (hr.make C us []) (I2.env0.make C us []) b2 r2 prom) fun res s' hq' => ?_))
  cases res with
  | error er => exact (L2N.passes_call tk (E := fun _ _ _ => False) (fun _ _ _ _ z => z.elim) pins σ _ _ er s' I2 hq' : _)
  | ok fl =>
    cases fl with
    | ret u =>
      obtain ⟨v, H2, os2, bare2, un2, hok2, rv, ev, d, fs, ea, ed, hd1, q2⟩ := hq'
      subst ev
      obtain ⟨h2, g2, d2, t2, os'⟩ := s'
      obtain ⟨t0, G, J, kG, ge, hoe, na⟩ := mk_end0 (d2 := d2) (t2 := t2) I1 le1 stay un2 hok2 os2 bare2 ea ed hd1
      exact ⟨rv, hp.objs.size + 1, _, _, ⟨G, g2, d2, t2, os'⟩, _, .ref C, some d, rfl, J, kG, ge, hoe, ⟨rfl, rfl, fun vs hv => by cases hv; rfl⟩, rfl, rfl, na, rfl, bare2, raises_own T.oex.exC T.oex.tyC, q2⟩
    | next => exact False.elim hq'
    | brk => exact False.elim hq'
    | cont => exact False.elim hq'
end Pw
end
section
set_option Elab.async false
set_option linter.all false
set_option maxRecDepth 100000
set_option maxHeartbeats 1000000
set_option autoImplicit false
/-! Pw7: the look at the written text; what an expression's reading is -/
namespace Pw
open PySem PySem.Spec PyProof.Rows L2
/-- the names of the text: defs, constants, classes -/
structure Nm where
  fns : List Str
  gs : List Str
  cls : List Str
  hots : List (Nat × Str)
  tst : List Str
  fls : List (List Str)
def isAt (l : List Str) (i : Nat) (x : Str) : Bool := match l[i]? with
  | some y => eqS x y
  | none => false
theorem isAt_ok {l : List Str} {i : Nat} {x : Str} (h : isAt l i x = true) : l[i]? = some x := by
  unfold isAt at h
  split at h
  · rename_i y e
    rw [e, eqS_ok h]
  · cases h
/-- the kind of a name in a scope -/
def kindAt : List (Str × NameKind) → Str → Option NameKind
  | [], _ => none
  | (y, k) :: r, x => if eqS x y then some k else kindAt r x
theorem kindAt_ok : ∀ (l : List (Str × NameKind)) (x : Str), kindAt l x = l.lookup x
  | [], _ => rfl
  | (y, k) :: r, x => by
    unfold kindAt
    rw [List.lookup_cons]
    by_cases h : x = y
    · subst h
      have e : eqS x x = true := decide_eq_true rfl
      rw [if_pos e, beq_self_eq_true]
    · have e : ¬ eqS x y = true := fun z => h (eqS_ok z)
      have e2 : (x == y) = false := by simpa using h
      rw [if_neg e, e2]
      exact kindAt_ok r x
def visB (sc : Scope) (x : Str) : Bool := match kindAt sc.names x with
  | some .local => true
  | some .cell => true
  | some .free => true
  | _ => false
def locB (sc : Scope) (x : Str) : Bool := match kindAt sc.names x with
  | some .local => true
  | _ => false
def gloB (sc : Scope) (x : Str) : Bool := match kindAt sc.names x with
  | some .globalImplicit => true
  | _ => false
theorem visB_ok {sc : Scope} {x : Str} (h : visB sc x = true) : Vis sc x := by
  unfold visB at h
  rw [kindAt_ok] at h
  unfold Vis
  split at h <;> first | (cases h; done) | simp_all
theorem locB_ok {sc : Scope} {x : Str} (h : locB sc x = true) : sc.names.lookup x = some .local := by
  unfold locB at h
  rw [kindAt_ok] at h
  split at h <;> first | (cases h; done) | assumption
theorem gloB_ok {sc : Scope} {x : Str} (h : gloB sc x = true) : sc.names.lookup x = some .globalImplicit := by
  unfold gloB at h
  rw [kindAt_ok] at h
  split at h <;> first | (cases h; done) | assumption
/-- expressions that stand alone -/
def okX : Expr → Bool
  | .BoolOp .. | .BinOp .. | .UnaryOp .. | .IfExp .. | .Dict .. | .ListComp .. | .Compare .. | .Call .. | .Constant .. | .Attribute .. | .Subscript .. | .Name .. | .List .. | .Tuple .. => true
  | _ => false
theorem star_ok {e : Expr} {es : List Expr} {env : PySem.Env} (h : okX e = true) : starEach (e :: es) env = (false, eval e env) :: starEach es env := by
  cases e <;> first | (cases h; done) | rfl
theorem plainIx_ok {e : Expr} (h : okX e = true) : PlainIx e := by
  intro o i
  cases e <;> first | (cases h; done) | rfl
theorem mark_ok {e : Expr} (h : okX e = true) {op : CmpOp} : behindInMarks op e = false := by
  cases e <;> first | (cases h; done) | rfl
theorem fold_ok {e : Expr} {env : PySem.Env} (h : okX e = true) : ∀ x, foldedSetIterable e env x = pure x := by
  intro x
  cases e <;> first | (cases h; done) | rfl
theorem plainArgs_ok : ∀ {es : List Expr} {pos : Pos} {env : PySem.Env}, es.all okX = true → (backTo pos (starEach es env)).any (·.1) = false
  | [], _, _, _ => rfl
  | e :: es, pos, env, h => by
    simp only [List.all_cons, Bool.and_eq_true] at h
    rw [star_ok h.1]
    show (false || (backTo pos (starEach es env)).any (·.1)) = false
    rw [plainArgs_ok h.2]; rfl
/-! ### readings -/
variable (w : Wo)
/-- what a made exception is: its class, its fields in its own dict -/
structure Xw where
  n : Nat
  cA : Nat → Value
  fl : Nat → List Str
variable (xw : Xw)
def vI : D → V
  | .int i => .int i
  | _ => .non
/-- its dict -/
def xdO (xw : Xw) (c : Nat) (fs : List D) (dd : Option Addr) : Option (Addr × List (Str × V)) := dd.map fun d => (d, ((xw.fl c).zip (fs.map vI)).reverse)
def XR (_w : Wo) (xw : Xw) (φ : Nat → Addr) (H : Hp) (S : Store) (c : Nat) (fs : List D) (cls : Value) (dd : Option Addr) : Prop :=
  c < xw.n ∧ cls = xw.cA c ∧ fldOk fs = true ∧ fs.length = (xw.fl c).length ∧ ((xw.fl c = [] ∧ dd = none) ∨ (xw.fl c ≠ [] ∧ ∃ d, dd = some d ∧ H d = some (.xd ((xw.fl c).zip (fs.map vI)).reverse)))
def Rg {α β : Type} (W : WX) (σ : List (Option V)) (R : (Nat → Addr) → Hp → Store → β → α → Prop) (φ : Nat → Addr) (S : Store) (H : Hp) (r : Res α) (Q : β → Hp → Prop) : Prop := match r with
  | .ok a S' => ∀ b φ' H', Lat φ φ' S S' H H' → SimO w.K φ' w.ex H' S' → R φ' H' S' b a → Q b H'
  | .exc c fs S' => ∀ φ' H' cls dd, Lat φ φ' S S' H H' → SimO w.K φ' w.ex H' S' → XR w xw φ' H' S' c fs cls dd → W cls dd σ H'
  | .bad => False
variable {w xw}
section
variable {α β γ δ : Type} {W : WX} {σ : List (Option V)} {R : (Nat → Addr) → Hp → Store → β → α → Prop} {R2 : (Nat → Addr) → Hp → Store → δ → γ → Prop} {φ φ1 : Nat → Addr} {S S1 : Store} {H H1 : Hp}
theorem Rg.g0 {r : Res α} {Q : β → Hp → Prop} (h : Rg w xw W σ R φ S H r Q) : Rg0 w R φ S H r Q := by
  cases r with
  | ok a S' => exact h
  | exc c fs S' => trivial
  | bad => exact h
theorem Rg.later {r : Res α} {Q : β → Hp → Prop} (h : Rg w xw W σ R φ S H r Q) (l : Lat φ φ1 S S1 H H1) : Rg w xw W σ R φ1 S1 H1 r Q := by
  cases r with
  | ok a S' => exact fun b φ' H' l2 => h b φ' H' (l.trans l2)
  | exc c fs S' => exact fun φ' H' cls dd l2 => h φ' H' cls dd (l.trans l2)
  | bad => exact h
/-- first r, then k -/
theorem Rg.bind {r : Res α} {k : α → Store → Res γ} {Q : δ → Hp → Prop} {Q' : β → Hp → Prop} (h : Rg w xw W σ R2 φ S H (r.bind k) Q)
    (f : ∀ b a S1 φ1 H1, Lat φ φ1 S S1 H H1 → SimO w.K φ1 w.ex H1 S1 → R φ1 H1 S1 b a → Rg w xw W σ R2 φ1 S1 H1 (k a S1) Q → Q' b H1) : Rg w xw W σ R φ S H r Q' := by
  cases r with
  | ok a S' => exact fun b φ' H' l so ra => f b a S' φ' H' l so ra (Rg.later (r := k a S') h l)
  | exc c fs S' => exact h
  | bad => exact h
theorem Rg.fin {a : α} {b : β} {Q : β → Hp → Prop} (h : Rg w xw W σ R φ S H (.ok a S) Q) (so : SimO w.K φ w.ex H S) (r : R φ H S b a) : Q b H := h b φ H Lat.refl so r
theorem Rg.of {o : Option α} {Q : β → Hp → Prop} (h : Rg w xw W σ R φ S H (Res.of o S1) Q) : ∃ a, o = some a ∧ Rg w xw W σ R φ S H (.ok a S1) Q := by
  cases o with
  | none => exact h.elim
  | some a => exact ⟨a, rfl, h⟩
theorem Rg.ofb {o : Option γ} {k : γ → Store → Res α} {Q : β → Hp → Prop} (h : Rg w xw W σ R φ S H ((Res.of o S1).bind k) Q) : ∃ a, o = some a ∧ Rg w xw W σ R φ S H (k a S1) Q := by
  cases o with
  | none => exact h.elim
  | some a => exact ⟨a, rfl, h⟩
theorem Rg.ite {c : Prop} [Decidable c] {r : Res α} {Q : β → Hp → Prop} (h : Rg w xw W σ R φ S H (if c then r else .bad) Q) : c ∧ Rg w xw W σ R φ S H r Q := by
  by_cases hc : c
  · rw [if_pos hc] at h; exact ⟨hc, h⟩
  · rw [if_neg hc] at h; exact h.elim
end
variable (w xw)
/-- an expression as the evaluator has it -/
def tE (C : Ctx) (W : WX) (x : Exp) : TE := fun σ H Q => ∃ φ env S, Sim w.K φ w.ex H S σ env ∧ Rg w xw W σ (RE w) φ S H (evE C x env S) Q
def tEs (C : Ctx) (W : WX) (x : List Exp) : TA := fun σ H Q => ∃ φ env S, Sim w.K φ w.ex H S σ env ∧ Rg w xw W σ (REs w) φ S H (evEs C x env S) Q
def tT (C : Ctx) (W : WX) (x : Tst) : TT := fun σ H Q => ∃ φ env S, Sim w.K φ w.ex H S σ env ∧ Rg w xw W σ RB φ S H (evT C x env S) Q
/-- the built-in names that the text may use -/
def freeNames : List Str := ["len", "int", "str", "abs", "min", "max", "range", "tuple", "list", "all", "any", "sum", "sorted", "isinstance", "bool", "dict", "set", "zip", "ValueError"]
/-- the builtin exception class below all own ones -/
def veB : List Value := [.type "ValueError", .type "Exception", .type "BaseException", .type "object"]
/-- what a call is to do -/
def spD (p : Prg) (n : Nat) (i : Nat) : Sp := fun vs H Q E => ∃ φ S ds, SimO w.K φ w.ex H S ∧ REs w φ H S vs ds ∧ Rg w xw (fun c d _ H => E c d H) ([] : L2.St) (RE w) φ S H (den p n none i ds S) Q
/-- nothing may leave -/
def W00 : WX := fun _ _ _ _ => False
/-- what a call of a def with the exception at hand is to do: the exception's address, its class, its dict -/
def spX (p : Prg) (n : Nat) (i : Nat) (a : Addr) (cls : Value) (dd : Option Addr) : Sp := fun vs H Q _ => vs = [.ref a] ∧ ∃ c fs φ S, XR w xw φ H S c fs cls dd ∧ SimO w.K φ w.ex H S ∧ Rg w xw W00 ([] : L2.St) (RE w) φ S H (den p n (some (c, fs)) i [] S) Q
/-- a def called with the exception that is handled -/
structure FnHp (P : Program) (wd : World) (K : PySem.W.Frag) (mg : Str → Option Value) (base : Heap) (CX : CXT) (k : Nat) (f : Addr) (fd : FuncData) (ps : List Str) (sp : Addr → Value → Option Addr → Sp) : Prop where
  run : ∀ (A : Around) (outer : List PySem.Env) (s : Shared) (H : Hp) (args : Args) (us : List Value) (vs : List V) (Q : VK) (E : XK) (pr : Addr × Obj) (cls : Value) (dd : Option Addr), L2H.RoomH k A → L2H.Hot1 A pr → L2H.PinOk outer H s pr → L2N.Zn cls dd pr.2 → Env0 P wd K mg base A outer s H →
    BindsTo s fd args (ps.zip us) → Vals vs us → sp pr.1 cls dd vs H Q E → codeAny (model P wd) A (.call (.ref f) args) (CR CX outer P wd H s Q E) s
/-- a class that isinstance is asked of: its value, what the tables say -/
structure TstOk (K : PySem.W.Frag) (mg : Str → Option Value) (p : Prg) (k : Nat) (x : Str) (cv : Value) : Prop where
  nm : (∃ a : Addr, cv = .ref a ∧ mg x = some cv) ∨ (∃ T : String, cv = .type T ∧ mg x = none ∧ bootBuiltins x = some cv)
  kit : ∀ c, c < xw.n → ∃ bs, p.Cl[c]? = some bs ∧ PySem.W.kitOne K (xw.cA c) cv = some (bs.contains k) ∧ PySem.W.exmOne K (xw.cA c) cv = some (bs.contains k)
/-- the ground of a run: what is the same in every context -/
structure Gd (P : Program) (wd : World) (mg : Str → Option Value) (base : Heap) (p : Prg) (nm : Nm) (n : Nat) : Prop where
  fn : ∀ (i : Nat) (x : Str), nm.fns[i]? = some x → ∃ (f : Addr) (fd : FuncData) (ps : List Str), mg x = some (.ref f) ∧ PySem.W.keepIn w.K (.ref f) = true ∧ FnOk P wd w.K mg base (L2N.CX P wd) (n + 2) f fd ps (spD w xw p n i) ∧ Binds w.K fd ps []
  gl : ∀ (i : Nat) (x : Str), nm.gs[i]? = some x → ∃ (d : D) (u : Value) (v : V), p.G[i]? = some d ∧ mg x = some u ∧ RelV v u ∧ (∀ φ ex H, Rp w.K φ ex H v d) ∧ D.bel 0 d = true
  free : ∀ x ∈ freeNames, mg x = none
  cls : ∀ (k : Nat) (x : Str), nm.cls[k]? = some x → k < xw.n ∧ ∃ a : Addr, mg x = some (.ref a) ∧ xw.cA k = .ref a ∧ PySem.W.keepIn w.K (.ref a) = true ∧ (xw.fl k = [] → PySem.W.excIn w.K a veB "ValueError.__new__" = true) ∧
    PySem.W.subIn w.K (.ref a) (.type "BaseException") = some true ∧ PySem.W.typeIn w.K (.ref a) = some (.type "type")
  hot : ∀ (i : Nat) (x : Str), (i, x) ∈ nm.hots → ∃ (f : Addr) (fd : FuncData) (y : Str), mg x = some (.ref f) ∧ PySem.W.keepIn w.K (.ref f) = true ∧ FnHp P wd w.K mg base (L2N.CX P wd) n f fd [y] (spX w xw p n i) ∧ Binds w.K fd [y] []
  tst : ∀ (k : Nat) (x : Str), nm.tst[k]? = some x → ∃ cv, TstOk xw w.K mg p k x cv
  exc : ∀ c, c < xw.n → ∃ a : Addr, xw.cA c = .ref a ∧ ExcC w.K a ∧ ∀ g ∈ xw.fl c, PySem.W.findIn w.K (.ref a) g = some none
  fls : ∀ k, k < xw.n → nm.fls[k]? = some (xw.fl k)
  ini : ∀ (k : Nat) (x : Str), nm.cls[k]? = some x → xw.fl k ≠ [] → ∃ (a D fI : Addr) (fd : FuncData) (p0 : Str) (ps : List Str), mg x = some (.ref a) ∧ xw.cA k = .ref a ∧ IniC w.K a D fI (xw.fl k) ∧ ps.length = (xw.fl k).length ∧
    FnOk P wd w.K mg base (L2N.CX P wd) 1 fI fd (p0 :: ps) (spI w.K D fI (xw.fl k)) ∧ Binds w.K fd (p0 :: ps) []
structure Fx (p : Prg) (nm : Nm) (n : Nat) (X : Cx) : Prop where
  hK : w.K = X.K
  hW : w.ex.1 = X.w
  gd : Gd w xw X.prog X.w X.mg X.base p nm n
  nd : X.N.Nodup
  ex : w.ex.2 = none
  calm : X.calm = true
  room : Room (n + 2) X.A
end Pw
end
section
set_option Elab.async false
set_option linter.all false
set_option maxRecDepth 100000
set_option maxHeartbeats 1000000
set_option autoImplicit false
/-! Pw8: expressions of the written text against the evaluator, form by form -/
namespace Pw
open PySem PySem.Spec PyProof.Rows L2
section
variable {X : Cx} {e : Expr}
theorem peI {t t' : TE} (h : PE X e t) (f : ∀ σ H Q, t' σ H Q → t σ H Q) : PE X e t' := ⟨fun pins s σ H Q I q => h.run pins s σ H Q I (f _ _ _ q)⟩
theorem ptI {t t' : TT} (h : PT X e t) (f : ∀ σ H Q, t' σ H Q → t σ H Q) : PT X e t' := ⟨fun pins s σ H Q I q => h.run pins s σ H Q I (f _ _ _ q)⟩
theorem paI {es : List Expr} {t t' : TA} (h : PA X es t) (f : ∀ σ H Q, t' σ H Q → t σ H Q) : PA X es t' := ⟨fun pos pins s σ H Q I q => h.run pos pins s σ H Q I (f _ _ _ q)⟩
end
variable {w : Wo} {xw : Xw} {C : Ctx} {W : WX} {X : Cx}
section
variable {φ φ1 : Nat → Addr} {S S1 : Store} {H H1 : Hp} {v : V} {d : D} {σ : L2.St} {env : Env}
theorem RE.lat (r : RE w φ H S v d) (l : Lat φ φ1 S S1 H H1) : RE w φ1 H1 S1 v d := ⟨r.1.lat r.2 l, D.bel_mono l.le _ r.2⟩
theorem REs.lat {vs : List V} {ds : List D} (r : REs w φ H S vs ds) (l : Lat φ φ1 S S1 H H1) : REs w φ1 H1 S1 vs ds := ⟨r.1.lat r.2 l, D.bels_mono l.le _ r.2⟩
theorem Sim.lat (m : Sim w.K φ w.ex H S σ env) (l : Lat φ φ1 S S1 H H1) (so : SimO w.K φ1 w.ex H1 S1) : Sim w.K φ1 w.ex H1 S1 σ env := ⟨so, m.e.lat l⟩
end
section
variable {α β γ δ : Type} {R2 : (Nat → Addr) → Hp → Store → δ → γ → Prop} {φ : Nat → Addr} {S : Store} {H : Hp} {σ : L2.St} {env : Env}
theorem fE {d : D} {v : V} {Q : VK} (g : Rg w xw W σ (RE w) φ S H (.ok d S) Q) (so : SimO w.K φ w.ex H S) (r : Rp w.K φ w.ex H v d) (b : D.bel S.length d = true) : Q v H := Rg.fin g so ⟨r, b⟩
theorem fB {k : Bool} {Q : Bool → Hp → Prop} (g : Rg w xw W σ RB φ S H (.ok k S) Q) (so : SimO w.K φ w.ex H S) : Q k H := Rg.fin g so rfl
theorem fInt {i : Int} {Q : VK} (g : Rg w xw W σ (RE w) φ S H (.ok (.int i) S) Q) (so : SimO w.K φ w.ex H S) : Q (.int i) H := fE g so (.int _) rfl
theorem fBl {i : Bool} {Q : VK} (g : Rg w xw W σ (RE w) φ S H (.ok (.bl i) S) Q) (so : SimO w.K φ w.ex H S) : Q (.bl i) H := fE g so (.bl _) rfl
/-- first an expression, then k -/
theorem tE.then {x : Exp} {k : D → Store → Res γ} {Q : δ → Hp → Prop} {Q' : VK} (m : Sim w.K φ w.ex H S σ env) (h : Rg w xw W σ R2 φ S H ((evE C x env S).bind k) Q)
    (f : ∀ v d S1 φ1 H1, Lat φ φ1 S S1 H H1 → Sim w.K φ1 w.ex H1 S1 σ env → RE w φ1 H1 S1 v d → Rg w xw W σ R2 φ1 S1 H1 (k d S1) Q → Q' v H1) : tE w xw C W x σ H Q' :=
  ⟨φ, env, S, m, h.bind fun v d S1 φ1 H1 l so r g => f v d S1 φ1 H1 l (m.lat l so) r g⟩
theorem tEs.then {x : List Exp} {k : List D → Store → Res γ} {Q : δ → Hp → Prop} {Q' : List V → Hp → Prop} (m : Sim w.K φ w.ex H S σ env) (h : Rg w xw W σ R2 φ S H ((evEs C x env S).bind k) Q)
    (f : ∀ v d S1 φ1 H1, Lat φ φ1 S S1 H H1 → Sim w.K φ1 w.ex H1 S1 σ env → REs w φ1 H1 S1 v d → Rg w xw W σ R2 φ1 S1 H1 (k d S1) Q → Q' v H1) : tEs w xw C W x σ H Q' :=
  ⟨φ, env, S, m, h.bind fun v d S1 φ1 H1 l so r g => f v d S1 φ1 H1 l (m.lat l so) r g⟩
theorem tT.then {x : Tst} {k : Bool → Store → Res γ} {Q : δ → Hp → Prop} {Q' : Bool → Hp → Prop} (m : Sim w.K φ w.ex H S σ env) (h : Rg w xw W σ R2 φ S H ((evT C x env S).bind k) Q)
    (f : ∀ b S1 φ1 H1, Lat φ φ1 S S1 H H1 → Sim w.K φ1 w.ex H1 S1 σ env → Rg w xw W σ R2 φ1 S1 H1 (k b S1) Q → Q' b H1) : tT w xw C W x σ H Q' :=
  ⟨φ, env, S, m, h.bind fun v d S1 φ1 H1 l so r g => by cases r; exact f _ S1 φ1 H1 l (m.lat l so) g⟩
end
section
variable {e a b c : Expr} {x y z : Exp} {pos : Pos}
theorem se_c {v : V} {d : D} (h : PE X e (tC v)) (r : ∀ φ ex H, Rp w.K φ ex H v d) (b : D.bel 0 d = true) : PE X e (tE w xw C W (.c d)) :=
  peI h fun σ H Q ⟨φ, env, S, m, g⟩ => Rg.fin (a := d) g m.o ⟨r _ _ _, D.bel_mono (Nat.zero_le _) _ b⟩
theorem se_v {i : Nat} {n : Str} (hN : X.N[i]? = some n) (hv : Vis X.env.scope n) (h : okName n = true) : PE X (.Name n pos) (tE w xw C W (.v i)) :=
  peI (pe_var hN hv (okName_ok h).1 (okName_ok h).2.1) fun σ H Q ⟨φ, env, S, m, g⟩ => by
    have g : Rg w xw W σ (RE w) φ S H (match env[i]? with | some (some d) => .ok d S | _ => .bad) Q := g
    split at g
    · rename_i d hd
      obtain ⟨v, h1, h2, h3⟩ := m.e.at_ i d hd
      exact ⟨v, h1, Rg.fin g m.o ⟨h2, h3⟩⟩
    · exact g.elim
theorem se_g {i : Nat} {v : V} {d : D} (hC : C.G[i]? = some d) (h : PE X e (tC v)) (r : ∀ φ ex H, Rp w.K φ ex H v d) (b : D.bel 0 d = true) : PE X e (tE w xw C W (.g i)) :=
  peI h fun σ H Q ⟨φ, env, S, m, g⟩ => by
    have g : Rg w xw W σ (RE w) φ S H (Res.of (C.G[i]?) S) Q := g
    rw [hC] at g
    exact Rg.fin (a := d) g m.o ⟨r _ _ _, D.bel_mono (Nat.zero_le _) _ b⟩
theorem se_bin {op : Operator} {o : Bop} (ho : OpR X (binaryOp op) (rB w o)) (ha : PE X a (tE w xw C W x)) (hb : PE X b (tE w xw C W y)) : PE X (.BinOp a op b pos) (tE w xw C W (.bin o x y)) :=
  peI (pe_op ho ha hb) fun σ H Q ⟨φ, env, S, m, g⟩ => tE.then m g fun v d S1 φ1 H1 l1 m1 r1 g => tE.then m1 g fun u d2 S2 φ2 H2 l2 m2 r2 g => ⟨φ2, S2, d, d2, m2.o, r1.lat l2, r2, g.g0⟩
theorem se_neg (ha : PE X a (tE w xw C W x)) : PE X (.UnaryOp .USub a pos) (tE w xw C W (.neg x)) :=
  peI (pe_un un_neg ha) fun σ H Q ⟨φ, env, S, m, g⟩ => tE.then m g fun v d S1 φ1 H1 l1 m1 r1 g => by
    cases d <;> first | exact g.elim | skip
    cases r1.1
    exact ⟨_, rfl, fInt g m1.o⟩
theorem se_notV (ha : PE X a (tE w xw C W x)) : PE X (.UnaryOp .Not a pos) (tE w xw C W (.notV x)) :=
  peI (pe_not ha) fun σ H Q ⟨φ, env, S, m, g⟩ => tE.then m g fun v d S1 φ1 H1 l1 m1 r1 g => by
    cases d <;> first | exact g.elim | skip
    cases r1.1
    exact ⟨_, rfl, fBl g m1.o⟩
theorem se_and {rest : List Expr} (ha : PE X a (tE w xw C W x)) (hb : PE X (.BoolOp .And (b :: rest) pos) (tE w xw C W y)) : PE X (.BoolOp .And (a :: b :: rest) pos) (tE w xw C W (.andV x y)) :=
  peI (pe_and ha hb) fun σ H Q ⟨φ, env, S, m, g⟩ => tE.then m g fun v d S1 φ1 H1 l1 m1 r1 g => by
    cases d <;> first | exact g.elim | skip
    cases r1.1
    rename_i k
    refine ⟨k, rfl, ?_⟩
    cases k with
    | true => exact ⟨φ1, env, S1, m1, g⟩
    | false => exact fBl g m1.o
theorem se_or {rest : List Expr} (ha : PE X a (tE w xw C W x)) (hb : PE X (.BoolOp .Or (b :: rest) pos) (tE w xw C W y)) : PE X (.BoolOp .Or (a :: b :: rest) pos) (tE w xw C W (.orV x y)) :=
  peI (pe_or ha hb) fun σ H Q ⟨φ, env, S, m, g⟩ => tE.then m g fun v d S1 φ1 H1 l1 m1 r1 g => by
    cases d <;> first | exact g.elim | skip
    cases r1.1
    rename_i k
    refine ⟨k, rfl, ?_⟩
    cases k with
    | false => exact ⟨φ1, env, S1, m1, g⟩
    | true => exact fBl g m1.o
theorem se_cmp {op : CmpOp} {o : Cop} (ho : OpR X (compareOp op) (rC w o)) (ha : PE X a (tE w xw C W x)) (hb : PE X b (tE w xw C W y)) (hm : behindInMarks op b = false) : PE X (.Compare a [op] [b] pos) (tE w xw C W (.cmp o x y)) :=
  peI (pe_cmpR ho ha hb hm) fun σ H Q ⟨φ, env, S, m, g⟩ => tE.then m g fun v d S1 φ1 H1 l1 m1 r1 g => tE.then m1 g fun u d2 S2 φ2 H2 l2 m2 r2 g => by
    obtain ⟨k, hk, g⟩ := g.ofb
    exact ⟨φ2, S2, d, d2, m2.o, r1.lat l2, r2, k, hk, fBl g m2.o⟩
theorem st_cmp {op : CmpOp} {o : Cop} (ho : OpR X (compareOp op) (rC w o)) (ha : PE X a (tE w xw C W x)) (hb : PE X b (tE w xw C W y)) (hm : behindInMarks op b = false) : PT X (.Compare a [op] [b] pos) (tT w xw C W (.val (.cmp o x y))) :=
  ptI (pt_cmpR ho ha hb hm) fun σ H Q ⟨φ, env, S, m, g⟩ => by
    have g : Rg w xw W σ RB φ S H ((evE C (.cmp o x y) env S).bind fun x S => Res.of (truth S x) S) Q := g
    show tE w xw C W x σ H _
    have e : ((evE C (.cmp o x y) env S).bind fun x S => Res.of (truth S x) S) = (evE C x env S).bind fun x S => (evE C y env S).bind fun y S => (Res.of (cmpD S o x y) S).bind fun c S => .ok c S := by
      show (((evE C x env S).bind fun x S => (evE C y env S).bind fun y S => (Res.of (cmpD S o x y) S).bind fun c S => Res.ok (.bl c) S).bind fun x S => Res.of (truth S x) S) = _
      cases evE C x env S with
      | ok d S => 
        show ((evE C y env S).bind _).bind _ = (evE C y env S).bind _
        cases evE C y env S with
        | ok d2 S =>
          show ((Res.of (cmpD S o d d2) S).bind _).bind _ = (Res.of (cmpD S o d d2) S).bind _
          cases cmpD S o d d2 <;> rfl
        | _ => rfl
      | _ => rfl
    rw [e] at g
    exact tE.then m g fun v d S1 φ1 H1 l1 m1 r1 g => tE.then m1 g fun u d2 S2 φ2 H2 l2 m2 r2 g => by
      obtain ⟨k, hk, g⟩ := g.ofb
      exact ⟨φ2, S2, d, d2, m2.o, r1.lat l2, r2, k, hk, k, rfl, fB g m2.o⟩
theorem se_chn {op op' : CmpOp} {o o' : Cop} (ho : OpR X (compareOp op) (rC w o)) (ho' : OpR X (compareOp op') (rC w o')) (ha : PE X a (tE w xw C W x)) (hb : PE X b (tE w xw C W y)) (hc : PE X c (tE w xw C W z))
    (hm : lastMarks [op, op'] [b, c] = false) : PE X (.Compare a [op, op'] [b, c] pos) (tE w xw C W (.chn o o' x y z)) :=
  peI (pe_chain ho ho' ha hb hc hm) fun σ H Q ⟨φ, env, S, m, g⟩ => by
    refine tE.then m g fun v d S1 φ1 H1 l1 m1 r1 g => ?_
    refine tE.then m1 g fun u d2 S2 φ2 H2 l2 m2 r2 g => ?_
    obtain ⟨k, hk, g⟩ := g.ofb
    refine ⟨φ2, S2, d, d2, m2.o, r1.lat l2, r2, k, hk, k, rfl, ?_⟩
    cases k with
    | false => exact fBl g m2.o
    | true =>
      refine tE.then m2 g fun u' d3 S3 φ3 H3 l3 m3 r3 g => ?_
      obtain ⟨k, hk, g⟩ := g.ofb
      exact ⟨φ3, S3, d2, d3, m3.o, r2.lat l3, r3, k, hk, fBl g m3.o⟩
theorem st_chn {op op' : CmpOp} {o o' : Cop} (ho : OpR X (compareOp op) (rC w o)) (ho' : OpR X (compareOp op') (rC w o')) (ha : PE X a (tE w xw C W x)) (hb : PE X b (tE w xw C W y)) (hc : PE X c (tE w xw C W z))
    (hm : lastMarks [op, op'] [b, c] = false) : PT X (.Compare a [op, op'] [b, c] pos) (tT w xw C W (.val (.chn o o' x y z))) :=
  ptI (pt_chain ho ho' ha hb hc hm) fun σ H Q ⟨φ, env, S, m, g⟩ => by
    have g : Rg w xw W σ RB φ S H ((evE C (.chn o o' x y z) env S).bind fun x S => Res.of (truth S x) S) Q := g
    have e : ((evE C (.chn o o' x y z) env S).bind fun x S => Res.of (truth S x) S) = (evE C x env S).bind fun x S => (evE C y env S).bind fun y S => (Res.of (cmpD S o x y) S).bind fun k S =>
        if k then (evE C z env S).bind fun z S => (Res.of (cmpD S o' y z) S).bind fun k S => .ok k S else .ok false S := by
      show (((evE C x env S).bind fun x S => (evE C y env S).bind fun y S => (Res.of (cmpD S o x y) S).bind fun k S => if k then (evE C z env S).bind fun z S => (Res.of (cmpD S o' y z) S).bind fun k S => Res.ok (.bl k) S else .ok (.bl false) S).bind fun x S => Res.of (truth S x) S) = _
      cases evE C x env S with
      | ok d S =>
        show ((evE C y env S).bind _).bind _ = (evE C y env S).bind _
        cases evE C y env S with
        | ok d2 S =>
          show ((Res.of (cmpD S o d d2) S).bind _).bind _ = (Res.of (cmpD S o d d2) S).bind _
          cases cmpD S o d d2 with
          | none => rfl
          | some k => cases k with
            | false => rfl
            | true =>
              show ((evE C z env S).bind _).bind _ = (evE C z env S).bind _
              cases evE C z env S with
              | ok d3 S =>
                show ((Res.of (cmpD S o' d2 d3) S).bind _).bind _ = (Res.of (cmpD S o' d2 d3) S).bind _
                cases cmpD S o' d2 d3 <;> rfl
              | _ => rfl
        | _ => rfl
      | _ => rfl
    rw [e] at g
    refine tE.then m g fun v d S1 φ1 H1 l1 m1 r1 g => ?_
    refine tE.then m1 g fun u d2 S2 φ2 H2 l2 m2 r2 g => ?_
    obtain ⟨k, hk, g⟩ := g.ofb
    refine ⟨φ2, S2, d, d2, m2.o, r1.lat l2, r2, k, hk, k, rfl, ?_⟩
    cases k with
    | false => exact ⟨false, rfl, fB g m2.o⟩
    | true =>
      refine tE.then m2 g fun u' d3 S3 φ3 H3 l3 m3 r3 g => ?_
      obtain ⟨k, hk, g⟩ := g.ofb
      exact ⟨φ3, S3, d2, d3, m3.o, r2.lat l3, r3, k, hk, k, rfl, fB g m3.o⟩
theorem se_ife {t : Tst} (ht : PT X c (tT w xw C W t)) (ha : PE X a (tE w xw C W x)) (hb : PE X b (tE w xw C W y)) : PE X (.IfExp c a b pos) (tE w xw C W (.ife t x y)) :=
  peI (pe_ifExp ht ha hb) fun σ H Q ⟨φ, env, S, m, g⟩ => tT.then m g fun k S1 φ1 H1 l1 m1 g => by
    cases k with
    | true => exact ⟨φ1, env, S1, m1, g⟩
    | false => exact ⟨φ1, env, S1, m1, g⟩
theorem se_idx (hK : w.K = X.K) (hW : w.ex.1 = X.w) (hu : X.A.units + 65 < cLine) (ha : PE X a (tE w xw C W x)) (hb : PE X b (tE w xw C W y)) (hs : PlainIx b) : PE X (.Subscript a b pos) (tE w xw C W (.idx x y)) :=
  peI (pe_ix (ixR hK hW hu) ha hb hs) fun σ H Q ⟨φ, env, S, m, g⟩ => tE.then m g fun v d S1 φ1 H1 l1 m1 r1 g => tE.then m1 g fun u d2 S2 φ2 H2 l2 m2 r2 g => ⟨φ2, S2, d, d2, m2.o, r1.lat l2, r2, g.g0⟩
/-! ### tests -/
theorem st_not {t : Tst} (h : PT X a (tT w xw C W t)) : PT X (.UnaryOp .Not a pos) (tT w xw C W (.not t)) :=
  ptI (pt_not h) fun σ H Q ⟨φ, env, S, m, g⟩ => tT.then m g fun k S1 φ1 H1 l1 m1 g => fB g m1.o
theorem st_and {t u : Tst} {rest : List Expr} (ha : PT X a (tT w xw C W t)) (hb : PW X (.BoolOp .And (b :: rest) pos) (tT w xw C W u)) : PW X (.BoolOp .And (a :: b :: rest) pos) (tT w xw C W (.and t u)) :=
  ⟨fun whole pins s σ H Q I q => (pw_and ha hb).run whole pins s σ H Q I (by
    obtain ⟨φ, env, S, m, g⟩ := q
    exact tT.then m g fun k S1 φ1 H1 l1 m1 g => by
      cases k with
      | true => exact ⟨φ1, env, S1, m1, g⟩
      | false => exact fB g m1.o)⟩
theorem st_or {t u : Tst} {rest : List Expr} (ha : PT X a (tT w xw C W t)) (hb : PW X (.BoolOp .Or (b :: rest) pos) (tT w xw C W u)) : PW X (.BoolOp .Or (a :: b :: rest) pos) (tT w xw C W (.or t u)) :=
  ⟨fun whole pins s σ H Q I q => (pw_or ha hb).run whole pins s σ H Q I (by
    obtain ⟨φ, env, S, m, g⟩ := q
    exact tT.then m g fun k S1 φ1 H1 l1 m1 g => by
      cases k with
      | false => exact ⟨φ1, env, S1, m1, g⟩
      | true => exact fB g m1.o)⟩
theorem truV_of {φ : Nat → Addr} {H : Hp} {S : Store} {v : V} {d : D} {k : Bool} (hK : w.K = X.K) (so : SimO w.K φ w.ex H S) (r : Rp w.K φ w.ex H v d) (h : truth S d = some k) : TruV X.K v H k := by
  cases d with
  | non => cases r; cases h; rfl
  | bl b => cases r; cases h; rfl
  | int i => cases r; cases h; show decide (i ≠ 0) = (i != 0); rw [bne, Bool.beq_eq_decide_eq]; simp
  | str s =>
    obtain ⟨z, rfl, rfl⟩ := rp_inv r
    have h : (if z.cps.toList.length ≤ line then some (!z.cps.toList.isEmpty) else none) = some k := h
    split at h
    · rename_i hl
      cases h
      refine ⟨?_, ?_⟩
      · rw [str_len, line_eq]; exact hl
      · rw [str_len]
        cases z.cps.toList with
        | nil => rfl
        | cons c t =>
          have : ((c :: t).length : Int) ≠ 0 := by simp only [List.length_cons]; omega
          simp [this]
          omega
    · cases h
  | tup ds =>
    cases r with
    | tup h1 r1 =>
      cases h
      rw [hK] at h1
      refine .inr (.inl ⟨_, h1, ?_⟩)
      cases r1 <;> rfl
  | obj n =>
    cases r
    simp only [truth] at h
    split at h
    · rename_i xs e
      cases h
      obtain ⟨vs, h1, r1⟩ := so.ob n _ e
      refine .inl ⟨vs, SqL.of h1, ?_⟩
      cases r1 <;> rfl
    · rename_i xs e
      cases h
      obtain ⟨vs, h1, r1⟩ := so.ob n _ e
      refine .inl ⟨vs, h1.sq, ?_⟩
      cases r1 <;> rfl
    · rename_i xs e
      cases h
      obtain ⟨ws, h1, r1, _⟩ := so.ob n _ e
      refine .inr (.inr ⟨ws, h1, ?_⟩)
      have := r1.length
      cases ws <;> cases xs <;> first | rfl | (simp at this)
    · cases h
  | exc c fs => cases h
theorem st_val (hK : w.K = X.K) (ha : PE X a (tE w xw C W x)) (he : ∀ whole, isTrue a X.env whole = (do let v ← whole; standAt a.pos; holding [v] (truthy v))) : PT X a (tT w xw C W (.val x)) :=
  ptI (pt_truth ha he) fun σ H Q ⟨φ, env, S, m, g⟩ => tE.then m g fun v d S1 φ1 H1 l1 m1 r1 g => by
    obtain ⟨k, hk, g⟩ := g.of
    exact ⟨k, truV_of hK m1.o r1.1 hk, fB g m1.o⟩
end
end Pw
end
section
set_option Elab.async false
set_option linter.all false
set_option maxRecDepth 100000
set_option maxHeartbeats 1000000
set_option autoImplicit false
/-! Pw9: rows: arguments, displays, comprehensions, sources -/
namespace Pw
open PySem PySem.Spec PyProof.Rows L2
theorem bels_lat {φ φ1 : Nat → Addr} {S S1 : Store} {H H1 : Hp} {ds : List D} (b : D.bels S.length ds = true) (l : Lat φ φ1 S S1 H H1) : D.bels S1.length ds = true := D.bels_mono l.le _ b
section
variable {K : PySem.W.Frag} {φ φ0 : Nat → Addr} {ex : Ex1} {H H0 : Hp} {S S0 : Store}
theorem ObR.some {a : Addr} {o : SO} (x : ObR K φ ex H a o) : ∃ u, H a = some u := by
  cases o with
  | lst ds => obtain ⟨vs, e, _⟩ := x; exact ⟨_, e⟩
  | ro ds => obtain ⟨vs, ⟨o, e⟩, _⟩ := x; exact ⟨_, e⟩
  | dct kvs => obtain ⟨vs, e, _⟩ := x; exact ⟨_, e⟩
  | dcn kvs => obtain ⟨_, _, e, _⟩ := x; exact ⟨_, e⟩
  | set _ => exact x.elim
  | ins _ _ => exact x.elim
theorem SimO.ne (x : SimO K φ ex H S) {p : Addr} (hp : H p = none) (n : Nat) (hn : n < S.length) : φ n ≠ p := fun z => by
  obtain ⟨o, e⟩ := get_some hn
  obtain ⟨u, h⟩ := (x.ob n o e).some
  rw [z, hp] at h
  cases h
/-- a thing that stands beside the store is taken into it -/
theorem SimO.adoptO (x : SimO K φ ex H S) {p : Addr} {q0 : SO} (l : Lat φ0 φ S0 S H0 H) (hp : H0 p = none) (hH : ObR K φ ex H p q0) (hn : ∀ n, n < S.length → φ n ≠ p) (b : q0.bel S.length = true) :
    ∃ φ', Lat φ0 φ' S0 (q0 :: S) H0 H ∧ φ' S.length = p ∧ SimO K φ' ex H (q0 :: S) := by
  have sm : ∀ m, m < S.length → (if m = S.length then p else φ m) = φ m := fun m h => if_neg (by omega)
  refine ⟨fun n => if n = S.length then p else φ n, ⟨by have := l.le; simp only [List.length_cons]; omega, fun m h => ?_, l.kp, l.fr, fun n h1 h2 => ?_, l.no⟩, if_pos rfl, fun n q e => ?_, fun n q e => ?_, fun m n om on em en mm mn e => ?_⟩
  · have := l.le
    rw [sm m (by omega)]; exact l.same m h
  · show H0 (if n = S.length then p else φ n) = none
    by_cases z : n = S.length
    · rw [if_pos z]; exact hp
    · rw [if_neg z]
      simp only [List.length_cons] at h2
      exact l.nw n h1 (by omega)
  · show ObR K _ ex H (if n = S.length then p else φ n) q
    by_cases z : n = S.length
    · subst z
      rw [get_new] at e
      cases e
      rw [if_pos rfl]
      exact hH.lat b sm Kp.refl fun _ u eu => eu
    · have hn := get_lt e
      simp only [List.length_cons] at hn
      rw [get_old (by omega)] at e
      rw [if_neg z]
      exact (x.ob n q e).lat (x.wf n q e) sm Kp.refl fun _ u eu => eu
  · have hn := get_lt e
    simp only [List.length_cons] at hn ⊢
    by_cases z : n = S.length
    · subst z
      rw [get_new] at e
      cases e
      exact SO.bel_mono (Nat.le_succ _) _ b
    · rw [get_old (by omega)] at e
      exact SO.bel_mono (Nat.le_succ _) _ (x.wf n q e)
  · have h1 := get_lt em
    have h2 := get_lt en
    simp only [List.length_cons] at h1 h2
    have e : (if m = S.length then p else φ m) = (if n = S.length then p else φ n) := e
    by_cases zm : m = S.length
    · by_cases zn : n = S.length
      · rw [zm, zn]
      · rw [if_pos zm, if_neg zn] at e
        exact absurd e.symm (hn n (by omega))
    · by_cases zn : n = S.length
      · rw [if_neg zm, if_pos zn] at e
        exact absurd e (hn m (by omega))
      · rw [if_neg zm, if_neg zn] at e
        rw [get_old (by omega)] at em en
        exact x.inj m n om on em en mm mn e
theorem SimO.adopt (x : SimO K φ ex H S) {p : Addr} {vs : List V} {ds : List D} (l : Lat φ0 φ S0 S H0 H) (hp : H0 p = none) (hH : H p = some (.lst vs)) (hn : ∀ n, n < S.length → φ n ≠ p) (r : RpA K φ ex H vs ds) (b : D.bels S.length ds = true) :
    ∃ φ', Lat φ0 φ' S0 (.lst ds :: S) H0 H ∧ φ' S.length = p ∧ SimO K φ' ex H (.lst ds :: S) := x.adoptO l hp ⟨vs, hH, r⟩ hn b
end
variable {w : Wo} {xw : Xw} {C : Ctx} {W : WX} {X : Cx}
section
variable {e a b c : Expr} {es : List Expr} {x y z : Exp} {xs : List Exp} {pos p : Pos}
/-! ### arguments -/
theorem sa_nil : PA X [] (tEs w xw C W []) := paI pa_nil fun σ H Q ⟨φ, env, S, m, g⟩ => Rg.fin (a := ([] : List D)) (b := ([] : List V)) g m.o ⟨.nil, rfl⟩
theorem sa_cons (ha : PE X a (tE w xw C W x)) (hr : PA X es (tEs w xw C W xs)) (h : okX a = true) : PA X (a :: es) (tEs w xw C W (x :: xs)) :=
  paI (pa_cons ha hr (star_ok h)) fun σ H Q ⟨φ, env, S, m, g⟩ => by
    refine tE.then m g fun v d S1 φ1 H1 l1 m1 r1 g => ?_
    refine tEs.then m1 g fun vs ds S2 φ2 H2 l2 m2 r2 g => ?_
    exact Rg.fin (a := d :: ds) (b := v :: vs) g m2.o ⟨.cons (r1.lat l2).1 r2.1, by
      show (D.bel S2.length d && D.bels S2.length ds) = true
      rw [(r1.lat l2).2, r2.2]; rfl⟩
theorem evEs_len : ∀ (xs : List Exp) (env : Env) (S : Store) (ds : List D) (S' : Store), evEs C xs env S = .ok ds S' → ds.length = xs.length
  | [], env, S, ds, S', h => by cases h; rfl
  | x :: xs, env, S, ds, S', h => by
    have h : ((evE C x env S).bind fun d S => (evEs C xs env S).bind fun ds S => .ok (d :: ds) S) = .ok ds S' := h
    cases e1 : evE C x env S with
    | ok d S1 =>
      rw [e1] at h
      have h : ((evEs C xs env S1).bind fun ds S => .ok (d :: ds) S) = .ok ds S' := h
      cases e2 : evEs C xs env S1 with
      | ok ds2 S2 =>
        rw [e2] at h
        cases h
        simp [evEs_len xs env S1 ds2 _ e2]
      | exc _ _ _ => rw [e2] at h; cases h
      | bad => rw [e2] at h; cases h
    | exc _ _ _ => rw [e1] at h; cases h
    | bad => rw [e1] at h; cases h
/-- as tEs.then, with the number of arguments -/
theorem tEs.thenL {γ δ : Type} {R2 : (Nat → Addr) → Hp → Store → δ → γ → Prop} {φ : Nat → Addr} {S : Store} {H : Hp} {σ : L2.St} {env : Env} {x : List Exp} {k : List D → Store → Res γ} {Q : δ → Hp → Prop} {Q' : List V → Hp → Prop} (m : Sim w.K φ w.ex H S σ env) (h : Rg w xw W σ R2 φ S H ((evEs C x env S).bind k) Q)
    (f : ∀ v d S1 φ1 H1, d.length = x.length → Lat φ φ1 S S1 H H1 → Sim w.K φ1 w.ex H1 S1 σ env → REs w φ1 H1 S1 v d → Rg w xw W σ R2 φ1 S1 H1 (k d S1) Q → Q' v H1) : tEs w xw C W x σ H Q' := by
  refine ⟨φ, env, S, m, ?_⟩
  cases e : evEs C x env S with
  | ok d S' => rw [e] at h; exact fun b φ' H' l so ra => f b d S' φ' H' (evEs_len _ _ _ _ _ e) l (m.lat l so) ra (Rg.later (r := k d S') h l)
  | exc c fs S' => rw [e] at h; exact h
  | bad => rw [e] at h; exact h
/-! ### a tuple, a list of written items -/
theorem se_tup {x1 : Nat} (h : PA X es (tEs w xw C W xs)) (hl : xs.length ≤ sizeLine) : PE X (.Tuple es x1 pos) (tE w xw C W (.tup xs)) :=
  peI (pe_tup h) fun σ H Q ⟨φ, env, S, m, g⟩ => by
    refine tEs.thenL m g fun vs ds S1 φ1 H1 hd l1 m1 r1 g => ⟨by rw [r1.1.length, hd]; exact hl, fun p hp => ?_⟩
    exact g.g0.tup m1.o r1.1 r1.2 hp
/-- a new list that stands beside the store -/
def RN (w : Wo) (H0 : Hp) (φ : Nat → Addr) (H : Hp) (S : Store) (v : V) (p : List D × Option Nat) : Prop :=
  D.bels S.length p.1 = true ∧ ∃ a vs, v = .ref a ∧ H0 a = none ∧ H a = some (.lst vs) ∧ RpA w.K φ w.ex H vs p.1 ∧ ∀ n, n < S.length → φ n ≠ a
def tN (w : Wo) (xw : Xw) (C : Ctx) (W : WX) (l : Src) : TE := fun σ H Q => ∃ φ env S, Sim w.K φ w.ex H S σ env ∧ Rg w xw W σ (RN w H) φ S H (evL C l env S) Q
theorem sn_disp (h : PA X es (tEs w xw C W xs)) (hl : xs.length ≤ sizeLine) : PE X (.List es pos) (tN w xw C W (.disp xs)) :=
  peI (pe_lst h) fun σ H Q ⟨φ, env, S, m, g⟩ => by
    refine tEs.thenL m g fun vs ds S1 φ1 H1 hd l1 m1 r1 g => ⟨by rw [r1.1.length, hd]; exact hl, fun p hp => ?_⟩
    refine g _ φ1 _ (Lat.newT hp) (m1.o.new hp) ⟨r1.2, p, vs, rfl, l1.no p hp, upd_same, r1.1.mono r1.2 (fun _ _ => rfl) (Kp.new hp), fun n hn z => ?_⟩
    exact m1.o.ne hp n hn z
/-- the new list as a value -/
theorem se_ls {l : Src} (h : PE X e (tN w xw C W l)) : PE X e (tE w xw C W (.ls l)) :=
  peI h fun σ H Q ⟨φ, env, S, m, g⟩ => by
    refine ⟨φ, env, S, m, ?_⟩
    have g : Rg w xw W σ (RE w) φ S H ((evL C l env S).bind fun p S => .ok (.obj S.length) (.lst p.1 :: S)) Q := g
    cases e : evL C l env S with
    | ok p S' =>
      rw [e] at g
      intro v φ' H' l1 so r
      obtain ⟨b, a, vs, rfl, h0, h1, rv, hn⟩ := r
      obtain ⟨φ2, l2, e2, so2⟩ := so.adopt l1 h0 h1 hn rv b
      refine g _ φ2 H' l2 so2 ⟨?_, ?_⟩
      · have := Rp.obj (K := w.K) (φ := φ2) (ex := w.ex) (H := H') S'.length
        rw [e2] at this
        exact this
      · show Nat.blt S'.length (S'.length + 1) = true
        exact Nat.ble_eq_true_of_le (Nat.le_refl _)
    | exc c fs S' => rw [e] at g; exact g
    | bad => rw [e] at g; exact g
/-! ### sources that are walked -/
/-- an iterator that hands out ds while gd stands -/
def ItR (w : Wo) (J : It) (ds : List D) (gd : Store → Bool) (φ0 : Nat → Addr) (S0 : Store) (H0 : Hp) : Prop := ∀ i φ S H, LatW φ0 φ S0 S H0 H → SimO w.K φ w.ex H S → gd S = true →
  (ds.length ≤ i → J.stop i H) ∧ ∀ d, ds[i]? = some d → J.go i H ∧ ∀ x H', J.yld i H x H' → Lat φ φ S S H H' ∧ SimO w.K φ w.ex H' S ∧ Rp w.K φ w.ex H' x d
def RI (w : Wo) (φ : Nat → Addr) (H : Hp) (S : Store) (J : It) (p : List D × Option Nat) : Prop := D.bels S.length p.1 = true ∧ ItR w J p.1 (stands p.2 (obAt p.2 S)) φ S H
def tI (w : Wo) (xw : Xw) (C : Ctx) (W : WX) (l : Src) : TI := fun σ H R => ∃ φ env S, Sim w.K φ w.ex H S σ env ∧ Rg w xw W σ (RI w) φ S H (evL C l env S) R
theorem piI {tg : Expr} {t t' : TI} (h : PI X tg e t) (f : ∀ σ H Q, t' σ H Q → t σ H Q) : PI X tg e t' := ⟨fun pins s σ H R I q => h.run pins s σ H R I (f _ _ _ q)⟩
theorem piOr {tg : Expr} {t u : TI} (h : PI X tg e t) (k : PI X tg e u) : PI X tg e (fun σ H R => t σ H R ∨ u σ H R) := ⟨fun pins s σ H R I q => q.elim (h.run pins s σ H R I) (k.run pins s σ H R I)⟩
section
variable {φ φ1 : Nat → Addr} {S S1 : Store} {H H1 : Hp}
theorem rng_at {n i k : Nat} (h : (List.range n)[i]? = some k) : i < n ∧ k = i := by
  by_cases hi : i < n
  · rw [List.getElem?_range hi] at h
    cases h; exact ⟨hi, rfl⟩
  · rw [List.getElem?_eq_none (by simp; omega)] at h; cases h
theorem itr_rng {lo : Int} {n : Nat} {gd : Store → Bool} : ItR w (Itr lo n) ((List.range n).map fun i => .int (lo + (i : Nat))) gd φ S H := fun i φ' S' H' l so _ =>
  ⟨fun h => by have : n ≤ i := by simpa using h
               exact this, fun d hd => by
    simp only [List.getElem?_map, Option.map_eq_some_iff] at hd
    obtain ⟨k, hk, rfl⟩ := hd
    obtain ⟨hi, rfl⟩ := rng_at hk
    exact ⟨hi, fun x H2 ⟨e1, e2⟩ => by subst e1 e2; exact ⟨Lat.refl, so, .int _⟩⟩⟩
theorem itr_rngC {lo c : Int} {n : Nat} {gd : Store → Bool} : ItR w (Itc lo c n) ((List.range n).map fun i => .int (lo + (i : Nat) * c)) gd φ S H := fun i φ' S' H' l so _ =>
  ⟨fun h => by have : n ≤ i := by simpa using h
               exact this, fun d hd => by
    simp only [List.getElem?_map, Option.map_eq_some_iff] at hd
    obtain ⟨k, hk, rfl⟩ := hd
    obtain ⟨hi, rfl⟩ := rng_at hk
    exact ⟨hi, fun x H2 ⟨e1, e2⟩ => by subst e1 e2; exact ⟨Lat.refl, so, .int _⟩⟩⟩
theorem itr_sql {a : Addr} {ds : List D} {gd : Store → Bool} (h : ∀ φ' S' H', LatW φ φ' S S' H H' → SimO w.K φ' w.ex H' S' → gd S' = true → ∃ vs, SqL w.K H' a vs ∧ RpA w.K φ' w.ex H' vs ds) : ItR w (Itl w.K a) ds gd φ S H := fun i φ' S' H' l so g => by
  obtain ⟨vs, h1, r1⟩ := h φ' S' H' l so g
  refine ⟨fun hi => ⟨vs, h1, by rw [r1.length]; exact hi⟩, fun d hd => ?_⟩
  obtain ⟨v, hv, rv⟩ := r1.get d hd
  refine ⟨⟨vs, v, h1, hv⟩, fun x H2 ⟨e1, e2⟩ => ?_⟩
  subst e1
  have := (e2 vs h1).symm.trans hv
  cases this
  exact ⟨Lat.refl, so, rv⟩
theorem itr_sqt {a : Addr} {vs : List V} {ds : List D} {gd : Store → Bool} (h : SqT w.K H a vs) (r : RpA w.K φ w.ex H vs ds) (b : D.bels S.length ds = true) : ItR w (Itt w.K a) ds gd φ S H := fun i φ' S' H' l so g => by
  have h1 := sqT_kp h l.kp
  have r1 := r.mono b l.same l.kp
  refine ⟨fun hi => ⟨vs, h1, by rw [r1.length]; exact hi⟩, fun d hd => ?_⟩
  obtain ⟨v, hv, rv⟩ := r1.get d hd
  refine ⟨⟨vs, v, h1, hv⟩, fun x H2 ⟨e1, e2⟩ => ?_⟩
  subst e1
  have := (e2 vs h1).symm.trans hv
  cases this
  exact ⟨Lat.refl, so, rv⟩
theorem itr_str {x : Str} {gd : Store → Bool} : ItR w (Its x) (x.cps.toList.map fun c => .str [c]) gd φ S H := fun i φ' S' H' l so _ =>
  ⟨fun h => by have : x.cps.size ≤ i := by simpa using h
               exact this, fun d hd => by
    simp only [List.getElem?_map, Option.map_eq_some_iff] at hd
    obtain ⟨k, hk, rfl⟩ := hd
    have hk' : x.cps[i]? = some k := by rw [← Array.getElem?_toList]; exact hk
    refine ⟨?_, fun y H2 ⟨e1, c, e2, e3⟩ => ?_⟩
    · by_cases z : i < x.cps.size
      · exact z
      · rw [Array.getElem?_eq_none (by omega)] at hk'; cases hk'
    · subst e1 e3
      rw [hk'] at e2
      cases e2
      exact ⟨Lat.refl, so, rp_str rfl⟩⟩
end
/-- for .. in e, by what e is -/
theorem si_val {tg : Expr} (hK : w.K = X.K) (h : PE X e (tE w xw C W x)) : PI X tg e (tI w xw C W (.val x)) := by
  refine piI (piOr (piOr (pi_list h) (pi_tup h)) (pi_str h)) fun σ H R ⟨φ, env, S, m, g⟩ => ?_
  have g : Rg w xw W σ (RI w) φ S H ((evE C x env S).bind fun x S => Res.of (items x S) S) R := g
  cases e1 : evE C x env S with
  | bad => rw [e1] at g; exact g.elim
  | exc c fs S' =>
    rw [e1] at g
    refine .inr ⟨φ, env, S, m, ?_⟩
    rw [e1]
    exact g
  | ok d S' =>
    rw [e1] at g
    have g : Rg w xw W σ (RI w) φ S H (Res.of (items d S') S') R := g
    obtain ⟨p, hp, g⟩ := g.of
    cases d with
    | str s =>
      cases hp
      refine .inr ⟨φ, env, S, m, ?_⟩
      rw [e1]
      intro v φ' H' l so r
      obtain ⟨z, rfl, rfl⟩ := rp_inv r.1
      exact ⟨z, rfl, g _ φ' H' l so ⟨bels_all.mpr fun d hd => by
        obtain ⟨c, _, rfl⟩ := List.mem_map.mp hd
        rfl, itr_str⟩⟩
    | tup ds =>
      cases hp
      refine .inl (.inr ⟨φ, env, S, m, ?_⟩)
      rw [e1]
      intro v φ' H' l so r
      have hb : D.bels S'.length ds = true := by have := r.2; simpa [D.bel] using this
      cases r.1 with
      | tup h1 r1 => exact ⟨_, rfl, ⟨_, hK ▸ h1⟩, hK ▸ g _ φ' H' l so ⟨hb, itr_sqt h1 r1 hb⟩⟩
    | obj n =>
      refine .inl (.inl ⟨φ, env, S, m, ?_⟩)
      rw [e1]
      intro v φ' H' l so r
      cases r.1
      simp only [items] at hp
      split at hp
      · rename_i xs en
        cases hp
        obtain ⟨vs, h1, r1⟩ := so.ob n _ en
        refine ⟨_, rfl, ⟨vs, SqL.of h1⟩, hK ▸ g _ φ' H' l so ⟨so.wf n _ en, itr_sql fun φ2 S2 H2 l2 so2 g2 => ?_⟩⟩
        have hn : n < S'.length := get_lt en
        have eg : get S2 n = some (.lst xs) := by
          have : get S2 n = obAt (some n) S' := of_decide_eq_true g2
          rw [this]; exact en
        obtain ⟨vs2, h2, r2⟩ := so2.ob n _ eg
        rw [← l2.same n hn]
        exact ⟨vs2, SqL.of h2, r2⟩
      · rename_i xs en
        cases hp
        obtain ⟨vs, h1, r1⟩ := so.ob n _ en
        refine ⟨_, rfl, ⟨vs, h1.sq⟩, hK ▸ g _ φ' H' l so ⟨so.wf n _ en, itr_sql fun φ2 S2 H2 l2 so2 g2 => ?_⟩⟩
        have hn : n < S'.length := get_lt en
        have eg : get S2 n = some (.ro xs) := by
          have : get S2 n = obAt (some n) S' := of_decide_eq_true g2
          rw [this]; exact en
        obtain ⟨vs2, h2, r2⟩ := so2.ob n _ eg
        rw [← l2.same n hn]
        exact ⟨vs2, h2.sq, r2⟩
      · cases hp
    | _ => cases hp
end
end Pw
end
section
set_option Elab.async false
set_option linter.all false
set_option maxRecDepth 100000
set_option maxHeartbeats 1000000
set_option autoImplicit false
/-! Pw10: ranges, targets, comprehensions -/
namespace Pw
open PySem PySem.Spec PyProof.Rows L2
variable {w : Wo} {xw : Xw} {C : Ctx} {W : WX} {X : Cx}
section
variable {e a b c tg : Expr} {es : List Expr} {x y z : Exp} {xs : List Exp} {pos p : Pos}
theorem small_ok {i : Int} (h : small i = true) : -(2 ^ 62) ≤ i ∧ i < 2 ^ 62 := by
  unfold small at h
  simp only [Bool.and_eq_true, decide_eq_true_eq] at h
  exact h
theorem bels_map {n : Nat} {α : Type} {l : List α} {f : α → D} (h : ∀ a, D.bel n (f a) = true) : D.bels n (l.map f) = true := bels_all.mpr fun d hd => by
  obtain ⟨c, _, rfl⟩ := List.mem_map.mp hd
  exact h c
theorem si_rng (hg : Gl X "range") (hm : X.mg "range" = none) (ha : PE X a (tE w xw C W x)) (h : okX a = true) : PI X tg (.Call (.Name "range" p) [a] [] pos) (tI w xw C W (.rng x)) :=
  piI (pi_range1 hg hm (pa_cons ha pa_nil (star_ok h)) (star_ok h)) fun σ H R ⟨φ, env, S, m, g⟩ => by
    refine tE.then m g fun v d S1 φ1 H1 l1 m1 r1 g => ?_
    cases d <;> first | exact g.elim | skip
    rename_i i
    cases r1.1
    obtain ⟨h1, g⟩ := Rg.ite (c := small i = true) g
    obtain ⟨h1, h2⟩ := small_ok h1
    refine ⟨i, rfl, h1, h2, g _ φ1 H1 Lat.refl m1.o ⟨bels_map fun _ => rfl, ?_⟩⟩
    have e : rngL 0 i = (List.range i.toNat).map fun k => .int ((0 : Int) + (k : Nat)) := by unfold rngL; rw [Int.sub_zero]
    show ItR w (Itr 0 i.toNat) (rngL 0 i) _ _ _ _
    rw [e]
    exact itr_rng
theorem si_rng2 (hg : Gl X "range") (hm : X.mg "range" = none) (ha : PE X a (tE w xw C W x)) (hb : PE X b (tE w xw C W y)) (h : okX a = true) (h2 : okX b = true) : PI X tg (.Call (.Name "range" p) [a, b] [] pos) (tI w xw C W (.rng2 x y)) :=
  piI (pi_range2 hg hm (pa_cons ha (pa_cons hb pa_nil (star_ok h2)) (star_ok h)) ((star_ok h).trans (by rw [star_ok h2]; rfl)) (star_ok h2)) fun σ H R ⟨φ, env, S, m, g⟩ => by
    refine tE.then m g fun v d S1 φ1 H1 l1 m1 r1 g => ?_
    refine tE.then m1 g fun u d2 S2 φ2 H2 l2 m2 r2 g => ?_
    cases d with
    | int i => cases d2 with
      | int j =>
        cases r1.1
        cases r2.1
        obtain ⟨h1, g⟩ := Rg.ite (c := (small i && small j) = true) g
        simp only [Bool.and_eq_true] at h1
        have k1 := small_ok h1.1
        have k2 := small_ok h1.2
        exact ⟨i, j, rfl, ⟨k1.1, k1.2, k2.1, k2.2⟩, g _ φ2 H2 Lat.refl m2.o ⟨bels_map fun _ => rfl, itr_rng⟩⟩
      | _ => exact g.elim
    | _ => exact g.elim

theorem rgC_up {i j c : Int} (h1 : small i = true) (h2 : small j = true) (h3 : 0 < c) (h4 : c < 1073741824) : RgC i j c (if i < j then ((j - i - 1) / c + 1).toNat else 0) := by
  have k1 := small_ok h1
  have k2 := small_ok h2
  have e : Builtin.Range.rangeSize i j c = if i < j then (j - i - 1) / c + 1 else 0 := by
    unfold Builtin.Range.rangeSize
    rw [if_pos h3]
  have d0 : i < j → 0 ≤ (j - i - 1) / c := fun h => Int.ediv_nonneg (by omega) (by omega)
  have d1 : i < j → (j - i - 1) / c ≤ j - i - 1 := fun h => Int.ediv_le_self _ (by omega)
  refine ⟨by omega, by omega, ?_, ?_⟩
  · unfold Builtin.Range.small
    rw [e]
    simp only [Builtin.Range.rangeFitsLong, Bool.and_eq_true, Bool.or_eq_true, decide_eq_true_eq, beq_iff_eq, if_pos h3]
    split
    · have := d0 (by assumption)
      have := d1 (by assumption)
      omega
    · omega
  · rw [e]
    split
    · have := d0 (by assumption)
      omega
    · rfl
theorem si_rng3 (hg : Gl X "range") (hm : X.mg "range" = none) (ha : PE X a (tE w xw C W x)) (hb : PE X b (tE w xw C W y)) (hc : PE X c (tE w xw C W z)) (h : okX a = true) (h2 : okX b = true) (h3 : okX c = true) : PI X tg (.Call (.Name "range" p) [a, b, c] [] pos) (tI w xw C W (.rng3 x y z)) :=
  piI (pi_range3 hg hm (pa_cons ha (pa_cons hb (pa_cons hc pa_nil (star_ok h3)) (star_ok h2)) (star_ok h)) (star_ok h) (plainArgs_ok (by simp [h2, h3]))) fun σ H R ⟨φ, env, S, m, g⟩ => by
    refine tE.then m g fun v d S1 φ1 H1 l1 m1 r1 g => ?_
    refine tE.then m1 g fun u d2 S2 φ2 H2 l2 m2 r2 g => ?_
    refine tE.then m2 g fun u d3 S3 φ3 H3 l3 m3 r3 g => ?_
    cases d with
    | int i => cases d2 with
      | int j => cases d3 with
        | int k =>
          cases r1.1
          cases r2.1
          cases r3.1
          obtain ⟨h1, g⟩ := Rg.ite (c := (small i && small j && (decide (k = -1) || (decide (0 < k) && decide (k < 1073741824)))) = true) g
          simp only [Bool.and_eq_true, Bool.or_eq_true, decide_eq_true_eq] at h1
          obtain ⟨⟨s1, s2⟩, h1⟩ := h1
          refine ⟨i, j, k, (if k = -1 then (i - j).toNat else if i < j then ((j - i - 1) / k + 1).toNat else 0), rfl, ?_, g _ φ3 H3 Lat.refl m3.o ⟨bels_map fun _ => rfl, itr_rngC⟩⟩
          rcases h1 with rfl | ⟨h3, h4⟩
          · rw [if_pos rfl]
            have k1 := small_ok s1
            have k2 := small_ok s2
            exact RgC.neg k1.1 k1.2 k2.1 k2.2
          · rw [if_neg (by omega)]
            exact rgC_up s1 s2 h3 h4
        | _ => exact g.elim
      | _ => exact g.elim
    | _ => exact g.elim
/-! ### targets -/
/-- slots outside is as before -/
def Same (is : List Nat) (σ σ' : L2.St) : Prop := σ'.length = σ.length ∧ ∀ i, i ∉ is → σ'[i]? = σ[i]?
theorem wipe_at {σ : L2.St} {i : Nat} : ∀ {vs : List Nat}, i ∈ vs → i < σ.length → (wipe σ vs)[i]? = some none
  | v :: vs, h, hl => by
    unfold wipe
    by_cases z : v = i
    · subst z
      rw [List.getElem?_set_self (by rw [wipe_length]; exact hl)]
    · rw [List.getElem?_set_ne z]
      have : i ∈ vs := by
        rcases List.mem_cons.mp h with e | e
        · exact absurd e.symm z
        · exact e
      exact wipe_at this hl
theorem wipe_same {vs : List Nat} {σ σ' : L2.St} (h : Same vs σ σ') : wipe σ' vs = wipe σ vs := by
  apply List.ext_getElem?
  intro i
  by_cases hi : i ∈ vs
  · by_cases hl : i < σ.length
    · rw [wipe_at hi hl, wipe_at hi (by rw [h.1]; exact hl)]
    · rw [List.getElem?_eq_none (by rw [wipe_length, h.1]; omega), List.getElem?_eq_none (by rw [wipe_length]; omega)]
  · rw [wipe_out hi, wipe_out hi, h.2 i hi]
theorem wipe_wipe {vs : List Nat} {σ : L2.St} : wipe (wipe σ vs) vs = wipe σ vs := by
  refine wipe_same ⟨wipe_length _ _, fun i hi => wipe_out hi⟩
def gT (w : Wo) (t : Tg) : TG := fun v σ H Q => ∃ φ S env d env', Sim w.K φ w.ex H S σ env ∧ RE w φ H S v d ∧ bind1 t d env = some env' ∧ ∀ σ', Sim w.K φ w.ex H S σ' env' → Same t.ix σ σ' → Q σ' H
theorem pgI {tg : Expr} {t t' : TG} (h : PG X tg t) (f : ∀ v σ H Q, t' v σ H Q → t v σ H Q) : PG X tg t' := ⟨fun pins s σ H v u Q I r q => h.run pins s σ H v u Q I r (f _ _ _ _ q)⟩
section
variable {φ : Nat → Addr} {S : Store} {H : Hp} {σ : L2.St} {env : Env} {v : V} {d : D}
theorem SimE.set {K : PySem.W.Frag} {ex : Ex1} {n : Nat} (m : SimE K φ ex H n σ env) (r : Rp K φ ex H v d) (b : D.bel n d = true) (i : Nat) (hx : ∀ a j fs, ex.2 = some (a, j, fs) → i ≠ j) : SimE K φ ex H n (σ.set i (some v)) (env.set i (some d)) := by
  refine ⟨by simp [m.len], fun j u h => ?_, fun a j fs e => by rw [List.getElem?_set_ne (hx a j fs e)]; exact m.xs a j fs e, m.xd⟩
  by_cases z : i = j
  · subst z
    by_cases hl : i < env.length
    · rw [List.getElem?_set_self hl] at h
      cases h
      exact ⟨v, List.getElem?_set_self (by rw [m.len]; exact hl), r, b⟩
    · rw [List.getElem?_eq_none (by simpa using hl)] at h; cases h
  · rw [List.getElem?_set_ne z] at h
    obtain ⟨u2, h1, h2⟩ := m.at_ j u h
    exact ⟨u2, by rw [List.getElem?_set_ne z]; exact h1, h2⟩
theorem SimE.non {K : PySem.W.Frag} {ex : Ex1} {n : Nat} (m : SimE K φ ex H n σ env) (i : Nat) : SimE K φ ex H n σ (env.set i .none) := by
  refine ⟨by simp [m.len], fun j u h => ?_, m.xs, m.xd⟩
  by_cases z : i = j
  · subst z
    by_cases hl : i < env.length
    · rw [List.getElem?_set_self hl] at h; cases h
    · rw [List.getElem?_eq_none (by simpa using hl)] at h; cases h
  · rw [List.getElem?_set_ne z] at h
    exact m.at_ j u h
theorem SimE.kill {K : PySem.W.Frag} {ex : Ex1} {n : Nat} : ∀ (ks : List Nat) {env : Env}, SimE K φ ex H n σ env → SimE K φ ex H n σ (Pw.kill ks env)
  | [], _, m => m
  | k :: ks, _, m => SimE.kill ks (m.non k)
theorem kill_at : ∀ (ks : List Nat) {env : Env} {i : Nat} {d : D}, (Pw.kill ks env)[i]? = some (some d) → env[i]? = some (some d) ∧ i ∉ ks
  | [], _, _, _, h => ⟨h, by simp⟩
  | k :: ks, env, i, d, h => by
    obtain ⟨h1, h2⟩ := kill_at ks h
    by_cases z : k = i
    · subst z
      by_cases hl : k < env.length
      · rw [List.getElem?_set_self hl] at h1; cases h1
      · rw [List.getElem?_eq_none (by simpa using hl)] at h1; cases h1
    · rw [List.getElem?_set_ne z] at h1
      exact ⟨h1, by simp only [List.mem_cons, not_or]; exact ⟨fun e => z e.symm, h2⟩⟩
theorem kill_len : ∀ (ks : List Nat) (env : Env), (Pw.kill ks env).length = env.length
  | [], _ => rfl
  | k :: ks, env => by
    show (Pw.kill ks (env.set k .none)).length = _
    rw [kill_len ks, List.length_set]
theorem SimE.wipe {K : PySem.W.Frag} {ex : Ex1} {n : Nat} (m : SimE K φ ex H n σ env) (vs : List Nat) (hx : ex.2 = none) : SimE K φ ex H n (wipe σ vs) (Pw.kill vs env) := by
  refine ⟨by rw [wipe_length, kill_len, m.len], fun j u h => ?_, fun a j fs e => (by rw [hx] at e; cases e), m.xd⟩
  obtain ⟨h1, h2⟩ := kill_at vs h
  rw [wipe_out h2]
  exact m.at_ j u h1
end
theorem sg_v {i : Nat} {n : Str} (he : ∀ a j fs, w.ex.2 = some (a, j, fs) → i ≠ j) (hN : X.N.Nodup) (hi : X.N[i]? = some n) (hx : Loc X.env.scope n) (hf : X.fn n = true ∨ X.env.scope.names.lookup n = some .local) : PG X (.Name n pos) (gT w (.v i)) :=
  pgI (pg_name hN hi hx hf) fun v σ H Q ⟨φ, S, env, d, env', m, r, h, q⟩ => by
    cases h
    exact q _ ⟨m.o, m.e.set r.1 r.2 i he⟩ ⟨by simp, fun j hj => List.getElem?_set_ne (fun z => hj (by simp [Tg.ix, z]))⟩
/-- several slots -/
def sets (σ : L2.St) : List (Nat × V) → L2.St
  | [] => σ
  | p :: r => sets (σ.set p.1 (some p.2)) r
def gNs : List Nat → TGs
  | [] => gNil
  | i :: is => gCons (gName i) (gNs is)
theorem gNs_ok : ∀ (is : List Nat) (vs : List V) (σ : L2.St) (H : Hp) (Q : L2.St → Hp → Prop), vs.length = is.length → Q (sets σ (is.zip vs)) H → gNs is vs σ H Q
  | [], [], σ, H, Q, _, q => ⟨rfl, q⟩
  | i :: is, v :: vs, σ, H, Q, h, q => ⟨v, vs, rfl, gNs_ok is vs _ H Q (by simpa using h) q⟩
theorem SimE.sets {K : PySem.W.Frag} {ex : Ex1} {φ : Nat → Addr} {H : Hp} {n : Nat} : ∀ (is : List Nat) {vs : List V} {ds : List D} {σ : L2.St} {env : Env}, SimE K φ ex H n σ env → RpA K φ ex H vs ds → D.bels n ds = true → ex.2 = none →
    SimE K φ ex H n (Pw.sets σ (is.zip vs)) ((is.zip ds).foldl (fun e p => e.set p.1 (some p.2)) env)
  | [], _, _, _, _, m, _, _, _ => m
  | i :: is, _, _, _, _, m, .nil, _, _ => m
  | i :: is, _, _, _, _, m, .cons q r, b, he => by
    simp only [D.bels, Bool.and_eq_true] at b
    exact SimE.sets is (m.set q b.1 i fun a j fs e => by rw [he] at e; cases e) r b.2 he
theorem sets_same : ∀ (is : List Nat) (vs : List V) (σ : L2.St), Same is σ (sets σ (is.zip vs))
  | [], _, σ => ⟨rfl, fun _ _ => rfl⟩
  | _ :: _, [], σ => ⟨rfl, fun _ _ => rfl⟩
  | i :: is, v :: vs, σ => by
    obtain ⟨h1, h2⟩ := sets_same is vs (σ.set i (some v))
    refine ⟨h1.trans (by simp), fun j hj => ?_⟩
    simp only [List.mem_cons, not_or] at hj
    exact (h2 j hj.2).trans (List.getElem?_set_ne (fun z => hj.1 z.symm))
theorem sg_tup {es : List Expr} {k : Nat} {is : List Nat} (he : w.ex.2 = none) (hK : w.K = X.K) (hc : X.calm = true) (h : PGs X es (gNs is)) (hn : (assignEach es X.env).length = is.length) (hst : (assignEach es X.env).findIdx? (·.1) = none) : PG X (.Tuple es k pos) (gT w (.tup is)) :=
  pgI (pg_tup hc h hn hst) fun v σ H Q ⟨φ, S, env, d, env', m, r, h, q⟩ => by
    cases d <;> first | cases h; done | skip
    rename_i ds
    have h : (if is.length = ds.length then some ((is.zip ds).foldl (fun e p => e.set p.1 (some p.2)) env) else none) = some env' := h
    split at h
    · rename_i hl
      cases h
      have hb : D.bels S.length ds = true := by have := r.2; simpa [D.bel] using this
      obtain ⟨r, _⟩ := r
      cases r with
      | @tup a vs _ h1 r1 =>
        have hv : vs.length = is.length := by rw [r1.length, hl]
        exact ⟨a, vs, rfl, hK ▸ h1, hv, gNs_ok is vs σ H Q hv (q _ ⟨m.o, m.e.sets is r1 hb he⟩ (sets_same is vs σ))⟩
    · cases h
end
end Pw
end
section
set_option Elab.async false
set_option linter.all false
set_option maxRecDepth 100000
set_option maxHeartbeats 1000000
set_option autoImplicit false
/-! Pw11: comprehensions -/
namespace Pw
open PySem PySem.Spec PyProof.Rows L2
variable {w : Wo} {xw : Xw} {C : Ctx} {W : WX} {X : Cx}
/-- nothing may leave a comprehension's block -/
def W0 : WX := fun _ _ _ _ => False
def tTs (w : Wo) (xw : Xw) (C : Ctx) (W : WX) (ts : List Tst) : TT := fun σ H Q => ∃ φ env S, Sim w.K φ w.ex H S σ env ∧ Rg w xw W σ RB φ S H (evTs C ts env S) Q
theorem sts_nil : PTs X [] (tTs w xw C W []) := ⟨fun pins s σ H Q I ⟨φ, env, S, m, g⟩ => pts_nil.run pins s σ H Q I (fB g m.o)⟩
theorem sts_one {c : Expr} {t : Tst} (h : PT X c (tT w xw C W t)) : PTs X [c] (tTs w xw C W [t]) := ⟨fun pins s σ H Q I ⟨φ, env, S, m, g⟩ => (pts_one h).run pins s σ H Q I (by
  refine ⟨φ, env, S, m, ?_⟩
  have g : Rg w xw W σ RB φ S H ((evT C t env S).bind fun k S => if k then .ok true S else .ok false S) Q := g
  have e : ((evT C t env S).bind fun k S => if k then .ok true S else .ok false S) = evT C t env S := by
    cases evT C t env S with
    | ok k S => cases k <;> rfl
    | _ => rfl
  rw [e] at g
  exact g)⟩
/-- one turn of a comprehension -/
def compF (C : Ctx) (e : Exp) (t : Tg) (ifs : List Tst) (env : Env) (x : D) (S : Store) : Res (Option D) := match bind1 t x (kill t.ix env) with
  | some env => (match evTs C ifs env S with
    | .ok true S => (match evE C e env S with
      | .ok y S => .ok (some y) S
      | _ => .bad)
    | .ok false S => .ok none S
    | _ => .bad)
  | none => .bad
theorem drop_at {α : Type} {l : List α} {i : Nat} {x : α} {r : List α} (h : l.drop i = x :: r) : l[i]? = some x ∧ l.drop (i + 1) = r ∧ i < l.length := by
  have hl : i < l.length := by
    by_cases z : i < l.length
    · exact z
    · rw [List.drop_eq_nil_of_le (by omega)] at h; cases h
  rw [List.drop_eq_getElem_cons hl] at h
  cases h
  exact ⟨List.getElem?_eq_getElem hl, rfl, hl⟩
theorem comp_rd {e : Exp} {t : Tg} {l : Src} {ts : List Tst} (hx : w.ex.2 = none) {σ : L2.St} {H : Hp} {Q : VK} (q : tN w xw C W (.comp e t l ts) σ H Q) : tLc (tI w xw C W l) (gT w t) (tTs w xw C W0 ts) (tE w xw C W0 e) t.ix σ H Q := by
  obtain ⟨φ, env, S, m, g⟩ := q
  refine ⟨φ, env, S, m, ?_⟩
  have g : Rg w xw W σ (RN w H) φ S H ((evL C l env S).bind fun p S => if p.1.length ≤ line then (compL (compF C e t ts env) (stands p.2 (obAt p.2 S)) p.1 S).bind fun ys S => .ok (ys, none) S else .bad) Q := g
  cases ev : evL C l env S with
  | bad => rw [ev] at g; exact g.elim
  | exc c fs S' => rw [ev] at g; exact g
  | ok p S1 =>
    rw [ev] at g
    intro J φ1 H1 l1 so1 r1 Lp hD
    have g : Rg w xw W σ (RN w H) φ S H (if p.1.length ≤ line then (compL (compF C e t ts env) (stands p.2 (obAt p.2 S1)) p.1 S1).bind fun ys S => .ok (ys, none) S else .bad) Q := g
    obtain ⟨hl, g⟩ := Rg.ite g
    obtain ⟨b1, it⟩ := r1
    generalize hgd : stands p.2 (obAt p.2 S1) = gd at g it
    generalize hds : p.1 = ds at g it b1 hl
    refine ⟨fun i mm H' => mm = ds.length - i ∧ ∃ φ2 S2 vs acc, Lat φ1 φ2 S1 S2 H1 H' ∧ SimO w.K φ2 w.ex H' S2 ∧ H' Lp = some (.lst vs) ∧ RpA w.K φ2 w.ex H' vs acc ∧ D.bels S2.length acc = true ∧ (∀ n, n < S2.length → φ2 n ≠ Lp) ∧ acc.length ≤ i ∧
      Rg w xw W σ (RN w H) φ S H ((compL (compF C e t ts env) gd (ds.drop i) S2).bind fun ys S => .ok (acc ++ ys, none) S) Q, ⟨ds.length, by simp, φ1, S1, [], [], Lat.newT hD, so1.new hD, upd_same, .nil, rfl, so1.ne hD, Nat.le_refl _, by simpa using g⟩, ?_⟩
    rintro i mm H' ⟨rfl, φ2, S2, vs, acc, l2, so2, hH, ra, ba, hn, ha, g⟩
    cases hdr : ds.drop i with
    | nil =>
      rw [hdr] at g
      have g : Rg w xw W σ (RN w H) φ S H ((if gd S2 then Res.ok [] S2 else Res.bad).bind fun ys S => .ok (acc ++ ys, none) S) Q := g
      cases hgS : gd S2 with
      | false => rw [hgS] at g; exact g.elim
      | true =>
        rw [hgS] at g
        have hi' : ds.length ≤ i := by
          have := congrArg List.length hdr
          simp only [List.length_drop, List.length_nil] at this
          omega
        refine .inl ⟨((it i φ2 S2 H' l2.w so2 hgS).1 hi'), ?_⟩
        have g : Rg w xw W σ (RN w H) φ S H (.ok (acc ++ [], none) S2) Q := g
        rw [List.append_nil] at g
        exact g (.ref Lp) φ2 H' (l1.trans l2) so2 ⟨ba, Lp, vs, rfl, l1.no Lp hD, hH, ra, hn⟩
    | cons d rest =>
      obtain ⟨hd, hrest, hil⟩ := drop_at hdr
      rw [hdr] at g
      have g : Rg w xw W σ (RN w H) φ S H ((if gd S2 then (match compF C e t ts env d S2 with
        | Res.ok o S => (compL (compF C e t ts env) gd rest S).bind fun ys S => .ok (match o with | some y => y :: ys | none => ys) S
        | _ => Res.bad) else Res.bad).bind fun ys S => .ok (acc ++ ys, none) S) Q := g
      cases hgS : gd S2 with
      | false => rw [hgS] at g; exact g.elim
      | true =>
        rw [hgS, if_pos rfl] at g
        obtain ⟨hgo, hy⟩ := (it i φ2 S2 H' l2.w so2 hgS).2 d hd
        refine .inr ⟨hgo, fun H2 => ∃ φ2 S2 vs acc, Lat φ1 φ2 S1 S2 H1 H2 ∧ SimO w.K φ2 w.ex H2 S2 ∧ H2 Lp = some (.lst vs) ∧ RpA w.K φ2 w.ex H2 vs acc ∧ D.bels S2.length acc = true ∧ (∀ n, n < S2.length → φ2 n ≠ Lp) ∧ acc.length ≤ i + 1 ∧
          Rg w xw W σ (RN w H) φ S H ((compL (compF C e t ts env) gd rest S2).bind fun ys S => .ok (acc ++ ys, none) S) Q, fun H2 q => ⟨ds.length - (i + 1), by omega, rfl, by rw [hrest]; exact q⟩, fun x H3 y => ?_⟩
        obtain ⟨l3, so3, rx⟩ := hy x H3 y
        have hD3 : H3 Lp = some (.lst vs) := l3.fr Lp _ hH hn
        have ra3 := ra.lat ba l3
        have bd : D.bel S2.length d = true := D.bel_mono l2.le _ (bels_all.mp b1 d (List.mem_of_getElem? hd))
        cases hF : compF C e t ts env d S2 with
        | bad => rw [hF] at g; exact g.elim
        | exc c fs S' => rw [hF] at g; exact g.elim
        | ok o S4 =>
          rw [hF] at g
          unfold compF at hF
          cases hb : bind1 t d (kill t.ix env) with
          | none => rw [hb] at hF; cases hF
          | some env2 =>
            rw [hb] at hF
            have m3 : Sim w.K φ2 w.ex H3 S2 (wipe σ t.ix) (kill t.ix env) := ⟨so3, ((m.e.lat l1).lat (l2.trans l3)).wipe _ hx⟩
            refine ⟨φ2, S2, kill t.ix env, d, env2, m3, ⟨rx, bd⟩, hb, fun σ2 m4 sm => ⟨(wipe_same sm).trans wipe_wipe, ?_⟩⟩
            refine ⟨φ2, env2, S2, m4, ?_⟩
            dsimp only at hF
            cases hT : evTs C ts env2 S2 with
            | bad => rw [hT] at hF; cases hF
            | exc c fs S' => rw [hT] at hF; cases hF
            | ok k S5 =>
              rw [hT] at hF
              intro kb φ5 H5 l5 so5 rk
              cases rk
              cases k with
              | false =>
                cases hF
                rw [if_neg (by simp)]
                refine ⟨φ5, S4, vs, acc, l2.trans (l3.trans l5), so5, l5.fr Lp _ hD3 hn, ra3.lat ba l5, bels_lat ba l5, fun n hn' z => ?_, by omega, ?_⟩
                · by_cases hs : n < S2.length
                  · rw [l5.same n hs] at z; exact hn n hs z
                  · have := l5.nw n (by omega) hn'
                    rw [z, hD3] at this; cases this
                · have e0 : ((compL (compF C e t ts env) gd rest S4).bind fun ys S => Res.ok (match (none : Option D) with | some y => y :: ys | none => ys) S) = compL (compF C e t ts env) gd rest S4 := by
                    cases compL (compF C e t ts env) gd rest S4 <;> rfl
                  have g : Rg w xw W σ (RN w H) φ S H (((compL (compF C e t ts env) gd rest S4).bind fun ys S => Res.ok (match (none : Option D) with | some y => y :: ys | none => ys) S).bind fun ys S => .ok (acc ++ ys, none) S) Q := g
                  rw [e0] at g
                  exact g
              | true =>
                dsimp only at hF
                rw [if_pos rfl]
                refine ⟨φ5, env2, S5, m4.lat l5 so5, ?_⟩
                cases hE : evE C e env2 S5 with
                | bad => rw [hE] at hF; cases hF
                | exc c fs S' => rw [hE] at hF; cases hF
                | ok y S6 =>
                  rw [hE] at hF
                  cases hF
                  intro yv φ6 H6 l6 so6 ry
                  have l56 := l5.trans l6
                  have hD6 : H6 Lp = some (.lst vs) := l56.fr Lp _ hD3 hn
                  have hn6 : ∀ n, n < S4.length → φ6 n ≠ Lp := fun n hn' z => by
                    by_cases hs : n < S2.length
                    · rw [l56.same n hs] at z; exact hn n hs z
                    · have := l56.nw n (by omega) hn'
                      rw [z, hD3] at this; cases this
                  have kp : Kp H6 (upd H6 Lp (.lst (vs ++ [yv]))) := Kp.set hD6 trivial
                  refine ⟨vs, hD6, by rw [ra.length, line_eq]; omega, φ6, S4, vs ++ [yv], acc ++ [y], ?_, ?_, upd_same, ((ra3.lat ba l56).append (.cons ry.1 .nil)).mono (n := S4.length) ?_ (fun _ _ => rfl) kp, ?_, hn6, by simp; omega, ?_⟩
                  · have l7 := l2.trans (l3.trans l56)
                    refine ⟨l7.le, l7.same, l7.kp.trans kp, fun a o ha2 hna => ?_, l7.nw, fun a ha2 => l7.no a (by
                      by_cases z : a = Lp
                      · rw [z, upd_same] at ha2; cases ha2
                      · rw [upd_ne z] at ha2; exact ha2)⟩
                    have : a ≠ Lp := fun z => by rw [z, hD] at ha2; cases ha2
                    rw [upd_ne this]
                    exact l7.fr a o ha2 hna
                  · refine so6.heap kp fun n o en _ u eu => ?_
                    rw [upd_ne (hn6 n (get_lt en))]
                    exact eu
                  · exact bels_all.mpr fun d hd => (List.mem_append.mp hd).elim (bels_all.mp (bels_lat ba l56) d) (fun z => by rw [List.mem_singleton.mp z]; exact ry.2)
                  · exact bels_all.mpr fun d hd => (List.mem_append.mp hd).elim (bels_all.mp (bels_lat ba l56) d) (fun z => by rw [List.mem_singleton.mp z]; exact ry.2)
                  · have e0 : (((compL (compF C e t ts env) gd rest S4).bind fun ys S => Res.ok (match (some y : Option D) with | some y => y :: ys | none => ys) S).bind fun ys S => Res.ok (acc ++ ys, (none : Option Nat)) S) = (compL (compF C e t ts env) gd rest S4).bind fun ys S => .ok (acc ++ [y] ++ ys, none) S := by
                      cases compL (compF C e t ts env) gd rest S4 with
                      | ok ys S => show Res.ok (acc ++ y :: ys, none) S = Res.ok (acc ++ [y] ++ ys, none) S; rw [List.append_assoc]; rfl
                      | _ => rfl
                    have g : Rg w xw W σ (RN w H) φ S H (((compL (compF C e t ts env) gd rest S4).bind fun ys S => Res.ok (match (some y : Option D) with | some y => y :: ys | none => ys) S).bind fun ys S => .ok (acc ++ ys, none) S) Q := g
                    rw [e0] at g
                    exact g
theorem sn_comp {elt tg iter : Expr} {ifs : List Expr} {scope : Scope} {own : List (Str × Nat)} {pos : Pos} {e : Exp} {t : Tg} {l : Src} {ts : List Tst} (hx : w.ex.2 = none) (hc : X.calm = true) (hN : X.N.Nodup) (hi : PI X tg iter (tI w xw C W l)) (ok : BlkOk X.N X.env.scope scope own) (hv : own.map (·.2) = t.ix)
    (hg : ∀ (s : Shared) (H : Hp) (D : Addr) (cl : List (Str × Addr)) (fp : List Addr), PG (X.blk s H scope (compEnvC scope cl D X.env) fp) tg (gT w t))
    (ht : ∀ (s : Shared) (H : Hp) (D : Addr) (cl : List (Str × Addr)) (fp : List Addr), PTs (X.blk s H scope (compEnvC scope cl D X.env) fp) ifs (tTs w xw C W0 ts))
    (he : ∀ (s : Shared) (H : Hp) (D : Addr) (cl : List (Str × Addr)) (fp : List Addr), PE (X.blk s H scope (compEnvC scope cl D X.env) fp) elt (tE w xw C W0 e)) (hs : ∀ x, foldedSetIterable iter X.env x = pure x) :
    PE X (.ListComp elt [⟨tg, iter, ifs, 0⟩] scope pos) (tN w xw C W (.comp e t l ts)) :=
  peI (pe_lc hc hN hi ok hg ht he hs) fun σ H Q q => by rw [hv]; exact comp_rd hx q
end Pw
end
section
set_option Elab.async false
set_option linter.all false
set_option maxRecDepth 100000
set_option maxHeartbeats 1000000
set_option autoImplicit false
/-! Pw12: calls of own defs, of built-ins -/
namespace Pw
open PySem PySem.Spec PyProof.Rows L2
variable {w : Wo} {xw : Xw} {C : Ctx} {W : WX} {X : Cx}
section
variable {e a b c : Expr} {es : List Expr} {x y z : Exp} {xs : List Exp} {pos p : Pos}
/-- f(e, ..) -/
theorem se_call {pr : Prg} {nm : Nm} {k i : Nat} {n : Str} (hC : C.Φ none = den pr k none) (tk : L2N.Takes X W) (fx : Fx w xw pr nm k X) (hi : nm.fns[i]? = some n) (hg : Gl X n) (ha : PA X (a :: es) (tEs w xw C W xs)) (hdb : okName n = true) (h1 : okX a = true) (h2 : es.all okX = true) :
    PE X (.Call (.Name n p) (a :: es) [] pos) (tE w xw C W (.call i xs)) := by
  obtain ⟨f, fd, ps, hm, hk, F, hb⟩ := fx.gd.fn i n hi
  rw [fx.hK] at hk F hb
  refine peI (pe_callS (E := WE W) F fx.room hg hm hk hb (L2N.passAt tk) ha (okName_ok hdb).1 (star_ok h1) (plainArgs_ok h2)) fun σ H Q ⟨φ, env, S, m, g⟩ => ?_
  have g : Rg w xw W σ (RE w) φ S H ((evEs C xs env S).bind fun ds S => C.Φ none i ds S) Q := g
  rw [hC] at g
  exact tEs.then m g fun vs ds S1 φ1 H1 l1 m1 r1 g => ⟨φ1, S1, ds, m1.o, r1, by
    cases e : den pr k none i ds S1 with
    | ok d S' => rw [e] at g; exact g
    | exc c fs S' => rw [e] at g; exact g
    | bad => rw [e] at g; exact g⟩
theorem cb1 {n : Str} {id : String} {t : TE} {r : List V → Hp → VK → Prop} (hc : CallR X (.builtin id) r) (hg : Gl X n) (hm : X.mg n = none) (hv : bootBuiltins n = some (.builtin id)) (ha : PE X a t) (hn : okName n = true) (h1 : okX a = true) : PE X (.Call (.Name n p) [a] [] pos) (tCB r (tCons t tNil)) :=
  pe_callB hc hg hm hv (pa_cons ha pa_nil (star_ok h1)) (okName_ok hn).2.2 (okName_ok hn).1 (star_ok h1) rfl
theorem ct1 {n : Str} {id : String} {t : TE} {r : List V → Hp → VK → Prop} (hc : CallR X (.type id) r) (hg : Gl X n) (hm : X.mg n = none) (hv : bootBuiltins n = some (.type id)) (ha : PE X a t) (hn : okName n = true) (h1 : okX a = true) : PE X (.Call (.Name n p) [a] [] pos) (tCB r (tCons t tNil)) :=
  pe_callTy hc hg hm hv (pa_cons ha pa_nil (star_ok h1)) (okName_ok hn).2.2 (okName_ok hn).1 (star_ok h1) rfl
theorem cb2 {n : Str} {id : String} {t u : TE} {r : List V → Hp → VK → Prop} (hc : CallR X (.builtin id) r) (hg : Gl X n) (hm : X.mg n = none) (hv : bootBuiltins n = some (.builtin id)) (ha : PE X a t) (hb : PE X b u) (hn : okName n = true) (h1 : okX a = true) (h2 : okX b = true) : PE X (.Call (.Name n p) [a, b] [] pos) (tCB r (tCons t (tCons u tNil))) :=
  pe_callB hc hg hm hv (pa_cons ha (pa_cons hb pa_nil (star_ok h2)) (star_ok h1)) (okName_ok hn).2.2 (okName_ok hn).1 (star_ok h1) (plainArgs_ok (by simp [h2]))
theorem rds1 {φ : Nat → Addr} {H : Hp} {S : Store} {v : V} {d : D} (r : RE w φ H S v d) : REs w φ H S [v] [d] := ⟨.cons r.1 .nil, by show (D.bel S.length d && true) = true; rw [r.2]; rfl⟩
theorem rds2 {φ : Nat → Addr} {H : Hp} {S : Store} {v u : V} {d d2 : D} (r : RE w φ H S v d) (q : RE w φ H S u d2) : REs w φ H S [v, u] [d, d2] := ⟨.cons r.1 (.cons q.1 .nil), by show (D.bel S.length d && (D.bel S.length d2 && true)) = true; rw [r.2, q.2]; rfl⟩
/-- some values, by what the evaluator does to them -/
def rF1 (w : Wo) (f : D → Store → Res D) : List V → Hp → VK → Prop := fun xs H Q => ∃ d, rF w [d] (f d) xs H Q
def rF2 (w : Wo) (f : D → D → Store → Res D) : List V → Hp → VK → Prop := fun xs H Q => ∃ d d2, rF w [d, d2] (f d d2) xs H Q
theorem crF1 {v : Value} {f : D → Store → Res D} (h : ∀ d, CallR X v (rF w [d] (f d))) : CallR X v (rF1 w f) := fun pins s σ H xs us Q I r ⟨d, q⟩ => h d pins s σ H xs us Q I r q
theorem crF2 {v : Value} {f : D → D → Store → Res D} (h : ∀ d d2, CallR X v (rF w [d, d2] (f d d2))) : CallR X v (rF2 w f) := fun pins s σ H xs us Q I r ⟨d, d2, q⟩ => h d d2 pins s σ H xs us Q I r q
theorem rd1 {f : D → Store → Res D} {ev : Env → Store → Res D} (he : ∀ env S, ev env S = (evE C x env S).bind f) : ∀ σ H Q, (∃ φ env S, Sim w.K φ w.ex H S σ env ∧ Rg w xw W σ (RE w) φ S H (ev env S) Q) → tCB (rF1 w f) (tCons (tE w xw C W x) tNil) σ H Q := fun σ H Q ⟨φ, env, S, m, g⟩ => by
  rw [he] at g
  exact tE.then m g fun v d S1 φ1 H1 l1 m1 r1 g => ⟨d, φ1, S1, m1.o, rds1 r1, g.g0⟩
theorem rd2 {f : D → D → Store → Res D} {ev : Env → Store → Res D} (he : ∀ env S, ev env S = (evE C x env S).bind fun d S => (evE C y env S).bind fun d2 S => f d d2 S) : ∀ σ H Q, (∃ φ env S, Sim w.K φ w.ex H S σ env ∧ Rg w xw W σ (RE w) φ S H (ev env S) Q) → tCB (rF2 w f) (tCons (tE w xw C W x) (tCons (tE w xw C W y) tNil)) σ H Q := fun σ H Q ⟨φ, env, S, m, g⟩ => by
  rw [he] at g
  refine tE.then m g fun v d S1 φ1 H1 l1 m1 r1 g => ?_
  refine tE.then m1 g fun u d2 S2 φ2 H2 l2 m2 r2 g => ?_
  exact ⟨d, d2, φ2, S2, m2.o, rds2 (r1.lat l2) r2, g.g0⟩
theorem bb_len : bootBuiltins "len" = some (.builtin "len") := by decide +kernel
theorem bb_abs : bootBuiltins "abs" = some (.builtin "abs") := by decide +kernel
theorem bb_min : bootBuiltins "min" = some (.builtin "min") := by decide +kernel
theorem bb_max : bootBuiltins "max" = some (.builtin "max") := by decide +kernel
theorem bb_int : bootBuiltins "int" = some (.type "int") := by decide +kernel
theorem bb_str : bootBuiltins "str" = some (.type "str") := by decide +kernel
theorem bb_all : bootBuiltins "all" = some (.builtin "all") := by decide +kernel
theorem bb_any : bootBuiltins "any" = some (.builtin "any") := by decide +kernel
theorem bb_sum : bootBuiltins "sum" = some (.builtin "sum") := by decide +kernel
theorem bb_sorted : bootBuiltins "sorted" = some (.builtin "sorted") := by decide +kernel
theorem bb_tuple : bootBuiltins "tuple" = some (.type "tuple") := by decide +kernel
theorem bb_list : bootBuiltins "list" = some (.type "list") := by decide +kernel
theorem bb_isi : bootBuiltins "isinstance" = some (.builtin "isinstance") := by decide +kernel
variable (hg : ∀ n ∈ freeNames, X.mg n = none)
theorem se_len (hK : w.K = X.K) (gl : Gl X "len") (hm : X.mg "len" = none) (ha : PE X a (tE w xw C W x)) (h1 : okX a = true) : PE X (.Call (.Name "len" p) [a] [] pos) (tE w xw C W (.f1 .len x)) :=
  peI (cb1 (crF1 fun d => callR_len hK d) gl hm bb_len ha (by decide) h1) (rd1 fun _ _ => rfl)
theorem se_abs (gl : Gl X "abs") (hm : X.mg "abs" = none) (ha : PE X a (tE w xw C W x)) (h1 : okX a = true) : PE X (.Call (.Name "abs" p) [a] [] pos) (tE w xw C W (.f1 .abs x)) :=
  peI (cb1 (crF1 fun d => callR_abs d) gl hm bb_abs ha (by decide) h1) (rd1 fun _ _ => rfl)
theorem se_int (gl : Gl X "int") (hm : X.mg "int" = none) (ha : PE X a (tE w xw C W x)) (h1 : okX a = true) : PE X (.Call (.Name "int" p) [a] [] pos) (tE w xw C W (.f1 .int x)) :=
  peI (ct1 (crF1 fun d => callR_int d) gl hm bb_int ha (by decide) h1) (rd1 fun _ _ => rfl)
theorem se_str (gl : Gl X "str") (hm : X.mg "str" = none) (ha : PE X a (tE w xw C W x)) (h1 : okX a = true) : PE X (.Call (.Name "str" p) [a] [] pos) (tE w xw C W (.f1 .str x)) :=
  peI (ct1 (crF1 fun d => callR_str d) gl hm bb_str ha (by decide) h1) (rd1 fun _ _ => rfl)
theorem se_min (hc : X.calm = true) (gl : Gl X "min") (hm : X.mg "min" = none) (ha : PE X a (tE w xw C W x)) (hb : PE X b (tE w xw C W y)) (h1 : okX a = true) (h2 : okX b = true) : PE X (.Call (.Name "min" p) [a, b] [] pos) (tE w xw C W (.f2 .min x y)) :=
  peI (cb2 (crF2 fun d d2 => callR_min hc d d2) gl hm bb_min ha hb (by decide) h1 h2) (rd2 fun _ _ => rfl)
theorem se_max (hc : X.calm = true) (gl : Gl X "max") (hm : X.mg "max" = none) (ha : PE X a (tE w xw C W x)) (hb : PE X b (tE w xw C W y)) (h1 : okX a = true) (h2 : okX b = true) : PE X (.Call (.Name "max" p) [a, b] [] pos) (tE w xw C W (.f2 .max x y)) :=
  peI (cb2 (crF2 fun d d2 => callR_max hc d d2) gl hm bb_max ha hb (by decide) h1 h2) (rd2 fun _ _ => rfl)
/-! ### rows as arguments -/
def RS (w : Wo) (H0 : Hp) (φ : Nat → Addr) (H : Hp) (S : Store) (v : V) (p : List D × Option Nat) : Prop := D.bels S.length p.1 = true ∧ ∃ a vs, v = .ref a ∧ (SqL w.K H a vs ∨ SqT w.K H a vs) ∧ RpA w.K φ w.ex H vs p.1
def tS (w : Wo) (xw : Xw) (C : Ctx) (W : WX) (l : Src) : TE := fun σ H Q => ∃ φ env S, Sim w.K φ w.ex H S σ env ∧ Rg w xw W σ (RS w H) φ S H (evL C l env S) Q
theorem Rg.weak {α β : Type} {σ : L2.St} {R R' : (Nat → Addr) → Hp → Store → β → α → Prop} {φ : Nat → Addr} {S : Store} {H : Hp} {r : Res α} {Q : β → Hp → Prop} (h : Rg w xw W σ R φ S H r Q) (f : ∀ φ H S b a, R' φ H S b a → R φ H S b a) : Rg w xw W σ R' φ S H r Q := by
  cases r with
  | ok a S' => exact fun b φ' H' l so r => h b φ' H' l so (f _ _ _ _ _ r)
  | exc c fs S' => exact h
  | bad => exact h
theorem ss_new {l : Src} (h : PE X e (tN w xw C W l)) : PE X e (tS w xw C W l) := peI h fun σ H Q ⟨φ, env, S, m, g⟩ => ⟨φ, env, S, m, g.weak fun φ H S b p ⟨h1, a, vs, h2, _, h3, h4, _⟩ => ⟨h1, a, vs, h2, .inl (SqL.of h3), h4⟩⟩
/-- a value that is a row -/
theorem seq_of {φ : Nat → Addr} {H : Hp} {S : Store} {v : V} {d : D} {xs : List D} (so : SimO w.K φ w.ex H S) (r : RE w φ H S v d) (h : seqD d S = some xs) : D.bels S.length xs = true ∧ ∃ a vs, v = .ref a ∧ (SqL w.K H a vs ∨ SqT w.K H a vs) ∧ RpA w.K φ w.ex H vs xs := by
  obtain ⟨r, b⟩ := r
  cases d with
  | tup ds =>
    cases h
    cases r with
    | tup h1 r1 => exact ⟨by simpa [D.bel] using b, _, _, rfl, .inr h1, r1⟩
  | obj n =>
    cases r
    simp only [seqD] at h
    split at h
    · rename_i ys e
      cases h
      obtain ⟨vs, h1, r1⟩ := so.ob n _ e
      exact ⟨so.wf n _ e, _, vs, rfl, .inl (SqL.of h1), r1⟩
    · rename_i ys e
      cases h
      obtain ⟨vs, h1, r1⟩ := so.ob n _ e
      exact ⟨so.wf n _ e, _, vs, rfl, .inl h1.sq, r1⟩
    · cases h
  | _ => cases h
theorem ss_val (h : PE X e (tE w xw C W x)) : PE X e (tS w xw C W (.seq x)) := peI h fun σ H Q ⟨φ, env, S, m, g⟩ => by
  refine tE.then m g fun v d S1 φ1 H1 l1 m1 r1 g => ?_
  obtain ⟨p, hp, g⟩ := g.of
  obtain ⟨xs, hx, rfl⟩ := Option.map_eq_some_iff.mp hp
  exact g v φ1 H1 Lat.refl m1.o (seq_of m1.o r1 hx)
theorem tS.then {γ δ : Type} {R2 : (Nat → Addr) → Hp → Store → δ → γ → Prop} {φ : Nat → Addr} {S : Store} {H : Hp} {σ : L2.St} {env : Env} {l : Src} {k : List D × Option Nat → Store → Res γ} {Q : δ → Hp → Prop} {Q' : VK} (m : Sim w.K φ w.ex H S σ env) (h : Rg w xw W σ R2 φ S H ((evL C l env S).bind k) Q)
    (f : ∀ v p S1 φ1 H1, Lat φ φ1 S S1 H H1 → Sim w.K φ1 w.ex H1 S1 σ env → RS w H φ1 H1 S1 v p → Rg w xw W σ R2 φ1 S1 H1 (k p S1) Q → Q' v H1) : tS w xw C W l σ H Q' :=
  ⟨φ, env, S, m, h.bind fun v d S1 φ1 H1 l so r g => f v d S1 φ1 H1 l (m.lat l so) r g⟩
theorem se_tupOf {l : Src} (hK : w.K = X.K) (gl : Gl X "tuple") (hm : X.mg "tuple" = none) (ha : PE X a (tS w xw C W l)) (h1 : okX a = true) : PE X (.Call (.Name "tuple" p) [a] [] pos) (tE w xw C W (.tupOf l)) :=
  peI (ct1 call_tuple_of gl hm bb_tuple ha (by decide) h1) fun σ H Q ⟨φ, env, S, m, g⟩ => by
    refine tS.then m g fun v q S1 φ1 H1 l1 m1 r1 g => ?_
    obtain ⟨b, a, vs, rfl, h, r⟩ := r1
    refine ⟨a, vs, rfl, ?_⟩
    rcases h with h | h
    · exact .inl ⟨hK ▸ h, fun l hl => g.g0.tup m1.o r b hl⟩
    · exact .inr ⟨hK ▸ h, fE g m1.o (.tup h r) b⟩
theorem sn_list {l : Src} (hK : w.K = X.K) (gl : Gl X "list") (hm : X.mg "list" = none) (ha : PE X a (tS w xw C W l)) (h1 : okX a = true) : PE X (.Call (.Name "list" p) [a] [] pos) (tN w xw C W l) :=
  peI (ct1 call_list_of gl hm bb_list ha (by decide) h1) fun σ H Q ⟨φ, env, S, m, g⟩ => by
    refine ⟨φ, env, S, m, ?_⟩
    cases ev : evL C l env S with
    | bad => rw [ev] at g; exact g
    | exc c fs S' => rw [ev] at g; exact g
    | ok q S' =>
      rw [ev] at g
      intro v φ1 H1 l1 so r1
      obtain ⟨b, a, vs, rfl, h, r⟩ := r1
      refine ⟨a, vs, rfl, hK ▸ h, fun l hl => ?_⟩
      exact g (.ref l) φ1 _ (l1.trans (Lat.newT hl)) (so.new hl) ⟨b, l, vs, rfl, l1.no l hl, upd_same, r.mono b (fun _ _ => rfl) (Kp.new hl), so.ne hl⟩
/-- the bools of a row -/
theorem bls_of {φ : Nat → Addr} {H : Hp} : ∀ {ds : List D} {vs : List V} {bs : List Bool}, RpA w.K φ w.ex H vs ds → bls ds = some bs → vs = bs.map V.bl
  | [], _, _, .nil, h => by cases h; rfl
  | d :: ds, _, bs, .cons q r, h => by
    cases d with
    | bl b =>
      obtain ⟨bs', hb, rfl⟩ := Option.map_eq_some_iff.mp (show (bls ds).map (b :: ·) = some bs from h)
      cases q
      rw [bls_of r hb]; rfl
    | _ => cases h
/-- a row that is a list (a new one, or a list's) -/
def RL (w : Wo) (H0 : Hp) (φ : Nat → Addr) (H : Hp) (S : Store) (v : V) (p : List D × Option Nat) : Prop := D.bels S.length p.1 = true ∧ ∃ a vs, v = .ref a ∧ SqL w.K H a vs ∧ RpA w.K φ w.ex H vs p.1
def tL (w : Wo) (xw : Xw) (C : Ctx) (W : WX) (l : Src) : TE := fun σ H Q => ∃ φ env S, Sim w.K φ w.ex H S σ env ∧ Rg w xw W σ (RL w H) φ S H (evL C l env S) Q
theorem tL.then {γ δ : Type} {R2 : (Nat → Addr) → Hp → Store → δ → γ → Prop} {φ : Nat → Addr} {S : Store} {H : Hp} {σ : L2.St} {env : Env} {l : Src} {k : List D × Option Nat → Store → Res γ} {Q : δ → Hp → Prop} {Q' : VK} (m : Sim w.K φ w.ex H S σ env) (h : Rg w xw W σ R2 φ S H ((evL C l env S).bind k) Q)
    (f : ∀ v p S1 φ1 H1, Lat φ φ1 S S1 H H1 → Sim w.K φ1 w.ex H1 S1 σ env → RL w H φ1 H1 S1 v p → Rg w xw W σ R2 φ1 S1 H1 (k p S1) Q → Q' v H1) : tL w xw C W l σ H Q' :=
  ⟨φ, env, S, m, h.bind fun v d S1 φ1 H1 l so r g => f v d S1 φ1 H1 l (m.lat l so) r g⟩
theorem sl_new {l : Src} (h : PE X e (tN w xw C W l)) : PE X e (tL w xw C W l) := peI h fun σ H Q ⟨φ, env, S, m, g⟩ => ⟨φ, env, S, m, g.weak fun φ H S b p ⟨h1, a, vs, h2, _, h3, h4, _⟩ => ⟨h1, a, vs, h2, SqL.of h3, h4⟩⟩
theorem se_all {l : Src} (hK : w.K = X.K) (hc : X.calm = true) (gl : Gl X "all") (hm : X.mg "all" = none) (ha : PE X a (tL w xw C W l)) (h1 : okX a = true) : PE X (.Call (.Name "all" p) [a] [] pos) (tE w xw C W (.allOf l)) :=
  peI (cb1 (cr_all hc) gl hm bb_all ha (by decide) h1) fun σ H Q ⟨φ, env, S, m, g⟩ => by
    refine tL.then m g fun v q S1 φ1 H1 l1 m1 r1 g => ?_
    obtain ⟨b, a, vs, rfl, h, r⟩ := r1
    obtain ⟨bs, hb, g⟩ := g.ofb
    have e := bls_of r hb
    subst e
    exact ⟨a, bs, rfl, hK ▸ h, fBl g m1.o⟩
theorem se_any {l : Src} (hK : w.K = X.K) (hc : X.calm = true) (gl : Gl X "any") (hm : X.mg "any" = none) (ha : PE X a (tL w xw C W l)) (h1 : okX a = true) : PE X (.Call (.Name "any" p) [a] [] pos) (tE w xw C W (.anyOf l)) :=
  peI (cb1 (cr_any hc) gl hm bb_any ha (by decide) h1) fun σ H Q ⟨φ, env, S, m, g⟩ => by
    refine tL.then m g fun v q S1 φ1 H1 l1 m1 r1 g => ?_
    obtain ⟨b, a, vs, rfl, h, r⟩ := r1
    obtain ⟨bs, hb, g⟩ := g.ofb
    have e := bls_of r hb
    subst e
    exact ⟨a, bs, rfl, hK ▸ h, fBl g m1.o⟩
end
end Pw
end
section
set_option Elab.async false
set_option linter.all false
set_option maxRecDepth 100000
set_option maxHeartbeats 1000000
set_option autoImplicit false
/-! Pw13: methods, slices, isinstance, sums -/
namespace Pw
open PySem PySem.Spec PyProof.Rows L2
variable {w : Wo} {xw : Xw} {C : Ctx} {W : WX} {X : Cx}
section
variable {e a b c o : Expr} {es : List Expr} {x y z : Exp} {xs : List Exp} {pos p apos : Pos}
theorem few_ok {cpos : Pos} {env : PySem.Env} (h1 : okX a = true) : ((backTo cpos (starEach [a] env)).all (fun x => !x.1) && (backToKw cpos (keywordEach [] env)).all (fun x => x.1.isSome)
      && decide ([a].length + ([] : List Keyword).length + (if ([] : List Keyword).isEmpty then 0 else 1) < 30)) = true := by
  rw [star_ok h1]; rfl
/-! ### lists that are written -/
theorem isL_ok {φ : Nat → Addr} {H : Hp} {S : Store} {v : V} {d : D} (so : SimO w.K φ w.ex H S) (r : RE w φ H S v d) (h : isL d S = true) : ∃ n ds vs, d = .obj n ∧ v = .ref (φ n) ∧ get S n = some (.lst ds) ∧ H (φ n) = some (.lst vs) ∧ RpA w.K φ w.ex H vs ds := by
  obtain ⟨r, b⟩ := r
  cases d with
  | obj n =>
    cases r
    simp only [isL] at h
    split at h
    · rename_i xs e
      obtain ⟨vs, h1, r1⟩ := so.ob n _ e
      exact ⟨n, xs, vs, rfl, rfl, e, h1, r1⟩
    · cases h
  | _ => cases h
theorem fW {φ φ' : Nat → Addr} {S S' : Store} {H H' : Hp} {σ : L2.St} {d : D} {v : V} {Q : VK} (g : Rg w xw W σ (RE w) φ S H (.ok d S') Q) (l : Lat φ φ' S S' H H') (so : SimO w.K φ' w.ex H' S') (r : Rp w.K φ' w.ex H' v d) (b : D.bel S'.length d = true) : Q v H' := g v φ' H' l so ⟨r, b⟩
theorem se_app (hK : w.K = X.K) (ho : PE X o (tE w xw C W x)) (ha : PE X a (tE w xw C W y)) (h1 : okX a = true) (hb : attributeBase o "append" X.env (eval o X.env) = eval o X.env) (hl : (apos.endLine == pos.line) = true) :
    PE X (.Call (.Attribute o "append" apos) [a] [] pos) (tE w xw C W (.app x y)) :=
  peI (pe_bm PySem.F.plainAttrs_list PySem.F.slot_list_append PySem.F.type_list_append mt_append ho (pa_cons ha pa_nil (star_ok h1)) hb (few_ok h1) hl (star_ok h1) rfl) fun σ H Q ⟨φ, env, S, m, g⟩ => by
    refine tE.then m g fun v d S1 φ1 H1 l1 m1 r1 g => ?_
    obtain ⟨hi, g⟩ := Rg.ite (c := isL d S1 = true) g
    obtain ⟨n, ds, vs, rfl, rfl, en, hH, rv⟩ := isL_ok m1.o r1 hi
    refine ⟨.inl ⟨rfl, vs, SqL.of hH⟩, ?_⟩
    refine tE.then m1 g fun u d2 S2 φ2 H2 l2 m2 r2 g => ?_
    have g : Rg w xw W σ (RE w) φ2 S2 H2 (match get S2 n with
      | some (.lst xs) => if xs.length < line then .ok .non (put S2 n (.lst (xs ++ [d2]))) else .bad
      | _ => .bad) Q := g
    split at g
    · rename_i ys e2
      obtain ⟨hl2, g⟩ := Rg.ite g
      obtain ⟨us, h2, ru⟩ := m2.o.ob n _ e2
      have hn : n < S1.length := get_lt en
      rw [l2.same n hn] at h2
      have b3 : D.bels S2.length (ys ++ [d2]) = true := bels_all.mpr fun d hd => (List.mem_append.mp hd).elim (bels_all.mp (m2.o.wf n _ e2) d) (fun z => by rw [List.mem_singleton.mp z]; exact r2.2)
      obtain ⟨lw, sw⟩ := m2.o.write (n := n) (o := .lst ys) (o' := .lst (ys ++ [d2])) (u := .lst (us ++ [u])) e2 rfl b3 fun w' hw => ⟨us ++ [u], upd_same, (ru.append (.cons r2.1 .nil)).mono b3 (fun _ _ => rfl) (Kp.set hw (by rw [l2.same n hn, h2] at hw; cases hw; trivial))⟩
      rw [l2.same n hn] at lw sw
      exact ⟨φ1 n, us, u, rfl, rfl, h2, by rw [ru.length, line_eq]; exact hl2, fW g lw sw .non rfl⟩
    · exact g.elim
theorem se_ext (hK : w.K = X.K) (ho : PE X o (tE w xw C W x)) (ha : PE X a (tE w xw C W y)) (h1 : okX a = true) (hb : attributeBase o "extend" X.env (eval o X.env) = eval o X.env) (hl : (apos.endLine == pos.line) = true) :
    PE X (.Call (.Attribute o "extend" apos) [a] [] pos) (tE w xw C W (.ext x y)) :=
  peI (pe_bm PySem.F.plainAttrs_list PySem.F.slot_list_extend PySem.F.type_list_extend mt_extend ho (pa_cons ha pa_nil (star_ok h1)) hb (few_ok h1) hl (star_ok h1) rfl) fun σ H Q ⟨φ, env, S, m, g⟩ => by
    refine tE.then m g fun v d S1 φ1 H1 l1 m1 r1 g => ?_
    obtain ⟨hi, g⟩ := Rg.ite (c := isL d S1 = true) g
    obtain ⟨n, ds, vs, rfl, rfl, en, hH, rv⟩ := isL_ok m1.o r1 hi
    refine ⟨.inl ⟨rfl, vs, SqL.of hH⟩, ?_⟩
    refine tE.then m1 g fun u d2 S2 φ2 H2 l2 m2 r2 g => ?_
    cases d2 <;> first | exact g.elim | skip
    rename_i k
    have g : Rg w xw W σ (RE w) φ2 S2 H2 (match get S2 n, get S2 k with
      | some (.lst xs), some (.lst ys) => if xs.length + ys.length ≤ line then .ok .non (put S2 n (.lst (xs ++ ys))) else .bad
      | _, _ => .bad) Q := g
    split at g
    · rename_i ys zs e2 e3
      obtain ⟨hl2, g⟩ := Rg.ite g
      obtain ⟨us, h2, ru⟩ := m2.o.ob n _ e2
      obtain ⟨ws, h3, rw3⟩ := m2.o.ob k _ e3
      cases r2.1
      have hn : n < S1.length := get_lt en
      rw [l2.same n hn] at h2
      have b3 : D.bels S2.length (ys ++ zs) = true := bels_all.mpr fun d hd => (List.mem_append.mp hd).elim (bels_all.mp (m2.o.wf n _ e2) d) (bels_all.mp (m2.o.wf k _ e3) d)
      obtain ⟨lw, sw⟩ := m2.o.write (n := n) (o := .lst ys) (o' := .lst (ys ++ zs)) (u := .lst (us ++ ws)) e2 rfl b3 fun w' hw => ⟨us ++ ws, upd_same, (ru.append rw3).mono b3 (fun _ _ => rfl) (Kp.set hw (by rw [l2.same n hn, h2] at hw; cases hw; trivial))⟩
      rw [l2.same n hn] at lw sw
      exact ⟨φ1 n, φ2 k, us, ws, rfl, rfl, h2, h3, by rw [ru.length, rw3.length, line_eq]; exact hl2, fW g lw sw .non rfl⟩
    · exact g.elim
theorem se_pop (hK : w.K = X.K) (ho : PE X o (tE w xw C W x)) (hb : attributeBase o "pop" X.env (eval o X.env) = eval o X.env) (hl : (apos.endLine == pos.line) = true) :
    PE X (.Call (.Attribute o "pop" apos) [] [] pos) (tE w xw C W (.pop x)) :=
  peI (pe_bm0 PySem.F.plainAttrs_list PySem.F.slot_list_pop PySem.F.type_list_pop mt_pop ho hb hl) fun σ H Q ⟨φ, env, S, m, g⟩ => by
    refine tE.then m g fun v d S1 φ1 H1 l1 m1 r1 g => ?_
    obtain ⟨hi, g⟩ := Rg.ite (c := isL d S1 = true) g
    obtain ⟨n, ds, vs, rfl, rfl, en, hH, rv⟩ := isL_ok m1.o r1 hi
    refine ⟨.inl ⟨rfl, vs, SqL.of hH⟩, ?_⟩
    have g : Rg w xw W σ (RE w) φ1 S1 H1 (match get S1 n with
      | some (.lst xs) => (match xs.getLast? with
        | some v => .ok v (put S1 n (.lst xs.dropLast))
        | none => .bad)
      | _ => .bad) Q := g
    rw [en] at g
    dsimp only at g
    cases eg : ds.getLast? with
    | none => rw [eg] at g; exact g.elim
    | some d2 =>
      rw [eg] at g
      rw [List.getLast?_eq_getElem?] at eg
      obtain ⟨u, hu, ru⟩ := rv.get d2 eg
      have bd : D.bels S1.length ds = true := m1.o.wf n _ en
      have b3 : D.bels S1.length ds.dropLast = true := bels_all.mpr fun d hd => bels_all.mp bd d (List.dropLast_subset _ hd)
      have rdl : RpA w.K φ1 w.ex H1 vs.dropLast ds.dropLast := by
        rw [List.dropLast_eq_take, List.dropLast_eq_take, rv.length]
        exact rv.take _
      obtain ⟨lw, sw⟩ := m1.o.write (n := n) (o := .lst ds) (o' := .lst ds.dropLast) (u := .lst vs.dropLast) en rfl b3 fun w' hw => ⟨vs.dropLast, upd_same, rdl.mono b3 (fun _ _ => rfl) (Kp.set hw (by rw [hH] at hw; cases hw; trivial))⟩
      have bu : D.bel S1.length d2 = true := bels_all.mp bd d2 (List.mem_of_getElem? eg)
      exact ⟨φ1 n, vs, u, rfl, rfl, hH, by rw [rv.length]; exact hu, fW g lw sw (ru.lat bu lw) (by rw [put_length]; exact bu)⟩
/-! ### texts -/
theorem isS_ok {φ : Nat → Addr} {H : Hp} {S : Store} {v : V} {d : D} (r : RE w φ H S v d) (h : isS d = true) : ∃ t : Str, d = .str t.cps.toList ∧ v = .str t := by
  cases d with
  | str t =>
    obtain ⟨z, rfl, rfl⟩ := rp_inv r.1
    exact ⟨z, rfl, rfl⟩
  | _ => cases h
theorem sw_ok (x y : Str) : Txt.startswith x y = y.cps.toList.isPrefixOf x.cps.toList := by
  unfold Txt.startswith
  rw [StrLaws.subAt_eq, List.drop_zero, str_len, str_len]
  rw [Bool.eq_iff_iff]
  simp only [Bool.and_eq_true, decide_eq_true_eq, beq_iff_eq, List.isPrefixOf_iff_prefix]
  constructor
  · rintro ⟨_, h⟩
    rw [← h]
    exact List.take_prefix _ _
  · intro h
    exact ⟨by have := h.length_le; omega, (List.prefix_iff_eq_take.mp h).symm⟩
theorem se_sw (ho : PE X o (tE w xw C W x)) (ha : PE X a (tE w xw C W y)) (h1 : okX a = true) (hb : attributeBase o "startswith" X.env (eval o X.env) = eval o X.env) (hl : (apos.endLine == pos.line) = true) :
    PE X (.Call (.Attribute o "startswith" apos) [a] [] pos) (tE w xw C W (.sw x y)) :=
  peI (pe_bm PySem.F.plainAttrs_str PySem.F.slot_str_startswith PySem.F.type_str_startswith mt_startswith ho (pa_cons ha pa_nil (star_ok h1)) hb (few_ok h1) hl (star_ok h1) rfl) fun σ H Q ⟨φ, env, S, m, g⟩ => by
    refine tE.then m g fun v d S1 φ1 H1 l1 m1 r1 g => ?_
    obtain ⟨hi, g⟩ := Rg.ite (c := isS d = true) g
    obtain ⟨t, rfl, rfl⟩ := isS_ok r1 hi
    refine ⟨rfl, ?_⟩
    refine tE.then m1 g fun u d2 S2 φ2 H2 l2 m2 r2 g => ?_
    obtain ⟨k, hk, g⟩ := g.ofb
    cases d2 <;> first | cases hk; done | skip
    obtain ⟨z, rfl, rfl⟩ := rp_inv r2.1
    cases hk
    refine ⟨t, z, rfl, rfl, ?_⟩
    rw [sw_ok]
    exact fBl g m2.o
theorem strs_of {φ : Nat → Addr} {H : Hp} : ∀ {ds : List D} {vs : List V} {ts : List (List Nat)}, RpA w.K φ w.ex H vs ds → strsD ds = some ts → ∃ ys : List Str, vs = ys.map V.str ∧ ts = ys.map fun y => y.cps.toList
  | [], _, _, .nil, h => by cases h; exact ⟨[], rfl, rfl⟩
  | d :: ds, _, ts, .cons q r, h => by
    cases d with
    | str s =>
      obtain ⟨ts', hb, rfl⟩ := Option.map_eq_some_iff.mp (show (strsD ds).map (s :: ·) = some ts from h)
      obtain ⟨ys, rfl, rfl⟩ := strs_of r hb
      obtain ⟨z, rfl, rfl⟩ := rp_inv q
      exact ⟨z :: ys, rfl, rfl⟩
    | _ => cases h
theorem join_ok (s : Str) : ∀ ys : List Str, (Txt.join s ys).cps.toList = joinS s.cps.toList (ys.map fun y => y.cps.toList) := by
  intro ys
  show (Builtin.Str.glued s ys).cps.toList = _
  rw [StrLaws.glued_eq_join]
  induction ys with
  | nil => rfl
  | cons y r ih => cases r with
    | nil => rfl
    | cons y2 r =>
      show ((y ++ s ++ Str.join s (y2 :: r) : Str)).cps.toList = _
      rw [toList_app, toList_app, ih]
      rfl
theorem se_join {l : Src} (hK : w.K = X.K) (ho : PE X o (tE w xw C W x)) (ha : PE X a (tS w xw C W l)) (h1 : okX a = true) (hb : attributeBase o "join" X.env (eval o X.env) = eval o X.env) (hl : (apos.endLine == pos.line) = true) :
    PE X (.Call (.Attribute o "join" apos) [a] [] pos) (tE w xw C W (.join x l)) :=
  peI (pe_bm PySem.F.plainAttrs_str PySem.F.slot_str_join PySem.F.type_str_join mt_join ho (pa_cons ha pa_nil (star_ok h1)) hb (few_ok h1) hl (star_ok h1) rfl) fun σ H Q ⟨φ, env, S, m, g⟩ => by
    refine tE.then m g fun v d S1 φ1 H1 l1 m1 r1 g => ?_
    obtain ⟨hi, g⟩ := Rg.ite (c := isS d = true) g
    obtain ⟨t, rfl, rfl⟩ := isS_ok r1 hi
    refine ⟨rfl, ?_⟩
    refine tS.then m1 g fun u q S2 φ2 H2 l2 m2 r2 g => ?_
    obtain ⟨bb, a', vs, rfl, hs, rv⟩ := r2
    cases et : strsD q.1 with
    | none => rw [et] at g; exact g.elim
    | some ts =>
      rw [et] at g
      obtain ⟨hl2, g⟩ := Rg.ite (c := (ts.map (·.length)).sum + ts.length * t.cps.toList.length ≤ line) g
      obtain ⟨ys, rfl, rfl⟩ := strs_of rv et
      refine ⟨t, a', ys, rfl, rfl, hK ▸ hs, ?_, fE g m2.o (rp_str (join_ok t ys)) rfl⟩
      rw [List.map_map, List.length_map] at hl2
      have e1 : (List.length ∘ fun y : Str => y.cps.toList) = fun y : Str => y.length := by funext y; exact (str_len y).symm
      rw [e1, ← str_len] at hl2
      exact hl2
end
end Pw
end
section
set_option Elab.async false
set_option linter.all false
set_option maxRecDepth 100000
set_option maxHeartbeats 1000000
set_option autoImplicit false
/-! Pw14: slices, isinstance, sums, sorting -/
namespace Pw
open PySem PySem.Spec PyProof.Rows L2
variable {w : Wo} {xw : Xw} {C : Ctx} {W : WX} {X : Cx}
section
variable {e a b c o : Expr} {es : List Expr} {x y z : Exp} {xs : List Exp} {pos p apos p2 : Pos}
/-! ### slices -/
def tO (w : Wo) (xw : Xw) (C : Ctx) (W : WX) (x : Option Exp) : TO := fun σ H Q => ∃ φ env S, Sim w.K φ w.ex H S σ env ∧ Rg w xw W σ (fun φ H S (v : Option Int) (d : Option D) => d = v.map .int) φ S H (evO C x env S) Q
theorem so_none : PO X none (tO w xw C W none) := ⟨fun pins s σ H Q I ⟨φ, env, S, m, g⟩ => po_none.run pins s σ H Q I (g none φ H Lat.refl m.o rfl)⟩
theorem so_some (h : PE X a (tE w xw C W x)) : PO X (some a) (tO w xw C W (some x)) := ⟨fun pins s σ H Q I ⟨φ, env, S, m, g⟩ => (po_some h).run pins s σ H Q I (by
  refine tE.then m g fun v d S1 φ1 H1 l1 m1 r1 g => ?_
  cases d <;> first | exact g.elim | skip
  rename_i i
  cases r1.1
  exact ⟨i, rfl, g (some i) φ1 H1 Lat.refl m1.o rfl⟩)⟩
theorem tO.then {γ δ : Type} {R2 : (Nat → Addr) → Hp → Store → δ → γ → Prop} {φ : Nat → Addr} {S : Store} {H : Hp} {σ : L2.St} {env : Env} {l : Option Exp} {k : Option D → Store → Res γ} {Q : δ → Hp → Prop} {Q' : Option Int → Hp → Prop} (m : Sim w.K φ w.ex H S σ env) (h : Rg w xw W σ R2 φ S H ((evO C l env S).bind k) Q)
    (f : ∀ (v : Option Int) S1 φ1 H1, Lat φ φ1 S S1 H H1 → Sim w.K φ1 w.ex H1 S1 σ env → Rg w xw W σ R2 φ1 S1 H1 (k (v.map .int) S1) Q → Q' v H1) : tO w xw C W l σ H Q' :=
  ⟨φ, env, S, m, h.bind fun v d S1 φ1 H1 l so r g => f v S1 φ1 H1 l (m.lat l so) (by cases r; exact g)⟩
theorem se_sl {lo hi : Option Expr} {xl xh : Option Exp} (hK : w.K = X.K) (ha : PE X a (tE w xw C W x)) (hl : PO X lo (tO w xw C W xl)) (hh : PO X hi (tO w xw C W xh)) : PE X (.Subscript a (.Slice lo hi none p2) pos) (tE w xw C W (.sl x xl xh)) :=
  peI (pe_slice (slR hK) ha hl hh) fun σ H Q ⟨φ, env, S, m, g⟩ => by
    refine tE.then m g fun v d S1 φ1 H1 l1 m1 r1 g => ?_
    refine tO.then m1 g fun lo' S2 φ2 H2 l2 m2 g => ?_
    refine tO.then m2 g fun hi' S3 φ3 H3 l3 m3 g => ?_
    exact ⟨φ3, S3, d, m3.o, r1.lat (l2.trans l3), g.g0⟩
/-! ### isinstance -/
def tyN (S : Store) : D → Option String
  | .non => some "NoneType"
  | .bl _ => some "bool"
  | .int _ => some "int"
  | .str _ => some "str"
  | .tup _ => some "tuple"
  | .obj n => (match get S n with
    | some (.lst _) => some "list"
    | some (.ro _) => some "list"
    | some (.dct _) => some "dict"
    | some (.dcn _) => some "dict"
    | _ => none)
  | .exc _ _ => none
/-- a value's type, dicts of tuples too -/
def TyY (K : PySem.W.Frag) (H : Hp) (x : V) (t : Value) : Prop := TyX K H x t ∨ (t = .type "dict" ∧ ∃ a wd xs, x = .ref a ∧ H a = some (dN wd a xs))
def rIsY (K : PySem.W.Frag) : List V → Hp → VK → Prop := fun xs H Q => ∃ (x c : V) (t u : Value) (b : Bool), xs = [x, c] ∧ ClsV c u ∧ TyY K H x t ∧ PySem.W.kitOne K t u = some b ∧ Q (.bl b) H
theorem call_isY : CallR X (.builtin "isinstance") (rIsY X.K) := by
  intro pins s σ H xs us Q I r h
  obtain ⟨x, c, t, u, b, rfl, k, ty | ⟨rfl, a, wd, ys, rfl, ea⟩, e, q⟩ := h
  · exact call_isi pins s σ H _ us Q I r ⟨x, c, t, u, b, rfl, k, ty, e, q⟩
  · obtain ⟨u1, u2, rfl, r1, r2⟩ := Vals.two r
    have e2 := k.eq r2
    subst e2
    cases (show u1 = Value.ref a from r1)
    obtain ⟨o, es, ep, h1, h2, _⟩ := dN_at I ea
    exact PySem.W.kia_one PySem.W.kitx_dict I.kIn ⟨o, h1, h2.1⟩ e (fun z => nomatch z) fun tk => ⟨.bl b, H, I.tok tk, rfl, q⟩
theorem tyX_of {φ : Nat → Addr} {H : Hp} {S : Store} {v : V} {d : D} {n : String} (so : SimO w.K φ w.ex H S) (r : Rp w.K φ w.ex H v d) (h : tyN S d = some n) : TyY w.K H v (.type n) := by
  cases d with
  | non => cases r; cases h; exact .inl (.base .non)
  | bl b => cases r; cases h; exact .inl (.base (.bl _))
  | int i => cases r; cases h; exact .inl (.base (.int _))
  | str s =>
    obtain ⟨z, rfl, rfl⟩ := rp_inv r
    cases h; exact .inl (.base (.str _))
  | tup ds =>
    cases r with
    | tup h1 r1 =>
      cases h
      rcases h1 with (h1 | ⟨o, h1⟩) | ⟨o, its, n, h1, h2, _⟩
      · exact .inl (.base (.tup h1))
      · exact .inl (.fTuple h1)
      · exact .inl (.kTuple h1 h2)
  | obj k =>
    cases r
    simp only [tyN] at h
    split at h
    · rename_i xs e
      obtain ⟨vs, h1, _⟩ := so.ob k _ e
      cases h; exact .inl (.base (.lst h1))
    · rename_i xs e
      obtain ⟨vs, ⟨o, h1⟩, _⟩ := so.ob k _ e
      cases h; exact .inl (.base (.frz h1))
    · rename_i xs e
      obtain ⟨ws, h1, _⟩ := so.ob k _ e
      cases h; exact .inl (.base (.dK h1))
    · rename_i xs e
      obtain ⟨ys, vs, h1, _⟩ := so.ob k _ e
      cases h; exact .inr ⟨rfl, _, _, _, rfl, h1⟩
    · cases h
  | exc c fs => cases h
def kdN : Kd → Option String
  | .int => some "int" | .bool => some "bool" | .str => some "str" | .tuple => some "tuple" | .list => some "list" | .dict => some "dict" | .set => none | .own _ => none
theorem tyN_some {φ : Nat → Addr} {H : Hp} {S : Store} {v : V} {d : D} (so : SimO w.K φ w.ex H S) (r : RE w φ H S v d) (he : ∀ c fs, d ≠ .exc c fs) : ∃ n, tyN S d = some n := by
  cases d with
  | obj n =>
    have hn : n < S.length := by have := r.2; simpa [D.bel] using this
    obtain ⟨o, e⟩ := get_some hn
    have ho := so.ob n o e
    simp only [tyN, e]
    cases o with
    | lst xs => exact ⟨_, rfl⟩
    | ro xs => exact ⟨_, rfl⟩
    | dct xs => exact ⟨_, rfl⟩
    | dcn xs => exact ⟨_, rfl⟩
    | set xs => exact ho.elim
    | ins _ _ => exact ho.elim
  | exc c fs => exact absurd rfl (he c fs)
  | _ => exact ⟨_, rfl⟩
theorem kd_ok {Cl : Classes} {S : Store} {d : D} {k : Kd} {T n : String} {r : Bool} (hT : kdN k = some T) (h : isKd Cl S d k = some r) (hn : tyN S d = some n) : kitB n T = some r := by
  cases d with
  | obj m =>
    simp only [tyN] at hn
    split at hn
    all_goals first | (cases hn; done) | skip
    all_goals (rename_i e; cases hn)
    all_goals (cases k <;> first | (cases hT; done) | skip)
    all_goals (cases hT; simp only [isKd, e] at h; first | (cases h; done) | (cases h; decide +kernel))
  | exc c fs => cases hn
  | _ =>
    cases hn
    cases k <;> first | (cases hT; done) | (cases hT; cases h; decide +kernel)
theorem bt_int : bootBuiltins "int" = some (.type "int") := bb_int
theorem bt_bool : bootBuiltins "bool" = some (.type "bool") := by decide +kernel
theorem bt_dict : bootBuiltins "dict" = some (.type "dict") := by decide +kernel
theorem pe_ty {n : Str} {T : String} (hg : Gl X n) (hm : X.mg n = none) (hv : bootBuiltins n = some (.type T)) (hn : okName n = true) : PE X (.Name n p) (tC (.ty T)) := pe_bltn hg hm hv rfl (okName_ok hn).2.2 (okName_ok hn).1
theorem se_isB {n : Str} {k : Kd} {T : String} {p1 : Pos} (hK : w.K = X.K) (gl : Gl X "isinstance") (hm : X.mg "isinstance" = none) (ha : PE X a (tE w xw C W x)) (hg : Gl X n) (hmn : X.mg n = none) (hv : bootBuiltins n = some (.type T)) (hT : kdN k = some T) (hn : okName n = true) (h1 : okX a = true) :
    PE X (.Call (.Name "isinstance" p) [a, .Name n p1] [] pos) (tE w xw C W (.isI x [k])) :=
  peI (cb2 call_isY gl hm bb_isi ha (pe_ty hg hmn hv hn) (by decide) h1 rfl) fun σ H Q ⟨φ, env, S, m, g⟩ => by
    refine tE.then m g fun v d S1 φ1 H1 l1 m1 r1 g => ?_
    obtain ⟨r, hr, g⟩ := g.ofb
    have hr : ((isKd C.Cl S1 d k).bind fun b => if b then some true else some false) = some r := hr
    cases ek : isKd C.Cl S1 d k with
    | none => rw [ek] at hr; cases hr
    | some r' =>
      rw [ek] at hr
      have : r' = r := by cases r' <;> (cases hr; rfl)
      subst this
      obtain ⟨nm, h2⟩ := tyN_some m1.o r1 fun c fs z => by subst z; cases k <;> first | (cases hT; done) | (cases ek; done)
      have h3 := kd_ok hT ek h2
      exact ⟨v, .ty T, .type nm, .type T, r', rfl, .ty T, hK ▸ tyX_of m1.o r1.1 h2, kit_ty h3, fBl g m1.o⟩
/-! ### sums -/
theorem ints_of {φ : Nat → Addr} {H : Hp} : ∀ {ds : List D} {vs : List V} {ns : List Int}, RpA w.K φ w.ex H vs ds → intsD ds = some ns → vs = ns.map V.int ∧ ds = ns.map .int
  | [], _, _, .nil, h => by cases h; exact ⟨rfl, rfl⟩
  | d :: ds, _, ns, .cons q r, h => by
    cases d with
    | int i =>
      obtain ⟨ns', hb, rfl⟩ := Option.map_eq_some_iff.mp (show (intsD ds).map (i :: ·) = some ns from h)
      obtain ⟨rfl, rfl⟩ := ints_of r hb
      cases q
      exact ⟨rfl, rfl⟩
    | _ => cases h
theorem se_sum {l : Src} (hK : w.K = X.K) (hc : X.calm = true) (gl : Gl X "sum") (hm : X.mg "sum" = none) (ha : PE X a (tL w xw C W l)) (h1 : okX a = true) : PE X (.Call (.Name "sum" p) [a] [] pos) (tE w xw C W (.sumOf l)) :=
  peI (cb1 (cr_sum hc) gl hm bb_sum ha (by decide) h1) fun σ H Q ⟨φ, env, S, m, g⟩ => by
    refine tL.then m g fun v q S1 φ1 H1 l1 m1 r1 g => ?_
    obtain ⟨b, a, vs, rfl, h, r⟩ := r1
    obtain ⟨ns, hb, g⟩ := g.ofb
    obtain ⟨rfl, _⟩ := ints_of r hb
    exact ⟨a, ns, rfl, hK ▸ h, fInt g m1.o⟩
theorem foldl_max_mem : ∀ (l : List Int) (x : Int), l.foldl max x ∈ x :: l
  | [], x => by simp
  | y :: l, x => by
    have := foldl_max_mem l (max x y)
    simp only [List.foldl_cons, List.mem_cons] at this ⊢
    rcases this with h | h
    · by_cases z : x ≤ y
      · right; left; rw [h]; omega
      · left; rw [h]; omega
    · exact .inr (.inr h)
theorem foldl_max_le : ∀ (l : List Int) (x : Int), ∀ y ∈ x :: l, y ≤ l.foldl max x
  | [], x, y, h => by simp at h; simp [h]
  | z :: l, x, y, h => by
    have k := foldl_max_le l (max x z)
    simp only [List.mem_cons, List.foldl_cons] at h k ⊢
    rcases h with rfl | rfl | h
    · have := k _ (.inl rfl); omega
    · have := k _ (.inl rfl); omega
    · exact k _ (.inr h)
theorem foldl_min_mem : ∀ (l : List Int) (x : Int), l.foldl min x ∈ x :: l
  | [], x => by simp
  | y :: l, x => by
    have := foldl_min_mem l (min x y)
    simp only [List.foldl_cons, List.mem_cons] at this ⊢
    rcases this with h | h
    · by_cases z : x ≤ y
      · left; rw [h]; omega
      · right; left; rw [h]; omega
    · exact .inr (.inr h)
theorem foldl_min_le : ∀ (l : List Int) (x : Int), ∀ y ∈ x :: l, l.foldl min x ≤ y
  | [], x, y, h => by simp at h; simp [h]
  | z :: l, x, y, h => by
    have k := foldl_min_le l (min x z)
    simp only [List.mem_cons, List.foldl_cons] at h k ⊢
    rcases h with rfl | rfl | h
    · have := k _ (.inl rfl); omega
    · have := k _ (.inl rfl); omega
    · exact k _ (.inr h)
theorem se_maxL {l : Src} (hK : w.K = X.K) (hc : X.calm = true) (gl : Gl X "max") (hm : X.mg "max" = none) (ha : PE X a (tL w xw C W l)) (h1 : okX a = true) : PE X (.Call (.Name "max" p) [a] [] pos) (tE w xw C W (.maxOf l)) :=
  peI (cb1 (cr_max hc) gl hm bb_max ha (by decide) h1) fun σ H Q ⟨φ, env, S, m, g⟩ => by
    refine tL.then m g fun v q S1 φ1 H1 l1 m1 r1 g => ?_
    obtain ⟨b, a, vs, rfl, h, r⟩ := r1
    cases e : intsD q.1 with
    | none => rw [e] at g; exact g.elim
    | some ns => cases ns with
      | nil => rw [e] at g; exact g.elim
      | cons x t =>
        rw [e] at g
        obtain ⟨rfl, _⟩ := ints_of r e
        refine ⟨a, x :: t, rfl, hK ▸ h, by simp, fun mx h2 h3 => ?_⟩
        have : mx = t.foldl max x := by
          have k1 := h3 _ (foldl_max_mem t x)
          have k2 := foldl_max_le t x _ h2
          omega
        subst this
        exact fInt g m1.o
/-! ### a list's value -/
theorem sl_val (h : PE X e (tE w xw C W x)) : PE X e (tL w xw C W (.lis x)) := peI h fun σ H Q ⟨φ, env, S, m, g⟩ => by
  refine tE.then m g fun v d S1 φ1 H1 l1 m1 r1 g => ?_
  obtain ⟨hi, g⟩ := Rg.ite (c := isLs d S1 = true) g
  obtain ⟨p, hp, g2⟩ := g.of
  obtain ⟨xs, hx, rfl⟩ := Option.map_eq_some_iff.mp hp
  obtain ⟨n, rfl⟩ : ∃ n, d = .obj n := by cases d <;> first | exact ⟨_, rfl⟩ | (cases hi; done)
  refine g2 v φ1 H1 Lat.refl m1.o ?_
  cases r1.1
  simp only [seqD] at hx
  split at hx
  · rename_i ys e
    cases hx
    obtain ⟨vs, h1, r1⟩ := m1.o.ob n _ e
    exact ⟨m1.o.wf n _ e, _, vs, rfl, SqL.of h1, r1⟩
  · rename_i ys e
    cases hx
    obtain ⟨vs, h1, r1⟩ := m1.o.ob n _ e
    exact ⟨m1.o.wf n _ e, _, vs, rfl, h1.sq, r1⟩
  · cases hx
end
end Pw
end
section
set_option Elab.async false
set_option linter.all false
set_option maxRecDepth 100000
set_option maxHeartbeats 1000000
set_option autoImplicit false
/-! Pw15: sorting, dicts -/
namespace Pw
open PySem PySem.Spec PyProof.Rows L2
variable {w : Wo} {xw : Xw} {C : Ctx} {W : WX} {X : Cx}
section
variable {e a b c o : Expr} {es : List Expr} {x y z : Exp} {xs : List Exp} {pos p apos p2 : Pos}
theorem sort_ints {ns ns' : List Int} (h1 : ns'.Perm ns) (h2 : ns'.Pairwise (· ≤ ·)) : ns' = ns.mergeSort fun a b => decide (a ≤ b) := by
  have h3 : (ns.mergeSort fun a b => decide (a ≤ b)).Pairwise (· ≤ ·) :=
    (List.pairwise_mergeSort (le := fun a b : Int => decide (a ≤ b)) (fun a b c h1 h2 => by simp only [decide_eq_true_eq] at *; omega) (fun a b => by simp only [Bool.or_eq_true, decide_eq_true_eq]; omega) ns).imp fun h => of_decide_eq_true h
  exact List.Perm.eq_of_pairwise (le := (· ≤ ·)) (fun a b _ _ h1 h2 => by omega) h2 h3 (h1.trans (List.mergeSort_perm _ _).symm)
theorem ltCps_eq : ∀ a b : List Nat, ltCps a b = decide (a < b)
  | [], [] => by simp [ltCps]
  | [], _ :: _ => by simp [ltCps]
  | _ :: _, [] => by simp [ltCps]
  | a :: r, b :: t => by
    unfold ltCps
    rw [ltCps_eq r t, Bool.eq_iff_iff]
    simp only [Bool.or_eq_true, Bool.and_eq_true, decide_eq_true_eq, beq_iff_eq, List.cons_lt_cons_iff]
theorem pairwise_of_sortedS : ∀ l : List Str, sortedS l = true → l.Pairwise fun a b => ¬ b.cps.toList < a.cps.toList
  | [], _ => .nil
  | x :: r, h => by
    have key : ∀ (r : List Str) (x : Str), risingS x r = true → (x :: r).Pairwise fun a b => ¬ b.cps.toList < a.cps.toList := by
      intro r
      induction r with
      | nil => intro x _; exact List.pairwise_singleton _ _
      | cons y r ih =>
        intro x h
        have h : (!ltCps y.cps.toList x.cps.toList && risingS y r) = true := h
        simp only [Bool.and_eq_true, Bool.not_eq_true', ltCps_eq, decide_eq_false_iff_not] at h
        have h2 := ih y h.2
        refine List.pairwise_cons.mpr ⟨fun z hz => ?_, h2⟩
        rcases List.mem_cons.mp hz with rfl | hz
        · exact h.1
        · have h3 := List.rel_of_pairwise_cons h2 hz
          rw [List.not_lt] at h3 ⊢
          exact List.le_trans (List.not_lt.mp h.1) h3
    exact key r x h
theorem sort_strs {xs ys : List Str} (h1 : ys.Perm xs) (h2 : sortedS ys = true) : ys.map (fun y => y.cps.toList) = (xs.map fun y => y.cps.toList).mergeSort leL := by
  have h3 : ((xs.map fun y => y.cps.toList).mergeSort leL).Pairwise (fun a b => ¬ b < a) :=
    (List.pairwise_mergeSort (le := leL) (fun a b c h1 h2 => by
      simp only [leL, Bool.not_eq_true', decide_eq_false_iff_not, List.not_lt] at *
      exact List.le_trans h1 h2) (fun a b => by
      simp only [leL, Bool.or_eq_true, Bool.not_eq_true', decide_eq_false_iff_not, List.not_lt]
      exact List.le_total a b) _).imp fun h => by simpa [leL] using h
  have h4 : (ys.map fun y => y.cps.toList).Pairwise (fun a b => ¬ b < a) := List.pairwise_map.mpr (pairwise_of_sortedS ys h2)
  refine List.Perm.eq_of_pairwise (le := fun a b : List Nat => ¬ b < a) (fun a b _ _ h1 h2 => ?_) h4 h3 ((h1.map _).trans (List.mergeSort_perm _ _).symm)
  exact List.le_antisymm (List.not_lt.mp h1) (List.not_lt.mp h2)
end
end Pw
end
section
set_option Elab.async false
set_option linter.all false
set_option maxRecDepth 100000
set_option maxHeartbeats 1000000
set_option autoImplicit false
/-! Pw16: statements -/
namespace Pw
open PySem PySem.Spec PyProof.Rows L2
variable {w : Wo} {xw : Xw} {C : Ctx} {W : WX} {X : Cx}
/-- what a statement's end is to reach -/
def RgS (w : Wo) (xw : Xw) (W : WX) (φ : Nat → Addr) (S : Store) (H : Hp) (r : Res Pw.Flow) (D0 : Ends) : Prop := match r with
  | .ok (.nx env) S' => ∀ φ' H' σ', Lat φ φ' S S' H H' → Sim w.K φ' w.ex H' S' σ' env → D0.nx σ' H'
  | .ok (.bk env) S' => ∀ φ' H' σ', Lat φ φ' S S' H H' → Sim w.K φ' w.ex H' S' σ' env → D0.bk σ' H'
  | .ok (.ct env) S' => ∀ φ' H' σ', Lat φ φ' S S' H H' → Sim w.K φ' w.ex H' S' σ' env → D0.ct σ' H'
  | .ok (.rt d) S' => ∀ v φ' H', Lat φ φ' S S' H H' → SimO w.K φ' w.ex H' S' → RE w φ' H' S' v d → D0.rt v H'
  | .ok (.ex c fs env) S' => ∀ φ' H' σ' cls dd, Lat φ φ' S S' H H' → Sim w.K φ' w.ex H' S' σ' env → XR w xw φ' H' S' c fs cls dd → W cls dd σ' H'
  | _ => False
def tSt (w : Wo) (xw : Xw) (C : Ctx) (W : WX) (s : Stm) : TS := fun D0 σ H => ∃ φ env S, Sim w.K φ w.ex H S σ env ∧ RgS w xw W φ S H (evS C s env S) D0
def tSts (w : Wo) (xw : Xw) (C : Ctx) (W : WX) (s : List Stm) : TS := fun D0 σ H => ∃ φ env S, Sim w.K φ w.ex H S σ env ∧ RgS w xw W φ S H (evSs C s env S) D0
section
variable {φ φ1 : Nat → Addr} {S S1 : Store} {H H1 : Hp} {D0 : Ends} {σ : L2.St} {env : Env}
theorem RgS.later {r : Res Pw.Flow} (h : RgS w xw W φ S H r D0) (l : Lat φ φ1 S S1 H H1) : RgS w xw W φ1 S1 H1 r D0 := by
  cases r with
  | ok f S' => cases f with
    | nx env => exact fun φ' H' σ' l2 => h φ' H' σ' (l.trans l2)
    | bk env => exact fun φ' H' σ' l2 => h φ' H' σ' (l.trans l2)
    | ct env => exact fun φ' H' σ' l2 => h φ' H' σ' (l.trans l2)
    | rt d => exact fun v φ' H' l2 => h v φ' H' (l.trans l2)
    | ex c fs env => exact fun φ' H' σ' cls dd l2 => h φ' H' σ' cls dd (l.trans l2)
  | exc c fs S' => exact h
  | bad => exact h
/-- an expression within a statement -/
theorem RgS.st {α β : Type} {R : (Nat → Addr) → Hp → Store → β → α → Prop} {r : Res α} {k : α → Store → Res Pw.Flow} {Q' : β → Hp → Prop} (m : Sim w.K φ w.ex H S σ env) (h : RgS w xw W φ S H (r.st env k) D0)
    (f : ∀ b a S1 φ1 H1, Lat φ φ1 S S1 H H1 → Sim w.K φ1 w.ex H1 S1 σ env → R φ1 H1 S1 b a → RgS w xw W φ1 S1 H1 (k a S1) D0 → Q' b H1) : Rg w xw W σ R φ S H r Q' := by
  cases r with
  | ok a S' => exact fun b φ' H' l so ra => f b a S' φ' H' l (m.lat l so) ra (RgS.later (r := k a S') h l)
  | exc c fs S' => exact fun φ' H' cls dd l so x => h φ' H' σ cls dd l (m.lat l so) x
  | bad => exact h
theorem sE.then {x : Exp} {k : D → Store → Res Pw.Flow} {Q' : VK} (m : Sim w.K φ w.ex H S σ env) (h : RgS w xw W φ S H ((evE C x env S).st env k) D0)
    (f : ∀ v d S1 φ1 H1, Lat φ φ1 S S1 H H1 → Sim w.K φ1 w.ex H1 S1 σ env → RE w φ1 H1 S1 v d → RgS w xw W φ1 S1 H1 (k d S1) D0 → Q' v H1) : tE w xw C W x σ H Q' :=
  ⟨φ, env, S, m, h.st m f⟩
theorem sT.then {x : Tst} {k : Bool → Store → Res Pw.Flow} {Q' : Bool → Hp → Prop} (m : Sim w.K φ w.ex H S σ env) (h : RgS w xw W φ S H ((evT C x env S).st env k) D0)
    (f : ∀ b S1 φ1 H1, Lat φ φ1 S S1 H H1 → Sim w.K φ1 w.ex H1 S1 σ env → RgS w xw W φ1 S1 H1 (k b S1) D0 → Q' b H1) : tT w xw C W x σ H Q' :=
  ⟨φ, env, S, m, h.st m fun b a S1 φ1 H1 l m1 r g => by cases r; exact f _ S1 φ1 H1 l m1 g⟩
theorem RgS.nx {S' : Store} (h : RgS w xw W φ S H (.ok (.nx env) S') D0) (l : Lat φ φ1 S S' H H1) (m : Sim w.K φ1 w.ex H1 S' σ env) : D0.nx σ H1 := h φ1 H1 σ l m
end
theorem psI {st : Stmt} {t t' : TS} (h : PS X st t) (f : ∀ D0 σ H, t' D0 σ H → t D0 σ H) : PS X st t' := ⟨fun pins s σ H D0 I q => h.run pins s σ H D0 I (f _ _ _ q)⟩
theorem pssI {st : List Stmt} {t t' : TS} (h : PSs X st t) (f : ∀ D0 σ H, t' D0 σ H → t D0 σ H) : PSs X st t' := ⟨fun pins s σ H D0 I q => h.run pins s σ H D0 I (f _ _ _ q)⟩
section
variable {e a b c o : Expr} {es : List Expr} {x y z : Exp} {xs : List Exp} {pos p apos p2 : Pos} {st : Stmt} {sts : List Stmt} {s : Stm} {ss : List Stm}
theorem sss_nil : PSs X [] (tSts w xw C W []) := pssI pss_nil fun D0 σ H ⟨φ, env, S, m, g⟩ => RgS.nx g Lat.refl m
theorem sss_cons (h1 : PS X st (tSt w xw C W s)) (h2 : PSs X sts (tSts w xw C W ss)) : PSs X (st :: sts) (tSts w xw C W (s :: ss)) :=
  pssI (pss_cons h1 h2) fun D0 σ H ⟨φ, env, S, m, g⟩ => by
    refine ⟨φ, env, S, m, ?_⟩
    have g : RgS w xw W φ S H ((evS C s env S).bind fun fl S => match fl with
      | .nx env => evSs C ss env S
      | fl => .ok fl S) D0 := g
    cases r : evS C s env S with
    | ok f S' =>
      rw [r] at g
      cases f with
      | nx env2 => exact fun φ' H' σ' l m' => ⟨φ', env2, S', m', RgS.later (r := evSs C ss env2 S') g l⟩
      | bk env2 => exact g
      | ct env2 => exact g
      | rt d => exact g
      | ex c fs env2 => exact g
    | exc c fs S' => rw [r] at g; exact g
    | bad => rw [r] at g; exact g
theorem sst_pass : PS X (.Pass pos) (tSt w xw C W .pass) := psI ps_pass fun D0 σ H ⟨φ, env, S, m, g⟩ => RgS.nx g Lat.refl m
theorem sst_brk : PS X (.Break pos) (tSt w xw C W .brk) := psI ps_break fun D0 σ H ⟨φ, env, S, m, g⟩ => g φ H σ Lat.refl m
theorem sst_cont : PS X (.Continue pos) (tSt w xw C W .cont) := psI ps_continue fun D0 σ H ⟨φ, env, S, m, g⟩ => g φ H σ Lat.refl m
theorem sst_ex (ha : PE X a (tE w xw C W x)) (hs : swapsWith a none pos.line X.env = pure false) : PS X (.Expr a pos) (tSt w xw C W (.ex x)) :=
  psI (ps_expr ha hs) fun D0 σ H ⟨φ, env, S, m, g⟩ => sE.then m g fun v d S1 φ1 H1 l1 m1 r1 g => RgS.nx g Lat.refl m1
theorem sst_ret (ha : PE X a (tE w xw C W x)) : PS X (.Return (some a) pos) (tSt w xw C W (.ret x)) :=
  psI (ps_ret ha) fun D0 σ H ⟨φ, env, S, m, g⟩ => sE.then m g fun v d S1 φ1 H1 l1 m1 r1 g => g v φ1 H1 Lat.refl m1.o r1
theorem sst_retN : PS X (.Return none pos) (tSt w xw C W (.ret (.c .non))) :=
  psI ps_retN fun D0 σ H ⟨φ, env, S, m, g⟩ => g .non φ H Lat.refl m.o ⟨.non, rfl⟩
theorem sst_if {t : Tst} {sa sb : List Stm} {ta tb : List Stmt} (hc : PT X c (tT w xw C W t)) (ha : PSs X ta (tSts w xw C W sa)) (hb : PSs X tb (tSts w xw C W sb)) : PS X (.If c ta tb pos) (tSt w xw C W (.ite t sa sb)) :=
  psI (ps_if hc ha hb) fun D0 σ H ⟨φ, env, S, m, g⟩ => sT.then m g fun k S1 φ1 H1 l1 m1 g => by
    cases k with
    | true => exact ⟨φ1, env, S1, m1, g⟩
    | false => exact ⟨φ1, env, S1, m1, g⟩
/-- name = value, a, b = value -/
theorem sst_set {tg : Expr} {t : Tg} (ha : PE X a (tE w xw C W x)) (hg : PG X tg (gT w t)) (hs : swapsWithSole [tg] a pos.line X.env = pure false) (hw : swappedStores [tg] a X.env = pure none)
    (h1 : (assignEach [tg] X.env).map (·.2) = [assign tg X.env]) : PS X (.Assign [tg] a pos) (tSt w xw C W (.set t x)) :=
  psI (ps_asg ha hg hs hw h1) fun D0 σ H ⟨φ, env, S, m, g⟩ => sE.then m g fun v d S1 φ1 H1 l1 m1 r1 g => by
    cases hb : bind1 t d env with
    | none => rw [hb] at g; exact g.elim
    | some env2 =>
      rw [hb] at g
      exact ⟨φ1, S1, env, d, env2, m1, r1, hb, fun σ' m' _ => RgS.nx g Lat.refl m'⟩
/-- o[i] = value -/
def setR (w : Wo) : TSet := fun o i v H Q => ∃ φ S do' di dv, SimO w.K φ w.ex H S ∧ RE w φ H S o do' ∧ RE w φ H S i di ∧ RE w φ H S v dv ∧ ∃ S', setIxD do' di dv S = some S' ∧ ∀ H', Lat φ φ S S' H H' → SimO w.K φ w.ex H' S' → Q H'
theorem sst_setIx (hst : PSet X (setR w)) (ho : PE X o (tE w xw C W x)) (hi : PE X b (tE w xw C W y)) (ha : PE X a (tE w xw C W z)) (hs : swapsWithSole [.Subscript o b p] a pos.line X.env = pure false) (hw : swappedStores [.Subscript o b p] a X.env = pure none)
    (h1 : (assignEach [.Subscript o b p] X.env).map (·.2) = [assign (.Subscript o b p) X.env])
    (h2 : ∀ v, assign (.Subscript o b p) X.env v = (do
      let ov ← holding [v] (eval o X.env)
      let iv ← holding [v, ov] (eval b X.env)
      standAt p
      holding [v, ov, iv] (setItem ov iv v)
      release [v, ov, iv] [])) : PS X (.Assign [.Subscript o b p] a pos) (tSt w xw C W (.setIx x y z)) :=
  psI (ps_asg ha (pg_sub ho hi hst h2) hs hw h1) fun D0 σ H ⟨φ, env, S, m, g⟩ => by
    refine sE.then m g fun v d S1 φ1 H1 l1 m1 r1 g => ?_
    refine sE.then m1 g fun u d2 S2 φ2 H2 l2 m2 r2 g => ?_
    refine sE.then m2 g fun u3 d3 S3 φ3 H3 l3 m3 r3 g => ?_
    cases hb : setIxD d2 d3 d S3 with
    | none => rw [hb] at g; exact g.elim
    | some S4 =>
      rw [hb] at g
      exact ⟨φ3, S3, d2, d3, d, m3.o, r2.lat l3, r3, r1.lat (l2.trans l3), S4, hb, fun H' l so => RgS.nx g l (m3.lat l so)⟩
end
end Pw
end
section
set_option Elab.async false
set_option linter.all false
set_option maxRecDepth 100000
set_option maxHeartbeats 1000000
set_option autoImplicit false
/-! Pw17: loops -/
namespace Pw
open PySem PySem.Spec PyProof.Rows L2
variable {w : Wo} {xw : Xw} {C : Ctx} {W : WX} {X : Cx}
theorem okOld_ok {n : Nat} : ∀ {S T : Store}, okOld n S T = true → T.length = S.length ∧ ∀ m o, get T m = some o → get S m = some o ∨ o.bel n = true
  | [], [], _ => ⟨rfl, fun m o h => by cases h⟩
  | [], _ :: _, h => by cases h
  | _ :: _, [], h => by cases h
  | a :: r, b :: t, h => by
    simp only [okOld, Bool.and_eq_true, Bool.or_eq_true, decide_eq_true_eq] at h
    obtain ⟨h1, h2⟩ := okOld_ok h.2
    refine ⟨by simp [h1], fun m o hm => ?_⟩
    simp only [get] at hm ⊢
    rw [h1] at hm
    split at hm
    · rename_i e
      cases hm
      rw [if_pos e]
      exact h.1.imp (fun e => by rw [e]) id
    · rename_i e
      rw [if_neg e]
      exact h2 m o hm
section
variable {K : PySem.W.Frag} {ex : Ex1} {φ φ' : Nat → Addr} {S S' : Store} {H H' : Hp} {σ : L2.St} {env : Env}
/-- what was laid since S is forgotten -/
theorem SimO.drop (x : SimO K φ' ex H' S') (so : SimO K φ ex H S) (h : okOld S.length S (S'.drop (S'.length - S.length)) = true) : SimO K φ' ex H' (S'.drop (S'.length - S.length)) := by
  obtain ⟨hl, hb⟩ := okOld_ok h
  refine ⟨fun n o e => x.ob n o (by rw [← get_drop (get_lt e)]; exact e), fun n o e => ?_, fun m n om on em en => x.inj m n om on (by rw [← get_drop (get_lt em)]; exact em) (by rw [← get_drop (get_lt en)]; exact en)⟩
  rw [hl]
  rcases hb n o e with h1 | h1
  · exact so.wf n o h1
  · exact h1
theorem Lat.drop (l : Lat φ φ' S S' H H') {T : Store} (h : T.length = S.length) : Lat φ φ' S T H H' :=
  ⟨by rw [h]; exact Nat.le_refl _, l.same, l.kp, l.fr, fun n h1 h2 => absurd h2 (by omega), l.no⟩
theorem trim_ok (so : SimO K φ ex H S) (l : Lat φ φ' S S' H H') (m : Sim K φ' ex H' S' σ env) : Lat φ φ' S (trim S S' env) H H' ∧ Sim K φ' ex H' (trim S S' env) σ env := by
  unfold trim
  split
  · exact ⟨l, m⟩
  · split
    · rename_i h1 h2
      simp only [Bool.and_eq_true] at h2
      obtain ⟨hl, _⟩ := okOld_ok h2.2
      refine ⟨l.drop hl, m.o.drop so h2.2, m.e.len, fun i d hd => ?_, m.e.xs, m.e.xd⟩
      obtain ⟨v, h3, h4, h5⟩ := m.e.at_ i d hd
      refine ⟨v, h3, h4, ?_⟩
      rw [hl]
      have h6 := h2.1
      unfold envBel at h6
      rw [List.all_eq_true] at h6
      exact h6 _ (List.mem_of_getElem? hd)
    · exact ⟨l, m⟩
theorem Sim.kill (m : Sim K φ ex H S σ env) (ks : List Nat) : Sim K φ ex H S σ (Pw.kill ks env) := ⟨m.o, m.e.kill ks⟩
end
section
variable {e a b c o : Expr} {es : List Expr} {x y z : Exp} {xs : List Exp} {pos p apos p2 : Pos} {st : Stmt} {sts : List Stmt} {s : Stm} {ss : List Stm}
/-- a turn's end -/
theorem turn_end {φ φ1 : Nat → Addr} {S S1 : Store} {H H1 : Hp} {σ : L2.St} {env : Env} {D0 : Ends} {ks : List Nat} {k : Env → Store → Res Pw.Flow} {r : Res Pw.Flow} {N : L2.St → Hp → Prop} (m : Sim w.K φ w.ex H S σ env) (l1 : Lat φ φ1 S S1 H H1)
    (g : RgS w xw W φ S H (r.bind fun fl S' => match fl with
      | .nx env => k (kill ks env) (trim S S' (kill ks env))
      | .ct env => k (kill ks env) (trim S S' (kill ks env))
      | .bk env => .ok (.nx (kill ks env)) S'
      | .rt d => .ok (.rt d) S'
      | .ex c fs env => .ok (.ex c fs env) S') D0)
    (hN : ∀ φ' σ' H' S' env', Lat φ φ' S S' H H' → Sim w.K φ' w.ex H' S' σ' env' → RgS w xw W φ' S' H' (k env' S') D0 → N σ' H') :
    RgS w xw W φ1 S1 H1 r { D0 with nx := N, ct := N, bk := D0.nx } := by
  cases r with
  | exc c fs S' => exact g.elim
  | bad => exact g.elim
  | ok f S' => cases f with
    | nx env2 =>
      intro φ' H' σ' l m'
      obtain ⟨l3, m3⟩ := trim_ok m.o (l1.trans l) (m'.kill ks)
      exact hN _ _ _ _ _ l3 m3 (RgS.later (r := k (kill ks env2) (trim S S' (kill ks env2))) g l3)
    | ct env2 =>
      intro φ' H' σ' l m'
      obtain ⟨l3, m3⟩ := trim_ok m.o (l1.trans l) (m'.kill ks)
      exact hN _ _ _ _ _ l3 m3 (RgS.later (r := k (kill ks env2) (trim S S' (kill ks env2))) g l3)
    | bk env2 => exact fun φ' H' σ' l m' => g φ' H' σ' (l1.trans l) (m'.kill ks)
    | rt d => exact fun v φ' H' l so r => g v φ' H' (l1.trans l) so r
    | ex c fs env2 => exact fun φ' H' σ' cls dd l m' x => g φ' H' σ' cls dd (l1.trans l) m' x
theorem sst_whl {t : Tst} {ks : List Nat} (hp : PassesOwn (model X.prog X.w) X.A X.env X.xe) (hc : PT X c (tT w xw C W t)) (hb : PSs X sts (tSts w xw C W ss)) : PS X (.While c sts [] pos) (tSt w xw C W (.whl t ss ks)) :=
  psI (ps_while hp hc hb) fun D0 σ H ⟨φ, env, S, m, g⟩ => by
    refine ⟨fun n σ H => ∃ φ env S, Sim w.K φ w.ex H S σ env ∧ RgS w xw W φ S H (whlL (evT C t) (evSs C ss) ks n env S) D0, ⟨turns, φ, env, S, m, g⟩, ?_⟩
    rintro n σ H ⟨φ, env, S, m, g⟩
    cases n with
    | zero => exact g.elim
    | succ n =>
      refine ⟨φ, env, S, m, ?_⟩
      have g : RgS w xw W φ S H ((evT C t env S).st env fun k S1 => if k then (evSs C ss env S1).bind fun fl S' => (match fl with
        | .nx env => whlL (evT C t) (evSs C ss) ks n (kill ks env) (trim S S' (kill ks env))
        | .ct env => whlL (evT C t) (evSs C ss) ks n (kill ks env) (trim S S' (kill ks env))
        | .bk env => .ok (.nx (kill ks env)) S'
        | .rt d => .ok (.rt d) S'
        | .ex c fs env => .ok (.ex c fs env) S') else .ok (.nx env) S1) D0 := g
      cases e : evT C t env S with
      | bad => rw [e] at g; exact g
      | exc c fs S' => rw [e] at g; exact fun φ' H' cls dd l so x => g φ' H' σ cls dd l (m.lat l so) x
      | ok k S1 =>
        rw [e] at g
        intro b φ1 H1 l1 so1 rb
        cases rb
        cases k with
        | false => exact g φ1 H1 σ l1 (m.lat l1 so1)
        | true =>
          rw [if_pos rfl]
          refine ⟨fun σ' H' => ∃ φ env S, Sim w.K φ w.ex H' S σ' env ∧ RgS w xw W φ S H' (whlL (evT C t) (evSs C ss) ks n env S) D0, fun σ' H' q => ⟨n, Nat.lt_succ_self n, q⟩, φ1, env, S1, m.lat l1 so1, ?_⟩
          exact turn_end (k := fun env S => whlL (evT C t) (evSs C ss) ks n env S) m l1 g fun φ' σ' H' S' env' l m' g' => ⟨φ', env', S', m', g'⟩
theorem sst_for {tg iter : Expr} {t : Tg} {l : Src} {ks : List Nat} (hp : PassesOwn (model X.prog X.w) X.A X.env X.xe) (hc : X.calm = true) (hi : PI X tg iter (tI w xw C W l)) (hg : PG X tg (gT w t)) (hb : PSs X sts (tSts w xw C W ss))
    (hps : PS X (.For tg iter sts [] pos) (tFor (tI w xw C W l) (gT w t) (tSts w xw C W ss))) : PS X (.For tg iter sts [] pos) (tSt w xw C W (.forS t l ss ks)) :=
  psI hps fun D0 σ H ⟨φ, env, S, m, g⟩ => by
    refine ⟨φ, env, S, m, ?_⟩
    have g : RgS w xw W φ S H ((evL C l env S).st env fun p S => loopL (fun x env S => match bind1 t x env with
      | some env => evSs C ss env S
      | none => .bad) ks (stands p.2 (obAt p.2 S)) p.1 env S) D0 := g
    cases ev : evL C l env S with
    | bad => rw [ev] at g; exact g
    | exc c fs S' => rw [ev] at g; exact fun φ' H' cls dd l so x => g φ' H' σ cls dd l (m.lat l so) x
    | ok p S1 =>
      rw [ev] at g
      intro J φ1 H1 l1 so1 r1
      obtain ⟨b1, it⟩ := r1
      have g : RgS w xw W φ S H (loopL (fun x env S => match bind1 t x env with
        | some env => evSs C ss env S
        | none => .bad) ks (stands p.2 (obAt p.2 S1)) p.1 env S1) D0 := g
      generalize hgd : stands p.2 (obAt p.2 S1) = gd at g it
      generalize hds : p.1 = ds at g it b1
      generalize hf : (fun (x : D) (env : Env) (S : Store) => match bind1 t x env with
        | some env => evSs C ss env S
        | none => Res.bad) = f at g
      refine ⟨fun i mm σ H' => mm = ds.length - i ∧ ∃ φ2 env2 S2, Lat φ1 φ2 S1 S2 H1 H' ∧ Sim w.K φ2 w.ex H' S2 σ env2 ∧ RgS w xw W φ2 S2 H' (loopL f ks gd (ds.drop i) env2 S2) D0, ⟨ds.length, by simp, φ1, env, S1, Lat.refl, m.lat l1 so1, RgS.later g l1⟩, ?_⟩
      rintro i mm σ H' ⟨rfl, φ2, env2, S2, l2, m2, g⟩
      cases hdr : ds.drop i with
      | nil =>
        rw [hdr] at g
        have g : RgS w xw W φ2 S2 H' (if gd S2 then .ok (.nx env2) S2 else .bad) D0 := g
        cases hgS : gd S2 with
        | false => rw [hgS] at g; exact g.elim
        | true =>
          rw [hgS] at g
          have hi' : ds.length ≤ i := by
            have := congrArg List.length hdr
            simp only [List.length_drop, List.length_nil] at this
            omega
          exact .inl ⟨(it i φ2 S2 H' l2.w m2.o hgS).1 hi', g φ2 H' σ Lat.refl m2⟩
      | cons d rest =>
        obtain ⟨hd, hrest, hil⟩ := drop_at hdr
        rw [hdr] at g
        have g : RgS w xw W φ2 S2 H' (if gd S2 then (f d env2 S2).bind fun fl S' => (match fl with
          | .nx env => loopL f ks gd rest (kill ks env) (trim S2 S' (kill ks env))
          | .ct env => loopL f ks gd rest (kill ks env) (trim S2 S' (kill ks env))
          | .bk env => .ok (.nx (kill ks env)) S'
          | .rt d => .ok (.rt d) S'
          | .ex c fs env => .ok (.ex c fs env) S') else .bad) D0 := g
        cases hgS : gd S2 with
        | false => rw [hgS] at g; exact g.elim
        | true =>
          rw [hgS, if_pos rfl] at g
          obtain ⟨hgo, hy⟩ := (it i φ2 S2 H' l2.w m2.o hgS).2 d hd
          refine .inr ⟨hgo, fun σ3 H3 => ∃ φ3 env3 S3, Lat φ1 φ3 S1 S3 H1 H3 ∧ Sim w.K φ3 w.ex H3 S3 σ3 env3 ∧ RgS w xw W φ3 S3 H3 (loopL f ks gd rest env3 S3) D0, fun σ3 H3 q => ⟨ds.length - (i + 1), by omega, rfl, by rw [hrest]; exact q⟩, fun x H3 y => ?_⟩
          obtain ⟨l3, so3, rx⟩ := hy x H3 y
          have bd : D.bel S2.length d = true := D.bel_mono l2.le _ (bels_all.mp b1 d (List.mem_of_getElem? hd))
          cases hbi : bind1 t d env2 with
          | none =>
            have : f d env2 S2 = .bad := by rw [← hf]; show (match bind1 t d env2 with | some env => evSs C ss env S2 | none => Res.bad) = _; rw [hbi]
            rw [this] at g; exact g.elim
          | some env3 =>
            have ef : f d env2 S2 = evSs C ss env3 S2 := by rw [← hf]; show (match bind1 t d env2 with | some env => evSs C ss env S2 | none => Res.bad) = _; rw [hbi]
            rw [ef] at g
            refine ⟨φ2, S2, env2, d, env3, m2.lat l3 so3, ⟨rx, bd⟩, hbi, fun σ4 m4 _ => ⟨φ2, env3, S2, m4, ?_⟩⟩
            exact turn_end (k := fun env S => loopL f ks gd rest env S) m2 l3 g fun φ' σ' H5 S' env' l m' g' => ⟨φ', env', S', l2.trans l, m', g'⟩
end
end Pw
end
section
set_option Elab.async false
set_option linter.all false
set_option maxRecDepth 100000
set_option maxHeartbeats 1000000
set_option autoImplicit false
/-! Pw18: more statements: name = [..], o[i] = v, raise, try -/
namespace Pw
open PySem PySem.Spec PyProof.Rows L2
variable {w : Wo} {xw : Xw} {C : Ctx} {W : WX} {X : Cx}
section
variable {e a b c o : Expr} {es : List Expr} {x y z : Exp} {xs : List Exp} {pos p apos p2 : Pos} {st : Stmt} {sts : List Stmt} {s : Stm} {ss : List Stm}
theorem setLc_rd {i : Nat} {l : Src} {D0 : Ends} {σ : L2.St} {H : Hp} (hx : w.ex.2 = none) (q : tSt w xw C W (.set (.v i) (.ls l)) D0 σ H) : tN w xw C W l σ H (fun v H1 => D0.nx (σ.set i (some v)) H1) := by
  obtain ⟨φ, env, S, m, g⟩ := q
  refine ⟨φ, env, S, m, ?_⟩
  have g : RgS w xw W φ S H (((evL C l env S).bind fun p S => Res.ok (.obj S.length) (.lst p.1 :: S)).st env fun x S => .ok (.nx (env.set i (some x))) S) D0 := g
  cases ev : evL C l env S with
  | bad => rw [ev] at g; exact g
  | exc c fs S' => rw [ev] at g; exact fun φ' H' cls dd l so x => g φ' H' σ cls dd l (m.lat l so) x
  | ok p S' =>
    rw [ev] at g
    intro v φ' H' l1 so r
    obtain ⟨b, a, vs, rfl, h0, h1, rv, hn⟩ := r
    obtain ⟨φ2, l2, e2, so2⟩ := so.adopt l1 h0 h1 hn rv b
    have rr : Rp w.K φ2 w.ex H' (.ref a) (.obj S'.length) := by
      have := Rp.obj (K := w.K) (φ := φ2) (ex := w.ex) (H := H') S'.length
      rw [e2] at this
      exact this
    have bb : D.bel (SO.lst p.1 :: S').length (.obj S'.length) = true := by
      show Nat.blt S'.length (S'.length + 1) = true
      exact Nat.ble_eq_true_of_le (Nat.le_refl _)
    exact g φ2 H' _ l2 ⟨so2, (m.e.lat l2).set rr bb i fun a j fs e => by rw [hx] at e; cases e⟩
theorem sst_setLc {i : Nat} {n : Str} {py : Pos} {elt tg iter : Expr} {ifs : List Expr} {scope : Scope} {own : List (Str × Nat)} {spos : Pos} {e : Exp} {t : Tg} {l : Src} {ts : List Tst} (hx : w.ex.2 = none) (hc : X.calm = true) (hN : X.N.Nodup) (hy : X.N[i]? = some n) (hyl : X.env.scope.names.lookup n = some .local)
    (hsw : swapsWith (.ListComp elt [⟨tg, iter, ifs, 0⟩] scope pos) (some (.Name n py)) spos.line X.env = pure true) (hi : PI X tg iter (tI w xw C W l)) (ok : BlkOk X.N X.env.scope scope own) (hv : own.map (·.2) = t.ix)
    (hg : ∀ (s : Shared) (H : Hp) (D : Addr) (cl : List (Str × Addr)) (fp : List Addr), PG (X.blk s H scope (compEnvC scope cl D X.env) fp) tg (gT w t))
    (ht : ∀ (s : Shared) (H : Hp) (D : Addr) (cl : List (Str × Addr)) (fp : List Addr), PTs (X.blk s H scope (compEnvC scope cl D X.env) fp) ifs (tTs w xw C W0 ts))
    (he : ∀ (s : Shared) (H : Hp) (D : Addr) (cl : List (Str × Addr)) (fp : List Addr), PE (X.blk s H scope (compEnvC scope cl D X.env) fp) elt (tE w xw C W0 e)) (hs : ∀ x, foldedSetIterable iter X.env x = pure x) :
    PS X (.Assign [.Name n py] (.ListComp elt [⟨tg, iter, ifs, 0⟩] scope pos) spos) (tSt w xw C W (.set (.v i) (.ls (.comp e t l ts)))) :=
  psI (ps_setLc hc hN hy hyl hsw hi ok hg ht he hs) fun D0 σ H q => by rw [hv]; exact comp_rd hx (setLc_rd hx q)
/-! ### o[i] = v -/
theorem psetR (hK : w.K = X.K) (hW : w.ex.1 = X.w) (hu : X.A.units + 65 < cLine) : PSet X (setR w) := by
  intro pins s σ H o i v ov iv u Q I ro ri rv h
  obtain ⟨φ, S, do', di, dv, so, r1, r2, r3, S', hS, q⟩ := h
  cases do' with
  | obj n =>
    cases r1.1
    simp only [setIxD] at hS
    split at hS
    · rename_i xs e
      cases di with
      | int k =>
        cases r2.1
        obtain ⟨j, hj, rfl⟩ := Option.map_eq_some_iff.mp hS
        obtain ⟨vs, hH, rr⟩ := so.ob n _ e
        have b3 : D.bels S.length (xs.set j dv) = true := bels_all.mpr fun d hd => by
          rcases List.mem_or_eq_of_mem_set hd with h | h
          · exact bels_all.mp (so.wf n _ e) d h
          · rw [h]; exact r3.2
        obtain ⟨lw, sw⟩ := so.write (n := n) (o := .lst xs) (o' := .lst (xs.set j dv)) (u := .lst (vs.set j v)) e rfl b3 fun w' hw => ⟨vs.set j v, upd_same, (rr.set r3.1 j).mono b3 (fun _ _ => rfl) (Kp.set hw (by rw [hH] at hw; cases hw; trivial))⟩
        exact set_list pins s σ H _ _ v ov iv u Q I ro ri rv ⟨φ n, vs, k, j, rfl, rfl, hH, by rw [rr.length, ← place_ix]; exact hj, q _ lw sw⟩
      | _ => cases hS
    · rename_i kvs e
      split at hS
      · rename_i hc
        cases hS
        simp only [Bool.and_eq_true, decide_eq_true_eq] at hc
        obtain ⟨ws, hH, k1, k2, nd⟩ := so.ob n _ e
        obtain ⟨k, hk, hi⟩ : ∃ k : Key, di = keyD k ∧ i = kV k := by
          cases di <;> first | (cases hc.1; done) | skip
          · cases r2.1; exact ⟨.inl _, rfl, rfl⟩
          · obtain ⟨z, rfl, rfl⟩ := rp_inv r2.1; exact ⟨.inr z, rfl, rfl⟩
        subst hk hi
        have hb := bels_putD r2.2 r3.2 (so.wf n _ e)
        have lw := so.write (n := n) (o := .dct kvs) (o' := .dct (putD (keyD k) dv kvs)) (u := .dK (putK ws k v)) e rfl hb fun w' hw => by
          have kp : Kp H (upd H (φ n) (.dK (putK ws k v))) := Kp.set hw (by rw [hH] at hw; cases hw; trivial)
          obtain ⟨j1, j2, j3, _⟩ := put_rel (k := k) r3.1 k1 k2 nd
          simp only [SO.bel, Bool.and_eq_true] at hb
          exact ⟨putK ws k v, upd_same, j1.mono hb.1 (fun _ _ => rfl) kp, j2.mono hb.2 (fun _ _ => rfl) kp, j3⟩
        have hl : ws.length < sizeLine := by
          have := k2.length
          simp only [List.length_map] at this
          rw [this, sizeLine_eq]; omega
        exact set_dict (by omega) pins s σ H _ _ v ov iv u Q I ro ri rv ⟨φ n, _, rfl, DPut.k hH hl, q _ lw.1 lw.2⟩
      · split at hS
        · rename_i hc
          cases hS
          simp only [Bool.and_eq_true] at hc
          have hk0 : kvs = [] := List.isEmpty_iff.mp hc.2
          subst hk0
          cases (show ov = Value.ref _ from ro)
          exact put_dcn hK hW hu I so ri r2.1 r2.2 rv r3.1 r3.2 hc.1 (by simp) (.inr ⟨e, rfl⟩) fun H' s' I' lw sw => ⟨H', I', q _ lw sw⟩
        · cases hS
    · rename_i kvs e
      split at hS
      · rename_i hc
        cases hS
        simp only [Bool.and_eq_true, decide_eq_true_eq] at hc
        cases (show ov = Value.ref _ from ro)
        exact put_dcn hK hW hu I so ri r2.1 r2.2 rv r3.1 r3.2 hc.1 hc.2 (.inl e) fun H' s' I' lw sw => ⟨H', I', q _ lw sw⟩
      · cases hS
    · cases hS
  | _ => cases hS
/-! ### raise -/
theorem sst_raise0 {k : Nat} (hc : X.calm = true) (tk : L2N.Takes X W) (he : L2N.PMk X e (fun _ H Q => Q (xw.cA k) none H)) (hf : xw.fl k = []) (hn : k < xw.n) : PS X (.Raise (some e) none pos) (tSt w xw C W (.rais k [])) :=
  psI (L2N.ps_raise hc tk he) fun D0 σ H ⟨φ, env, S, m, g⟩ => g φ H σ _ _ Lat.refl m ⟨hn, rfl, rfl, by rw [hf]; rfl, .inl ⟨hf, rfl⟩⟩
theorem sEs.then {φ : Nat → Addr} {S : Store} {H : Hp} {D0 : Ends} {σ : L2.St} {env : Env} {xs : List Exp} {k : List D → Store → Res Pw.Flow} {Q' : List V → Hp → Prop} (m : Sim w.K φ w.ex H S σ env) (h : RgS w xw W φ S H ((evEs C xs env S).st env k) D0)
    (f : ∀ vs ds S1 φ1 H1, ds.length = xs.length → Lat φ φ1 S S1 H H1 → Sim w.K φ1 w.ex H1 S1 σ env → REs w φ1 H1 S1 vs ds → RgS w xw W φ1 S1 H1 (k ds S1) D0 → Q' vs H1) : tEs w xw C W xs σ H Q' := by
  refine ⟨φ, env, S, m, ?_⟩
  cases r : evEs C xs env S with
  | ok ds S' =>
    rw [r] at h
    exact fun b φ' H' l so ra => f b ds S' φ' H' (evEs_len _ _ _ _ _ r) l (m.lat l so) ra (RgS.later (r := k ds S') h l)
  | exc c fs S' =>
    rw [r] at h
    exact fun φ' H' cls dd l so x => h φ' H' σ cls dd l (m.lat l so) x
  | bad =>
    rw [r] at h
    exact h
theorem fld_ints {K : PySem.W.Frag} {φ : Nat → Addr} {ex : Ex1} {H : Hp} : ∀ {ds : List D} {vs : List V}, fldOk ds = true → RpA K φ ex H vs ds → ∃ is : List Int, ds = is.map .int ∧ vs = is.map .int ∧ ∀ i ∈ is, i.natAbs.log2 < 1920
  | [], _, _, .nil => ⟨[], rfl, rfl, fun _ h => by cases h⟩
  | d :: ds, _, h, .cons q r => by
    have h : fldOk (d :: ds) = true := h
    unfold fldOk at h
    rw [List.all_cons, Bool.and_eq_true] at h
    obtain ⟨is, e1, e2, e3⟩ := fld_ints h.2 r
    cases d with
    | int i =>
      cases q
      exact ⟨i :: is, by rw [e1]; rfl, by rw [e2]; rfl, fun j hj => (List.mem_cons.mp hj).elim (fun z => by rw [z]; exact of_decide_eq_true h.1) (e3 j)⟩
    | _ => cases h.1
theorem vI_ints (is : List Int) : (is.map D.int).map vI = is.map V.int := by
  rw [List.map_map]; rfl
theorem sst_raiseA {x : Str} {k : Nat} {A D1 f : Addr} {fd : FuncData} {ps : List Str} (hc : X.calm = true) (tk : L2N.Takes X W) (hA : xw.cA k = .ref A) (hk : k < xw.n) (hf : xw.fl k ≠ []) (T : IniC X.K A D1 f (xw.fl k)) (hps : ps.length = (xw.fl k).length + 1)
    (F1 : FnOk X.prog X.w X.K X.mg X.base (L2N.CX X.prog X.w) 1 f fd ps (spI X.K D1 f (xw.fl k))) (hr : Room 2 X.A) (hb : Binds X.K fd ps []) (hz : (xw.fl k).length ≤ 900)
    (hg : Gl X x) (hm : X.mg x = some (.ref A)) (ha : PA X (e :: es) (tEs w xw C W xs)) (hl : xs.length = (xw.fl k).length) (hdb : okName x = true) (h1 : okX e = true) (h2 : es.all okX = true) :
    PS X (.Raise (some (.Call (.Name x p) (e :: es) [] p2)) none pos) (tSt w xw C W (.rais k xs)) :=
  psI (L2N.ps_raise hc tk (pmk_ini T F1 hr hb tk hg hm ha (okName_ok hdb).1 (star_ok h1) (plainArgs_ok h2))) fun D0 σ H ⟨φ, env, S, m, g⟩ => by
    have g : RgS w xw W φ S H ((evEs C xs env S).st env fun ds S => if fldOk ds then .ok (.ex k ds env) S else .bad) D0 := g
    refine sEs.then m g fun vs ds S1 φ1 H1 hln l1 m1 r1 g => ?_
    by_cases hfo : fldOk ds = true
    · rw [if_pos hfo] at g
      obtain ⟨is, e1, e2, e3⟩ := fld_ints hfo r1.1
      have hlen : is.length = (xw.fl k).length := by rw [← hl, ← hln, e1, List.length_map]
      refine ⟨by rw [e2, List.length_map, hlen]; omega, fun a na => ⟨a, A, is, by rw [e2, List.append_nil], hlen, e3, T, upd_same, fun dx H' h1 h2 h3 h4 h5 => ⟨rfl, dx, _, h3, h4, ?_, ?_⟩⟩⟩
      · rw [upd_ne h2] at h1
        exact h1
      · have hd : H1 dx = none := by rw [upd_ne h2] at h1; exact h1
        have eH : upd (del H' a) dx (.xd ((xw.fl k).zip (is.map V.int)).reverse) = upd H1 dx (.xd ((xw.fl k).zip (is.map V.int)).reverse) := by
          funext b
          by_cases z : b = dx
          · rw [z, upd_same, upd_same]
          · rw [upd_ne z, upd_ne z]
            by_cases y : b = a
            · rw [y, del_same, na]
            · rw [del_ne y, h5 b y z, upd_ne y]
        rw [eH, ← hA]
        refine g φ1 _ σ _ _ (Lat.newT hd) (m1.lat (Lat.newT hd) (m1.o.new hd)) ⟨hk, rfl, hfo, by rw [e1, List.length_map, hlen], .inr ⟨hf, dx, rfl, ?_⟩⟩
        rw [e1, vI_ints]
        exact upd_same
    · rw [if_neg hfo] at g
      exact g.elim
/-! ### try -/
def Wo.at (w : Wo) (a : Addr) (i : Nat) (x : Option (Addr × List (Str × V))) : Wo := { w with ex := (w.ex.1, some (a, i, x)) }
mutual
theorem rp_ex {K : PySem.W.Frag} {φ : Nat → Addr} {ex ex' : Ex1} {H : Hp} : ∀ {v : V} {d : D}, Rp K φ ex H v d → Rp K φ ex' H v d
  | _, _, .non => .non
  | _, _, .bl b => .bl b
  | _, _, .int i => .int i
  | _, _, .str x => .str x
  | _, _, .tup h r => .tup h (rpA_ex r)
  | _, _, .obj m => .obj m
  | _, _, .exc h => h.elim
theorem rpA_ex {K : PySem.W.Frag} {φ : Nat → Addr} {ex ex' : Ex1} {H : Hp} : ∀ {vs : List V} {ds : List D}, RpA K φ ex H vs ds → RpA K φ ex' H vs ds
  | _, _, .nil => .nil
  | _, _, .cons r t => .cons (rp_ex r) (rpA_ex t)
end
theorem ob_ex {K : PySem.W.Frag} {φ : Nat → Addr} {ex ex' : Ex1} (hx : ex'.1 = ex.1) {H : Hp} {a : Addr} {o : SO} (x : ObR K φ ex H a o) : ObR K φ ex' H a o := by
  cases o with
  | lst ds => obtain ⟨vs, e, r⟩ := x; exact ⟨vs, e, rpA_ex r⟩
  | ro ds => obtain ⟨vs, e, r⟩ := x; exact ⟨vs, e, rpA_ex r⟩
  | dct kvs => obtain ⟨ws, e, r1, r2, nd⟩ := x; exact ⟨ws, e, rpA_ex r1, rpA_ex r2, nd⟩
  | dcn kvs => obtain ⟨xs, vs, e, z, r1, rv, r2, kk⟩ := x; exact ⟨xs, vs, by rw [hx]; exact e, z, rpA_ex r1, rv, rpA_ex r2, kk⟩
  | set _ => exact x.elim
  | ins _ _ => exact x.elim
theorem so_ex {K : PySem.W.Frag} {φ : Nat → Addr} {ex ex' : Ex1} {H : Hp} {S : Store} (x : SimO K φ ex H S) (hx : ex'.1 = ex.1) : SimO K φ ex' H S := ⟨fun n o e => ob_ex hx (x.ob n o e), x.wf, x.inj⟩
/-- what the suite is to do with the exception at hand -/
def tsX (w : Wo) (xw : Xw) (C : Ctx) (i : Nat) (suite : List Stm) : Addr → Value → Option Addr → TS := fun a cls dd D0 σ H => ∃ c fs φ env S, XR w xw φ H S c fs cls dd ∧ Sim w.K φ (w.at a i (xdO xw c fs dd)).ex H S σ env ∧ RgS (w.at a i (xdO xw c fs dd)) xw W0 φ S H (evSs { C with exn := some (c, fs) } suite env S) D0
theorem xdO_ok {φ : Nat → Addr} {H : Hp} {S : Store} {c : Nat} {fs : List D} {cls : Value} {dd : Option Addr} (xr : XR w xw φ H S c fs cls dd) {a a' d : Addr} {i j : Nat} {l : List (Str × V)} (e : (w.at a i (xdO xw c fs dd)).ex.2 = some (a', j, some (d, l))) : H d = some (.xd l) := by
  obtain ⟨_, _, _, _, x⟩ := xr
  rcases x with ⟨_, rfl⟩ | ⟨_, d0, rfl, h⟩
  · have e : some (a, i, none) = some (a', j, some (d, l)) := e
    cases e
  · have e : some (a, i, some (d0, ((xw.fl c).zip (fs.map vI)).reverse)) = some (a', j, some (d, l)) := e
    cases e
    exact h
end
end Pw
end
section
set_option Elab.async false
set_option linter.all false
set_option maxRecDepth 100000
set_option maxHeartbeats 2000000
set_option autoImplicit false
/-! Pw18a: while an exception is handled: any(list), isinstance -/
namespace Pw
open PySem PySem.Spec PyProof.Rows L2
section
variable {prog : Program} {wd : World} {A : Around} {E : Value → Shared → Prop} {s : Shared}
/-- a list's iterator at its end, an exception being handled -/
theorem listEndHot {it l x1 : Addr} {i : Nat} {items : Array Value} {Q : Option Value → Shared → Prop} (hot : HotX.HotAt A x1 s.heap) (hx1 : x1 ≠ it) (hit : s.heap.IsListIter it l i) (hl : s.heap.IsList l items) (hx : items[i]? = none)
    (hQ : ∀ h', (∀ b o, b ≠ it → s.heap.get? b = some o → h'.get? b = some o) → Q none { s with heap := h' }) : wpAny (model prog wd) A (pyNext (.ref it)) Q E s := by
  obtain ⟨ob, kob, _, kd⟩ := id hit
  obtain ⟨ol, kol, _, nl, kdl⟩ := hl
  obtain ⟨hh, o1, vs1, e1, d1, c1⟩ := hot
  unfold pyNext
  refine wpAny_bind (wpAny_attempt (wpAny_callSpecial?_slot (name := Str.ofString "__next__") hit.typeIs slot_listiter_next (wpAny_call_entry slot_listiter_next hit.typeIs entry_listiter_next ?_ (args_listiter_next _))))
  (show wpAny _ _ (field (.ref it) 0 >>= _) _ _ s; refine wpAny_bind (wpAny_field kob kd (x := .ref l) rfl ?_))
  (show wpAny _ _ (if (Value.ref l == Value.none) = true then _ else _) _ _ s; rw [if_neg (show ¬ ((Value.ref l == Value.none) = true) from Bool.false_ne_true)])
  (show wpAny _ _ (field (.ref it) 1 >>= _) _ _ s; refine wpAny_bind (wpAny_field kob kd (x := .int i 0) rfl ?_))
  (show wpAny _ _ (seqItems? (.ref l) >>= _) _ _ s; refine wpAny_bind (wpAny_seqItems kol kdl ?_))
  simp only [Int.toNat_natCast, hx]
  refine wpAny_bind (wpAny_rule (wpAny_bind (wpAny_setField kob kd (by simp) ?_)))
  (show wpAny _ _ (newExc (.type "StopIteration") [] >>= _) _ _ _; refine wpAny_bind ?_)
  simp only [newExc, newTuple]
  (refine wpAny_bind (wpAny_newObj_type ?_ (by size_fits)); refine wpAny_bind (m := firstArgMember _ _) (wpAny_of_eq (a := Value.none) (by first | rfl | (simp only [firstArgMember]; rfl)) ?_))
  refine (wpAny_newObj_type ?_ (by size_fits))
  have up : ∀ b o, b ≠ it → s.heap.get? b = some o → (s.heap.update it (Obj.mapFields (·.setIfInBounds 0 .none))).get? b = some o := fun b o hb eb => (Heap.get?_update_other _ _ (Ne.symm hb)).trans eb
  refine HotX.raiseNew_hot (x1 := x1) ⟨hh, o1, vs1, Heap.get?_push_of_some _ (Heap.get?_push_of_some _ ?_), d1, c1⟩ ?_ (Heap.get?_push_size _ rfl) rfl (by first | (simp; done) | (simp; omega) | (simp only [Array.size_append]; simp; omega)) ?_
  · exact up x1 o1 hx1 e1
  · exact Nat.ne_of_lt (Heap.lt_size (Heap.get?_push_of_some _ (up x1 o1 hx1 e1)))
  · refine wpAny_bind (wpAny_isInstance (T := "StopIteration") (b := true) ⟨_, (Heap.get?_update_self _ (Heap.get?_push_size _ rfl) rfl), rfl⟩ isSubtype_stop ?_)
    refine wpAny_pure (hQ _ fun b o hb eb => ?_)
    have kb := up b o hb eb
    exact (Heap.get?_update_other _ _ (Nat.ne_of_gt (Heap.lt_size (Heap.get?_push_of_some _ kb)))).trans (Heap.get?_push_of_some _ (Heap.get?_push_of_some _ kb))
/-- the walk over a list, an exception being handled -/
theorem listWalkHot {x1 I l : Addr} {items : Array Value} (h1 : x1 ≠ I) (hne : l ≠ I) : Walks prog wd A I [I, l, x1] [I] items.size (fun i v => items[i]? = some v) (fun i h => h.IsListIter I l i ∧ h.IsList l items ∧ HotX.HotAt A x1 h) where
  sub := fun b hb => by simp at hb; simp [hb]
  frame := fun i h h' st hk => ⟨st.1.at fun o e => hk I (by simp) o e, st.2.1.at fun o e => hk l (by simp) o e, by
    obtain ⟨a1, o, vs, a2, a3, a4⟩ := st.2.2
    exact ⟨a1, o, vs, hk x1 (by simp) o a2, a3, a4⟩⟩
  item := fun i s Q E hi st hQ => by
    refine wpAny_pyNext_list_item st.1 st.2.1 (x := items[i]) (by simp [hi]) fun h' it2 same => ?_
    refine hQ _ h' s.toks (by simp [hi]) ⟨it2, st.2.1.extBut same.extBut hne, ?_⟩ fun b o hb e => same.extBut b o (fun z => hb (by simp [z])) e
    obtain ⟨a1, o, vs, a2, a3, a4⟩ := st.2.2
    exact ⟨a1, o, vs, same.extBut x1 o h1 a2, a3, a4⟩
  done := fun s Q E st hQ => listEndHot st.2.2 h1 st.1 st.2.1 (by simp) fun h' he => hQ h' s.toks fun b o hb e => he b o (fun z => hb (by simp [z])) e
  self := fun _ _ _ _ st hQ => wpAny_pyIter_listiter st.1 hQ
end
theorem cr_anyHot {X : Cx} (hc : L2H.HotC X) : CallR X (.builtin "any") (rAny X.K) := by
  intro pins s σ H vs us Q I r h
  obtain ⟨a, bs, rfl, hs, q⟩ := h
  obtain ⟨its, rv, hl, _⟩ := I.list hs
  rw [Vals.ref1 r]
  have hb := rv.bls
  obtain ⟨x1, hot⟩ := hc.at I
  have hlt : x1 < s.heap.objs.size := by obtain ⟨_, o, vs, e, _⟩ := hot; exact Heap.lt_size e
  refine call_any_walk (iter_any hl.isList fun s2 e2 st hne => ?_)
  subst e2
  have hot2 : HotX.HotAt X.A.in1 x1 (s.heap.push { cls := .type "list_iterator", data := .fields #[.ref a, .int 0 0] }) := by
    obtain ⟨a1, o, vs, a2, a3, a4⟩ := hot
    exact ⟨a1, o, vs, Heap.get?_push_of_some _ a2, a3, a4⟩
  refine ⟨_, _, _, _, _, _, _, rfl, listWalkHot (A := X.A.in1) (items := its.toArray) (Nat.ne_of_lt hlt) hne, ⟨st.1, st.2, hot2⟩, truth_bools hb, fun h' tk hk => ⟨.bl _, H, I.kept fun b o eo => hk b o (fun hm => ?_) (Heap.get?_push_of_some _ eo), ?_, q⟩⟩
  · rcases List.mem_cons.mp hm with e1 | hm
    · exact absurd (e1 ▸ Heap.lt_size eo) (Nat.lt_irrefl _)
    · cases hm
  · show Value.bool _ = Value.bool _
    rw [← L2.any_range, hb, List.size_toArray, List.length_map]
end Pw
end
section
set_option Elab.async false
set_option linter.all false
set_option maxRecDepth 100000
set_option maxHeartbeats 2000000
set_option autoImplicit false
/-! Pw18b: the exception at hand: isinstance, calls with it -/
namespace Pw
open PySem PySem.Spec PyProof.Rows L2
/-! ### isinstance of an exception that may have its dict -/
section
open PySem.W
variable {prog : Program} {w : World} {A : Around} {E : Value → Shared → Prop} {s : Shared} {K : PySem.W.Frag} {e B : Addr} {oe : Obj} {dx : Option Obj}
theorem find_cls (T : ExcC K B) : findObj K B dx "__class__" = some (.bind (.builtin "getset_descriptor.__get__") (.builtin "object.__class__")) := by
  obtain ⟨cb, hcb, _⟩ := any_some T.hd
  unfold findObj
  rw [hcb, Option.bind_some, T.ha, Option.bind_some]
  simp [T.hn, T.ht]
theorem cls_of_exc {Q : Option Value → Shared → Prop} (T : ExcC K B) (X : K.In s.heap) (I : InstAt s.heap e oe B dx) (h : Q (some (.ref B)) { s with toks := s.toks + 1 }) : wpAny (model prog w) A (getAttr? (.ref e) "__class__") Q E s := by
  obtain ⟨hp, gg, dd, tt, os⟩ := s
  have t0 := I.type (M := model prog w)
  have t1 := looks_findIn (M := model prog w) X T.hg
  have t2 := looks_findIn (M := model prog w) X T.hk
  have t3 := looks_find (M := model prog w) X I (find_cls T)
  have t4 : Looks (model prog w) hp (isInstance (.ref e) (.type "BaseException")) true := t0.andThen (looks_subIn X T.hs)
  have b0 : (false && onTheHeap (Value.builtin "BaseException.__getattribute__")) = false := rfl
  have b1 : (onTheHeap (Value.ref B) && Value.builtin "BaseException.__getattribute__" == Value.builtin "object.__getattribute__") = false := by
    rw [show (Value.builtin "BaseException.__getattribute__" == Value.builtin "object.__getattribute__") = false by decide +kernel]; rfl
  unfold getAttr? getAttrBy? getAttrBy
  refine wpAny_bind (wpAny_mkText (wpAny_bind (wpAny_attempt (wpAny_holding (wpAny_bind (t0.at (wpAny_bind (t1.at ?_))))))))
  show wpAny _ _ (if (onTheHeap (Value.ref B) && Value.builtin "BaseException.__getattribute__" == Value.builtin "object.__getattribute__") = true then _ else _) _ _ _
  rw [b1, if_neg Bool.false_ne_true]
  unfold getAttrByItsOwn hookBefore
  refine wpAny_bind ?_
  rw [if_pos (show onTheHeap (Value.ref B) = true from rfl)]
  refine t2.at (wpAny_bind (wpAny_attempt (wpAny_holding ?_)))
  unfold callGetattribute
  rw [b0, if_neg Bool.false_ne_true]
  unfold boundAndCalled
  rw [PySem.F.excAttr_ValueError.ga.bind (.ref e)]
  refine wpAny_bind (wpAny_pure ?_)
  show wpAny _ _ (call (.builtin "BaseException.__getattribute__") [.ref e, .str "__class__" tt]) _ _ _
  refine wpAny_call (codeAny_call_builtin PySem.F.excAttr_ValueError.ga.plain PySem.F.entry_bexc_ga ?_)
  refine @check_slot (model prog w) _ _ ⟨hp, gg, dd, tt + 1, os⟩ "BaseException.__getattribute__" "BaseException" "__getattribute__" (.ref e) [.str "__class__" tt] [] _ (by decide +kernel) (by decide +kernel) t4 (PySem.F.args_bexc_ga (.ref e) (.str "__class__" tt)) ?_
  unfold Builtin.«object.__getattribute__»
  refine wpAny_bind (wpAny_of_eq (a := ((Value.ref e : Value), [Value.str "__class__" tt])) (by first | rfl | (simp only [slotArgs]; rfl)) ?_)
  refine wpAny_bind (wpAny_pure (wpAny_bind (t0.at (wpAny_bind (t3.at ?_)))))
  show wpAny _ _ (holding [Value.builtin "object.__class__"] (call (.builtin "getset_descriptor.__get__") [.builtin "object.__class__", .ref e, .ref B]) >>= ret) _ _ _
  refine wpAny_bind (wpAny_holding (wpAny_call (class_get (s := ⟨hp, gg, dd, tt + 1, os⟩) (ox := oe) (od := dx) X I T.hm ?_)))
  refine wpAny_pure ?_
  show wpAny _ _ (handedOut (.ref B)) _ _ _
  rw [handedOut_of (v := .ref B) rfl]
  first | exact wpAny_pure (wpAny_pure h) | exact wpAny_pure h | exact wpAny_pure (wpAny_bind (wpAny_pure (wpAny_pure h)))
theorem kitx_e (T : ExcC K B) : KitX K (.ref e) (.ref B) (fun h => InstAt h e oe B dx) := by
  have Z : KitX K (.ref e) (.ref B) (fun h => InstAt h e oe B none) := handS_kitx_exc T.hg T.hk T.hs T.hd T.ha T.hn T.ht T.hm
  refine { ty := fun _ _ _ I => I.type, it := fun _ h X _ => ?_, ne := Z.ne, ca := fun X I k => cls_of_exc T X I k }
  obtain ⟨cb, hcb, _⟩ := any_some T.hd
  unfold clsIn at hcb
  split at hcb
  · rename_i lk
    intro A1 Q1 E1 s1 st q1
    unfold isType loadHead
    exact wpAny_bind (wpAny_loadPart (st _ _ (X _ _ lk)) (wpAny_pure q1))
  · cases hcb
end
section
variable {X : Cx} {a D0 : Addr} {oe : Obj}
/-- isinstance(e, (C1, ..)) -/
def rIsET (K : PySem.W.Frag) (D0 a : Addr) : List V → Hp → VK → Prop := fun xs H Q => ∃ (tp : Addr) (cs : List V) (us : List Value) (b : Bool), xs = [.ref a, .ref tp] ∧ H tp = some (.tup cs) ∧ Paired ClsV cs us ∧ PySem.W.kitAny K (.ref D0) us = some b ∧ Q (.bl b) H
/-- the exception's dict stands -/
def XdAt (dd : Option Addr) (H : Hp) : Prop := ∀ d, dd = some d → ∃ fs, H d = some (.xd fs)
theorem instAt_of {pins : List (Addr × Obj)} {σ : L2.St} {H : Hp} {s : Shared} {dd : Option Addr} (I : Inv X pins σ H s) (hp : (a, oe) ∈ X.pn) (hz : Zc (.ref D0) dd oe) (hf : ∃ vs, oe.data = .fields vs) (hd : XdAt dd H) : ∃ od, PySem.W.InstAt s.heap a oe D0 od := by
  obtain ⟨g, _⟩ := I.pin (a, oe) (List.mem_append_left _ hp)
  obtain ⟨vs, hv⟩ := hf
  obtain ⟨oc, od, oda, osl⟩ := oe
  obtain ⟨z1, z2⟩ := hz
  dsimp only at z1 z2 hv
  subst z1 z2 hv
  cases od with
  | none => exact ⟨none, ⟨g, rfl, rfl, trivial⟩⟩
  | some d =>
    obtain ⟨fs, hx⟩ := hd d rfl
    obtain ⟨mA, ⟨o, es, ep, e1, _⟩, _⟩ := (show ObjOk X.prog X.w H s.heap d (.xd fs) from I.hok d _ hx)
    exact ⟨some o, ⟨g, rfl, rfl, e1⟩⟩
theorem cr_isX {dd : Option Addr} (C : ExcC X.K D0) (hp : (a, oe) ∈ X.pn) (hz : Zc (.ref D0) dd oe) (hf : ∃ vs, oe.data = .fields vs) : CallR X (.builtin "isinstance") (fun xs H Q => XdAt dd H ∧ rIsE X.K D0 a xs H Q) := by
  intro pins s σ H xs us Q I r h
  obtain ⟨hd, c, cv, b, rfl, hcv, e, q⟩ := h
  obtain ⟨od, hI⟩ := instAt_of I hp hz hf hd
  obtain ⟨u1, u2, rfl, r1, r2⟩ := Vals.two r
  cases (show u1 = Value.ref a from r1)
  obtain rfl := hcv _ r2
  exact PySem.W.kia_one (kitx_e C) I.kIn hI e (fun z => nomatch z) fun tk => ⟨.bl b, H, I.tok tk, rfl, q⟩
theorem cr_isXT {dd : Option Addr} (C : ExcC X.K D0) (hp : (a, oe) ∈ X.pn) (hz : Zc (.ref D0) dd oe) (hf : ∃ vs, oe.data = .fields vs) : CallR X (.builtin "isinstance") (fun xs H Q => XdAt dd H ∧ rIsET X.K D0 a xs H Q) := by
  intro pins s σ H xs us Q I r h
  obtain ⟨hd, tp, cs, ws, b, rfl, hT, k, e, q⟩ := h
  obtain ⟨od, hI⟩ := instAt_of I hp hz hf hd
  obtain ⟨u1, u2, rfl, r1, r2⟩ := Vals.two r
  cases (show u1 = Value.ref a from r1)
  cases (show u2 = Value.ref tp from r2)
  obtain ⟨_, its, rv, o, h1, h2, n, h3⟩ := (show ObjOk X.prog X.w H s.heap tp (.tup cs) from I.hok tp _ hT)
  have e3 := ClsV.all k rv
  subst e3
  obtain ⟨oc, od, dt, sl⟩ := o
  simp only at h2 h3
  subst h2 h3
  exact PySem.W.kia_tup (kitx_e C) I.kIn hI h1 e (fun z => nomatch z) fun tk => ⟨.bl b, H, I.tok tk, rfl, q⟩
end
variable {w : Wo} {xw : Xw} {C : Ctx} {W : WX} {X : Cx} {p : Prg}
/-- what is known where an exception is at hand -/
structure Hx (w : Wo) (xw : Xw) (p : Prg) (n : Nat) (C : Ctx) (sl : Option Nat) (X : Cx) : Prop where
  ex : ∃ (a : Addr) (oe : Obj) (i c : Nat) (D0 : Addr) (fs : List D) (dd : Option Addr), w.ex.2 = some (a, i, xdO xw c fs dd) ∧ sl = some i ∧ C.exn = some (c, fs) ∧ c < xw.n ∧ xw.cA c = .ref D0 ∧ (a, oe) ∈ X.pn ∧ L2N.Zn (.ref D0) dd oe ∧ (∃ vs, oe.data = .fields vs) ∧ ExcC X.K D0 ∧
    X.A.handled = some (.ref a) ∧ fldOk fs = true ∧ fs.length = (xw.fl c).length ∧ (dd = none ↔ xw.fl c = []) ∧ ∀ g ∈ xw.fl c, PySem.W.findIn X.K (.ref D0) g = some none
  un : L2H.RoomH n X.A
theorem xdAt_of {φ : Nat → Addr} {H : Hp} {k : Nat} {σ : L2.St} {env : Env} {a : Addr} {i c : Nat} {fs : List D} {dd : Option Addr} (m : SimE w.K φ w.ex H k σ env) (he : w.ex.2 = some (a, i, xdO xw c fs dd)) : XdAt dd H := fun d hd => by
  subst hd
  exact ⟨_, m.xd a i d _ he⟩
theorem xr_of {φ φ' : Nat → Addr} {H : Hp} {k : Nat} {σ : L2.St} {env : Env} {a : Addr} {i c : Nat} {fs : List D} {dd : Option Addr} {w' : Wo} {S : Store} {cls : Value} (m : SimE w.K φ w.ex H k σ env) (he : w.ex.2 = some (a, i, xdO xw c fs dd)) (hc : c < xw.n) (hD : xw.cA c = cls) (h1 : fldOk fs = true) (h2 : fs.length = (xw.fl c).length) (h3 : dd = none ↔ xw.fl c = []) : XR w' xw φ' H S c fs cls dd := by
  refine ⟨hc, hD.symm, h1, h2, ?_⟩
  cases dd with
  | none => exact .inl ⟨h3.mp rfl, rfl⟩
  | some d => exact .inr ⟨fun z => (by cases h3.mpr z), d, rfl, m.xd a i d _ he⟩
theorem Hx.hot {n : Nat} {sl : Option Nat} (h : Hx w xw p n C sl X) : L2H.HotC X := by
  obtain ⟨a, oe, i, c, D0, _, _, _, _, _, _, _, hp, hz, ⟨vs, hv⟩, _, hh, _⟩ := h.ex
  exact ⟨(a, oe), ⟨hh, vs, hv, hz.2.2 vs hv⟩, hp⟩
section
variable {e t : Expr} {x : Exp} {pos q q1 q2 : Pos} {n : Nat} {sl : Option Nat}
/-- the name of the exception -/
theorem pe_exn {i : Nat} {y : Str} (hN : X.N[i]? = some y) (hv : Vis X.env.scope y) (h : okName y = true) : PE X (.Name y pos) (tVar i) := pe_var hN hv (okName_ok h).1 (okName_ok h).2.1
theorem pe_tst {k : Nat} {x : Str} {cv : Value} (h : TstOk xw X.K X.mg p k x cv) (hg : Gl X x) (hn : okName x = true) : ∃ v, PE X (.Name x pos) (tC v) ∧ ClsV v cv := by
  rcases h.nm with ⟨a, rfl, hm⟩ | ⟨T, rfl, hm, hb⟩
  · exact ⟨.ref a, pe_glob hg hm rfl (okName_ok hn).1, .own a⟩
  · exact ⟨.ty T, pe_bltn hg hm hb rfl (okName_ok hn).2.2 (okName_ok hn).1, .ty T⟩
theorem se_isX {i k : Nat} {y x : Str} {cv : Value} (hK : w.K = X.K) (hx : Hx w xw p n C sl X) (hs : sl = some i) (hC : C.Cl = p.Cl) (gl : Gl X "isinstance") (hm : X.mg "isinstance" = none) (hN : X.N[i]? = some y) (hv : Vis X.env.scope y) (hy : okName y = true)
    (ht : TstOk xw X.K X.mg p k x cv) (hg : Gl X x) (hn : okName x = true) : PE X (.Call (.Name "isinstance" q) [.Name y q1, .Name x q2] [] pos) (tE w xw C W (.isX [k])) := by
  obtain ⟨v, hpe, hcv⟩ := pe_tst (pos := q2) ht hg hn
  obtain ⟨a, oe, i', c, D0, fs0, dd, he, hs', hc, hcn, hD, hp, hz, hf, hE, _⟩ := hx.ex
  rw [hs] at hs'
  cases hs'
  refine peI (cb2 (cr_isX hE hp hz.zc hf) gl hm bb_isi (pe_exn hN hv hy) hpe (by decide) rfl rfl) fun σ H Q ⟨φ, env, S, m, g⟩ => ?_
  refine ⟨.ref a, m.e.xs a i _ he, xdAt_of m.e he, v, cv, ?_⟩
  obtain ⟨bs, hb, hk, _⟩ := ht.kit c hcn
  have g : Rg w xw W σ (RE w) φ S H (match C.exn with
    | some (c, _) => (match C.Cl[c]? with
      | some bs => .ok (.bl ([k].any fun k => bs.contains k)) S
      | none => .bad)
    | none => .bad) Q := g
  rw [hc] at g
  dsimp only at g
  rw [hC, hb] at g
  rw [hD] at hk
  refine ⟨bs.contains k, rfl, fun u r => hcv.eq r, hk, ?_⟩
  have g : Rg w xw W σ (RE w) φ S H (.ok (.bl (bs.contains k || false)) S) Q := g
  rw [Bool.or_false] at g
  exact fBl g m.o
theorem se_anyH (hK : w.K = X.K) (hx : Hx w xw p n C sl X) (gl : Gl X "any") (hm : X.mg "any" = none) (ha : PE X e (tE w xw C W x)) (h1 : okX e = true) (cr : CallR X (.builtin "any") (rAny X.K)) : PE X (.Call (.Name "any" q) [e] [] pos) (tE w xw C W (.anyH x)) :=
  peI (cb1 cr gl hm bb_any ha (by decide) h1) fun σ H Q ⟨φ, env, S, m, g⟩ => by
    refine tE.then m g fun v d S1 φ1 H1 l1 m1 r1 g => ?_
    obtain ⟨bs, hb, g2⟩ := g.ofb
    obtain ⟨k, rfl⟩ : ∃ k, d = .obj k := by cases d <;> first | exact ⟨_, rfl⟩ | (cases hb; done)
    simp only [lbls] at hb
    split at hb
    · rename_i ys en
      obtain ⟨vs, h2, r2⟩ := m1.o.ob k _ en
      have e2 := bls_of r2 hb
      subst e2
      cases r1.1
      exact ⟨φ1 k, bs, rfl, SqL.of h2, fBl g2 m1.o⟩
    · cases hb
theorem cx_never {P : Program} {wd : World} {outer : List PySem.Env} {H : Hp} {s s' : Shared} {u : Value} (h : L2N.CX P wd outer H s (fun _ _ _ => False) u s') : False := by
  obtain ⟨_, _, _, _, _, _, _, _, _, _, _, _, z⟩ := h
  exact z
/-- f(e) -/
theorem se_hot {i j : Nat} {y x z : Str} {f : Addr} {fd : FuncData} (hK : w.K = X.K) (hx : Hx w xw p n C sl X) (hs : sl = some i) (hC : ∀ ex, C.Φ ex = den p n ex) (hg : Gl X x) (hn : okName x = true) (hN : X.N[i]? = some y) (hv : Vis X.env.scope y) (hy : okName y = true)
    (hmg : X.mg x = some (.ref f)) (hk : PySem.W.keepIn X.K (.ref f) = true) (F : FnHp X.prog X.w X.K X.mg X.base (L2N.CX X.prog X.w) n f fd [z] (spX ⟨X.K, (w.ex.1, none)⟩ xw p n j)) (hb : Binds X.K fd [z] []) :
    PE X (.Call (.Name x q) [.Name y q1] [] pos) (tE w xw C W (.hot j)) := by
  obtain ⟨a, oe, i', c, D0, fs0, dd, he, hs', hc, hcn, hD, hp, hz, ⟨vs, hvs⟩, hE, hh, hfo, hfl, hdn, _⟩ := hx.ex
  rw [hs] at hs'
  cases hs'
  refine ⟨fun pins s σ H Q I ⟨φ, env, S, m, g⟩ => ?_⟩
  have ha : PA X [.Name y q1] (tCons (tVar i) tNil) := pa_cons (pe_exn hN hv hy) pa_nil rfl
  refine wpAny_Call_Name_kw (ld_glob I hg hmg ?_ (okName_ok hn).1)
  refine PySem.W.callWith_K (h₀ := X.base) I.ok.mod.kin hk (thn (ha.run pos pins s σ H (fun xs H1 => xs = [.ref a] ∧ H1 = H) I ⟨.ref a, m.e.xs a i _ he, rfl, rfl⟩) fun us s1 ⟨xs, H1, I1, r, ex, eH⟩ => ⟨I1.kIn, ?_⟩) rfl rfl
  subst ex eH
  have hl : us.length = 1 := r.length.symm
  have b := hb s1 us I1.kIn (by rw [List.append_nil]; exact hl)
  rw [List.append_nil] at b
  have P1 := I1.pin (a, oe) (List.mem_append_left _ hp)
  have hpin : L2H.PinOk X.stack H1 s1 (a, oe) := ⟨P1.1, P1.2.1, fun hm => (List.mem_cons.mp (I1.stkSub a hm)).elim P1.2.2.1 P1.2.2.2.1, P1.2.2.2.2⟩
  have g : Rg w xw W σ (RE w) φ S H1 (if C.exn.isSome then (match C.Φ C.exn j [] S with
    | .ok d S => .ok d S
    | _ => .bad) else .bad) Q := g
  rw [hc] at g
  have g : Rg w xw W σ (RE w) φ S H1 (match C.Φ (some (c, fs0)) j [] S with
    | .ok d S => .ok d S
    | _ => .bad) Q := g
  rw [hC] at g
  have sp0 : spX ⟨X.K, (w.ex.1, none)⟩ xw p n j a (.ref D0) dd [.ref a] H1 (fun v H' => ∃ φ' S' d, SimO w.K φ' w.ex H' S' ∧ RE w φ' H' S' v d ∧ Q v H') (fun _ _ _ => False) := by
    refine ⟨rfl, c, fs0, φ, S, xr_of m.e he hcn hD hfo hfl hdn, (by have z := so_ex (ex := w.ex) (ex' := (w.ex.1, none)) m.o rfl; rw [hK] at z; exact z), ?_⟩
    cases e : den p n (some (c, fs0)) j [] S with
    | bad => rw [e] at g; exact g
    | exc c' fs S' => rw [e] at g; exact g.elim
    | ok d S' =>
      rw [e] at g
      intro v φ' H' l so rv
      have so' : SimO w.K φ' w.ex H' S' := by rw [hK]; exact so_ex (ex := (w.ex.1, none)) (ex' := w.ex) so rfl
      have rv' : RE w φ' H' S' v d := ⟨hK ▸ rp_ex rv.1, rv.2⟩
      exact ⟨φ', S', d, so', rv', g v φ' H' l so' rv'⟩
  refine wpAny_call (codeAny_mono (F.run X.A X.stack s1 H1 ⟨us, []⟩ us [.ref a] _ _ (a, oe) (.ref D0) dd hx.un ⟨hh, vs, hvs, hz.2.2 vs hvs⟩ hpin hz I1.env0 b r sp0) fun rr s' hq => ?_)
  cases rr with
  | error e => exact (cx_never hq).elim
  | ok fl => cases fl with
    | ret u =>
      obtain ⟨v, H', Iv, rvu, _, _, _, _, _, qv⟩ := I1.after hq
      exact ⟨v, H', Iv, rvu, qv⟩
    | next => exact False.elim hq
    | brk => exact False.elim hq
    | cont => exact False.elim hq
/-- e.f -/
theorem fld_at {c : Nat} {fs : List D} {f : Str} {k : Nat} {d : D} (h1 : fldOk fs = true) (hN : (xw.fl c).Nodup) (hf : (xw.fl c)[k]? = some f) (hd : fs[k]? = some d) : ∃ i : Int, d = .int i ∧ ((xw.fl c).zip (fs.map vI)).reverse.lookup f = some (.int i) := by
  have hm := List.mem_of_getElem? hd
  have := List.all_eq_true.mp h1 d hm
  obtain ⟨i, rfl⟩ : ∃ i, d = .int i := by cases d <;> first | exact ⟨_, rfl⟩ | cases this
  refine ⟨i, rfl, ?_⟩
  have e : (fs.map vI)[k]? = some (.int i) := by rw [List.getElem?_map, hd]; rfl
  generalize xw.fl c = l at hN hf
  generalize fs.map vI = vs at e
  clear hm this h1 hd
  induction l generalizing k vs with
  | nil => cases hf
  | cons x r ih => cases vs with
    | nil => cases e
    | cons v t =>
      rw [List.zip_cons_cons, List.reverse_cons, List.lookup_append]
      cases k with
      | zero =>
        cases hf
        cases e
        have : (r.zip t).reverse.lookup f = none := by
          cases z : (r.zip t).reverse.lookup f with
          | none => rfl
          | some u =>
            have := PySem.mem_of_lookup z
            exact absurd (List.of_mem_zip (List.mem_reverse.mp this)).1 (List.nodup_cons.mp hN).1
        rw [this]
        simp [List.lookup]
      | succ k =>
        rw [ih (List.nodup_cons.mp hN).2 (by simpa using hf) t (by simpa using e)]
        rfl
theorem se_xf {k : Nat} {cs : List Nat} {y f : Str} {i : Nat} (hK : w.K = X.K) (hx : Hx w xw p n C sl X) (hs : sl = some i) (hN : X.N[i]? = some y) (hv : Vis X.env.scope y) (hy : okName y = true) (hfl : ∀ c ∈ cs, c < xw.n → (xw.fl c).Nodup ∧ (xw.fl c)[k]? = some f) (hb : attributeBase (.Name y q) f X.env (eval (.Name y q) X.env) = eval (.Name y q) X.env) :
    PE X (.Attribute (.Name y q) f pos) (tE w xw C W (.xf cs k)) := by
  obtain ⟨a, oe, i', c, D0, fs0, dd, he, hs', hc, hcn, hD, hp, hz, hf, hE, hh, hfo, hl, hdn, hno⟩ := hx.ex
  rw [hs] at hs'
  cases hs'
  refine ⟨fun pins s σ H Q I ⟨φ, env, S, m, g⟩ => ?_⟩
  refine attr_of hb (thn ((pe_exn hN hv hy).run pins s σ H (fun x H1 => x = .ref a ∧ H1 = H) I ⟨.ref a, m.e.xs a i _ he, rfl, rfl⟩) fun u s1 hh => ?_)
  obtain ⟨x, H1, I1, rx, ex, eH⟩ := hh
  subst ex eH
  obtain rfl : u = Value.ref a := rx
  have g : Rg w xw W σ (RE w) φ S H1 (match C.exn with
    | some (c, fs) => if cs.contains c then Res.of fs[k]? S else .bad
    | none => .bad) Q := g
  rw [hc] at g
  obtain ⟨hcs, g⟩ := Rg.ite (c := cs.contains c = true) g
  obtain ⟨h1, h2⟩ := hfl c (by simpa using hcs) hcn
  obtain ⟨d, hd, g⟩ := Rg.of g
  obtain ⟨v, rfl, hlk⟩ := fld_at hfo h1 h2 hd
  cases dd with
  | none =>
    rw [hdn.mp rfl] at h2
    cases h2
  | some dx =>
    have hxd := m.e.xd a i dx _ he
    obtain ⟨ha, _⟩ := I1.pin (a, oe) (List.mem_append_left _ hp)
    obtain ⟨vs, hvs⟩ := hf
    have hx2 : ObjOk X.prog X.w H1 s1.heap dx (.xd ((xw.fl c).zip (fs0.map vI)).reverse) := I1.hok dx _ hxd
    obtain ⟨mA, hns, hr⟩ := hx2
    obtain ⟨od, ho, hlo⟩ := lookIn_ns hns
    obtain ⟨u, hu, ru⟩ := RelO.some_of (v := .int v) (o := mA f) (by rw [← hlk]; exact hr f)
    have J : PySem.W.InstAt s1.heap a oe D0 (some od) := ⟨ha, hz.1, by unfold PySem.W.notCls; rw [hvs] <;> rfl, by rw [hz.2.1]; exact ho⟩
    exact HandSPX.exc_get I1.kIn J hE.hg hE.hk hE.hs (PySem.W.findObj_own hE.hd (hno f (List.mem_of_getElem? h2)) rfl (by rw [hlo, hu])) (handed_of ru) ⟨.int v, H1, I1.tok _, ru, g.fin m.o ⟨.int v, rfl⟩⟩
end
end Pw
end
section
set_option Elab.async false
set_option linter.all false
set_option maxRecDepth 100000
set_option maxHeartbeats 2000000
set_option autoImplicit false
/-! Pw18c: dict displays, the keys of a dict in order -/
namespace Pw
open PySem PySem.Spec PyProof.Rows L2
variable {w : Wo} {xw : Xw} {C : Ctx} {W : WX} {X : Cx} {p : Prg}
def trP (w : Wo) (xw : Xw) (C : Ctx) (W : WX) : List Exp → List (TE × TE)
  | k :: v :: r => (tE w xw C W k, tE w xw C W v) :: trP w xw C W r
  | _ => []
def flatP : List (V × V) → List V
  | [] => []
  | (a, b) :: r => a :: b :: flatP r
theorem pairs_rd {σ : L2.St} : ∀ (es : List Exp) {H : Hp} {Q : List (V × V) → Hp → Prop}, es.length % 2 = 0 → tEs w xw C W es σ H (fun vs H2 => ∀ ps, flatP ps = vs → Q ps H2) → tPairs (trP w xw C W es) σ H Q
  | [], H, Q, _, ⟨φ, env, S, m, g⟩ => Rg.fin (a := ([] : List D)) (b := ([] : List V)) g m.o ⟨.nil, rfl⟩ [] rfl
  | [_], H, Q, h, _ => by simp at h
  | k :: v :: r, H, Q, h, ⟨φ, env, S, m, g⟩ => by
    refine tE.then m g fun a d S1 φ1 H1 l1 m1 r1 g => ?_
    have g : Rg w xw W σ (REs w) φ1 S1 H1 (((evE C v env S1).bind fun x S => (evEs C r env S).bind fun xs S => .ok (x :: xs) S).bind fun xs S => .ok (d :: xs) S) (fun vs H2 => ∀ ps, flatP ps = vs → Q ps H2) := g
    have e : (((evE C v env S1).bind fun x S => (evEs C r env S).bind fun xs S => Res.ok (x :: xs) S).bind fun xs S => Res.ok (d :: xs) S) = (evE C v env S1).bind fun x S => (evEs C r env S).bind fun xs S => .ok (d :: x :: xs) S := by
      cases evE C v env S1 with
      | ok x S => show ((evEs C r env S).bind _).bind _ = (evEs C r env S).bind _; cases evEs C r env S <;> rfl
      | _ => rfl
    rw [e] at g
    refine tE.then m1 g fun b d2 S2 φ2 H2 l2 m2 r2 g => ?_
    refine pairs_rd (Q := fun ps H2 => Q ((a, b) :: ps) H2) r (by simp only [List.length_cons] at h; omega) (tEs.then m2 g fun vs ds S3 φ3 H3 l3 m3 r3 g => fun ps hps => ?_)
    subst hps
    refine Rg.fin (a := d :: d2 :: ds) (b := a :: b :: flatP ps) g m3.o ?_ ((a, b) :: ps) rfl
    exact ⟨.cons (r1.lat (l2.trans l3)).1 (.cons (r2.lat l3).1 r3.1), by
      show (D.bel S3.length d && (D.bel S3.length d2 && D.bels S3.length ds)) = true
      rw [(r1.lat (l2.trans l3)).2, (r2.lat l3).2, r3.2]; rfl⟩
theorem pairsD_rd {K : PySem.W.Frag} {φ : Nat → Addr} {ex : Ex1} {H : Hp} {n : Nat} : ∀ {ds : List D} {ps : List (V × V)} {m : List (D × D)}, RpA K φ ex H (flatP ps) ds → pairsD ds = some m → D.bels n ds = true →
    ∃ kvs : List (Key × V), ps = kvs.map (fun kv => (kV kv.1, kv.2)) ∧ m.map (·.1) = kvs.map (fun kv => keyD kv.1) ∧ RpA K φ ex H (kvs.map (·.2)) (m.map (·.2)) ∧ D.bels n (m.map (·.1)) = true ∧ D.bels n (m.map (·.2)) = true
  | [], [], m, _, h, _ => by cases h; exact ⟨[], rfl, rfl, .nil, rfl, rfl⟩
  | [], _ :: _, m, r, h, _ => by cases r
  | [d], ps, m, r, h, _ => by cases h
  | d :: e :: ds, [], m, r, h, _ => by cases r
  | d :: e :: ds, (a, b) :: ps, m, r, h, hb => by
    cases r with
    | cons q1 r => cases r with
      | cons q2 r =>
        have h : (if isKey d then (pairsD ds).map ((d, e) :: ·) else none) = some m := h
        split at h
        · rename_i hk
          obtain ⟨m', hm, rfl⟩ := Option.map_eq_some_iff.mp h
          simp only [D.bels, Bool.and_eq_true] at hb
          obtain ⟨kvs, e1, e2, e3, e4, e5⟩ := pairsD_rd r hm hb.2.2
          obtain ⟨k, hk1, hk2⟩ : ∃ k : Key, d = keyD k ∧ a = kV k := by
            cases d <;> first | (cases hk; done) | skip
            · cases q1; exact ⟨.inl _, rfl, rfl⟩
            · obtain ⟨z, rfl, rfl⟩ := rp_inv q1; exact ⟨.inr z, rfl, rfl⟩
          subst hk1 hk2 e1
          refine ⟨(k, b) :: kvs, rfl, by simp [e2], .cons q2 e3, ?_, ?_⟩
          · simp only [List.map_cons, D.bels, hb.1, e4, Bool.true_and]
          · simp only [List.map_cons, D.bels, hb.2.1, e5, Bool.true_and]
        · cases h
theorem merge_rel {K : PySem.W.Frag} {φ : Nat → Addr} {ex : Ex1} {H : Hp} {n : Nat} : ∀ {more : List (Key × V)} {m : List (D × D)} {kvs : List (D × D)} {ws : List (Key × V)}, m.map (·.1) = more.map (fun kv => keyD kv.1) → RpA K φ ex H (more.map (·.2)) (m.map (·.2)) →
    D.bels n (m.map (·.1)) = true → D.bels n (m.map (·.2)) = true → (SO.dct kvs).bel n = true →
    RpA K φ ex H (ws.map fun p => kV p.1) (kvs.map (·.1)) → RpA K φ ex H (ws.map (·.2)) (kvs.map (·.2)) → (ws.map (·.1)).Nodup →
    RpA K φ ex H ((mergeK ws more).map fun p => kV p.1) ((m.foldl (fun m p => putD p.1 p.2 m) kvs).map (·.1)) ∧ RpA K φ ex H ((mergeK ws more).map (·.2)) ((m.foldl (fun m p => putD p.1 p.2 m) kvs).map (·.2)) ∧ ((mergeK ws more).map (·.1)).Nodup ∧ (SO.dct (m.foldl (fun m p => putD p.1 p.2 m) kvs)).bel n = true
  | [], [], _, _, _, _, _, _, b, r1, r2, nd => ⟨r1, r2, nd, b⟩
  | [], _ :: _, _, _, e, _, _, _, _, _, _, _ => by simp at e
  | _ :: _, [], _, _, e, _, _, _, _, _, _, _ => by simp at e
  | (k, v) :: more, (dk, dv) :: m, kvs, ws, e, rv, b1, b2, b, r1, r2, nd => by
    simp only [List.map_cons, List.cons.injEq] at e
    obtain ⟨rfl, e⟩ := e
    simp only [List.map_cons, D.bels, Bool.and_eq_true] at b1 b2
    cases rv with
    | cons q rv =>
      obtain ⟨i1, i2, i3, _⟩ := put_rel (k := k) q r1 r2 nd
      exact merge_rel (more := more) (m := m) (kvs := putD (keyD k) dv kvs) (ws := putK ws k v) e rv b1.2 b2.2 (bels_putD b1.1 b2.1 b) i1 i2 i3
theorem dct_rd {es : List Exp} {σ : L2.St} {H : Hp} {Q : VK} (h2 : es.length % 2 = 0) (q : tE w xw C W (.dct es) σ H Q) (pp : Addr) (hp : H pp = none) :
    tPairs (trP w xw C W es) σ (upd H pp (.dK [])) fun ps H2 => H2 pp = some (.dK []) ∧ ∃ kvs : List (Key × V), ps = kvs.map (fun kv => (kV kv.1, kv.2)) ∧ kvs.length ≤ 15 ∧ Q (.ref pp) (upd H2 pp (.dK (mergeK [] kvs))) := by
  obtain ⟨φ, env, S, m, g⟩ := q
  have l0 : Lat φ φ S S H (upd H pp (.dK [])) := Lat.newT hp
  have m0 := m.lat l0 (m.o.new hp)
  have g : Rg w xw W σ (RE w) φ S H ((evEs C es env S).bind fun ds S => (match pairsD ds with
    | some m => if ds.length ≤ 30 then .ok (.obj S.length) (.dct (m.foldl (fun m p => putD p.1 p.2 m) []) :: S) else .bad
    | none => .bad)) Q := g
  refine pairs_rd es h2 ⟨φ, env, S, m0, ?_⟩
  cases e : evEs C es env S with
  | bad => rw [e] at g; exact g
  | exc c fs S' => rw [e] at g; exact fun φ' H' cls dd l so x => g φ' H' cls dd (l0.trans l) so x
  | ok ds S' =>
    rw [e] at g
    intro vs φ' H' l so r ps hps
    subst hps
    have hpp : H' pp = some (.dK []) := l.fr pp _ upd_same fun n hn => m.o.ne hp n hn
    refine ⟨hpp, ?_⟩
    have g : Rg w xw W σ (RE w) φ S H (match pairsD ds with
      | some m => if ds.length ≤ 30 then .ok (.obj S'.length) (.dct (m.foldl (fun m p => putD p.1 p.2 m) []) :: S') else .bad
      | none => .bad) Q := g
    cases em : pairsD ds with
    | none => rw [em] at g; exact g.elim
    | some mm =>
      rw [em] at g
      obtain ⟨h30, g⟩ := Rg.ite (c := ds.length ≤ 30) g
      obtain ⟨kvs, rfl, e2, e3, e4, e5⟩ := pairsD_rd r.1 em r.2
      have hlen : kvs.length ≤ 15 := by
        have h1 := r.1.length
        have h3 : ∀ l : List (Key × V), (flatP (l.map fun kv => (kV kv.1, kv.2))).length = 2 * l.length := fun l => by
          induction l with
          | nil => rfl
          | cons q l ih => simp only [List.map_cons, flatP, List.length_cons, ih]; omega
        rw [h3] at h1
        omega
      refine ⟨kvs, rfl, hlen, ?_⟩
      have hn : ∀ n, n < S'.length → φ' n ≠ pp := fun n hn z => by
        by_cases hs : n < S.length
        · rw [l.same n hs] at z; exact m.o.ne hp n hs z
        · have := l.nw n (by omega) hn
          rw [z, upd_same] at this; cases this
      have kp : Kp H' (upd H' pp (.dK (mergeK [] kvs))) := Kp.set hpp trivial
      obtain ⟨i1, i2, i3, i4⟩ := merge_rel (n := S'.length) (kvs := []) (ws := []) e2 e3 e4 e5 rfl .nil .nil List.nodup_nil
      have so2 : SimO w.K φ' w.ex (upd H' pp (.dK (mergeK [] kvs))) S' := so.heap kp fun n o en _ u eu => by rw [upd_ne (hn n (get_lt en))]; exact eu
      have l2 : Lat φ φ' S S' H (upd H' pp (.dK (mergeK [] kvs))) := by
        have l7 := l0.trans l
        refine ⟨l7.le, l7.same, l7.kp.trans kp, fun a o ha hna => ?_, l7.nw, fun a ha => l7.no a (by
          by_cases z : a = pp
          · rw [z, upd_same] at ha; cases ha
          · rw [upd_ne z] at ha; exact ha)⟩
        have : a ≠ pp := fun z => by rw [z, hp] at ha; cases ha
        rw [upd_ne this]
        exact l7.fr a o ha hna
      have i4' := i4
      simp only [SO.bel, Bool.and_eq_true] at i4'
      obtain ⟨φ3, l3, e6, so3⟩ := so2.adoptO l2 hp (q0 := .dct (mm.foldl (fun m p => putD p.1 p.2 m) [])) ⟨mergeK [] kvs, upd_same, i1.mono i4'.1 (fun _ _ => rfl) kp, i2.mono i4'.2 (fun _ _ => rfl) kp, i3⟩ hn i4
      refine g _ φ3 _ l3 so3 ⟨?_, ?_⟩
      · rw [← e6]; exact .obj _
      · show Nat.blt S'.length (S'.length + 1) = true
        exact Nat.ble_eq_true_of_le (Nat.le_refl _)
end Pw
namespace Pw
open PySem PySem.Spec PyProof.Rows L2
variable {w : Wo} {xw : Xw} {C : Ctx} {W : WX} {X : Cx}
section
variable {e a : Expr} {x : Exp} {es : List Exp} {pos p : Pos}
theorem se_dct0 : PE X (.Dict [] [] pos) (tE w xw C W (.dct [])) := peI pe_dnewK fun σ H Q q pp hp => by
  obtain ⟨_, kvs, e1, _, g⟩ := dct_rd rfl q pp hp
  have : kvs = [] := by
    cases kvs with
    | nil => rfl
    | cons q l => simp at e1
  subst this
  rw [upd_upd] at g
  exact g
theorem se_dct {keys : List (Option Expr)} {vals : List Expr} (h : PPs X pos keys vals (trP w xw C W es)) (h2 : es.length % 2 = 0) (hall : keys.all (·.isSome) = true) (hl : keys.length = vals.length) (h0 : keys ≠ []) (h15 : keys.length ≤ 15) : PE X (.Dict keys vals pos) (tE w xw C W (.dct es)) :=
  peI (pe_disp h hall hl h0 h15) fun σ H Q q pp hp => dct_rd h2 q pp hp
/-- the keys of a dict -/
theorem keys_of {φ : Nat → Addr} {H : Hp} : ∀ {kvs : List (D × D)} {ws : List (Key × V)}, RpA w.K φ w.ex H (ws.map fun p => kV p.1) (kvs.map (·.1)) → kvs.map (·.1) = ws.map fun p => keyD p.1
  | [], [], _ => rfl
  | [], _ :: _, r => by cases r
  | _ :: _, [], r => by cases r
  | (a, b) :: r, (k, v) :: t, h => by
    cases h with
    | cons q h =>
      simp only [List.map_cons]
      have q' : a = keyD k := rp_key q
      rw [keys_of h, q']
theorem strs_keys : ∀ {ks : List Key} {ts : List (List Nat)}, strsD (ks.map keyD) = some ts → ∃ ys : List Str, ks = ys.map Sum.inr ∧ ts = ys.map fun y => y.cps.toList
  | [], _, h => by cases h; exact ⟨[], rfl, rfl⟩
  | .inl i :: ks, _, h => by cases h
  | .inr y :: ks, ts, h => by
    obtain ⟨ts', h1, rfl⟩ := Option.map_eq_some_iff.mp (show (strsD (ks.map keyD)).map (y.cps.toList :: ·) = some ts from h)
    obtain ⟨ys, rfl, rfl⟩ := strs_keys h1
    exact ⟨y :: ys, rfl, rfl⟩
theorem ints_keys : ∀ {ks : List Key} {ns : List Int}, intsD (ks.map keyD) = some ns → ks = ns.map Sum.inl
  | [], _, h => by cases h; rfl
  | .inr i :: ks, _, h => by cases h
  | .inl y :: ks, ns, h => by
    obtain ⟨ns', h1, rfl⟩ := Option.map_eq_some_iff.mp (show (intsD (ks.map keyD)).map (y :: ·) = some ns from h)
    rw [ints_keys h1]; rfl
theorem se_sortedK (hK : w.K = X.K) (hc : X.calm = true) (gl : Gl X "sorted") (hm : X.mg "sorted" = none) (ha : PE X a (tE w xw C W x)) (h1 : okX a = true) : PE X (.Call (.Name "sorted" p) [a] [] pos) (tE w xw C W (.sorted (.keys x))) :=
  peI (cb1 (r := fun xs H Q => (∃ (a : Addr) (kvs : List (Key × V)) (ks : List Str), xs = [.ref a] ∧ Rd H a (.dK kvs) ∧ kvs.map (·.1) = ks.map Sum.inr ∧ ks.length < 64 ∧ ∀ ys p, ys.Perm ks → sortedS ys = true → H p = none → Q (.ref p) (upd H p (.lst (ys.map V.str)))) ∨
    (∃ (a : Addr) (kvs : List (Key × V)) (ks : List Int), xs = [.ref a] ∧ Rd H a (.dK kvs) ∧ kvs.map (·.1) = ks.map Sum.inl ∧ ks.length < 64 ∧ ∀ (ys : List Int) (p : Addr), ys.Perm ks → ys.Pairwise (· ≤ ·) → H p = none → Q (.ref p) (upd H p (.lst (ys.map V.int)))))
    (fun pins s σ H xs us Q I r h => h.elim (call_sortedD hc pins s σ H xs us Q I r) (call_sortedDI hc pins s σ H xs us Q I r)) gl hm bb_sorted ha (by decide) h1) fun σ H Q ⟨φ, env, S, m, g⟩ => by
    have g : Rg w xw W σ (RE w) φ S H (((evE C x env S).bind fun x S => Res.of ((keysD x S).map fun xs => (xs, (none : Option Nat))) S).bind fun p S => (match sortD p.1 with
      | some ys => .ok (.obj S.length) (.lst ys :: S)
      | none => .bad)) Q := g
    have e : (((evE C x env S).bind fun x S => Res.of ((keysD x S).map fun xs => (xs, (none : Option Nat))) S).bind fun p S => (match sortD p.1 with
      | some ys => Res.ok (D.obj S.length) (.lst ys :: S)
      | none => .bad)) = (evE C x env S).bind fun x S => (Res.of ((keysD x S).map fun xs => (xs, (none : Option Nat))) S).bind fun p S => (match sortD p.1 with
      | some ys => .ok (.obj S.length) (.lst ys :: S)
      | none => .bad) := by cases evE C x env S <;> rfl
    rw [e] at g
    refine tE.then m g fun v d S1 φ1 H1 l1 m1 r1 g => ?_
    obtain ⟨q, hq, g2⟩ := g.ofb
    obtain ⟨ds, hd, rfl⟩ := Option.map_eq_some_iff.mp hq
    obtain ⟨k, rfl⟩ : ∃ k, d = .obj k := by cases d <;> first | exact ⟨_, rfl⟩ | (cases hd; done)
    simp only [keysD] at hd
    split at hd
    · rename_i kvs en
      split at hd
      · rename_i h64
        cases hd
        obtain ⟨ws, hH, k1, k2, nd⟩ := m1.o.ob k _ en
        cases r1.1
        have ek := keys_of k1
        have hlw : ws.length = kvs.length := by have := k2.length; simpa using this
        dsimp only at g2
        rw [ek] at g2
        have ek2 : (ws.map fun p => keyD p.1) = (ws.map (·.1)).map keyD := by rw [List.map_map]; rfl
        rw [ek2] at g2
        cases ei : intsD ((ws.map (·.1)).map keyD) with
        | some ns =>
          have es : sortD ((ws.map (·.1)).map keyD) = some ((ns.mergeSort fun a b => decide (a ≤ b)).map .int) := by unfold sortD; rw [ei]
          rw [es] at g2
          have hk := ints_keys ei
          have hl : ns.length < 64 := by have := congrArg List.length hk; simp only [List.length_map] at this; omega
          refine .inr ⟨φ1 k, ws, ns, rfl, .inl hH, hk, hl, fun ns' p h2 h3 hp => ?_⟩
          rw [sort_ints h2 h3]
          refine Rg0.lst g2.g0 m1.o ?_ (bels_map fun _ => rfl) hp
          generalize (ns.mergeSort fun a b => decide (a ≤ b)) = l
          induction l with
          | nil => exact .nil
          | cons n l ih => exact .cons (.int _) ih
        | none => cases e2 : strsD ((ws.map (·.1)).map keyD) with
          | none =>
            have es : sortD ((ws.map (·.1)).map keyD) = none := by
              unfold sortD; rw [ei, e2]; dsimp only
              cases hq : ws.map (·.1) with
              | nil => rw [hq] at ei; cases ei
              | cons k r => cases k <;> simp [neT, keyD]
            rw [es] at g2
            exact g2.elim
          | some ts =>
            obtain ⟨ys, hk, rfl⟩ := strs_keys e2
            have hl : ys.length < 64 := by have := congrArg List.length hk; simp only [List.length_map] at this; omega
            have es : sortD ((ws.map (·.1)).map keyD) = some (((ys.map fun y => y.cps.toList).mergeSort leL).map .str) := by unfold sortD; rw [ei, e2]
            rw [es] at g2
            refine .inl ⟨φ1 k, ws, ys, rfl, .inl hH, hk, hl, fun ys' p h2 h3 hp => ?_⟩
            rw [← sort_strs h2 h3] at g2
            refine Rg0.lst g2.g0 m1.o ?_ (bels_map fun _ => rfl) hp
            rw [List.map_map]
            clear g2 h2 h3 g e
            induction ys' with
            | nil => exact .nil
            | cons n l ih => exact .cons (.str _) ih
      · cases hd
    · cases hd
end
end Pw
end
section
set_option Elab.async false
set_option linter.all false
set_option maxRecDepth 100000
set_option maxHeartbeats 2000000
set_option autoImplicit false
/-! Pw18d: x[::-1] -/
namespace Pw
open PySem PySem.Spec PyProof.Rows L2
section
variable {prog : Program} {wd : World} {A : Around} {E : Value → Shared → Prop} {s : Shared}
theorem places_down (n : Nat) : Builtin.Slice.slicePlaces ((n : Int) - 1) (-1) (-1) = n := by
  unfold Builtin.Slice.slicePlaces
  have h1 : ¬ ((-1 : Int) > 0) := by omega
  simp only [h1, if_false, show (- -1 : Int) = 1 by decide, Int.ediv_one]
  split <;> omega
theorem pick_down (xs : Array Value) : ((List.range xs.size).filterMap fun (k : Nat) => xs[(((xs.size : Int) - 1) + (k : Int) * (-1)).toNat]?).toArray = xs.toList.reverse.toArray := by
  have e : ((List.range xs.size).filterMap fun (k : Nat) => xs[(((xs.size : Int) - 1) + (k : Int) * (-1)).toNat]?) = ((List.range xs.size).map fun k => xs.size - 1 - k).filterMap (xs[·]?) := by
    rw [List.filterMap_map]
    have key : ∀ l : List Nat, (∀ k ∈ l, k < xs.size) → (l.filterMap fun (k : Nat) => xs[(((xs.size : Int) - 1) + (k : Int) * (-1)).toNat]?) = l.filterMap ((xs[·]?) ∘ fun k => xs.size - 1 - k) := fun l => by
      induction l with
      | nil => intro _; rfl
      | cons a l ih =>
        intro hl
        have ha := hl a List.mem_cons_self
        have e1 : (((xs.size : Int) - 1) + (a : Int) * (-1)).toNat = xs.size - 1 - a := by omega
        rw [List.filterMap_cons, List.filterMap_cons, ih fun k hk => hl k (List.mem_cons_of_mem _ hk), e1]
        rfl
    exact key _ fun k hk => List.mem_range.mp hk
  rw [e, PySem.W.krv_range, List.filterMap_reverse, PySem.W.krv_all]
theorem tuple_rev {t sl : Addr} {items : Array Value} {vl vu vs : Value} {Q : Value → Shared → Prop} (ht : IsTup s.heap t items) (hs : s.heap.IsSliceOf sl vl vu vs) (pl : IsPart vl none) (pu : IsPart vu none) (ps : IsPart vs (some (-1)))
    (h : Q (.ref s.heap.objs.size) { s with heap := s.heap.push { cls := .type "tuple", data := .seq items.toList.reverse.toArray } }) (hsz : items.size ≤ sizeLine) : wpAny (model prog wd) A (getItem (.ref t) (.ref sl)) Q E s := by
  have hok : sizeOk (.seq items.toList.reverse.toArray) := by
    show items.toList.reverse.toArray.size ≤ sizeLine
    simpa using hsz
  obtain ⟨os, k1, k2, k3⟩ := id hs
  have hT : s.TypeIs (.ref sl) "slice" := ⟨os, k1, k2⟩
  unfold getItem
  try with_reducible refine wpAny_holding ?_
  first | refine wpAny_bind (wpAny_pure ?_) | skip
  refine wpAny_bind (wpAny_sequenceKey ht.typeIs (by decide) (wpAny_bind (wpAny_callSpecial?_slot (name := Str.ofString "__getitem__") ht.typeIs PyProof.Rows.slot_tuple_getitem (wpAny_call_entry PyProof.Rows.slot_tuple_getitem ht.typeIs entry_tuple_getitem ?_ (args_tuple_getitem _ _)))))
  (show wpAny _ _ (Builtin.Tuple.tupleItemsOf (.ref t) >>= _) _ _ s; refine wpAny_bind (tupleItemsOf_ ht (wpAny_bind (wpAny_typeOf hT ?_))))
  rw [if_pos (by decide)]
  have app : ∀ {R : Int × Int × Nat → Shared → Prop}, R ((items.size : Int) - 1, -1, items.size) s → wpAny (model prog wd) A.in1 (Builtin.Slice.sliceApplied (.ref sl) (pure (items.size : Int))) R E s := fun {R} hR => by
    unfold Builtin.Slice.sliceApplied Builtin.Slice.sliceFields
    refine wpAny_bind (wpAny_bind (wpAny_field k1 k3 (x := vl) rfl (wpAny_bind (wpAny_field k1 k3 (x := vu) rfl (wpAny_bind (wpAny_field k1 k3 (x := vs) rfl (wpAny_pure ?_)))))))
    refine wpAny_bind (HT.slicePart_ ps ?_)
    (show wpAny _ _ (if ((-1 : Int) == 0) = true then _ else _) _ _ s; rw [if_neg (by decide)])
    refine wpAny_bind (HT.slicePart_ pl (wpAny_bind (HT.slicePart_ pu (wpAny_bind (wpAny_pure ?_)))))
    show wpAny _ _ (pure ((items.size : Int) - 1, (-1 : Int), Builtin.Slice.slicePlaces ((items.size : Int) - 1) (-1) (-1))) _ _ s
    rw [places_down]
    exact wpAny_pure hR
  refine wpAny_bind (app ?_)
  have hno : ¬ ((((items.size : Int) - 1) == 0 && (-1 : Int) == 1 && items.size == items.size) = true) := by simp
  show wpAny _ _ (if (((items.size : Int) - 1) == 0 && (-1 : Int) == 1 && items.size == items.size) = true then _ else _) _ _ s
  rw [if_neg hno, pick_down]
  first
    | exact wpAny_bind (m := Builtin.Tuple.tupleExact _) (wpAny_newObj_type (wpAny_pure ⟨_, rfl, wpAny_pure h⟩) hok)
    | exact wpAny_bind (wpAny_newObj_type (wpAny_pure ⟨_, rfl, wpAny_pure h⟩) hok)
end
end Pw
namespace Pw
open PySem PySem.Spec PyProof.Rows L2
variable {w : Wo} {xw : Xw} {C : Ctx} {W : WX} {X : Cx}
/-- x[::-1] of a list, a tuple -/
def tRev (K : PySem.W.Frag) (te : TE) : TE := fun σ H Q => te σ H fun x H1 => ∃ a xs, x = .ref a ∧ ((SqL K H1 a xs ∧ ∀ p, H1 p = none → Q (.ref p) (upd H1 p (.lst xs.reverse))) ∨ (SqT K H1 a xs ∧ ∀ p, H1 p = none → Q (.ref p) (upd H1 p (.tup xs.reverse))))
theorem pe_rev2 {e : Expr} {te : TE} {k : Nat} {p1 p2 p3 pos : Pos} (he : PE X e te) : PE X (.Subscript e (.Slice none none (some (.UnaryOp .USub (.Constant (.int 1) k p1) p2)) p3) pos) (tRev X.K te) := by
  refine ⟨fun pins s σ H Q I h => Subscript_ (thn (he.run pins s σ H _ I h) fun v s1 ⟨x, H1, I1, r1, a, xs, ex, hq⟩ => ?_)⟩
  subst ex
  cases r1
  have step : PO X (some (.UnaryOp .USub (.Constant (.int 1) k p1) p2)) (tPart (tUn (rU fun i => .int (-i)) (tC (.int 1)))) := po_some (pe_un un_neg pe_int)
  refine wpAny_Slice (thn (po_none.run pins s1 σ H1 (fun o H2 => o = none ∧ H2 = H1) I1 ⟨rfl, rfl⟩) fun vl s2 ⟨l, H2, I2, pl, e1, e2⟩ => ?_)
  subst e1 e2
  refine thn (po_none.run pins s2 σ H2 (fun o H3 => o = none ∧ H3 = H2) I2 ⟨rfl, rfl⟩) fun vu s3 ⟨u, H3, I3, pu, e1, e3⟩ => ?_
  subst e1 e3
  refine thn (step.run pins s3 σ H3 (fun o H4 => o = some (-1) ∧ H4 = H3) I3 ⟨1, rfl, -1, rfl, rfl, rfl⟩) fun vs s4 ⟨o, H4, I4, ps, e1, e4⟩ => ?_
  subst e1 e4
  have J : Inv X pins σ H4 { s4 with heap := s4.heap.push { cls := .type "slice", data := .fields #[vl, vu, vs] } } := I4.kept (t' := s4.toks) fun b ob q => Heap.get?_push_of_some _ q
  rcases hq with ⟨hx, q⟩ | ⟨hx, q⟩
  · obtain ⟨its, r, ht, hz⟩ := J.list hx
    have hlen := r.length
    refine tail_any (ops := [.ref a, .ref s4.heap.objs.size]) ht.isList.typeIs (PySem.slot_list_getitem.lookup) (wpAny_getItem_list_slice ht.isList (Heap.IsSliceOf.new _ vl vu vs) pl pu ps (by decide) ?_ (by rw [List.size_toArray]; omega)) (by with_unfolding_all rfl)
    rw [PySem.W.krv_pick]
    exact ⟨.ref _, _, J.laid (t' := s4.toks) (o := .lst xs.reverse) (fun b ob q => Heap.get?_push_of_some _ q) (Nat.le_refl _) ⟨by rw [List.length_reverse]; exact hz, _, 0, r.reverse, Heap.get?_push_size _ rfl⟩, rfl, q _ (J.hok.fresh (Nat.le_refl _))⟩
  · obtain ⟨its, r, ht, hz⟩ := J.tuple hx
    have hlen := r.length
    refine tail_any (ops := [.ref a, .ref s4.heap.objs.size]) ht.typeIs (PyProof.Rows.slot_tuple_getitem.lookup) (tuple_rev ht (Heap.IsSliceOf.new _ vl vu vs) pl pu ps ?_ (by rw [List.size_toArray]; omega)) (by with_unfolding_all rfl)
    exact ⟨.ref _, _, J.laid (t' := s4.toks) (o := .tup xs.reverse) (fun b ob q => Heap.get?_push_of_some _ q) (Nat.le_refl _) ⟨by rw [List.length_reverse]; exact hz, _, r.reverse, ⟨_, Heap.get?_push_size _ rfl, rfl, _, rfl⟩⟩, rfl, q _ (J.hok.fresh (Nat.le_refl _))⟩
theorem RpA.rev {K : PySem.W.Frag} {φ : Nat → Addr} {ex : Ex1} {H : Hp} {vs : List V} {ds : List D} (r : RpA K φ ex H vs ds) : RpA K φ ex H vs.reverse ds.reverse := r.reverse
theorem se_rev {e : Expr} {x : Exp} {k : Nat} {p1 p2 p3 pos : Pos} (hK : w.K = X.K) (he : PE X e (tE w xw C W x)) : PE X (.Subscript e (.Slice none none (some (.UnaryOp .USub (.Constant (.int 1) k p1) p2)) p3) pos) (tE w xw C W (.rev x)) :=
  peI (pe_rev2 he) fun σ H Q ⟨φ, env, S, m, g⟩ => by
    refine tE.then m g fun v d S1 φ1 H1 l1 m1 r1 g => ?_
    obtain ⟨r1, b1⟩ := r1
    cases d with
    | tup ds =>
      have hb : D.bels S1.length ds = true := by simpa [D.bel] using b1
      cases r1 with
      | tup h1 rr =>
        refine ⟨_, _, rfl, .inr ⟨hK ▸ h1, fun p hp => ?_⟩⟩
        exact Rg0.tup g.g0 m1.o rr.reverse (bels_all.mpr fun d hd => bels_all.mp hb d (List.mem_reverse.mp hd)) hp
    | obj n =>
      have g2 : Rg w xw W σ (RE w) φ1 S1 H1 (match get S1 n with
        | some (.lst xs) => .ok (.obj S1.length) (.lst xs.reverse :: S1)
        | _ => .bad) Q := g
      cases r1
      split at g2
      · rename_i xs en
        obtain ⟨vs, h1, rr⟩ := m1.o.ob n _ en
        have hb : D.bels S1.length xs = true := m1.o.wf n _ en
        refine ⟨_, vs, rfl, .inl ⟨SqL.of h1, fun p hp => ?_⟩⟩
        exact Rg0.lst g2.g0 m1.o rr.reverse (bels_all.mpr fun d hd => bels_all.mp hb d (List.mem_reverse.mp hd)) hp
      · exact g2.elim
    | _ => exact g.elim
end Pw
end
section
set_option Elab.async false
set_option linter.all false
set_option maxRecDepth 100000
set_option maxHeartbeats 2000000
set_option autoImplicit false
/-! Pw18e: comprehensions of two clauses -/
namespace Pw
open PySem PySem.Spec PyProof.Rows L2
variable {w : Wo} {xw : Xw} {C : Ctx} {W : WX} {X : Cx}
/-- the list that grows: where it stands, what it holds -/
structure Acc (w : Wo) (φ1 : Nat → Addr) (S1 : Store) (H1 : Hp) (Lp : Addr) (φ2 : Nat → Addr) (S2 : Store) (H2 : Hp) (vs : List V) (acc : List D) : Prop where
  lat : Lat φ1 φ2 S1 S2 H1 H2
  so : SimO w.K φ2 w.ex H2 S2
  at_ : H2 Lp = some (.lst vs)
  ra : RpA w.K φ2 w.ex H2 vs acc
  ba : D.bels S2.length acc = true
  ne : ∀ n, n < S2.length → φ2 n ≠ Lp
section
variable {φ1 φ2 φ3 : Nat → Addr} {S1 S2 S3 : Store} {H1 H2 H3 : Hp} {Lp : Addr} {vs : List V} {acc : List D}
theorem Acc.step (a : Acc w φ1 S1 H1 Lp φ2 S2 H2 vs acc) (l : Lat φ2 φ3 S2 S3 H2 H3) (so : SimO w.K φ3 w.ex H3 S3) : Acc w φ1 S1 H1 Lp φ3 S3 H3 vs acc :=
  ⟨a.lat.trans l, so, l.fr Lp _ a.at_ a.ne, a.ra.lat a.ba l, bels_lat a.ba l, fun n hn' z => by
    by_cases hs : n < S2.length
    · rw [l.same n hs] at z; exact a.ne n hs z
    · have := l.nw n (by omega) hn'
      rw [z, a.at_] at this; cases this⟩
theorem Acc.add (a : Acc w φ1 S1 H1 Lp φ2 S2 H2 vs acc) (hD : H1 Lp = none) {yv : V} {y : D} (ry : RE w φ2 H2 S2 yv y) : Acc w φ1 S1 H1 Lp φ2 S2 (upd H2 Lp (.lst (vs ++ [yv]))) (vs ++ [yv]) (acc ++ [y]) := by
  have kp : Kp H2 (upd H2 Lp (.lst (vs ++ [yv]))) := Kp.set a.at_ trivial
  have l7 := a.lat
  have hb : D.bels S2.length (acc ++ [y]) = true := bels_all.mpr fun d hd => (List.mem_append.mp hd).elim (bels_all.mp a.ba d) (fun z => by rw [List.mem_singleton.mp z]; exact ry.2)
  refine ⟨⟨l7.le, l7.same, l7.kp.trans kp, fun b o ha2 hna => ?_, l7.nw, fun b ha2 => l7.no b (by
    by_cases z : b = Lp
    · rw [z, upd_same] at ha2; cases ha2
    · rw [upd_ne z] at ha2; exact ha2)⟩, a.so.heap kp fun n o en _ u eu => ?_, upd_same, (a.ra.append (.cons ry.1 .nil)).mono (n := S2.length) hb (fun _ _ => rfl) kp, hb, a.ne⟩
  · have : b ≠ Lp := fun z => by rw [z, hD] at ha2; cases ha2
    rw [upd_ne this]
    exact l7.fr b o ha2 hna
  · rw [upd_ne (a.ne n (get_lt en))]
    exact eu
end
theorem LatW.refl {φ : Nat → Addr} {S : Store} {H : Hp} : LatW φ φ S S H H := ⟨Nat.le_refl _, fun _ _ => rfl, Kp.refl⟩
theorem LatW.trans {φ φ1 φ' : Nat → Addr} {S S1 S' : Store} {H H1 H' : Hp} (a : LatW φ φ1 S S1 H H1) (b : LatW φ1 φ' S1 S' H1 H') : LatW φ φ' S S' H H' := ⟨Nat.le_trans a.le b.le, fun m hm => (b.same m (Nat.lt_of_lt_of_le hm a.le)).trans (a.same m hm), a.kp.trans b.kp⟩
theorem SimE.latW {K : PySem.W.Frag} {φ φ' : Nat → Addr} {ex : Ex1} {S S' : Store} {H H' : Hp} {σ : L2.St} {env : Env} (e : SimE K φ ex H S.length σ env) (l : LatW φ φ' S S' H H') : SimE K φ' ex H' S'.length σ env :=
  ⟨e.len, fun i d h => let ⟨v, h1, h2, h3⟩ := e.at_ i d h; ⟨v, h1, h2.mono h3 l.same l.kp, D.bel_mono l.le d h3⟩, e.xs, fun a i d fs h => l.kp.xd _ _ (e.xd a i d fs h)⟩
theorem Same.mono {is js : List Nat} {σ σ' : L2.St} (h : Same is σ σ') (k : ∀ i ∈ is, i ∈ js) : Same js σ σ' := ⟨h.1, fun i hi => h.2 i fun z => hi (k i z)⟩
/-- one inner turn -/
def compF1 (C : Ctx) (e : Exp) (t1 : Tg) (ifs1 : List Tst) (env : Env) (x : D) (S : Store) : Res (Option D) := match bind1 t1 x (kill t1.ix env) with
  | some env => (match evTs C ifs1 env S with
    | .ok true S => (match evE C e env S with
      | .ok y S => .ok (some y) S
      | _ => .bad)
    | .ok false S => .ok none S
    | _ => .bad)
  | none => .bad
/-- one outer turn -/
def compF2 (C : Ctx) (e : Exp) (t : Tg) (ifs : List Tst) (t1 : Tg) (l1 : Src) (ifs1 : List Tst) (env : Env) (x : D) (S : Store) : Res (List D) := match bind1 t x (kill (t.ix ++ t1.ix) env) with
  | some env => (match evTs C ifs env S with
    | .ok true S => (match evL C l1 env S with
      | .ok p1 S => if p1.1.length ≤ line then compL (compF1 C e t1 ifs1 env) (stands p1.2 (obAt p1.2 S)) p1.1 S else .bad
      | _ => .bad)
    | .ok false S => .ok [] S
    | _ => .bad)
  | none => .bad
def comp2K (acc : List D) (ys : List D) (S : Store) : Res (List D × Option Nat) := if (acc ++ ys).length ≤ line then .ok (acc ++ ys, none) S else .bad
/-- a comprehension's own walks raise nothing -/
theorem compL_noX {f : D → Store → Res (Option D)} {g : Store → Bool} : ∀ (xs : List D) (S : Store) {c fs S'}, compL f g xs S ≠ .exc c fs S'
  | [], S, c, fs, S', h => by
    simp only [compL] at h
    split at h <;> cases h
  | x :: r, S, c, fs, S', h => by
    simp only [compL] at h
    split at h
    · split at h
      · cases hr : compL f g r (by assumption) with
        | ok ys S2 => rw [hr] at h; cases h
        | exc c2 fs2 S2 => exact compL_noX r _ hr
        | bad => rw [hr] at h; cases h
      · cases h
    · cases h
theorem compL2_noX {f : D → Store → Res (List D)} {g : Store → Bool} : ∀ (xs : List D) (S : Store) {c fs S'}, compL2 f g xs S ≠ .exc c fs S'
  | [], S, c, fs, S', h => by
    simp only [compL2] at h
    split at h <;> cases h
  | x :: r, S, c, fs, S', h => by
    simp only [compL2] at h
    split at h
    · split at h
      · cases hr : compL2 f g r (by assumption) with
        | ok ys S2 => rw [hr] at h; cases h
        | exc c2 fs2 S2 => exact compL2_noX r _ hr
        | bad => rw [hr] at h; cases h
      · cases h
    · cases h
theorem comp2_rd {e : Exp} {t : Tg} {l : Src} {ts : List Tst} {t1 : Tg} {l1 : Src} {ts1 : List Tst} (hx : w.ex.2 = none) {σ : L2.St} {H : Hp} {Q : VK} (q : tN w xw C W (.comp2 e t l ts t1 l1 ts1) σ H Q) :
    tLc2 (tI w xw C W l) (gT w t) (tTs w xw C W0 ts) (tI w xw C W0 l1) (gT w t1) (tTs w xw C W0 ts1) (tE w xw C W0 e) (t.ix ++ t1.ix) t1.ix σ H Q := by
  obtain ⟨φ, env, S, m, g⟩ := q
  refine ⟨φ, env, S, m, ?_⟩
  have g : Rg w xw W σ (RN w H) φ S H ((evL C l env S).bind fun p S => if p.1.length ≤ line then (compL2 (compF2 C e t ts t1 l1 ts1 env) (stands p.2 (obAt p.2 S)) p.1 S).bind fun ys S => comp2K [] ys S else .bad) Q := g
  cases ev : evL C l env S with
  | bad => rw [ev] at g; exact g.elim
  | exc c fs S' => rw [ev] at g; exact g
  | ok p S1 =>
    rw [ev] at g
    intro J φ1 H1 l1' so1 r1 Lp hD
    have g : Rg w xw W σ (RN w H) φ S H (if p.1.length ≤ line then (compL2 (compF2 C e t ts t1 l1 ts1 env) (stands p.2 (obAt p.2 S1)) p.1 S1).bind fun ys S => comp2K [] ys S else .bad) Q := g
    obtain ⟨hl, g⟩ := Rg.ite g
    obtain ⟨b1, it⟩ := r1
    generalize hgd : stands p.2 (obAt p.2 S1) = gd at g it
    generalize hds : p.1 = ds at g it b1 hl
    refine ⟨fun i mm H' => mm = ds.length - i ∧ ∃ φ2 S2 vs acc, Acc w φ1 S1 H1 Lp φ2 S2 H' vs acc ∧
      Rg w xw W σ (RN w H) φ S H ((compL2 (compF2 C e t ts t1 l1 ts1 env) gd (ds.drop i) S2).bind fun ys S => comp2K acc ys S) Q, ⟨ds.length, by simp, φ1, S1, [], [], ⟨Lat.newT hD, so1.new hD, upd_same, .nil, rfl, so1.ne hD⟩, by simpa using g⟩, ?_⟩
    rintro i mm H' ⟨rfl, φ2, S2, vs, acc, A, g⟩
    cases hdr : ds.drop i with
    | nil =>
      rw [hdr] at g
      have g : Rg w xw W σ (RN w H) φ S H ((if gd S2 then Res.ok [] S2 else Res.bad).bind fun ys S => comp2K acc ys S) Q := g
      cases hgS : gd S2 with
      | false => rw [hgS] at g; exact g.elim
      | true =>
        rw [hgS] at g
        have hi' : ds.length ≤ i := by
          have := congrArg List.length hdr
          simp only [List.length_drop, List.length_nil] at this
          omega
        refine .inl ⟨((it i φ2 S2 H' A.lat.w A.so hgS).1 hi'), ?_⟩
        have g : Rg w xw W σ (RN w H) φ S H (if (acc ++ []).length ≤ line then .ok (acc ++ [], none) S2 else .bad) Q := g
        obtain ⟨_, g⟩ := Rg.ite g
        rw [List.append_nil] at g
        exact g (.ref Lp) φ2 H' (l1'.trans A.lat) A.so ⟨A.ba, Lp, vs, rfl, l1'.no Lp hD, A.at_, A.ra, A.ne⟩
    | cons d rest =>
      obtain ⟨hd, hrest, hil⟩ := drop_at hdr
      rw [hdr] at g
      have g : Rg w xw W σ (RN w H) φ S H ((if gd S2 then (match compF2 C e t ts t1 l1 ts1 env d S2 with
        | Res.ok zs S => (compL2 (compF2 C e t ts t1 l1 ts1 env) gd rest S).bind fun ys S => .ok (zs ++ ys) S
        | _ => Res.bad) else Res.bad).bind fun ys S => comp2K acc ys S) Q := g
      cases hgS : gd S2 with
      | false => rw [hgS] at g; exact g.elim
      | true =>
        rw [hgS, if_pos rfl] at g
        obtain ⟨hgo, hy⟩ := (it i φ2 S2 H' A.lat.w A.so hgS).2 d hd
        refine .inr ⟨hgo, fun H2 => ∃ φ2 S2 vs acc, Acc w φ1 S1 H1 Lp φ2 S2 H2 vs acc ∧
          Rg w xw W σ (RN w H) φ S H ((compL2 (compF2 C e t ts t1 l1 ts1 env) gd rest S2).bind fun ys S => comp2K acc ys S) Q, fun H2 q => ⟨ds.length - (i + 1), by omega, rfl, by rw [hrest]; exact q⟩, fun x H3 y => ?_⟩
        obtain ⟨l3, so3, rx⟩ := hy x H3 y
        have A3 := A.step l3 so3
        have bd : D.bel S2.length d = true := D.bel_mono A.lat.le _ (bels_all.mp b1 d (List.mem_of_getElem? hd))
        cases hF : compF2 C e t ts t1 l1 ts1 env d S2 with
        | bad => rw [hF] at g; exact g.elim
        | exc c fs S' => rw [hF] at g; exact g.elim
        | ok zs S4 =>
          rw [hF] at g
          unfold compF2 at hF
          cases hb : bind1 t d (kill (t.ix ++ t1.ix) env) with
          | none => rw [hb] at hF; cases hF
          | some env2 =>
            rw [hb] at hF
            have m3 : Sim w.K φ2 w.ex H3 S2 (wipe σ (t.ix ++ t1.ix)) (kill (t.ix ++ t1.ix) env) := ⟨so3, ((m.e.lat l1').lat (A.lat.trans l3)).wipe _ hx⟩
            refine ⟨φ2, S2, kill (t.ix ++ t1.ix) env, d, env2, m3, ⟨rx, bd⟩, hb, fun σ2 m4 sm => ⟨(wipe_same (sm.mono fun i hi => List.mem_append_left _ hi)).trans wipe_wipe, ?_⟩⟩
            refine ⟨φ2, env2, S2, m4, ?_⟩
            dsimp only at hF
            cases hT : evTs C ts env2 S2 with
            | bad => rw [hT] at hF; cases hF
            | exc c fs S' => rw [hT] at hF; cases hF
            | ok k S5 =>
              rw [hT] at hF
              intro kb φ5 H5 l5 so5 rk
              cases rk
              have A5 := A3.step l5 so5
              cases k with
              | false =>
                cases hF
                rw [if_neg (by simp)]
                refine ⟨φ5, S4, vs, acc, A5, ?_⟩
                have e0 : ((compL2 (compF2 C e t ts t1 l1 ts1 env) gd rest S4).bind fun ys S => Res.ok ([] ++ ys) S) = compL2 (compF2 C e t ts t1 l1 ts1 env) gd rest S4 := by
                  cases compL2 (compF2 C e t ts t1 l1 ts1 env) gd rest S4 <;> rfl
                have g : Rg w xw W σ (RN w H) φ S H (((compL2 (compF2 C e t ts t1 l1 ts1 env) gd rest S4).bind fun ys S => Res.ok ([] ++ ys) S).bind fun ys S => comp2K acc ys S) Q := g
                rw [e0] at g
                exact g
              | true =>
                dsimp only at hF
                rw [if_pos rfl]
                refine ⟨φ5, env2, S5, m4.lat l5 so5, ?_⟩
                cases hL : evL C l1 env2 S5 with
                | bad => rw [hL] at hF; cases hF
                | exc c fs S' => rw [hL] at hF; cases hF
                | ok p1 S6 =>
                  rw [hL] at hF
                  dsimp only at hF
                  intro J1 φ6 H6 l6 so6 r6
                  obtain ⟨b6, it6⟩ := r6
                  have A6 := A5.step l6 so6
                  by_cases hl6 : p1.1.length ≤ line
                  · rw [if_pos hl6] at hF
                    generalize hgd1 : stands p1.2 (obAt p1.2 S6) = gd1 at hF it6
                    generalize hds1 : p1.1 = ds1 at hF it6 b6 hl6
                    have m6 : Sim w.K φ6 w.ex H6 S6 σ2 env2 := (m4.lat l5 so5).lat l6 so6
                    refine ⟨fun j kk H' => kk = ds1.length - j ∧ ∃ φ7 S7 vs7 acc7, Acc w φ1 S1 H1 Lp φ7 S7 H' vs7 acc7 ∧ LatW φ6 φ7 S6 S7 H6 H' ∧
                      Rg w xw W σ (RN w H) φ S H ((compL (compF1 C e t1 ts1 env2) gd1 (ds1.drop j) S7).bind fun zs S => (compL2 (compF2 C e t ts t1 l1 ts1 env) gd rest S).bind fun ys S => comp2K acc7 (zs ++ ys) S) Q, ⟨ds1.length, by simp, φ6, S6, vs, acc, A6, LatW.refl, ?_⟩, ?_⟩
                    · rw [List.drop_zero, hF]
                      show Rg w xw W σ (RN w H) φ S H ((compL2 (compF2 C e t ts t1 l1 ts1 env) gd rest S4).bind fun ys S => comp2K acc (zs ++ ys) S) Q
                      have e0 : (((compL2 (compF2 C e t ts t1 l1 ts1 env) gd rest S4).bind fun ys S => Res.ok (zs ++ ys) S).bind fun ys S => comp2K acc ys S) = (compL2 (compF2 C e t ts t1 l1 ts1 env) gd rest S4).bind fun ys S => comp2K acc (zs ++ ys) S := by
                        cases compL2 (compF2 C e t ts t1 l1 ts1 env) gd rest S4 <;> rfl
                      rw [← e0]
                      exact g
                    · clear g hF
                      rintro j kk H7 ⟨rfl, φ7, S7, vs7, acc7, A7, W7, g7⟩
                      cases hdr1 : ds1.drop j with
                      | nil =>
                        rw [hdr1] at g7
                        have g7 : Rg w xw W σ (RN w H) φ S H ((if gd1 S7 then Res.ok [] S7 else Res.bad).bind fun zs S => (compL2 (compF2 C e t ts t1 l1 ts1 env) gd rest S).bind fun ys S => comp2K acc7 (zs ++ ys) S) Q := g7
                        cases hg1 : gd1 S7 with
                        | false => rw [hg1] at g7; exact g7.elim
                        | true =>
                          rw [hg1] at g7
                          have hj' : ds1.length ≤ j := by
                            have := congrArg List.length hdr1
                            simp only [List.length_drop, List.length_nil] at this
                            omega
                          exact .inl ⟨(it6 j φ7 S7 H7 W7 A7.so hg1).1 hj', φ7, S7, vs7, acc7, A7, g7⟩
                      | cons d1 rest1 =>
                        obtain ⟨hd1, hrest1, hjl⟩ := drop_at hdr1
                        rw [hdr1] at g7
                        have g7 : Rg w xw W σ (RN w H) φ S H ((if gd1 S7 then (match compF1 C e t1 ts1 env2 d1 S7 with
                          | Res.ok o S => (compL (compF1 C e t1 ts1 env2) gd1 rest1 S).bind fun ys S => .ok (match o with | some y => y :: ys | none => ys) S
                          | _ => Res.bad) else Res.bad).bind fun zs S => (compL2 (compF2 C e t ts t1 l1 ts1 env) gd rest S).bind fun ys S => comp2K acc7 (zs ++ ys) S) Q := g7
                        cases hg1 : gd1 S7 with
                        | false => rw [hg1] at g7; exact g7.elim
                        | true =>
                          rw [hg1, if_pos rfl] at g7
                          obtain ⟨hgo1, hy1⟩ := (it6 j φ7 S7 H7 W7 A7.so hg1).2 d1 hd1
                          refine .inr ⟨hgo1, fun H8 => ∃ φ8 S8 vs8 acc8, Acc w φ1 S1 H1 Lp φ8 S8 H8 vs8 acc8 ∧ LatW φ6 φ8 S6 S8 H6 H8 ∧
                            Rg w xw W σ (RN w H) φ S H ((compL (compF1 C e t1 ts1 env2) gd1 rest1 S8).bind fun zs S => (compL2 (compF2 C e t ts t1 l1 ts1 env) gd rest S).bind fun ys S => comp2K acc8 (zs ++ ys) S) Q, fun H8 q => ⟨ds1.length - (j + 1), by omega, rfl, by rw [hrest1]; exact q⟩, fun x1 H8 y1 => ?_⟩
                          obtain ⟨l8, so8, rx1⟩ := hy1 x1 H8 y1
                          have A8 := A7.step l8 so8
                          have W8 := W7.trans l8.w
                          have bd1 : D.bel S7.length d1 = true := D.bel_mono W7.le _ (bels_all.mp b6 d1 (List.mem_of_getElem? hd1))
                          cases hF1 : compF1 C e t1 ts1 env2 d1 S7 with
                          | bad => rw [hF1] at g7; exact g7.elim
                          | exc c fs S' => rw [hF1] at g7; exact g7.elim
                          | ok o S9 =>
                            rw [hF1] at g7
                            unfold compF1 at hF1
                            cases hb1 : bind1 t1 d1 (kill t1.ix env2) with
                            | none => rw [hb1] at hF1; cases hF1
                            | some env3 =>
                              rw [hb1] at hF1
                              have m8 : Sim w.K φ7 w.ex H8 S7 (wipe σ2 t1.ix) (kill t1.ix env2) := ⟨so8, (m6.e.latW W8).wipe _ hx⟩
                              refine ⟨φ7, S7, kill t1.ix env2, d1, env3, m8, ⟨rx1, bd1⟩, hb1, fun σ3 m9 sm1 => ⟨(wipe_same sm1).trans wipe_wipe, ?_⟩⟩
                              refine ⟨φ7, env3, S7, m9, ?_⟩
                              dsimp only at hF1
                              cases hT1 : evTs C ts1 env3 S7 with
                              | bad => rw [hT1] at hF1; cases hF1
                              | exc c fs S' => rw [hT1] at hF1; cases hF1
                              | ok k1 S10 =>
                                rw [hT1] at hF1
                                intro kb1 φ11 H11 l11 so11 rk1
                                cases rk1
                                have A11 := A8.step l11 so11
                                have W11 := W8.trans l11.w
                                cases k1 with
                                | false =>
                                  cases hF1
                                  rw [if_neg (by simp)]
                                  refine ⟨φ11, S9, vs7, acc7, A11, W11, ?_⟩
                                  have e0 : ((compL (compF1 C e t1 ts1 env2) gd1 rest1 S9).bind fun ys S => Res.ok (match (none : Option D) with | some y => y :: ys | none => ys) S) = compL (compF1 C e t1 ts1 env2) gd1 rest1 S9 := by
                                    cases compL (compF1 C e t1 ts1 env2) gd1 rest1 S9 <;> rfl
                                  have g7 : Rg w xw W σ (RN w H) φ S H (((compL (compF1 C e t1 ts1 env2) gd1 rest1 S9).bind fun ys S => Res.ok (match (none : Option D) with | some y => y :: ys | none => ys) S).bind fun zs S => (compL2 (compF2 C e t ts t1 l1 ts1 env) gd rest S).bind fun ys S => comp2K acc7 (zs ++ ys) S) Q := g7
                                  rw [e0] at g7
                                  exact g7
                                | true =>
                                  dsimp only at hF1
                                  rw [if_pos rfl]
                                  refine ⟨φ11, env3, S10, m9.lat l11 so11, ?_⟩
                                  cases hE : evE C e env3 S10 with
                                  | bad => rw [hE] at hF1; cases hF1
                                  | exc c fs S' => rw [hE] at hF1; cases hF1
                                  | ok y S12 =>
                                    rw [hE] at hF1
                                    cases hF1
                                    intro yv φ13 H13 l13 so13 ry
                                    have A13 := A11.step l13 so13
                                    have W13 := W11.trans l13.w
                                    have g7 : Rg w xw W σ (RN w H) φ S H (((compL (compF1 C e t1 ts1 env2) gd1 rest1 S9).bind fun ys S => Res.ok (y :: ys) S).bind fun zs S => (compL2 (compF2 C e t ts t1 l1 ts1 env) gd rest S).bind fun ys S => comp2K acc7 (zs ++ ys) S) Q := g7
                                    have key : acc7.length < sizeLine ∧ Rg w xw W σ (RN w H) φ S H ((compL (compF1 C e t1 ts1 env2) gd1 rest1 S9).bind fun zs S => (compL2 (compF2 C e t ts t1 l1 ts1 env) gd rest S).bind fun ys S => comp2K (acc7 ++ [y]) (zs ++ ys) S) Q := by
                                      cases hc : compL (compF1 C e t1 ts1 env2) gd1 rest1 S9 with
                                      | bad => rw [hc] at g7; exact g7.elim
                                      | exc c fs S' => exact absurd hc (compL_noX _ _)
                                      | ok zs1 S13 =>
                                        rw [hc] at g7
                                        have g7 : Rg w xw W σ (RN w H) φ S H ((compL2 (compF2 C e t ts t1 l1 ts1 env) gd rest S13).bind fun ys S => comp2K acc7 (y :: zs1 ++ ys) S) Q := g7
                                        show _ ∧ Rg w xw W σ (RN w H) φ S H ((compL2 (compF2 C e t ts t1 l1 ts1 env) gd rest S13).bind fun ys S => comp2K (acc7 ++ [y]) (zs1 ++ ys) S) Q
                                        have e1 : ∀ ys, acc7 ++ (y :: zs1 ++ ys) = acc7 ++ [y] ++ (zs1 ++ ys) := fun ys => by simp
                                        have e2 : (fun (ys : List D) (S : Store) => comp2K acc7 (y :: zs1 ++ ys) S) = fun ys S => comp2K (acc7 ++ [y]) (zs1 ++ ys) S := by
                                          funext ys S
                                          unfold comp2K
                                          rw [e1]
                                        refine ⟨?_, by rw [← e2]; exact g7⟩
                                        cases hc2 : compL2 (compF2 C e t ts t1 l1 ts1 env) gd rest S13 with
                                        | bad => rw [hc2] at g7; exact g7.elim
                                        | exc c fs S' => exact absurd hc2 (compL2_noX _ _)
                                        | ok ys S14 =>
                                          rw [hc2] at g7
                                          have g7 : Rg w xw W σ (RN w H) φ S H (if (acc7 ++ (y :: zs1 ++ ys)).length ≤ line then .ok (acc7 ++ (y :: zs1 ++ ys), none) S14 else .bad) Q := g7
                                          obtain ⟨hl, _⟩ := Rg.ite g7
                                          simp only [List.length_append, List.length_cons] at hl
                                          rw [line_eq]; omega
                                    have A14 := A13.add hD ry
                                    exact ⟨vs7, A13.at_, by rw [A13.ra.length]; exact key.1, φ13, S9, vs7 ++ [yv], acc7 ++ [y], A14, W13.trans ⟨Nat.le_refl _, fun _ _ => rfl, Kp.set A13.at_ trivial⟩, key.2⟩
                  · rw [if_neg hl6] at hF; cases hF
theorem sn_comp2 {elt tg iter tg1 iter1 : Expr} {ifs ifs1 : List Expr} {scope : Scope} {own : List (Str × Nat)} {pos : Pos} {e : Exp} {t : Tg} {l : Src} {ts : List Tst} {t1 : Tg} {l1 : Src} {ts1 : List Tst} (hx : w.ex.2 = none) (hc : X.calm = true) (hN : X.N.Nodup) (hi : PI X tg iter (tI w xw C W l)) (ok : BlkOk X.N X.env.scope scope own) (hv : own.map (·.2) = t.ix ++ t1.ix)
    (hg : ∀ (s : Shared) (H : Hp) (D : Addr) (cl : List (Str × Addr)) (fp : List Addr), PG (X.blk s H scope (compEnvC scope cl D X.env) fp) tg (gT w t))
    (ht : ∀ (s : Shared) (H : Hp) (D : Addr) (cl : List (Str × Addr)) (fp : List Addr), PTs (X.blk s H scope (compEnvC scope cl D X.env) fp) ifs (tTs w xw C W0 ts))
    (hi1 : ∀ (s : Shared) (H : Hp) (D : Addr) (cl : List (Str × Addr)) (fp : List Addr), PI (X.blk s H scope (compEnvC scope cl D X.env) fp) tg1 iter1 (tI w xw C W0 l1))
    (hg1 : ∀ (s : Shared) (H : Hp) (D : Addr) (cl : List (Str × Addr)) (fp : List Addr), PG (X.blk s H scope (compEnvC scope cl D X.env) fp) tg1 (gT w t1))
    (ht1 : ∀ (s : Shared) (H : Hp) (D : Addr) (cl : List (Str × Addr)) (fp : List Addr), PTs (X.blk s H scope (compEnvC scope cl D X.env) fp) ifs1 (tTs w xw C W0 ts1))
    (he : ∀ (s : Shared) (H : Hp) (D : Addr) (cl : List (Str × Addr)) (fp : List Addr), PE (X.blk s H scope (compEnvC scope cl D X.env) fp) elt (tE w xw C W0 e)) (hs : ∀ x, foldedSetIterable iter X.env x = pure x) (hs1 : ∀ env x, foldedSetIterable iter1 env x = pure x) :
    PE X (.ListComp elt [⟨tg, iter, ifs, 0⟩, ⟨tg1, iter1, ifs1, 0⟩] scope pos) (tN w xw C W (.comp2 e t l ts t1 l1 ts1)) :=
  peI (pe_lc2 (vs1 := t1.ix) hc hN hi ok (fun i hi => by rw [hv]; exact List.mem_append_right _ hi) hg ht hi1 hg1 ht1 he hs hs1) fun σ H Q q => by rw [hv]; exact comp2_rd hx q
end Pw
end
section
set_option Elab.async false
set_option linter.all false
set_option maxRecDepth 100000
set_option maxHeartbeats 2000000
set_option autoImplicit false
/-! Pw18f: min() of a list of like values -/
namespace Pw
open PySem PySem.Spec PyProof.Rows L2
open PySem.W (keyToks keyToksAll dataLt alike alikeAll minD AlikeAll min_list_data reads_keeps)
mutual
def toDa : D → PyData
  | .bl b => .bool b
  | .int i => .int i
  | .str s => .str ⟨s.toArray⟩
  | .tup xs => .tuple (toDas xs)
  | _ => .none
def toDas : List D → List PyData
  | [] => []
  | x :: r => toDa x :: toDas r
end
theorem toDas_map : ∀ xs : List D, toDas xs = xs.map toDa
  | [] => by rw [toDas]; rfl
  | x :: r => by rw [toDas, toDas_map r]; rfl
mutual
theorem toks_eq : ∀ d : D, keyToks (toDa d) = toksD d
  | .non => by simp [toDa, toksD, keyToks]
  | .bl b => by simp [toDa, toksD, keyToks]
  | .int i => by simp [toDa, toksD, keyToks]
  | .str s => by simp [toDa, toksD, keyToks]
  | .tup xs => by simp only [toDa, toksD, keyToks]; exact toks_eqs xs
  | .obj n => by simp [toDa, toksD, keyToks]
  | .exc c fs => by simp [toDa, toksD, keyToks]
theorem toks_eqs : ∀ xs : List D, keyToksAll (toDas xs) = toksDs xs
  | [] => by simp [toDas, toksDs, keyToksAll]
  | x :: r => by simp only [toDas, toksDs, keyToksAll]; rw [toks_eq x, toks_eqs r]
end
theorem itLt_eq (a b : Int ⊕ List Nat) : itemLt a b = itLt a b := by
  cases a <;> cases b <;> rfl
theorem lexT_eq : ∀ a b : List (Int ⊕ List Nat), PyProof.Rows.lexLt itemOrd a b = lexT a b
  | [], [] => rfl
  | [], _ :: _ => rfl
  | _ :: _, [] => rfl
  | x :: r, y :: t => by
    rw [lex_cons, lexT, lexT_eq r t]
    show (itemLt x y || (!itemLt y x && _)) = _
    rw [itLt_eq, itLt_eq]
theorem ltT_eq (a b : D) : dataLt (toDa a) (toDa b) = ltT a b := by
  unfold dataLt ltT
  rw [toks_eq, toks_eq, lexT_eq]
mutual
theorem like_eq : ∀ a b : D, likeD a b = true → alike (toDa a) (toDa b) = true
  | .bl _, b, h => by cases b <;> first | (simp [likeD] at h; done) | (simp [toDa, alike])
  | .int _, b, h => by cases b <;> first | (simp [likeD] at h; done) | (simp [toDa, alike])
  | .str _, b, h => by cases b <;> first | (simp [likeD] at h; done) | (simp [toDa, alike])
  | .tup xs, b, h => by
    cases b with
    | tup ys => simp only [toDa, alike]; exact like_eqs xs ys (by simpa [likeD] using h)
    | _ => simp [likeD] at h
  | .non, b, h => by cases b <;> simp [likeD] at h
  | .obj _, b, h => by cases b <;> simp [likeD] at h
  | .exc _ _, b, h => by cases b <;> simp [likeD] at h
theorem like_eqs : ∀ a b : List D, likeDs a b = true → alikeAll (toDas a) (toDas b) = true
  | [], b, _ => by simp [toDas, alikeAll]
  | x :: r, [], h => by simp [likeDs] at h
  | x :: r, y :: t, h => by
    simp only [likeDs, Bool.and_eq_true] at h
    simp only [toDas, alikeAll, Bool.and_eq_true]
    exact ⟨like_eq x y h.1, like_eqs r t h.2⟩
end
theorem depth_le : ∀ (n : Nat) (d : D), flatQ n d = true → (toDa d).depth ≤ n
  | n, .bl b, _ => by simp [toDa, PyData.depth]
  | n, .int b, _ => by simp [toDa, PyData.depth]
  | n, .str b, _ => by simp [toDa, PyData.depth]
  | n + 1, .tup xs, h => by
    simp only [flatQ, List.all_eq_true] at h
    have key : ∀ l : List D, (∀ x ∈ l, flatQ n x = true) → PyData.depthAll (l.map toDa) ≤ n := by
      intro l
      induction l with
      | nil => intro _; simp [PyData.depthAll]
      | cons x r ih =>
        intro hl
        rw [List.map_cons, PyData.depthAll]
        have h1 := depth_le n x (hl x (by simp))
        have h2 := ih fun y hy => hl y (by simp [hy])
        omega
    have := key xs h
    simp only [toDa, PyData.depth, toDas_map]
    omega
  | 0, .tup xs, h => by simp [flatQ] at h
  | n, .non, h => by cases n <;> simp [flatQ] at h
  | n, .obj _, h => by cases n <;> simp [flatQ] at h
  | n, .exc _ _, h => by cases n <;> simp [flatQ] at h
theorem toDa_inj : ∀ (n : Nat) (a b : D), flatQ n a = true → flatQ n b = true → toDa a = toDa b → a = b
  | n, .bl x, b, _, hb, h => by
    cases b <;> first | (simp [toDa] at h; done) | (simp [toDa] at h; rw [h])
  | n, .int x, b, _, hb, h => by
    cases b <;> first | (simp [toDa] at h; done) | (simp [toDa] at h; rw [h])
  | n, .str x, b, _, hb, h => by
    cases b <;> first | (simp [toDa] at h; done) | (simp [toDa] at h; rw [h])
  | n + 1, .tup xs, b, ha, hb, h => by
    cases b with
    | tup ys =>
      simp only [flatQ, List.all_eq_true] at ha hb
      simp only [toDa, toDas_map] at h
      injection h with h
      have key : ∀ l m : List D, (∀ x ∈ l, flatQ n x = true) → (∀ x ∈ m, flatQ n x = true) → l.map toDa = m.map toDa → l = m := by
        intro l
        induction l with
        | nil => intro m _ _ h; cases m with
          | nil => rfl
          | cons => cases h
        | cons x r ih => intro m h1 h2 h; cases m with
          | nil => cases h
          | cons y t =>
            rw [List.map_cons, List.map_cons] at h
            injection h with h3 h4
            rw [toDa_inj n x y (h1 x (by simp)) (h2 y (by simp)) h3, ih t (fun z hz => h1 z (by simp [hz])) (fun z hz => h2 z (by simp [hz])) h4]
      rw [key xs ys ha hb h]
    | _ => simp [toDa] at h
  | 0, .tup xs, _, h, _, _ => by simp [flatQ] at h
  | n, .non, _, h, _, _ => by cases n <;> simp [flatQ] at h
  | n, .obj _, _, h, _, _ => by cases n <;> simp [flatQ] at h
  | n, .exc _ _, _, h, _, _ => by cases n <;> simp [flatQ] at h
theorem minT_eq (x : D) (xs : List D) : minD (toDa x) (xs.map toDa) = toDa (minT x xs) := by
  unfold minD minT
  induction xs generalizing x with
  | nil => rfl
  | cons y r ih =>
    rw [List.map_cons, List.foldl_cons, List.foldl_cons, ltT_eq]
    rw [← ih]
    split <;> rfl
theorem minT_mem : ∀ (xs : List D) (x : D), minT x xs ∈ x :: xs
  | [], x => by simp [minT]
  | y :: r, x => by
    have := minT_mem r (if ltT y x = true then y else x)
    unfold minT at this ⊢
    rw [List.foldl_cons]
    rw [List.mem_cons] at this ⊢
    rcases this with h | h
    · rw [h]; split
      · exact .inr (by simp)
      · exact .inl rfl
    · exact .inr (by simp [h])
section
variable {K : PySem.W.Frag} {φ : Nat → Addr} {ex : Ex1} {H : Hp}
mutual
theorem dp_of : ∀ (n : Nat) (d : D) (v : V), flatQ n d = true → Rp K φ ex H v d → Dp K H v (toDa d)
  | n, .bl b, v, _, r => by cases r; simp only [toDa]; exact .bl b
  | n, .int i, v, _, r => by cases r; simp only [toDa]; exact .int i
  | n, .str s, v, _, r => by
    obtain ⟨x, rfl, rfl⟩ := rp_inv r
    simp only [toDa]
    exact .str x
  | n + 1, .tup xs, v, h, r => by
    cases r with
    | tup h1 r1 =>
      simp only [toDa]
      simp only [flatQ, List.all_eq_true] at h
      exact .tup h1 (dps_of n xs _ h r1)
  | 0, .tup xs, _, h, _ => by simp [flatQ] at h
  | n, .non, _, h, _ => by cases n <;> simp [flatQ] at h
  | n, .obj _, _, h, _ => by cases n <;> simp [flatQ] at h
  | n, .exc _ _, _, h, _ => by cases n <;> simp [flatQ] at h
theorem dps_of : ∀ (n : Nat) (ds : List D) (vs : List V), (∀ d ∈ ds, flatQ n d = true) → RpA K φ ex H vs ds → DpAll K H vs (toDas ds)
  | n, [], _, _, .nil => by rw [toDas]; exact .nil
  | n, d :: ds, _, h, .cons r rs => by
    rw [toDas]
    exact .cons (dp_of n d _ (h d (by simp)) r) (dps_of n ds _ (fun x hx => h x (by simp [hx])) rs)
end
end
def rMinD (K : PySem.W.Frag) : List V → Hp → VK → Prop := fun vs H Q => ∃ (a : Addr) (xs : List V) (x : PyData) (ds : List PyData), vs = [V.ref a] ∧ SqL K H a xs ∧ DpAll K H xs (x :: ds) ∧ AlikeAll (x :: ds) ∧ PyData.depthAll (x :: ds) ≤ 60 ∧
  ∀ (i : Nat) v d, xs[i]? = some v → (x :: ds)[i]? = some d → d = minD x ds → Q v H
theorem vals_at : ∀ {xs : List V} {us : List Value}, Vals xs us → ∀ (i : Nat) (u : Value), us[i]? = some u → ∃ v, xs[i]? = some v ∧ RelV v u
  | _, _, .nil, i, u, h => by simp at h
  | _, _, .cons r rs, 0, u, h => by
    have e := Option.some.inj (show some _ = some u from h)
    subst e
    exact ⟨_, rfl, r⟩
  | _, _, .cons r rs, i + 1, u, h => vals_at rs i u (by simpa using h)
theorem dpAll_at {K : PySem.W.Frag} {H : Hp} : ∀ {xs : List V} {ds : List PyData}, DpAll K H xs ds → ∀ (i : Nat) v, xs[i]? = some v → ∃ d, ds[i]? = some d ∧ Dp K H v d
  | _, _, .nil, i, v, h => by simp at h
  | _, _, .cons r rs, 0, v, h => by
    have e := Option.some.inj (show some _ = some v from h)
    subst e
    exact ⟨_, rfl, r⟩
  | _, _, .cons r rs, i + 1, v, h => dpAll_at rs i v (by simpa using h)
variable {w : Wo} {xw : Xw} {C : Ctx} {W : WX} {X : Cx}
theorem cr_minD (hc : X.calm = true) (hu : X.A.units + 65 < cLine) : CallR X (.builtin "min") (rMinD X.K) := by
  intro pins s σ H vs us Q I r h
  obtain ⟨a, xs, x, ds, rfl, hs, hd, ha, hdep, q⟩ := h
  obtain ⟨its, rv, hl, _⟩ := I.list hs
  rw [Vals.ref1 r]
  obtain ⟨as, hr⟩ := Dp.readsAll I _ _ _ hd rv
  refine min_list_data (I.ok.hd hc) hl.isList hr ha (by omega) fun i u h' tk bs hv hrd hk => ?_
  have hv' : its[i]? = some u := by simpa using hv
  obtain ⟨v, hx, rvu⟩ := vals_at rv i u hv'
  obtain ⟨d, hdi, dpv⟩ := dpAll_at hd i v hx
  obtain ⟨as2, r2⟩ := Dp.reads I d v u dpv rvu
  have e := (PyProof.Rows.reads_det (fun _ _ e _ => e) (reads_keeps hk r2) hrd).1
  exact ⟨v, H, I.kept hk, rvu, q i v d hx hdi e.symm⟩
theorem se_minG {a : Expr} {p pos : Pos} {l : Src} (hK : w.K = X.K) (hc : X.calm = true) (hu : X.A.units + 65 < cLine) (gl : Gl X "min") (hm : X.mg "min" = none) (ha : PE X a (tL w xw C W l)) (h1 : okX a = true) : PE X (.Call (.Name "min" p) [a] [] pos) (tE w xw C W (.minOf l)) :=
  peI (cb1 (r := fun xs H Q => rMin X.K xs H Q ∨ rMinD X.K xs H Q) (fun pins s σ H xs us Q I r h => h.elim (cr_min hc pins s σ H xs us Q I r) (cr_minD hc hu pins s σ H xs us Q I r)) gl hm bb_min ha (by decide) h1) fun σ H Q ⟨φ, env, S, m, g⟩ => by
    refine tL.then m g fun v q S1 φ1 H1 l1 m1 r1 g => ?_
    obtain ⟨b, a, vs, rfl, h, r⟩ := r1
    have data : intsD q.1 = none ∨ intsD q.1 = some [] → rMin X.K [V.ref a] H1 Q ∨ rMinD X.K [V.ref a] H1 Q := fun e => by
      have g : Rg w xw W σ (RE w) φ1 S1 H1 (match q.1 with
        | x :: r => if minLk (x :: r) = true then .ok (minT x r) S1 else .bad
        | [] => .bad) Q := by
        rcases e with e | e <;> (rw [e] at g; exact g)
      cases hq : q.1 with
      | nil => rw [hq] at g; exact g.elim
      | cons x t =>
        rw [hq] at g r b
        obtain ⟨hk, g⟩ := Rg.ite g
        simp only [minLk, List.all_eq_true, Bool.and_eq_true] at hk
        refine .inr ⟨a, vs, toDa x, t.map toDa, rfl, hK ▸ h, ?_, ?_, ?_, fun i v d hv hd e => ?_⟩
        · have := dps_of (K := w.K) 8 (x :: t) vs (fun d hd => (hk d hd).1) r
          rw [toDas, toDas_map] at this
          exact hK ▸ this
        · refine ⟨fun y hy z hz => ?_, fun y hy => ?_⟩
          · rw [← List.map_cons, List.mem_map] at hy hz
            obtain ⟨y', hy', rfl⟩ := hy
            obtain ⟨z', hz', rfl⟩ := hz
            exact like_eq y' z' ((hk y' hy').2 z' hz')
          · rw [← List.map_cons, List.mem_map] at hy
            obtain ⟨y', hy', rfl⟩ := hy
            have := (hk y' hy').1
            cases y' <;> first | (simp [flatQ] at this; done) | (simp [toDa])
        · rw [← List.map_cons]
          have : ∀ l : List D, (∀ d ∈ l, flatQ 8 d = true) → PyData.depthAll (l.map toDa) ≤ 8 := by
            intro l hl
            induction l with
            | nil => simp [PyData.depthAll]
            | cons x r ih =>
              rw [List.map_cons, PyData.depthAll]
              have h1 := depth_le 8 x (hl x (by simp))
              have h2 := ih fun y hy => hl y (by simp [hy])
              omega
          have := this (x :: t) fun d hd => (hk d hd).1
          omega
        · rw [minT_eq] at e
          rw [← List.map_cons, List.getElem?_map] at hd
          obtain ⟨y, hy, rfl⟩ := Option.map_eq_some_iff.mp hd
          have hym := List.mem_of_getElem? hy
          have := toDa_inj 8 y (minT x t) (hk y hym).1 (hk _ (minT_mem t x)).1 e
          obtain ⟨v2, hv2, rv2⟩ := r.get y hy
          have : v2 = v := by rw [hv] at hv2; exact (Option.some.inj hv2).symm
          subst this
          subst_vars
          exact g v2 φ1 H1 Lat.refl m1.o ⟨rv2, bels_all.mp b _ hym⟩
    cases e : intsD q.1 with
    | none => exact data (.inl e)
    | some ns => cases ns with
      | nil => exact data (.inr e)
      | cons x t =>
        rw [e] at g
        obtain ⟨rfl, _⟩ := ints_of r e
        refine .inl ⟨a, x :: t, rfl, hK ▸ h, by simp, fun mx h2 h3 => ?_⟩
        have : mx = t.foldl min x := by
          have k1 := h3 _ (foldl_min_mem t x)
          have k2 := foldl_min_le t x _ h2
          omega
        subst this
        exact fInt g m1.o
end Pw
end
section
set_option Elab.async false
set_option linter.all false
set_option maxRecDepth 100000
set_option maxHeartbeats 1000000
set_option autoImplicit false
/-! Pw18g: zip of two tuples, the sum of a list or of a tuple -/
namespace Pw
open PySem PySem.Spec PyProof.Rows L2
variable {w : Wo} {xw : Xw} {C : Ctx} {W : WX} {X : Cx}
section
variable {a b : Expr} {x y : Exp} {l : Src} {pos p tpos : Pos} {elts : List Expr} {kk : Nat}
theorem RpA.zipAt {K : PySem.W.Frag} {φ : Nat → Addr} {ex : Ex1} {H : Hp} {vs us : List V} {ds es : List D} (r : RpA K φ ex H vs ds) (q : RpA K φ ex H us es) (i : Nat) (d : D) (h : ((ds.zip es).map fun z => D.tup [z.1, z.2])[i]? = some d) :
    ∃ v u d1 d2, vs[i]? = some v ∧ us[i]? = some u ∧ d = .tup [d1, d2] ∧ ds[i]? = some d1 ∧ es[i]? = some d2 ∧ Rp K φ ex H v d1 ∧ Rp K φ ex H u d2 := by
  rw [List.getElem?_map] at h
  obtain ⟨⟨d1, d2⟩, hz, rfl⟩ := Option.map_eq_some_iff.mp h
  rw [List.getElem?_zip_eq_some] at hz
  obtain ⟨v, hv, rv⟩ := r.get d1 hz.1
  obtain ⟨u, hu, ru⟩ := q.get d2 hz.2
  exact ⟨v, u, d1, d2, hv, hu, rfl, hz.1, hz.2, rv, ru⟩
theorem itr_zip {φ : Nat → Addr} {S : Store} {H : Hp} {p q : Addr} {vs us : List V} {ds es : List D} {gd : Store → Bool} (h1 : SqT w.K H p vs) (h2 : SqT w.K H q us) (r1 : RpA w.K φ w.ex H vs ds) (r2 : RpA w.K φ w.ex H us es) (b1 : D.bels S.length ds = true) (b2 : D.bels S.length es = true) :
    ItR w (RZ.ItzT w.K p q) ((ds.zip es).map fun z => D.tup [z.1, z.2]) gd φ S H := fun i φ' S' H' l so _ => by
  have h1 := sqT_kp h1 l.kp
  have h2 := sqT_kp h2 l.kp
  have r1 := r1.mono b1 l.same l.kp
  have r2 := r2.mono b2 l.same l.kp
  refine ⟨fun hi => ⟨vs, us, h1, h2, ?_⟩, fun d hd => ?_⟩
  · rw [r1.length, r2.length]
    simp only [List.length_map, List.length_zip] at hi
    omega
  · obtain ⟨v, u, d1, d2, hv, hu, rfl, e1, e2, rv, ru⟩ := r1.zipAt r2 i d hd
    refine ⟨⟨vs, us, v, u, h1, h2, hv, hu⟩, fun x H2 ⟨T, x', y', e3, hT, e4, f1, f2⟩ => ?_⟩
    subst e3 e4
    have e5 := (f1 vs h1).symm.trans hv
    have e6 := (f2 us h2).symm.trans hu
    cases e5
    cases e6
    have bd1 : D.bel S'.length d1 = true := D.bel_mono l.le _ (bels_all.mp b1 d1 (List.mem_of_getElem? e1))
    have bd2 : D.bel S'.length d2 = true := D.bel_mono l.le _ (bels_all.mp b2 d2 (List.mem_of_getElem? e2))
    have k : Kp H' (upd H' T (.tup [v, u])) := Kp.new hT
    exact ⟨Lat.newT hT, so.new hT, .tup (.inl (.inl upd_same)) (.cons (rv.mono bd1 (fun _ _ => rfl) k) (.cons (ru.mono bd2 (fun _ _ => rfl) k) .nil))⟩
theorem si_zip (hK : w.K = X.K) (hg : Gl X "zip") (hm : X.mg "zip" = none) (ha : PE X a (tE w xw C W x)) (hb : PE X b (tE w xw C W y)) (h : okX a = true) (h2 : okX b = true) : PI X (.Tuple elts kk tpos) (.Call (.Name "zip" p) [a, b] [] pos) (tI w xw C W (.zip x y)) :=
  piI (RZ.pi_zipA hg hm (pa_cons ha (pa_cons hb pa_nil (star_ok h2)) (star_ok h)) (star_ok h) (plainArgs_ok (by simp [h2]))) fun σ H R ⟨φ, env, S, m, g⟩ => by
    refine tE.then m g fun v d S1 φ1 H1 l1 m1 r1 g => ?_
    refine tE.then m1 g fun u d2 S2 φ2 H2 l2 m2 r2 g => ?_
    cases d with
    | tup ds => cases d2 with
      | tup es =>
        obtain ⟨r1, b1⟩ := r1.lat l2
        obtain ⟨r2, b2⟩ := r2
        cases r1 with
        | tup h1 r1 => cases r2 with
          | tup h2 r2 =>
            have b1 : D.bels S2.length ds = true := by simpa [D.bel] using b1
            have b2 : D.bels S2.length es = true := by simpa [D.bel] using b2
            refine ⟨_, _, _, _, rfl, .inr ⟨hK ▸ h1, hK ▸ h2, g _ φ2 H2 Lat.refl m2.o ⟨bels_all.mpr fun d hd => ?_, hK ▸ itr_zip h1 h2 r1 r2 b1 b2⟩⟩⟩
            rw [List.mem_map] at hd
            obtain ⟨⟨z1, z2⟩, hz, rfl⟩ := hd
            have k1 := bels_all.mp b1 z1 (List.of_mem_zip hz).1
            have k2 := bels_all.mp b2 z2 (List.of_mem_zip hz).2
            simp [D.bel, D.bels, k1, k2]
      | _ => exact g.elim
    | _ => exact g.elim
def rSumO (K : PySem.W.Frag) : List V → Hp → VK → Prop := fun vs H Q => rSum K vs H Q ∨ rSumT K vs H Q
theorem cr_sumO (hc : X.calm = true) : CallR X (.builtin "sum") (rSumO X.K) := fun pins s σ H vs us Q I r h => h.elim (cr_sum hc pins s σ H vs us Q I r) (cr_sumT hc pins s σ H vs us Q I r)
theorem se_sumS (hK : w.K = X.K) (hc : X.calm = true) (gl : Gl X "sum") (hm : X.mg "sum" = none) (ha : PE X a (tS w xw C W l)) (h1 : okX a = true) : PE X (.Call (.Name "sum" p) [a] [] pos) (tE w xw C W (.sumOf l)) :=
  peI (cb1 (cr_sumO hc) gl hm bb_sum ha (by decide) h1) fun σ H Q ⟨φ, env, S, m, g⟩ => by
    refine tS.then m g fun v q S1 φ1 H1 l1 m1 r1 g => ?_
    obtain ⟨b, a, vs, rfl, h, r⟩ := r1
    obtain ⟨ns, hb, g⟩ := g.ofb
    obtain ⟨rfl, _⟩ := ints_of r hb
    rcases h with h | h
    · exact .inl ⟨a, ns, rfl, hK ▸ h, fInt g m1.o⟩
    · exact .inr ⟨a, ns, rfl, hK ▸ h, fInt g m1.o⟩
end
end Pw
end
section
set_option Elab.async false
set_option linter.all false
set_option maxRecDepth 100000
set_option maxHeartbeats 2000000
set_option autoImplicit false
/-! Pw18h: sorted(xs), a list or a tuple of like values, any number of them -/
namespace Pw
open PySem PySem.Spec PyProof.Rows L2 PySem.Calls
open PySem.W (EachIs AllAlike Sortable dataLe sortVals_data list_sort_vals SortsAt sortingHeap_old dataLe_eq)
theorem sorted_sq {β : Type} {prog : Program} {w : World} {A : Around} {E : Value → Shared → Prop} {s : Shared} {a : Addr} {T : String} {o : Obj} {its : List Value} {n : Nat} {bs : List β} {enc : β → PyData} {R : Value → β → Prop} {Q : Value → Shared → Prop} (hT : T = "list" ∨ T = "tuple")
    (ho : s.heap.get? a = some o) (hc : o.cls = .type T) (hd : o.data = .seq its.toArray n) (hL : its.length ≤ sizeLine)
    (e : EachIs R its bs) (er : EachIs (fun v b => ∃ as, Reads s.heap v (enc b) as) its bs) (hal : AllAlike (bs.map enc)) (hk : Sortable (bs.map enc)) (hu : ∀ b ∈ bs, A.units + 2 + (enc b).depth < cLine)
    (h : ∀ (h1 h' : Heap) (out : List Value) (c : Nat), (∀ b u, s.heap.get? b = some u → h1.get? b = some u) → (∀ b u, h1.get? b = some u → h'.get? b = some u) → h'.get? h1.objs.size = some (seqObj "list" out.toArray c) → EachIs R out (bs.mergeSort (dataLe false enc)) → Q (.ref h1.objs.size) { s with heap := h' }) :
    wpAny (model prog w) A (call (.builtin "sorted") [.ref a]) Q E s := by
  refine call_function_entry kind_sorted plain_sorted entry_sorted (args_sorted1 _) ?_
  unfold Builtin.«sorted»
  refine wpAny_bind (m := checkCount "sorted" 1 1 _) (wpAny_pure ?_)
  refine wpAny_bind (wpAny_collect_seq a hT ho hc hd (fun h1 hk1 => ?_) (by rw [List.size_toArray]; exact hL))
  rw [show its.toArray.toList = its by simp]
  refine wpAny_bind (wpAny_newList ?_ hL)
  have hoL : (h1.push (seqObj "list" its.toArray 0)).get? h1.objs.size = some (seqObj "list" its.toArray 0) := Heap.get?_push_size _ rfl
  have hk2 : ∀ b u, s.heap.get? b = some u → (PySem.W.sortingHeap (h1.push (seqObj "list" its.toArray 0)) h1.objs.size its).get? b = some u := fun b u hb => by
    have := hk1 b u hb
    exact sortingHeap_old (Nat.ne_of_lt (Heap.lt_size this)) (Heap.get?_push_of_some _ this)
  have er' : EachIs (fun v b => ∃ as, Reads (PySem.W.sortingHeap (h1.push (seqObj "list" its.toArray 0)) h1.objs.size its) v (enc b) as) its bs := er.mono fun _ _ ⟨as, r⟩ => ⟨as, PyProof.Rows.Reads.keeps hk2 r⟩
  refine wpAny_bind (wpAny_holding (wpAny_call_entry slot_list_sort ⟨_, hoL, rfl⟩ entry_list_sort (list_sort_vals hoL (SortsAt.data (PySem.W.each_map (R := fun v d => ∃ as, Reads _ v d as) enc er') hal hk (PySem.W.bound_map (fun b hb => hu b hb))) hL ⟨_, rfl, ?_⟩) (args_list_sort _)))
  obtain ⟨c, hc2⟩ := sortedHeap_at (out := (PySem.W.sortVals (PySem.W.dataKind (PySem.W.sortingHeap (h1.push (seqObj "list" its.toArray 0)) h1.objs.size its) (bs.map enc)) false its its).toArray) hoL
  refine wpAny_pure ⟨_, rfl, h h1 _ _ c hk1 (fun b u hb => ?_) hc2 (sortVals_data false e er' hal)⟩
  rw [sortedHeap_old (Nat.ne_of_lt (Heap.lt_size hb)) (by rw [size_push']; exact Nat.lt_succ_of_lt (Heap.lt_size hb))]
  exact Heap.get?_push_of_some _ hb
/-- sorted(xs) -/
def rSortD (K : PySem.W.Frag) : List V → Hp → VK → Prop := fun vs H Q => ∃ (a : Addr) (xs : List V) (ds : List PyData), vs = [V.ref a] ∧ (SqL K H a xs ∨ SqT K H a xs) ∧ DpAll K H xs ds ∧ AllAlike ds ∧ Sortable ds ∧ (∀ d ∈ ds, d.depth ≤ 8) ∧
  ∀ p, H p = none → Q (.ref p) (upd H p (.lst (((xs.zip ds).mergeSort fun a b => !PySem.W.dataLt b.2 a.2).map (·.1))))
theorem each_zip {K : PySem.W.Frag} {H : Hp} : ∀ {xs : List V} {ds : List PyData} {its : List Value}, Vals xs its → DpAll K H xs ds → EachIs (fun u (b : V × PyData) => RelV b.1 u ∧ Dp K H b.1 b.2) its (xs.zip ds)
  | _, _, _, .nil, .nil => .nil
  | _, _, _, .cons r rs, .cons d dd => .cons ⟨r, d⟩ (each_zip rs dd)
theorem each_vals {K : PySem.W.Frag} {H : Hp} : ∀ {out : List Value} {bs : List (V × PyData)}, EachIs (fun u (b : V × PyData) => RelV b.1 u ∧ Dp K H b.1 b.2) out bs → Vals (bs.map (·.1)) out
  | _, _, .nil => .nil
  | _, _, .cons r rs => .cons r.1 (each_vals rs)
theorem zip_snd {K : PySem.W.Frag} {H : Hp} : ∀ {xs : List V} {ds : List PyData}, DpAll K H xs ds → (xs.zip ds).map (·.2) = ds
  | _, _, .nil => rfl
  | _, _, .cons d dd => by rw [List.zip_cons_cons, List.map_cons, zip_snd dd]
variable {w : Wo} {xw : Xw} {C : Ctx} {W : WX} {X : Cx}
theorem cr_sortedG (hu : X.A.units + 65 < cLine) : CallR X (.builtin "sorted") (rSortD X.K) := by
  intro pins s σ H vs us Q I r h
  obtain ⟨a, xs, ds, rfl, hs, hd, ha, hk, hdep, q⟩ := h
  rw [Vals.ref1 r]
  have hz := zip_snd hd
  have go : ∀ (its : List Value) (T : String) (o : Obj) (n : Nat), (T = "list" ∨ T = "tuple") → s.heap.get? a = some o → o.cls = .type T → o.data = .seq its.toArray n → Vals xs its → xs.length ≤ sizeLine → wpAny (model X.prog X.w) X.A (call (.builtin "sorted") [.ref a]) (EP X pins σ Q) X.xe s := by
    intro its T o n hT ho hc hdd rv hL
    refine sorted_sq (enc := fun b : V × PyData => b.2) (R := fun u (b : V × PyData) => RelV b.1 u ∧ Dp X.K H b.1 b.2) hT ho hc hdd (by rw [← rv.length]; exact hL) (each_zip rv hd) ((each_zip rv hd).mono fun u b ⟨h1, h2⟩ => Dp.reads I b.2 b.1 u h2 h1) (by rw [hz]; exact ha) (by rw [hz]; exact hk) (fun b hb => ?_) fun h1 h' out c k1 k2 hat e => ?_
    · have : b.2 ∈ ds := by rw [← hz]; exact List.mem_map.mpr ⟨b, hb, rfl⟩
      have := hdep _ this
      omega
    · have hv := each_vals e
      have I1 : Inv X pins σ H { s with heap := h1, toks := s.toks } := I.kept k1
      have hlen : (((xs.zip ds).mergeSort (dataLe false fun b => b.2)).map (·.1)).length ≤ sizeLine := by
        rw [List.length_map, List.length_mergeSort, List.length_zip]
        exact Nat.le_trans (Nat.min_le_left _ _) hL
      refine ⟨.ref _, upd H h1.objs.size (.lst (((xs.zip ds).mergeSort (dataLe false fun b => b.2)).map (·.1))), I1.laid (t' := s.toks) k2 (Nat.le_refl _) ⟨hlen, out, c, hv, hat⟩, rfl, ?_⟩
      have := q _ (I1.hok.fresh (Nat.le_refl _))
      rw [dataLe_eq]
      exact this
  rcases hs with hs | hs
  · obtain ⟨its, rv, ⟨o, n, h1, h2, h3, h4⟩, hL⟩ := I.list hs
    exact go its "list" o n (.inl rfl) h1 h2 h4 rv hL
  · obtain ⟨its, rv, ⟨o, h1, h2, n, h4⟩, hL⟩ := I.tuple hs
    exact go its "tuple" o n (.inr rfl) h1 h2 h4 rv hL
/-- what is in order -/
theorem map_sort {α β : Type} {f : α → β} {le : α → α → Bool} {le' : β → β → Bool} (h : ∀ a b, le a b = le' (f a) (f b)) (l : List α) : (l.mergeSort le).map f = (l.map f).mergeSort le' :=
  List.map_mergeSort fun a _ b _ => h a b
theorem itLt_irr (a : Int ⊕ List Nat) : itLt a a = false := by cases a <;> simp [itLt, List.lt_irrefl]
theorem ltT_int (a b : Int) : ltT (.int a) (.int b) = decide (a < b) := by simp [ltT, toksD, lexT, itLt]
theorem ltT_str (a b : List Nat) : ltT (.str a) (.str b) = decide (a < b) := by simp [ltT, toksD, lexT, itLt]
theorem sortD_ok {xs ys : List D} (h : sortD xs = some ys) : ys = (xs.mergeSort fun a b => !ltT b a) ∧ minLk xs = true ∧ (xs.all neT = true ∨ xs.all (fun d => !(match d with | .tup _ => true | _ => false)) = true) := by
  unfold sortD at h
  cases e : intsD xs with
  | some ns =>
    rw [e] at h
    cases h
    have hx : ∀ (xs : List D) (ns : List Int), intsD xs = some ns → xs = ns.map .int := by
      intro xs
      induction xs with
      | nil => intro ns h; cases h; rfl
      | cons x r ih =>
        intro ns h
        cases x with
        | int i =>
          obtain ⟨t, h1, rfl⟩ := Option.map_eq_some_iff.mp (show (intsD r).map (i :: ·) = some ns from h)
          rw [ih t h1]; rfl
        | _ => cases h
    have hx := hx xs ns e
    subst hx
    refine ⟨map_sort (fun a b => ?_) ns, ?_, .inr ?_⟩
    · rw [ltT_int, Bool.eq_iff_iff]; simp only [decide_eq_true_eq, Bool.not_eq_true', decide_eq_false_iff_not]; omega
    · simp [minLk, flatQ, likeD]
    · simp
  | none => cases e2 : strsD xs with
    | some ts =>
      rw [e, e2] at h
      cases h
      have hx : ∀ (xs : List D) (ns : List (List Nat)), strsD xs = some ns → xs = ns.map .str := by
        intro xs
        induction xs with
        | nil => intro ns h; cases h; rfl
        | cons x r ih =>
          intro ns h
          cases x with
          | str i =>
            obtain ⟨t, h1, rfl⟩ := Option.map_eq_some_iff.mp (show (strsD r).map (i :: ·) = some ns from h)
            rw [ih t h1]; rfl
          | _ => cases h
      have hx := hx xs ts e2
      subst hx
      refine ⟨map_sort (fun a b => ?_) ts, ?_, .inr ?_⟩
      · rw [ltT_str]; rfl
      · simp [minLk, flatQ, likeD]
      · simp
    | none =>
      rw [e, e2] at h
      dsimp only at h
      split at h
      · rename_i hc
        simp only [Bool.and_eq_true] at hc
        cases h
        exact ⟨rfl, hc.1, .inl hc.2⟩
      · cases h
theorem rpA_zip {φ : Nat → Addr} {H : Hp} : ∀ {vs : List V} {ds : List D}, RpA w.K φ w.ex H vs ds → ∀ b ∈ vs.zip ds, Rp w.K φ w.ex H b.1 b.2
  | _, _, .nil, b, h => by simp at h
  | _, _, .cons r rs, b, h => by
    rw [List.zip_cons_cons, List.mem_cons] at h
    rcases h with rfl | h
    · exact r
    · exact rpA_zip rs b h
theorem rpA_of {φ : Nat → Addr} {H : Hp} : ∀ {bs : List (V × D)}, (∀ b ∈ bs, Rp w.K φ w.ex H b.1 b.2) → RpA w.K φ w.ex H (bs.map (·.1)) (bs.map (·.2))
  | [], _ => .nil
  | b :: r, h => .cons (h b (by simp)) (rpA_of fun x hx => h x (by simp [hx]))
theorem zip_map_snd {α : Type} {vs : List V} {ds : List D} (f : D → α) : vs.zip (ds.map f) = (vs.zip ds).map fun b => (b.1, f b.2) := by
  rw [List.zip_map_right]; rfl
theorem zip_snd' : ∀ {vs : List V} {ds : List D}, vs.length = ds.length → (vs.zip ds).map (·.2) = ds
  | [], [], _ => rfl
  | v :: vs, d :: ds, h => by rw [List.zip_cons_cons, List.map_cons, zip_snd' (by simpa using h)]
theorem se_sorted {a : Expr} {p pos : Pos} {l : Src} (hK : w.K = X.K) (hu : X.A.units + 65 < cLine) (gl : Gl X "sorted") (hm : X.mg "sorted" = none) (ha : PE X a (tS w xw C W l)) (h1 : okX a = true) : PE X (.Call (.Name "sorted" p) [a] [] pos) (tE w xw C W (.sorted l)) :=
  peI (cb1 (cr_sortedG hu) gl hm bb_sorted ha (by decide) h1) fun σ H Q ⟨φ, env, S, m, g⟩ => by
    refine tS.then m g fun v q S1 φ1 H1 l1 m1 r1 g => ?_
    obtain ⟨b, a, vs, rfl, h, r⟩ := r1
    cases es : sortD q.1 with
    | none => rw [es] at g; exact g.elim
    | some ys =>
      rw [es] at g
      obtain ⟨rfl, hk, hs⟩ := sortD_ok es
      simp only [minLk, List.all_eq_true, Bool.and_eq_true] at hk
      have hlen : vs.length = q.1.length := r.length
      refine ⟨a, vs, q.1.map toDa, rfl, hK ▸ h, ?_, ?_, ?_, ?_, fun p hp => ?_⟩
      · have := dps_of (K := w.K) 8 q.1 vs (fun d hd => (hk d hd).1) r
        rw [toDas_map] at this
        exact hK ▸ this
      · intro y hy z hz
        obtain ⟨y', hy', rfl⟩ := List.mem_map.mp hy
        obtain ⟨z', hz', rfl⟩ := List.mem_map.mp hz
        exact like_eq y' z' ((hk y' hy').2 z' hz')
      · rcases hs with hs | hs
        · refine .inl fun y hy => ?_
          obtain ⟨d, hd, rfl⟩ := List.mem_map.mp hy
          have := List.all_eq_true.mp hs d hd
          cases d with
          | tup xs => cases xs with
            | nil => cases this
            | cons x r => exact ⟨toDa x, toDas r, by simp [toDa, toDas]⟩
          | _ => cases this
        · refine .inr fun y hy => ?_
          obtain ⟨d, hd, rfl⟩ := List.mem_map.mp hy
          have h2 := List.all_eq_true.mp hs d hd
          have h3 := (hk d hd).1
          cases d <;> first | (simp [flatQ] at h3; done) | (simp at h2; done) | (simp [toDa])
      · intro y hy
        obtain ⟨d, hd, rfl⟩ := List.mem_map.mp hy
        exact depth_le 8 d (hk d hd).1
      · have e1 : (((vs.zip (q.1.map toDa)).mergeSort fun a b => !PySem.W.dataLt b.2 a.2).map (·.1)) = ((vs.zip q.1).mergeSort fun a b => !ltT b.2 a.2).map (·.1) := by
          rw [zip_map_snd, ← map_sort (f := fun b : V × D => (b.1, toDa b.2)) (le := fun a b => !ltT b.2 a.2) (fun a b => by dsimp only; rw [ltT_eq]), List.map_map]; rfl
        have e2 : (q.1.mergeSort fun a b => !ltT b a) = ((vs.zip q.1).mergeSort fun a b => !ltT b.2 a.2).map (·.2) := by
          rw [map_sort (f := fun b : V × D => b.2) (le' := fun a b => !ltT b a) (fun a b => rfl), zip_snd' hlen]
        rw [e1]
        rw [e2] at g
        refine Rg0.lst g.g0 m1.o (rpA_of fun x hx => rpA_zip r x ((List.mergeSort_perm _ _).mem_iff.mp hx)) ?_ hp
        rw [← e2]
        exact bels_all.mpr fun x hx => bels_all.mp b x ((List.mergeSort_perm _ _).mem_iff.mp hx)
end Pw
end
section
set_option Elab.async false
set_option linter.all false
set_option maxRecDepth 100000
set_option maxHeartbeats 4000000
/-! Pw18t: try with any row of clauses, each with a name or without -/
namespace PwT
open PySem PySem.Spec PyProof.Rows L2
abbrev HT := Addr → Value → Option Addr → TS
/-- one clause: the class, the slot of its name, what its suite needs -/
abbrev Cl1 := Value × Option Nat × HT
/-- the ends of a suite whose name is put away -/
def offE (i : Nat) (D : Ends) : Ends := ⟨fun σ H => D.nx (σ.set i none) H, D.rt, fun σ H => D.bk (σ.set i none) H, fun σ H => D.ct (σ.set i none) H⟩
/-- what one clause's suite is asked where it catches -/
def takesAt (D : Ends) (q : Cl1) (cls : Value) (d : Option Addr) (σ : L2.St) (H : Hp) (a : Addr) : Prop := match q.2.1 with
  | none => q.2.2 a cls d D σ H
  | some i => q.2.2 a cls d (offE i D) (σ.set i (some (.ref a))) H
def wMix (K : PySem.W.Frag) (Wout : L2.WX) (D : Ends) : List Cl1 → L2.WX
  | [] => Wout
  | q :: r => fun cls d σ H => ∃ b, PySem.W.exmOne K cls q.1 = some b ∧ (b = true → ∀ a, H a = none → takesAt D q cls d σ H a) ∧ (b = false → wMix K Wout D r cls d σ H)
/-- a suite that does what is asked -/
abbrev SuOk (X : Cx) (su : List Stmt) (ts : HT) : Prop := ∀ (a : Addr) (oe : Obj) (cls : Value) (d : Option Addr) (pn : List (Addr × Obj)), L2N.Zn cls d oe → (∃ vs, oe.data = .fields vs) → PSs (X.suite a ((a, oe) :: pn)) su (ts a cls d)
inductive MixOk (X : Cx) : List ExceptHandler → List Cl1 → Prop
  | nil : MixOk X [] []
  | plain {x : Str} {c : Value} {ts : HT} {b0 : Stmt} {su : List Stmt} {np ps : Pos} {hds : List ExceptHandler} {l : List Cl1} (hc : Names X x c) (hsu : SuOk X (b0 :: su) ts) (r : MixOk X hds l) :
      MixOk X (.ExceptHandler (some (.Name x np)) none (b0 :: su) ps :: hds) ((c, none, ts) :: l)
  | named {x n : Str} {i : Nat} {c : Value} {ts : HT} {b0 : Stmt} {su : List Stmt} {np ps : Pos} {hds : List ExceptHandler} {l : List Cl1} (hc : Names X x c) (hi : X.N[i]? = some n) (hln : X.env.kindOf n = some .local) (hsu : SuOk X (b0 :: su) ts) (r : MixOk X hds l) :
      MixOk X (.ExceptHandler (some (.Name x np)) (some n) (b0 :: su) ps :: hds) ((c, some i, ts) :: l)
section
variable {X : Cx} {pins : List (Addr × Obj)} {D : Ends} {Wout : L2.WX}
theorem sp_out {xe : Value → Shared → Prop} (ok : X.Ok) {f : PySem.Flow} {s1 : Shared} (q : SP (X.tr (X.pn ++ pins) xe) [] D f s1) : SP X pins D f s1 := by
  cases f with
  | ret u => exact q.elim fun v q => q.elim fun t q => q.elim fun K q => ⟨v, t, K, q.1.ofTry ok, q.2⟩
  | next => exact q.elim fun t q => q.elim fun K q => ⟨t, K, q.1.ofTry ok, q.2⟩
  | brk => exact q.elim fun t q => q.elim fun K q => ⟨t, K, q.1.ofTry ok, q.2⟩
  | cont => exact q.elim fun t q => q.elim fun K q => ⟨t, K, q.1.ofTry ok, q.2⟩
theorem sp_su {a : Addr} {q0 : Addr × Obj} (ok : X.Ok) {f : PySem.Flow} {s1 : Shared} (q : SP (X.suite a (q0 :: (X.pn ++ pins))) [] D f s1) : SP X pins D f s1 := by
  cases f with
  | ret u => exact q.elim fun v q => q.elim fun t q => q.elim fun K q => ⟨v, t, K, q.1.unsuite ok, q.2⟩
  | next => exact q.elim fun t q => q.elim fun K q => ⟨t, K, q.1.unsuite ok, q.2⟩
  | brk => exact q.elim fun t q => q.elim fun K q => ⟨t, K, q.1.unsuite ok, q.2⟩
  | cont => exact q.elim fun t q => q.elim fun K q => ⟨t, K, q.1.unsuite ok, q.2⟩
/-- what holds of the exception when its clauses are looked at -/
structure Land (X : Cx) (pins : List (Addr × Obj)) (B : Heap) (a : Addr) (cls : Value) (d : Option Addr) (sI s1 : Shared) (σ : L2.St) (H : Hp) : Prop where
  ok : X.Ok
  hs : X.stack = X.env :: X.outer
  hf : X.env.frame = some X.env.locals
  hN : X.N.Nodup
  J : Inv X pins σ H sI
  nb : ∀ b o, sI.heap.get? b = some o → b ∉ frs X.stack → B.get? b = some o
  na : H a = none
  up : sI.heap.UpToSlots s1.heap
  os : s1.os = sI.os
  ag : AllBare s1.gens
  fl : HandSPX.FlyingZ B (X.env :: X.outer) a (L2N.Zn cls d) s1.heap
  nL : a ≠ X.env.locals
  nF : a ∉ X.fs
namespace Land
variable {B : Heap} {a : Addr} {cls : Value} {d : Option Addr} {sI s1 : Shared} {σ : L2.St} {H : Hp}
theorem inv (l : Land X pins B a cls d sI s1 σ H) : Inv X pins σ H s1 := l.J.landed l.nb l.fl.1 l.up l.os l.ag
/-- no clause is left: it goes on -/
theorem none_left (l : Land X pins B a cls d sI s1 σ H) (tk : L2N.Takes X Wout) (w : Wout cls d σ H) : wpAny (model X.prog X.w) X.A (handleBy (.ref a) X.env []) (SP X pins D) X.xe s1 := by
  have go : wpAny (model X.prog X.w) X.A (setFlight (.ref a) X.env.frame) (fun _ t => wpAny (model X.prog X.w) X.A (throw (.ref a) : Sem Flow) (SP X pins D) X.xe t) X.xe s1 := by
    rw [l.hf]
    exact HandSPX.setFlight_upZ l.fl fun h4 hh up4 => wpAny_throw (tk _ _ ⟨a, B, sI, pins, σ, H, cls, d, rfl, l.J, l.nb, l.up.trans up4, .inr (.inr (by rw [l.hs]; exact hh)), l.na, l.os, l.ag, w⟩)
  obtain ⟨_, _, _, oe, vs, T, oT, ts, he, hz, hd, h1, _⟩ := id l.fl
  refine wpAny_handleBy_nil ?_
  unfold PySem.passOn
  refine wpAny_bind (wpAny_field he hd h1 ?_)
  rw [if_neg (by simp)]
  first
    | exact wpAny_bind go
    | exact wpAny_bind (wpAny_pure (wpAny_bind go))
/-- the clause's class is found -/
theorem test (l : Land X pins B a cls d sI s1 σ H) {x : Str} {np : Pos} {c : Value} {Q : Value → Shared → Prop} {E : Value → Shared → Prop} (hc : Names X x c) (q : Q c s1) : wpAny (model X.prog X.w) (X.A.mark (some (.ref a))) (eval (.Name x np) X.env) Q E s1 := by
  obtain ⟨oe, vs, he, hz, hd⟩ := l.fl.there
  have S := l.inv.suite he hd l.na l.nL l.nF
  rcases hc with ⟨hg, hdb, hm | ⟨hm, hv, hn⟩⟩
  · exact ld_glob (X := X.suite a ((a, oe) :: (X.pn ++ pins))) S hg hm q hdb
  · exact ld_blt (X := X.suite a ((a, oe) :: (X.pn ++ pins))) S hg hm hv q hn hdb
theorem catch_ (l : Land X pins B a cls d sI s1 σ H) {b : Bool} {c : Value} (hb : PySem.W.exmOne X.K cls c = some b) {A : Around} {Q : Bool → Shared → Prop} {E : Value → Shared → Prop} (q : Q b s1) : wpAny (model X.prog X.w) A (excMatches (.ref a) c) Q E s1 := by
  obtain ⟨oe, vs, he, hz, hd⟩ := l.fl.there
  have ty : PySem.W.Looks (model X.prog X.w) s1.heap (typeOf (.ref a)) cls := fun A Q E s k q => wpAny_typeOf_ref (k _ _ he) (by rw [hz.1]; exact q)
  exact (PySem.W.exm_one l.inv.kIn ty hb).here q
theorem go (tk : L2N.Takes X Wout) {hds : List ExceptHandler} {l : List Cl1} (hk : MixOk X hds l) {s2 : Shared} (L : Land X pins B a cls d sI s2 σ H) (w : wMix X.K Wout D l cls d σ H) : wpAny (model X.prog X.w) X.A (handleBy (.ref a) X.env hds) (SP X pins D) X.xe s2 := by
  induction hk with
  | nil => exact L.none_left tk w
  | plain hc hsu r ih =>
    obtain ⟨b, hb, yes, no⟩ := w
    refine wpAny_handleBy_cons (codeAny_handlers_test ?_) (by intro q; cases q)
    refine L.test hc (L.catch_ hb ?_)
    cases b with
    | false => exact ih (no rfl)
    | true =>
      refine codeAny_handlers_suite (HandSPX.lands_againZ L.fl fun h4 fl4 up4 => ?_)
      obtain ⟨oe, vs, he, hz, hd⟩ := fl4.there
      have J4 : Inv X pins σ H { s2 with heap := h4 } := L.J.landed L.nb fl4.1 (L.up.trans up4) L.os L.ag
      exact wpAny_mono ((hsu a oe cls d (X.pn ++ pins) hz ⟨_, hd⟩).run [] _ _ H _ (J4.suite he hd L.na L.nL L.nF) (yes rfl a L.na)) (fun f s6 q => sp_su L.ok q) fun _ _ z => z.elim
  | named hc hi hln hsu r ih =>
    obtain ⟨b, hb, yes, no⟩ := w
    refine wpAny_handleBy_cons (codeAny_handlers_test ?_) (by intro q; cases q)
    refine L.test hc (L.catch_ hb ?_)
    cases b with
    | false => exact ih (no rfl)
    | true =>
      refine codeAny_handlers_suite_as (HandSPX.lands_againZ L.fl fun h4 fl4 up4 => ?_)
      obtain ⟨oe, vs, he, hz, hd⟩ := fl4.there
      have J4 : Inv X pins σ H { s2 with heap := h4 } := L.J.landed L.nb fl4.1 (L.up.trans up4) L.os L.ag
      refine store_ok (X := X.suite a ((a, oe) :: (X.pn ++ pins))) (v := .ref a) (J4.suite he hd L.na L.nL L.nF) L.hN hi (.inl hln) rfl (fun s5 J5 => ?_) (.inr hln)
      refine wpAny_mono ((hsu a oe cls d (X.pn ++ pins) hz ⟨_, hd⟩).run [] s5 _ H _ J5 (yes rfl a L.na)) (fun f s6 q => ?_) fun _ _ z => z.elim
      cases f with
      | ret u => exact q.elim fun v q => q.elim fun t q => q.elim fun K q => gone_ok (q.1.unsuite L.ok) L.hN hi hln fun s7 J7 => ⟨v, _, K, J7, q.2⟩
      | next => exact q.elim fun t q => q.elim fun K q => gone_ok (q.1.unsuite L.ok) L.hN hi hln fun s7 J7 => ⟨_, K, J7, q.2⟩
      | brk => exact q.elim fun t q => q.elim fun K q => gone_ok (q.1.unsuite L.ok) L.hN hi hln fun s7 J7 => ⟨_, K, J7, q.2⟩
      | cont => exact q.elim fun t q => q.elim fun K q => gone_ok (q.1.unsuite L.ok) L.hN hi hln fun s7 J7 => ⟨_, K, J7, q.2⟩
end Land
/-- an exception of the body, before its clauses -/
theorem caught {hds : List ExceptHandler} {l : List Cl1} (ok : X.Ok) (hs : X.stack = X.env :: X.outer) (hf : X.env.frame = some X.env.locals) (hN : X.N.Nodup) (tk : L2N.Takes X Wout) (hk : MixOk X hds l) {xe : Value → Shared → Prop} {u : Value} {s1 : Shared}
    (x : L2N.XE (X.tr (X.pn ++ pins) xe) (wMix X.K Wout D l) u s1) :
    wpAny (model X.prog X.w) X.A (noteFrame u X.env) (fun _ s2 => wpAny (model X.prog X.w) X.A (setFlight u none) (fun _ s3 => wpAny (model X.prog X.w) X.A (handleBy u X.env hds) (SP X pins D) X.xe s3) X.xe s2) X.xe s1 := by
  obtain ⟨a, B, sI, pins1, σ, H, cls, d, rfl, J1, nb, up, sky, na, os, ag, w⟩ := x
  have J : Inv X pins σ H sI := J1.ofTry ok
  refine L2N.Sky.land (B := B) L2N.Zn.steady (by rw [ok.frames, hs]) hf (show Sky B (X.env :: X.outer) a (L2N.Zn cls d) X.env.locals s1.heap by rw [← hs]; exact sky) fun h3 fl up3 => ?_
  have nfr : a ∉ frs (X.env :: X.outer) := fun hm => by
    obtain ⟨oe, vs, he, hz, hd⟩ := fl.there
    obtain ⟨_, o, e, hn⟩ := fl.2.2.1.mem hm
    rw [he] at e
    cases e
    exact hn _ hd
  refine Land.go (B := B) (cls := cls) (d := d) (sI := sI) tk hk ⟨ok, hs, hf, hN, J, nb, na, up.trans up3, os, ag, fl, fun z => ?_, fun hm => ?_⟩ w
  · exact nfr (List.mem_filterMap.mpr ⟨X.env, List.mem_cons_self, by rw [hf, z]⟩)
  · obtain ⟨e, he, q⟩ := List.mem_filterMap.mp hm
    exact nfr (List.mem_filterMap.mpr ⟨e, List.mem_cons_of_mem _ he, q⟩)
theorem ps_try_mix {body : List Stmt} {h0 : ExceptHandler} {hds : List ExceptHandler} {l : List Cl1} {pos : Pos} {tb : L2.WX → TS} (hs : X.stack = X.env :: X.outer) (hf : X.env.frame = some X.env.locals) (hN : X.N.Nodup) (tk : L2N.Takes X Wout)
    (hb : ∀ (W : L2.WX) (pn : List (Addr × Obj)) (xe : Value → Shared → Prop), L2N.Takes (X.tr pn xe) W → PassesOwn (model X.prog X.w) X.A X.env xe → PSs (X.tr pn xe) body (tb W))
    (hk : MixOk X (h0 :: hds) l) : PS X (.Try body (h0 :: hds) [] [] pos) (fun D σ H => tb (wMix X.K Wout D l) D σ H) := by
  refine ⟨fun pins s σ H D I h => wpAny_Try_except (wpAny_mono ((hb _ (X.pn ++ pins) _ (fun u s1 x => caught (pins := pins) I.ok hs hf hN tk hk x) PassesOwn.looking).run [] s σ H D (I.toTry _) h) (fun f s1 q => ?_) fun _ _ q => q)⟩
  have q := sp_out I.ok q
  cases f with
  | next => exact wpAny_execs_nil q
  | brk => exact q
  | cont => exact q
  | ret u => exact q
end
end PwT
end
section
set_option Elab.async false
set_option linter.all false
set_option maxRecDepth 100000
set_option maxHeartbeats 4000000
set_option autoImplicit false
/-! Pw18u: try with several clauses: named ones, and unnamed ones whose suite gives a value -/
namespace Pw
open PySem PySem.Spec PyProof.Rows L2
variable {w : Wo} {xw : Xw} {C : Ctx} {W : WX} {X : Cx}
abbrev Hd := List Nat × Option Nat × List Stm
/-- the clauses of the small language and those of the text -/
inductive Meets (w : Wo) (xw : Xw) (C : Ctx) (X : Cx) : List Hd → List PwT.Cl1 → Prop
  | nil : Meets w xw C X [] []
  | named {cs : List Nat} {i : Nat} {suite : List Stm} {cv : Value} {hs : List Hd} {l : List PwT.Cl1} (hex : ∀ k, k < xw.n → PySem.W.exmOne X.K (xw.cA k) cv = some (catches C.Cl k cs)) (r : Meets w xw C X hs l) :
      Meets w xw C X ((cs, some i, suite) :: hs) ((cv, some i, tsX w xw C i suite) :: l)
  | plain {cs : List Nat} {x : Exp} {d : D} {cv : Value} {hs : List Hd} {l : List PwT.Cl1} (hxd : ∀ (C : Ctx) (env : Env) (S : Store), evE C x env S = .ok d S) (hex : ∀ k, k < xw.n → PySem.W.exmOne X.K (xw.cA k) cv = some (catches C.Cl k cs)) (r : Meets w xw C X hs l) :
      Meets w xw C X ((cs, none, [.ret x]) :: hs) ((cv, none, fun _ _ _ => tSts w xw C W0 [.ret x]) :: l)
theorem meets_ok (hx : w.ex.2 = none) {hs : List Hd} {l : List PwT.Cl1} (hm : Meets w xw C X hs l) {φ φ' : Nat → Addr} {S S' : Store} {H H' : Hp} {D0 : Ends} {c : Nat} {fs : List D} {env2 : Env} {σ' : L2.St} {cls : Value} {dd : Option Addr}
    (g : RgS w xw W φ S H (evH C hs c fs env2 S') D0) (la : Lat φ φ' S S' H H') (m' : Sim w.K φ' w.ex H' S' σ' env2) (xr : XR w xw φ' H' S' c fs cls dd) : PwT.wMix X.K W D0 l cls dd σ' H' := by
  have hcls : cls = xw.cA c := xr.2.1
  induction hm with
  | nil =>
    rw [evH] at g
    exact g φ' H' σ' cls dd la m' xr
  | @named cs i suite cv hs l hex r ih =>
    rw [evH] at g
    refine ⟨catches C.Cl c cs, by rw [hcls]; exact hex c xr.1, fun hb a ha => ?_, fun hb => ?_⟩
    · rw [if_pos hb] at g
      have g : RgS w xw W φ S H (if i < env2.length then (evSs { C with exn := some (c, fs) } suite (env2.set i none) S').bind fun fl S => (match fl with
            | .nx env => .ok (.nx (env.set i none)) S
            | .rt d => .ok (.rt d) S
            | _ => .bad) else .bad) D0 := g
      by_cases hl : i < env2.length
      · rw [if_pos hl] at g
        have g := RgS.later g la
        refine ⟨c, fs, φ', env2.set i none, S', xr, ⟨so_ex m'.o rfl, by simp [m'.e.len], fun j d hd => ?_, fun a' j fs' e => ?_, fun a' j d' fs' e => xdO_ok xr e⟩, ?_⟩
        · by_cases z : i = j
          · subst z
            rw [List.getElem?_set_self hl] at hd; cases hd
          · rw [List.getElem?_set_ne z] at hd ⊢
            obtain ⟨v, h1, h2, h3⟩ := m'.e.at_ j d hd
            exact ⟨v, h1, rp_ex h2, h3⟩
        · cases e
          exact List.getElem?_set_self (by rw [m'.e.len]; exact hl)
        · cases r2 : evSs { C with exn := some (c, fs) } suite (env2.set i none) S' with
          | exc c fs S' => rw [r2] at g; exact g
          | bad => rw [r2] at g; exact g
          | ok f S2 =>
            rw [r2] at g
            cases f with
            | nx env3 =>
              intro φ3 H3 σ3 l3 m3
              refine g φ3 H3 _ l3 ⟨so_ex m3.o rfl, by simp [m3.e.len], fun j d hd => ?_, fun a' j fs' e => (by rw [hx] at e; cases e), fun a' j d' fs' e => (by rw [hx] at e; cases e)⟩
              by_cases z : i = j
              · subst z
                by_cases hl3 : i < env3.length
                · rw [List.getElem?_set_self hl3] at hd; cases hd
                · rw [List.getElem?_eq_none (by simpa using hl3)] at hd; cases hd
              · rw [List.getElem?_set_ne z] at hd ⊢
                obtain ⟨v, h1, h2, h3⟩ := m3.e.at_ j d hd
                exact ⟨v, h1, rp_ex h2, h3⟩
            | rt d => exact fun v φ3 H3 l3 so3 r3 => g v φ3 H3 l3 (so_ex so3 rfl) ⟨rp_ex r3.1, r3.2⟩
            | bk env3 => exact g.elim
            | ct env3 => exact g.elim
            | ex c fs env3 => exact g.elim
      · rw [if_neg hl] at g; exact g.elim
    · rw [if_neg (by rw [hb]; simp)] at g
      exact ih g
  | @plain cs x d cv hs l hxd hex r ih =>
    rw [evH] at g
    refine ⟨catches C.Cl c cs, by rw [hcls]; exact hex c xr.1, fun hb a ha => ?_, fun hb => ?_⟩
    · rw [if_pos hb] at g
      refine ⟨φ', env2, S', m', ?_⟩
      have e1 : ∀ K : Ctx, evSs K [.ret x] env2 S' = .ok (.rt d) S' := fun K => by rw [evSs, evS, hxd]; rfl
      rw [e1]
      have g : RgS w xw W φ S H ((evSs { C with exn := some (c, fs) } [.ret x] env2 S').bind fun fl S => (match fl with
        | .nx env => .ok (.nx env) S
        | .rt d => .ok (.rt d) S
        | _ => .bad)) D0 := g
      rw [e1] at g
      exact (RgS.later g la : RgS w xw W φ' S' H' (.ok (.rt d) S') D0)
    · rw [if_neg (by rw [hb]; simp)] at g
      exact ih g
theorem sst_tryM {ss : List Stm} {sts : List Stmt} {hs : List Hd} {h0 : ExceptHandler} {hds : List ExceptHandler} {l : List PwT.Cl1} {pos : Pos} (hx : w.ex.2 = none) (hs1 : X.stack = X.env :: X.outer) (hf : X.env.frame = some X.env.locals) (hN : X.N.Nodup) (tk : L2N.Takes X W)
    (hb : ∀ (W : WX) (pn : List (Addr × Obj)) (xe : Value → Shared → Prop), L2N.Takes (X.tr pn xe) W → PassesOwn (model X.prog X.w) X.A X.env xe → PSs (X.tr pn xe) sts (tSts w xw C W ss))
    (hk : PwT.MixOk X (h0 :: hds) l) (hm : Meets w xw C X hs l) : PS X (.Try sts (h0 :: hds) [] [] pos) (tSt w xw C W (.tryS ss hs)) :=
  psI (PwT.ps_try_mix (tb := fun W => tSts w xw C W ss) hs1 hf hN tk hb hk) fun D0 σ H ⟨φ, env, S, m, g⟩ => by
    refine ⟨φ, env, S, m, ?_⟩
    have g : RgS w xw W φ S H ((evSs C ss env S).bind fun fl S => match fl with
      | .ex c fs env => evH C hs c fs env S
      | fl => .ok fl S) D0 := g
    cases r : evSs C ss env S with
    | exc c fs S' => rw [r] at g; exact g
    | bad => rw [r] at g; exact g
    | ok f S' =>
      rw [r] at g
      cases f with
      | ex c fs env2 => exact fun φ' H' σ' cls dd la m' xr => meets_ok hx hm g la m' xr
      | nx env2 => exact g
      | bk env2 => exact g
      | ct env2 => exact g
      | rt d => exact g
end Pw
end
section
set_option Elab.async false
set_option linter.all false
set_option maxRecDepth 100000
set_option maxHeartbeats 2000000
set_option autoImplicit false
/-! Pw18v: isinstance(e, (C1, ..)) -/
namespace Pw
open PySem PySem.Spec PyProof.Rows L2
variable {w : Wo} {xw : Xw} {C : Ctx} {W : WX} {X : Cx} {p : Prg}
def tCs : List V → TA
  | [] => tNil
  | v :: r => tCons (tC v) (tCs r)
theorem tCs_run : ∀ (vs : List V) {σ : L2.St} {H : Hp} {Q : List V → Hp → Prop}, Q vs H → tCs vs σ H Q
  | [], _, _, _, h => h
  | v :: r, _, _, _, h => tCs_run r (Q := fun xs H2 => _) h
/-- the classes of a row of names -/
structure TstsOk (xw : Xw) (X : Cx) (p : Prg) (ks : List Nat) (es : List Expr) (vs : List V) (cvs : List Value) : Prop where
  pa : PA X es (tCs vs)
  cl : Paired ClsV vs cvs
  len : vs.length = ks.length
  kit : ∀ c, c < xw.n → ∃ bs, p.Cl[c]? = some bs ∧ PySem.W.kitAny X.K (xw.cA c) cvs = some (ks.any fun k => bs.contains k)
theorem TstsOk.nil (h : ∀ c, c < xw.n → ∃ bs, p.Cl[c]? = some bs) : TstsOk xw X p [] [] [] [] := ⟨pa_nil, .nil, rfl, fun c hc => by
  obtain ⟨bs, hb⟩ := h c hc
  exact ⟨bs, hb, rfl⟩⟩
theorem TstsOk.cons {k : Nat} {x : Str} {cv : Value} {q : Pos} {ks : List Nat} {es : List Expr} {vs : List V} {cvs : List Value} (ht : TstOk xw X.K X.mg p k x cv) (hg : Gl X x) (hn : okName x = true) (r : TstsOk xw X p ks es vs cvs) : ∃ v, TstsOk xw X p (k :: ks) (.Name x q :: es) (v :: vs) (cv :: cvs) := by
  obtain ⟨v, h1, h2⟩ := pe_tst (pos := q) ht hg hn
  refine ⟨v, pa_cons h1 r.pa rfl, .cons h2 r.cl, by simp [r.len], fun c hc => ?_⟩
  obtain ⟨bs, hb, hk, _⟩ := ht.kit c hc
  obtain ⟨bs', hb', hk'⟩ := r.kit c hc
  rw [hb] at hb'
  cases hb'
  refine ⟨bs, hb, ?_⟩
  show (match PySem.W.kitOne X.K (xw.cA c) cv with
    | some true => some true
    | some false => PySem.W.kitAny X.K (xw.cA c) cvs
    | none => none) = _
  rw [hk, hk', List.any_cons]
  cases bs.contains k <;> rfl
theorem se_isXT {n : Nat} {sl : Option Nat} {i : Nat} {y : Str} {ks : List Nat} {es : List Expr} {vs : List V} {cvs : List Value} {x1 : Nat} {q q1 q2 pos : Pos} (hK : w.K = X.K) (hx : Hx w xw p n C sl X) (hs : sl = some i) (hC : C.Cl = p.Cl) (gl : Gl X "isinstance") (hm : X.mg "isinstance" = none) (hN : X.N[i]? = some y) (hv : Vis X.env.scope y) (hy : okName y = true)
    (ht : TstsOk xw X p ks es vs cvs) (hl : ks.length ≤ 1000) : PE X (.Call (.Name "isinstance" q) [.Name y q1, .Tuple es x1 q2] [] pos) (tE w xw C W (.isX ks)) := by
  obtain ⟨a, oe, i', c, D0, fs0, dd, he, hs', hc, hcn, hD, hp, hz, hf, hE, _⟩ := hx.ex
  rw [hs] at hs'
  cases hs'
  refine peI (cb2 (cr_isXT hE hp hz.zc hf) gl hm bb_isi (pe_exn hN hv hy) (pe_tup ht.pa) (by decide) rfl rfl) fun σ H Q ⟨φ, env, S, m, g⟩ => ?_
  refine ⟨.ref a, m.e.xs a i _ he, tCs_run vs ⟨by rw [ht.len, sizeLine_eq]; omega, fun tp hp0 => ?_⟩⟩
  obtain ⟨bs, hb, hk⟩ := ht.kit c hcn
  rw [hD] at hk
  have g : Rg w xw W σ (RE w) φ S H (match C.exn with
    | some (c, _) => (match C.Cl[c]? with
      | some bs => .ok (.bl (ks.any fun k => bs.contains k)) S
      | none => .bad)
    | none => .bad) Q := g
  rw [hc] at g
  dsimp only at g
  rw [hC, hb] at g
  refine ⟨fun d hd => (xdAt_of m.e he d hd).imp fun fs z => (by rw [upd_ne (ne_of_none z hp0)]; exact z), tp, vs, cvs, ks.any fun k => bs.contains k, rfl, upd_same, ht.cl, hk, ?_⟩
  exact fBl (g.later (Lat.newT hp0)) (m.o.new hp0)
end Pw
end
section
set_option Elab.async false
set_option linter.all false
set_option maxRecDepth 100000
set_option maxHeartbeats 2000000
set_option autoImplicit false
/-! Pw18w: tuple(range(a, b, c)) -/
namespace PwR
open PySem PySem.Spec PyProof.Rows L2
variable {X : Cx} {a b c : Expr}
/-- n numbers from i on, by steps of k -/
def stepV (i k : Int) (n : Nat) : List V := (List.range n).map fun j : Nat => V.int (i + (j : Int) * k)
theorem vals_step {i k : Int} {n : Nat} {acc : Array Value} (h : ItemsOf (fun j v => ∃ t, v = .int (i + j * k) t) acc n) : Vals (stepV i k n) acc.toList := by
  have e : acc.toList.length = n := by rw [Array.length_toList]; exact h.1
  unfold stepV
  rw [← e]
  refine vals_of_get acc.toList _ fun j u hj => ?_
  obtain ⟨t, rfl⟩ := h.2 j u (by rw [← hj, Array.getElem?_toList])
  exact ⟨t, rfl⟩
def tTupStep (ta : TA) : TE := fun σ H Q => ta σ H fun vs H1 => ∃ (i j k : Int) (n : Nat), vs = [.int i, .int j, .int k] ∧ RgC i j k n ∧ n ≤ 2 ^ 24 ∧ ∀ q, H1 q = none → Q (.ref q) (upd H1 q (.tup (stepV i k n)))
theorem pe_tupStep {ta : TA} {p p2 pos pos2 : Pos} (hc : X.calm = true) (hg : Gl X "tuple") (hm : X.mg "tuple" = none) (hg2 : Gl X "range") (hm2 : X.mg "range" = none) (ha : PA X [a, b, c] ta)
    (hs : starEach [a, b, c] X.env = (false, eval a X.env) :: starEach [b, c] X.env) (hp : (backTo pos2 (starEach [b, c] X.env)).any (·.1) = false) :
    PE X (.Call (.Name "tuple" p) [.Call (.Name "range" p2) [a, b, c] [] pos2] [] pos) (tTupStep ta) := by
  refine ⟨fun pins s σ H Q I h => ?_⟩
  have rg : wpAny (model X.prog X.w) X.A (eval (.Call (.Name "range" p2) [a, b, c] [] pos2) X.env) (fun x s1 => ∃ (r : Addr) (i j k : Int) (n : Nat) (t u v : Tok) (H1 : Hp), x = .ref r ∧ IsRange s1.heap r i j k t u v ∧ Inv X pins σ H1 s1 ∧ RgC i j k n ∧ n ≤ 2 ^ 24 ∧ ∀ q, H1 q = none → Q (.ref q) (upd H1 q (.tup (stepV i k n)))) X.xe s := by
    refine Call_ (ld_blt I hg2 hm2 boot_range (PyProof.Rows.callWith_type1 (thn (ha.run pos2 pins s σ H _ I h) fun us s1 ⟨vs, H1, I1, r1, q1⟩ => ?_) hs hp))
    obtain ⟨i, j, k, n, e, rc, hn, q⟩ := q1
    subst e
    rcases r1 with _ | ⟨r, _ | ⟨r', _ | ⟨r'', rr⟩⟩⟩
    cases rr
    obtain ⟨t, rfl⟩ := r
    obtain ⟨t', rfl⟩ := r'
    obtain ⟨t'', rfl⟩ := r''
    exact call_range_3 rc.1 ⟨_, i, j, k, n, _, _, _, H1, rfl, IsRange.new _ _ _ _ _ _ _, I1.kept fun b o e => Heap.get?_push_of_some _ e, rc, hn, q⟩ (.inl (PyProof.noPylong_small rc.2.1))
  refine Call_ (ld_blt I hg hm boot_tuple (PyProof.Rows.callWith_type1 (args_cons (thn rg fun x s1 ⟨r, i, j, k, n, t, u, v, H1, ex, hr, I1, rc, hn, q⟩ => args_nil ?_) (by rfl)) (by rfl)))
  subst ex
  obtain ⟨c0, c1, c2, c3⟩ := rc
  refine call_tuple_range (n := n) (I1.ok.hd hc) hr c2 c3 hn fun h' tk acc hk hi => ?_
  have I2 : Inv X pins σ H1 { s1 with heap := h', toks := tk } := I1.kept hk
  refine ⟨.ref h'.objs.size, upd H1 h'.objs.size (.tup (stepV i k n)), I2.laid (t' := tk) (fun c o e => Heap.get?_push_of_some _ e) (Nat.le_refl _) (show ObjOk X.prog X.w _ _ _ (.tup (stepV i k n)) from ⟨?_, acc.toList, vals_step hi, ?_⟩), rfl, q _ (I2.hok.fresh (Nat.le_refl _))⟩
  · simp only [stepV, List.length_map, List.length_range]; rw [sizeLine_eq]; omega
  · rw [Array.toArray_toList]; exact IsTup.new _ _
end PwR
end
section
set_option Elab.async false
set_option linter.all false
set_option maxRecDepth 100000
set_option maxHeartbeats 2000000
set_option autoImplicit false
/-! Pw18x: tuple(range(a, b, c)) by the evaluator -/
namespace Pw
open PySem PySem.Spec PyProof.Rows L2
variable {w : Wo} {xw : Xw} {C : Ctx} {W : WX} {X : Cx}
theorem rp_step {φ : Nat → Addr} {H : Hp} (i k : Int) : ∀ (l : List Nat), RpA w.K φ w.ex H (l.map fun j : Nat => V.int (i + (j : Int) * k)) (l.map fun j : Nat => D.int (i + (j : Int) * k))
  | [] => .nil
  | j :: r => .cons (.int _) (rp_step i k r)
theorem se_tupR {a b c : Expr} {x y z : Exp} {q q2 pos pos2 : Pos} (hc : X.calm = true) (hg : Gl X "tuple") (hm : X.mg "tuple" = none) (hg2 : Gl X "range") (hm2 : X.mg "range" = none) (ha : PE X a (tE w xw C W x)) (hb : PE X b (tE w xw C W y)) (hd : PE X c (tE w xw C W z)) (h : okX a = true) (h2 : okX b = true) (h3 : okX c = true) :
    PE X (.Call (.Name "tuple" q) [.Call (.Name "range" q2) [a, b, c] [] pos2] [] pos) (tE w xw C W (.tupR x y z)) :=
  peI (PwR.pe_tupStep hc hg hm hg2 hm2 (pa_cons ha (pa_cons hb (pa_cons hd pa_nil (star_ok h3)) (star_ok h2)) (star_ok h)) (star_ok h) (plainArgs_ok (by simp [h2, h3]))) fun σ H Q ⟨φ, env, S, m, g⟩ => by
    refine tE.then m g fun v d S1 φ1 H1 l1 m1 r1 g => ?_
    refine tE.then m1 g fun u d2 S2 φ2 H2 l2 m2 r2 g => ?_
    refine tE.then m2 g fun u d3 S3 φ3 H3 l3 m3 r3 g => ?_
    cases d with
    | int i => cases d2 with
      | int j => cases d3 with
        | int k =>
          cases r1.1
          cases r2.1
          cases r3.1
          obtain ⟨h1, g⟩ := Rg.ite (c := (small i && small j && (decide (0 < k) && decide (k < 1073741824)) && decide ((rngL3 i j k).length ≤ line)) = true) g
          simp only [Bool.and_eq_true, decide_eq_true_eq] at h1
          obtain ⟨⟨⟨s1, s2⟩, k1, k2⟩, hn⟩ := h1
          have hlen : (rngL3 i j k).length = (if i < j then ((j - i - 1) / k + 1).toNat else 0) := by
            unfold rngL3
            rw [if_neg (show ¬ k = -1 by omega)]; simp
          refine ⟨i, j, k, (if i < j then ((j - i - 1) / k + 1).toNat else 0), rfl, rgC_up s1 s2 k1 k2, by rw [← hlen]; exact hn, fun p hp => ?_⟩
          have e : rngL3 i j k = (List.range (if i < j then ((j - i - 1) / k + 1).toNat else 0)).map fun t : Nat => D.int (i + (t : Int) * k) := by
            unfold rngL3
            rw [if_neg (show ¬ k = -1 by omega)]
          rw [e] at g
          exact g.g0.tup m3.o (rp_step i k _) (bels_map fun _ => rfl) hp
        | _ => exact g.elim
      | _ => exact g.elim
    | _ => exact g.elim
end Pw
end
section
set_option Elab.async false
set_option linter.all false
set_option maxRecDepth 100000
set_option maxHeartbeats 2000000
set_option autoImplicit false
/-! Pw18y: text.split(sign), "0123456789".find(digit), xs.insert(i, y), f'{a}t{b}' -/
namespace Pw
open PySem PySem.Spec PyProof.Rows L2 TL
variable {w : Wo} {xw : Xw} {C : Ctx} {W : WX} {X : Cx}
theorem spl_splC (c : Nat) : ∀ (l acc : List Nat), spl [c] 0 acc l = (splC c l).modifyHead (acc ++ ·)
  | [], acc => by rw [spl_nil]; simp [splC]
  | a :: r, acc => by
    have hp : pre [c] (a :: r) = (a == c) := by simp [pre]
    by_cases e : a = c
    · rw [spl_hit (by rw [hp]; simp [e])]
      simp only [splC, if_pos e, List.modifyHead_cons, List.append_nil]
      have := spl_splC c r []
      simp only [List.length_singleton, Nat.sub_self]
      rw [this]
      congr 1
      cases splC c r <;> rfl
    · rw [spl_miss (by rw [hp]; simpa using e), spl_splC c r]
      simp only [splC, if_neg e]
      cases splC c r with
      | nil => rfl
      | cons w ws => simp
theorem splC_ok (x y : Str) (c : Nat) (hy : y.cps.toList = [c]) (hc : c < 128) : (Txt.split x y).map tl = splC c x.cps.toList := by
  have e : tl y = [c] := hy
  have hk : y.cps.all (· < 256) = true := by
    rw [← Array.all_toList, hy]; simp; omega
  rw [split_spl x y (by rw [e]; simp) (kind_ok hk), e, spl_splC]
  show (splC c x.cps.toList).modifyHead (fun z => [] ++ z) = _
  cases splC c x.cps.toList <;> simp
theorem rp_strs {φ : Nat → Addr} {H : Hp} : ∀ (ys : List Str), RpA w.K φ w.ex H (ys.map V.str) ((ys.map tl).map D.str)
  | [] => .nil
  | y :: r => .cons (.str y) (rp_strs r)
theorem bels_st0 (n : Nat) : ∀ (l : List (List Nat)), D.bels n (l.map D.str) = true
  | [] => rfl
  | a :: r => by show (D.bel n (.str a) && D.bels n (r.map D.str)) = true; rw [bels_st0 n r]; rfl
section
variable {e a b c o : Expr} {es : List Expr} {x y z : Exp} {xs : List Exp} {pos p apos : Pos}
theorem se_split (ho : PE X o (tE w xw C W x)) (ha : PE X a (tE w xw C W y)) (h1 : okX a = true) (hb : attributeBase o "split" X.env (eval o X.env) = eval o X.env) (hl : (apos.endLine == pos.line) = true) :
    PE X (.Call (.Attribute o "split" apos) [a] [] pos) (tE w xw C W (.split x y)) :=
  peI (pe_bm PySem.F.plainAttrs_str PySem.F.slot_str_split PySem.F.type_str_split mt_split ho (pa_cons ha pa_nil (star_ok h1)) hb (few_ok h1) hl (star_ok h1) rfl) fun σ H Q ⟨φ, env, S, m, g⟩ => by
    refine tE.then m g fun v d S1 φ1 H1 l1 m1 r1 g => ?_
    obtain ⟨hi, g⟩ := Rg.ite (c := isS d = true) g
    obtain ⟨t, rfl, rfl⟩ := isS_ok r1 hi
    refine ⟨rfl, ?_⟩
    refine tE.then m1 g fun u d2 S2 φ2 H2 l2 m2 r2 g => ?_
    match d2, r2, g with
    | .str [c], r2, g =>
      obtain ⟨z, rfl, ez'⟩ := rp_inv r2.1
      obtain ⟨h2, g⟩ := Rg.ite (c := (decide (c < 128) && decide (t.cps.toList.length + 2 ≤ line)) = true) g
      simp only [Bool.and_eq_true, decide_eq_true_eq] at h2
      have hlen : z.length = 1 := by rw [str_len, ez']; rfl
      refine ⟨t, z, rfl, rfl, by rw [hlen]; rfl, by rw [str_len, line_eq]; exact h2.2, fun q hq => ?_⟩
      have e := splC_ok t z c ez' h2.1
      rw [← e] at g
      exact Rg0.lst g.g0 m2.o (rp_strs _) (bels_st0 _ _) hq
    | .str [], r2, g => exact g.elim
    | .str (_ :: _ :: _), r2, g => exact g.elim
    | .non, r2, g => exact g.elim
    | .bl _, r2, g => exact g.elim
    | .int _, r2, g => exact g.elim
    | .tup _, r2, g => exact g.elim
    | .obj _, r2, g => exact g.elim
    | .exc _ _, r2, g => exact g.elim
theorem find_ok (x y : Str) (c : Nat) (hx : x.cps.toList = [48, 49, 50, 51, 52, 53, 54, 55, 56, 57]) (hy : y.cps.toList = [c]) (h1 : 48 ≤ c) (h2 : c < 58) : Txt.find x y = (c : Int) - 48 := by
  have ex : x = ⟨[48, 49, 50, 51, 52, 53, 54, 55, 56, 57].toArray⟩ := ext_tl hx
  have ey : y = ⟨[c].toArray⟩ := ext_tl hy
  rw [ex, ey]
  have : c = 48 ∨ c = 49 ∨ c = 50 ∨ c = 51 ∨ c = 52 ∨ c = 53 ∨ c = 54 ∨ c = 55 ∨ c = 56 ∨ c = 57 := by omega
  rcases this with rfl | rfl | rfl | rfl | rfl | rfl | rfl | rfl | rfl | rfl <;> decide +kernel
theorem se_find (ho : PE X o (tE w xw C W x)) (ha : PE X a (tE w xw C W y)) (h1 : okX a = true) (hb : attributeBase o "find" X.env (eval o X.env) = eval o X.env) (hl : (apos.endLine == pos.line) = true) :
    PE X (.Call (.Attribute o "find" apos) [a] [] pos) (tE w xw C W (.find x y)) :=
  peI (pe_bm PySem.F.plainAttrs_str PySem.F.slot_str_find PySem.F.type_str_find mt_find ho (pa_cons ha pa_nil (star_ok h1)) hb (few_ok h1) hl (star_ok h1) rfl) fun σ H Q ⟨φ, env, S, m, g⟩ => by
    refine tE.then m g fun v d S1 φ1 H1 l1 m1 r1 g => ?_
    obtain ⟨hi, g⟩ := Rg.ite (c := isS d = true) g
    obtain ⟨t, rfl, rfl⟩ := isS_ok r1 hi
    refine ⟨rfl, ?_⟩
    refine tE.then m1 g fun u d2 S2 φ2 H2 l2 m2 r2 g => ?_
    match d2, r2, g with
    | .str [c], r2, g =>
      obtain ⟨z, rfl, ez'⟩ := rp_inv r2.1
      obtain ⟨h2, g⟩ := Rg.ite (c := (decide (t.cps.toList = [48, 49, 50, 51, 52, 53, 54, 55, 56, 57]) && (decide (48 ≤ c) && decide (c < 58))) = true) g
      simp only [Bool.and_eq_true, decide_eq_true_eq] at h2
      refine ⟨t, z, rfl, rfl, ?_⟩
      rw [find_ok t z c h2.1 ez' h2.2.1 h2.2.2]
      exact fInt g m2.o
    | .str [], r2, g => exact g.elim
    | .str (_ :: _ :: _), r2, g => exact g.elim
    | .non, r2, g => exact g.elim
    | .bl _, r2, g => exact g.elim
    | .int _, r2, g => exact g.elim
    | .tup _, r2, g => exact g.elim
    | .obj _, r2, g => exact g.elim
    | .exc _ _, r2, g => exact g.elim
theorem few2_ok {cpos : Pos} {env : PySem.Env} (h1 : okX a = true) (h2 : okX b = true) : ((backTo cpos (starEach [a, b] env)).all (fun x => !x.1) && (backToKw cpos (keywordEach [] env)).all (fun x => x.1.isSome)
      && decide ([a, b].length + ([] : List Keyword).length + (if ([] : List Keyword).isEmpty then 0 else 1) < 30)) = true := by
  rw [star_ok h1, star_ok h2]; rfl
theorem se_insl (hK : w.K = X.K) (ho : PE X o (tE w xw C W x)) (ha : PE X a (tE w xw C W y)) (hc : PE X b (tE w xw C W z)) (h1 : okX a = true) (h2 : okX b = true) (hb : attributeBase o "insert" X.env (eval o X.env) = eval o X.env) (hl : (apos.endLine == pos.line) = true) :
    PE X (.Call (.Attribute o "insert" apos) [a, b] [] pos) (tE w xw C W (.insl x y z)) :=
  peI (pe_bm PySem.F.plainAttrs_list PySem.F.slot_list_insert PySem.F.type_list_insert mt_insert ho (pa_cons ha (pa_cons hc pa_nil (star_ok h2)) (star_ok h1)) hb (few2_ok h1 h2) hl (star_ok h1) (plainArgs_ok (by simp [h2]))) fun σ H Q ⟨φ, env, S, m, g⟩ => by
    refine tE.then m g fun v d S1 φ1 H1 l1 m1 r1 g => ?_
    obtain ⟨hi, g⟩ := Rg.ite (c := isL d S1 = true) g
    obtain ⟨n, ds, vs, rfl, rfl, en, hH, rv⟩ := isL_ok m1.o r1 hi
    refine ⟨.inl ⟨rfl, vs, SqL.of hH⟩, ?_⟩
    refine tE.then m1 g fun u d2 S2 φ2 H2 l2 m2 r2 g => ?_
    refine tE.then m2 g fun u3 d3 S3 φ3 H3 l3 m3 r3 g => ?_
    cases d2 with
    | int k =>
      cases r2.1
      have g : Rg w xw W σ (RE w) φ3 S3 H3 (match get S3 n with
        | some (.lst xs) => if (decide (xs.length < line) && (decide (0 ≤ k) && decide (k < 2 ^ 62))) = true then .ok .non (put S3 n (.lst (xs.take k.toNat ++ [d3] ++ xs.drop k.toNat))) else .bad
        | _ => .bad) Q := g
      split at g
      · rename_i ys e2
        obtain ⟨hl2, g⟩ := Rg.ite g
        simp only [Bool.and_eq_true, decide_eq_true_eq] at hl2
        obtain ⟨us, h2, ru⟩ := m3.o.ob n _ e2
        have hn : n < S1.length := get_lt en
        have same : φ3 n = φ1 n := by rw [l3.same n (by have := l2.le; omega), l2.same n hn]
        rw [same] at h2
        have bb := bels_all.mp (m3.o.wf n _ e2)
        have b3 : D.bels S3.length (ys.take k.toNat ++ [d3] ++ ys.drop k.toNat) = true := bels_all.mpr fun d hd => by
          simp only [List.mem_append, List.mem_singleton] at hd
          rcases hd with (hd | rfl) | hd
          · exact bb d (List.mem_of_mem_take hd)
          · exact r3.2
          · exact bb d (List.mem_of_mem_drop hd)
        obtain ⟨lw, sw⟩ := m3.o.write (n := n) (o := .lst ys) (o' := .lst (ys.take k.toNat ++ [d3] ++ ys.drop k.toNat)) (u := .lst (us.take k.toNat ++ [u3] ++ us.drop k.toNat)) e2 rfl b3 fun w' hw => ⟨us.take k.toNat ++ [u3] ++ us.drop k.toNat, upd_same, (((ru.take k.toNat).append (.cons r3.1 .nil)).append (ru.drop k.toNat)).mono b3 (fun _ _ => rfl) (Kp.set hw (by rw [same, h2] at hw; cases hw; trivial))⟩
        rw [same] at lw sw
        exact ⟨φ1 n, us, k, u3, rfl, rfl, h2, by rw [ru.length, line_eq]; exact hl2.1, hl2.2.1, by omega, fW g lw sw .non rfl⟩
      · exact g.elim
    | _ => cases d3 <;> exact g.elim
/-! ### f'{a}t{b}' -/
theorem se_fs {t : List Nat} {k : Nat} {q1 q2 q3 : Pos} {st : Str} (ho : PE X a (tE w xw C W x)) (ha : PE X b (tE w xw C W y)) (ht : st.cps.toList = t) :
    PE X (.JoinedStr [.FormattedValue a (-1) none q1, .Constant (.str st) k q2, .FormattedValue b (-1) none q3] pos) (tE w xw C W (.fs x t y)) :=
  peI (pe_joined (.cons (pe_fmt ho) (.cons pe_str (.cons (pe_fmt ha) .nil)))) fun σ H Q ⟨φ, env, S, m, g⟩ => by
    refine tE.then m g fun v d S1 φ1 H1 l1 m1 r1 g => ?_
    obtain ⟨hi, g⟩ := Rg.ite (c := shortS d t = true) g
    obtain ⟨s, rfl, hi2⟩ : ∃ s, d = .str s ∧ s.length + t.length ≤ 1000 := by
      cases d with
      | str s => exact ⟨s, rfl, of_decide_eq_true hi⟩
      | _ => cases hi
    obtain ⟨z, rfl, ez'⟩ := rp_inv r1.1
    have hz : z.length = s.length := by rw [str_len, ez']
    have hs : st.length = t.length := by rw [str_len, ht]
    have hemp : (Str.empty ++ z).length = s.length := by rw [← hz, str_len, str_len]; show (tl (Str.empty ++ z)).length = _; rw [tl_append]; rfl
    have hemp2 : (Str.empty ++ z ++ st).length = s.length + t.length := by rw [← hs, ← hemp, str_len, str_len, str_len]; show (tl (Str.empty ++ z ++ st)).length = _; rw [tl_append, List.length_append]
    refine .inl ⟨z, rfl, by rw [hz, sizeLine_eq]; omega, z, rfl, by rw [hemp, sizeLine_eq]; omega, st, rfl, by rw [hemp2, sizeLine_eq]; omega, ?_⟩
    refine tE.then m1 g fun u d2 S2 φ2 H2 l2 m2 r2 g => ?_
    cases d2 with
    | int i =>
      cases r2.1
      obtain ⟨hi3, g⟩ := Rg.ite (c := i.natAbs.log2 < 1920) g
      have e := int_text_length_le (k := 1920) (by decide) hi3
      have hfin : (Str.empty ++ z ++ st ++ Str.ofString (toString i)).cps.toList = s ++ t ++ codes (toString i) := by
        show tl (Str.empty ++ z ++ st ++ Str.ofString (toString i)) = _
        rw [tl_append, tl_append, tl_append, tl_ofString]
        show ([] ++ z.cps.toList ++ st.cps.toList) ++ codes (toString i) = _
        rw [ez', ht, List.nil_append]
      refine .inr ⟨i, rfl, hi3, Str.ofString (toString i), rfl, ?_, ?_⟩
      · have : (Str.empty ++ z ++ st ++ Str.ofString (toString i)).length = s.length + t.length + (Str.ofString (toString i)).length := by
          rw [← hemp2, str_len, str_len, str_len]
          show (tl (Str.empty ++ z ++ st ++ Str.ofString (toString i))).length = _
          rw [tl_append, List.length_append]
        rw [this, PySem.ofString_length, sizeLine_eq]; omega
      · rw [← hfin] at g
        exact fE g m2.o (.str _) rfl
    | _ => exact g.elim
end
end Pw
end
section
set_option Elab.async false
set_option linter.all false
set_option maxRecDepth 100000
set_option maxHeartbeats 1000000
set_option autoImplicit false
/-! Pw19: the look at the text: is this term of the small language what stands there? -/
namespace Pw
open PySem PySem.Spec PyProof.Rows L2
/-- what is fixed within a def -/
structure Cf where
  nm : Nm
  N : List Str
  cm : Bool
  sl : Option Nat
/-- what changes with a block -/
structure Cs where
  sc : Scope
  cf : Str → Bool
def blkS (c : Cs) (scope : Scope) : Cs := ⟨relS scope c.sc, fun x => scope.names.lookup x == some .cell⟩
inductive Md where | n | i | s | l
def bopOk : Bop → Operator → Bool
  | .add, .Add => true | .sub, .Sub => true | .mul, .Mult => true | .fdiv, .FloorDiv => true | .mod, .Mod => true | .pow, .Pow => true | .shl, .LShift => true | .shr, .RShift => true | .band, .BitAnd => true
  | _, _ => false
def copOk : Cop → CmpOp → Bool
  | .eq, .Eq => true | .ne, .NotEq => true | .lt, .Lt => true | .le, .LtE => true | .gt, .Gt => true | .ge, .GtE => true | .inn, .In => true | .nin, .NotIn => true | .is, .Is => true | .isn, .IsNot => true
  | _, _ => false
def nameIs (c : Cs) (e : Expr) (s : Str) : Bool := match e with
  | .Name x _ => eqS x s && gloB c.sc x
  | _ => false
def okB (o : Expr) : Bool := match o with
  | .Call _ [] [] _ => false
  | _ => true
def kdS : Kd → Str
  | .int => "int" | .bool => "bool" | .str => "str" | .tuple => "tuple" | .list => "list" | .dict => "dict" | .set => "" | .own _ => ""
def okK : Kd → Bool
  | .set => false | .own _ => false | _ => true
/-- forms whose test is their value's truth -/
def okV : Expr → Bool
  | .Name .. => true | .Call .. => true | .Subscript .. => true | .Constant .. => true | .Attribute .. => true
  | _ => false
def isBo : Expr → Bool
  | .BoolOp .. => true
  | _ => false
def nameC (f : Cf) (c : Cs) (i : Nat) (e : Expr) : Bool := match e with
  | .Name x _ => isAt f.N i x && (locB c.sc x || (match kindAt c.sc.names x with | some .cell => true | _ => false) && c.cf x)
  | _ => false
def namesC (f : Cf) (c : Cs) : List Nat → List Expr → Bool
  | [], [] => true
  | i :: is, e :: es => nameC f c i e && namesC f c is es
  | _, _ => false
/-- zip is walked with a tuple of names only -/
def zipT (l : Src) (tg : Expr) : Bool := match l with
  | .zip _ _ => (match tg with | .Tuple .. => true | _ => false)
  | _ => true
def tgC (f : Cf) (c : Cs) (t : Tg) (e : Expr) : Bool := match t with
  | .v i => nameC f c i e && (match f.sl with | some j => decide (i ≠ j) | none => true)
  | .tup is => (match e with
    | .Tuple es _ _ => namesC f c is es && f.cm
    | _ => false)
def ownOf (N : List Str) (t : Tg) : List (Str × Nat) := t.ix.map fun i => ((N[i]?).getD "", i)
def constC (d : D) (e : Expr) : Bool := match e with
  | .Constant k _ _ => (match k, d with
    | .none, .non => true
    | .bool b, .bl b' => b == b'
    | .int i, .int j => decide (i = j)
    | .str s, .str l => decide (s.cps.toList = l)
    | _, _ => false)
  | _ => false
/-- the exception's name -/
def slN (f : Cf) (c : Cs) (y : Str) : Bool := match f.sl with
  | some i => isAt f.N i y && visB c.sc y && okName y
  | none => false
def hotAt (l : List (Nat × Str)) (j : Nat) (x : Str) : Bool := l.any fun q => decide (q.1 = j) && eqS q.2 x
/-- the field k of these classes -/
def fldAll (fls : List (List Str)) (k : Nat) (n : Str) (cs : List Nat) : Bool := cs.all fun i => (match fls[i]? with
  | some l => decide l.Nodup && isAt l k n
  | none => false)
/-- names of classes -/
def cXs (f : Cf) (c : Cs) : List Nat → List Expr → Bool
  | [], [] => true
  | k :: ks, .Name x _ :: r => isAt f.nm.tst k x && gloB c.sc x && okName x && cXs f c ks r
  | _, _ => false
mutual
def cE (f : Cf) (c : Cs) : Exp → Expr → Bool
  | .c d, e => constC d e
  | .v i, e => (match e with
    | .Name x _ => isAt f.N i x && visB c.sc x && okName x
    | _ => false)
  | .g i, e => (match e with
    | .Name x _ => isAt f.nm.gs i x && gloB c.sc x && okName x
    | _ => false)
  | .bin o x y, e => (match e with
    | .BinOp a op b _ => bopOk o op && cE f c x a && cE f c y b
    | _ => false)
  | .neg x, e => (match e with
    | .UnaryOp op a _ => (match op with | .USub => cE f c x a | _ => false)
    | _ => false)
  | .notV x, e => (match e with
    | .UnaryOp op a _ => (match op with | .Not => cE f c x a | _ => false)
    | _ => false)
  | .andV x y, e => (match e with
    | .BoolOp op (a :: b :: r) p => (match op with | .And => cE f c x a && cE f c y (match r with | [] => b | _ => .BoolOp .And (b :: r) p) | _ => false)
    | _ => false)
  | .orV x y, e => (match e with
    | .BoolOp op (a :: b :: r) p => (match op with | .Or => cE f c x a && cE f c y (match r with | [] => b | _ => .BoolOp .Or (b :: r) p) | _ => false)
    | _ => false)
  | .cmp o x y, e => (match e with
    | .Compare a [op] [b] _ => copOk o op && cE f c x a && cE f c y b && okX b
    | _ => false)
  | .chn o o' x y z, e => (match e with
    | .Compare a [op, op'] [b, d] _ => copOk o op && copOk o' op' && cE f c x a && cE f c y b && cE f c z d && okX d
    | _ => false)
  | .ife t x y, e => (match e with
    | .IfExp g a b _ => cT f c t g && cE f c x a && cE f c y b
    | _ => false)
  | .call i xs, e => (match e with
    | .Call (.Name n _) (a :: es) [] _ => isAt f.nm.fns i n && gloB c.sc n && okName n && f.cm && okX a && es.all okX && cEs f c xs (a :: es)
    | _ => false)
  | .isX ks, e => (match ks, e with
    | [k], .Call n [.Name y _, .Name x _] [] _ => !f.cm && nameIs c n "isinstance" && slN f c y && isAt f.nm.tst k x && gloB c.sc x && okName x
    | k :: ks, .Call n [.Name y _, .Tuple es _ _] [] _ => !f.cm && nameIs c n "isinstance" && slN f c y && cXs f c (k :: ks) es && decide ((k :: ks).length ≤ 1000)
    | _, _ => false)
  | .xf cs k, e => (match e with
    | .Attribute (.Name y _) n _ => !f.cm && slN f c y && fldAll f.nm.fls k n cs
    | _ => false)
  | .anyH x, e => (match e with
    | .Call n [a] [] _ => !f.cm && nameIs c n "any" && okX a && cE f c x a
    | _ => false)
  | .hot j, e => (match e with
    | .Call (.Name x _) [.Name y _] [] _ => !f.cm && slN f c y && hotAt f.nm.hots j x && gloB c.sc x && okName x
    | _ => false)
  | .f1 g x, e => (match e with
    | .Call n [a] [] _ => (match g with
      | .len => nameIs c n "len" && okX a && cE f c x a
      | .int => nameIs c n "int" && okX a && cE f c x a
      | .abs => nameIs c n "abs" && okX a && cE f c x a
      | .str => nameIs c n "str" && okX a && cE f c x a)
    | _ => false)
  | .f2 g x y, e => (match e with
    | .Call n [a, b] [] _ => f.cm && okX a && okX b && cE f c x a && cE f c y b && (match g with
      | .min => nameIs c n "min"
      | .max => nameIs c n "max")
    | _ => false)
  | .isI x ks, e => (match e, ks with
    | .Call n [a, t] [] _, [k] => nameIs c n "isinstance" && okK k && nameIs c t (kdS k) && okX a && cE f c x a
    | _, _ => false)
  | .idx x y, e => (match e with
    | .Subscript a b _ => cE f c x a && cE f c y b && okX b
    | _ => false)
  | .sl x lo hi, e => (match e with
    | .Subscript a (.Slice l h none _) _ => cE f c x a && cO f c lo l && cO f c hi h
    | _ => false)
  | .rev x, e => (match e with
    | .Subscript a (.Slice none none (some (.UnaryOp op (.Constant (.int j) _ _) _)) _) _ => (match op with | .USub => decide (j = 1) && cE f c x a | _ => false)
    | _ => false)
  | .tup xs, e => (match e with
    | .Tuple es _ _ => cEs f c xs es && decide (xs.length ≤ 1000)
    | _ => false)
  | .ls l, e => cR f c .n l e
  | .tupR x y z, e => (match e with
    | .Call n [.Call m [a, b, d] [] _] [] _ => f.cm && nameIs c n "tuple" && nameIs c m "range" && okX a && okX b && okX d && cE f c x a && cE f c y b && cE f c z d
    | _ => false)
  | .tupOf l, e => (match e with
    | .Call n [a] [] _ => nameIs c n "tuple" && okX a && cR f c .s l a
    | _ => false)
  | .allOf l, e => (match e with
    | .Call n [a] [] _ => f.cm && nameIs c n "all" && okX a && cR f c .l l a
    | _ => false)
  | .anyOf l, e => (match e with
    | .Call n [a] [] _ => f.cm && nameIs c n "any" && okX a && cR f c .l l a
    | _ => false)
  | .sumOf l, e => (match e with
    | .Call n [a] [] _ => f.cm && nameIs c n "sum" && okX a && cR f c .s l a
    | _ => false)
  | .minOf l, e => (match e with
    | .Call n [a] [] _ => f.cm && nameIs c n "min" && okX a && cR f c .l l a
    | _ => false)
  | .maxOf l, e => (match e with
    | .Call n [a] [] _ => f.cm && nameIs c n "max" && okX a && cR f c .l l a
    | _ => false)
  | .sorted l, e => (match l with
    | .keys x => (match e with
      | .Call n [a] [] _ => f.cm && nameIs c n "sorted" && okX a && cE f c x a
      | _ => false)
    | l => (match e with
      | .Call n [a] [] _ => nameIs c n "sorted" && okX a && cR f c .s l a
      | _ => false))
  | .dct es, e => (match e with
    | .Dict ks vs _ => cKV f c es ks vs && decide (ks.length ≤ 15)
    | _ => false)
  | .join x l, e => (match e with
    | .Call (.Attribute o n ap) [a] [] p => eqS n "join" && okB o && (ap.endLine == p.line) && okX a && cE f c x o && cR f c .s l a
    | _ => false)
  | .app x y, e => (match e with
    | .Call (.Attribute o n ap) [a] [] p => eqS n "append" && okB o && (ap.endLine == p.line) && okX a && cE f c x o && cE f c y a
    | _ => false)
  | .pop x, e => (match e with
    | .Call (.Attribute o n ap) [] [] p => eqS n "pop" && okB o && (ap.endLine == p.line) && cE f c x o
    | _ => false)
  | .ext x y, e => (match e with
    | .Call (.Attribute o n ap) [a] [] p => eqS n "extend" && okB o && (ap.endLine == p.line) && okX a && cE f c x o && cE f c y a
    | _ => false)
  | .sw x y, e => (match e with
    | .Call (.Attribute o n ap) [a] [] p => eqS n "startswith" && okB o && (ap.endLine == p.line) && okX a && cE f c x o && cE f c y a
    | _ => false)
  | .split x y, e => (match e with
    | .Call (.Attribute o n ap) [a] [] p => eqS n "split" && okB o && (ap.endLine == p.line) && okX a && cE f c x o && cE f c y a
    | _ => false)
  | .find x y, e => (match e with
    | .Call (.Attribute o n ap) [a] [] p => eqS n "find" && okB o && (ap.endLine == p.line) && okX a && cE f c x o && cE f c y a
    | _ => false)
  | .insl x y z, e => (match e with
    | .Call (.Attribute o n ap) [a, b] [] p => eqS n "insert" && okB o && (ap.endLine == p.line) && okX a && okX b && cE f c x o && cE f c y a && cE f c z b
    | _ => false)
  | .fs x t y, e => (match e with
    | .JoinedStr [.FormattedValue a k1 none _, .Constant (.str st) _ _, .FormattedValue b k2 none _] _ => decide (k1 = -1) && decide (k2 = -1) && decide (st.cps.toList = t) && cE f c x a && cE f c y b
    | _ => false)
  | _, _ => false
def cEs (f : Cf) (c : Cs) : List Exp → List Expr → Bool
  | [], es => (match es with | [] => true | _ => false)
  | x :: xs, es => (match es with | e :: es => cE f c x e && okX e && cEs f c xs es | [] => false)
def cKV (f : Cf) (c : Cs) : List Exp → List (Option Expr) → List Expr → Bool
  | [], ks, vs => (match ks, vs with | [], [] => true | _, _ => false)
  | [_], _, _ => false
  | k :: v :: r, ks, vs => (match ks, vs with
    | some a :: ks, b :: vs => cE f c k a && cE f c v b && cKV f c r ks vs
    | _, _ => false)
def cO (f : Cf) (c : Cs) : Option Exp → Option Expr → Bool
  | none, e => (match e with | none => true | _ => false)
  | some x, e => (match e with | some e => cE f c x e | none => false)
def cR (f : Cf) (c : Cs) : Md → Src → Expr → Bool
  | m, .val x, e => (match m with | .i => cE f c x e | _ => false)
  | m, .seq x, e => (match m with
    | .s => cE f c x e
    | .n => (match e with
      | .Call n [a] [] _ => nameIs c n "list" && okX a && cE f c x a
      | _ => false)
    | _ => false)
  | m, .lis x, e => (match m with | .l => cE f c x e | _ => false)
  | m, .rng x, e => (match m, e with
    | .i, .Call n [a] [] _ => nameIs c n "range" && okX a && cE f c x a
    | _, _ => false)
  | m, .rng2 x y, e => (match m, e with
    | .i, .Call n [a, b] [] _ => nameIs c n "range" && okX a && okX b && cE f c x a && cE f c y b
    | _, _ => false)
  | m, .rng3 x y z, e => (match m, e with
    | .i, .Call n [a, b, d] [] _ => nameIs c n "range" && okX a && okX b && okX d && cE f c x a && cE f c y b && cE f c z d
    | _, _ => false)
  | m, .disp xs, e => (match m, e with
    | .i, _ => false
    | _, .List es _ => cEs f c xs es && decide (xs.length ≤ 1000)
    | _, _ => false)
  | m, .comp x t l ts, e => (match m, e with
    | .i, _ => false
    | _, .ListComp elt [⟨tg, iter, ifs, as⟩] scope _ => f.cm && decide (as = 0) && okX iter && blkC f.N c.sc scope (ownOf f.N t) && tgC f (blkS c scope) t tg && (zipT l tg && cR f c .i l iter) && cTs f (blkS c scope) ts ifs && cE f (blkS c scope) x elt
    | _, _ => false)
  | m, .comp2 x t l ts t1 l1 ts1, e => (match m, e with
    | .i, _ => false
    | _, .ListComp elt [⟨tg, iter, ifs, as⟩, ⟨tg1, iter1, ifs1, as1⟩] scope _ => f.cm && decide (as = 0) && decide (as1 = 0) && okX iter && okX iter1 && blkC f.N c.sc scope (ownOf f.N t ++ ownOf f.N t1) && tgC f (blkS c scope) t tg && tgC f (blkS c scope) t1 tg1 && (zipT l tg && cR f c .i l iter) && cTs f (blkS c scope) ts ifs && (zipT l1 tg1 && cR f (blkS c scope) .i l1 iter1) && cTs f (blkS c scope) ts1 ifs1 && cE f (blkS c scope) x elt
    | _, _ => false)
  | m, .zip x y, e => (match m, e with
    | .i, .Call n [a, b] [] _ => nameIs c n "zip" && okX a && okX b && cE f c x a && cE f c y b
    | _, _ => false)
  | _, _, _ => false
def cT (f : Cf) (c : Cs) : Tst → Expr → Bool
  | .val x, e => cE f c x e && (okV e || (match x, e with | .cmp .., .Compare .. => true | .chn .., .Compare .. => true | _, _ => false))
  | .not t, e => (match e with
    | .UnaryOp op a _ => (match op with | .Not => cT f c t a | _ => false)
    | _ => false)
  | .and t u, e => (match e with
    | .BoolOp op (a :: b :: r) p => (match op with | .And => cT f c t a && cT f c u (match r with | [] => b | _ => .BoolOp .And (b :: r) p) | _ => false)
    | _ => false)
  | .or t u, e => (match e with
    | .BoolOp op (a :: b :: r) p => (match op with | .Or => cT f c t a && cT f c u (match r with | [] => b | _ => .BoolOp .Or (b :: r) p) | _ => false)
    | _ => false)
def cTs (f : Cf) (c : Cs) : List Tst → List Expr → Bool
  | [], es => (match es with | [] => true | _ => false)
  | t :: ts, es => (match ts, es with | [], [e] => cT f c t e | _, _ => false)
end
end Pw
end
section
set_option Elab.async false
set_option linter.all false
set_option maxRecDepth 100000
set_option maxHeartbeats 1000000
set_option autoImplicit false
/-! Pw20: what the look has found holds -/
namespace Pw
open PySem PySem.Spec PyProof.Rows L2
variable {w : Wo} {xw : Xw} {C : Ctx} {p : Prg} {n : Nat} {f : Cf}
structure Fc (w : Wo) (xw : Xw) (p : Prg) (n : Nat) (C : Ctx) (f : Cf) (c : Cs) (W : WX) (X : Cx) : Prop where
  hK : w.K = X.K
  hW : w.ex.1 = X.w
  gd : Gd ⟨w.K, (w.ex.1, none)⟩ xw X.prog X.w X.mg X.base p f.nm n
  nd : X.N.Nodup
  un : X.A.units + 65 < cLine
  cG : C.G = p.G
  cP : ∀ ex, C.Φ ex = den p n ex
  cC : C.Cl = p.Cl
  hx : f.cm = false → Hx w xw p n C f.sl X
  tk : L2N.Takes X W
  hN : X.N = f.N
  sc : X.env.scope = c.sc
  fn : ∀ x, c.cf x = true → X.fn x = true
  sx : ∀ a j fs, w.ex.2 = some (a, j, fs) → f.sl = some j
  calm : f.cm = true → X.calm = true ∧ w.ex.2 = none ∧ Room (n + 2) X.A
section
variable {c : Cs} {W : WX} {X : Cx} {e : Expr}
theorem Fc.w0 (h : Fc w xw p n C f c W X) (hc : f.cm = true) : (⟨w.K, (w.ex.1, none)⟩ : Wo) = w := by
  have := (h.calm hc).2.1
  obtain ⟨K0, e0⟩ := w
  obtain ⟨d0, x0⟩ := e0
  simp only at this
  subst this
  rfl
theorem Fc.fx (h : Fc w xw p n C f c W X) (hc : f.cm = true) : Fx w xw p f.nm n X := ⟨h.hK, h.hW, (by have g := h.gd; rw [h.w0 hc] at g; exact g), h.nd, (h.calm hc).2.1, (h.calm hc).1, (h.calm hc).2.2⟩
theorem takes0 : L2N.Takes X W0 := fun u s' ⟨a, B, sI, pins, σ, H, cls, d, h⟩ => by
  obtain ⟨_, _, _, _, _, _, _, _, z⟩ := h
  exact z.elim
theorem Fc.blk {scope : Scope} (h : Fc w xw p n C f c W X) (hc : f.cm = true) (s : Shared) (H : Hp) (D : Addr) (cl : List (Str × Addr)) (fp : List Addr) : Fc w xw p n C f (blkS c scope) W0 (X.blk s H scope (compEnvC scope cl D X.env) fp) where
  hK := h.hK
  hW := h.hW
  gd := h.gd
  nd := h.nd
  un := h.un
  cG := h.cG
  cP := h.cP
  cC := h.cC
  hx := fun z => by rw [hc] at z; cases z
  tk := takes0
  hN := h.hN
  sc := by show relS scope X.env.scope = relS scope c.sc; rw [h.sc]
  fn := fun x hx => hx
  sx := h.sx
  calm := h.calm
theorem Fc.gl (h : Fc w xw p n C f c W X) {x : Str} (g : gloB c.sc x = true) : Gl X x := by
  show X.env.scope.names.lookup x = _
  rw [h.sc]; exact gloB_ok g
theorem Fc.vis (h : Fc w xw p n C f c W X) {x : Str} (g : visB c.sc x = true) : Vis X.env.scope x := by rw [h.sc]; exact visB_ok g
theorem nameIs_ok {s : Str} (h : Fc w xw p n C f c W X) (g : nameIs c e s = true) : ∃ p, e = .Name s p ∧ Gl X s := by
  unfold nameIs at g
  split at g
  · rename_i x p
    simp only [Bool.and_eq_true] at g
    have := eqS_ok g.1
    subst this
    exact ⟨p, rfl, h.gl g.2⟩
  · cases g
theorem Fc.at (h : Fc w xw p n C f c W X) {i : Nat} {x : Str} (g : isAt f.N i x = true) : X.N[i]? = some x := by rw [h.hN]; exact isAt_ok g
theorem okB_ok {o : Expr} {env : PySem.Env} {a : Str} (h : okB o = true) : attributeBase o a env (eval o env) = eval o env := by
  unfold okB at h
  split at h
  · cases h
  · rename_i hn
    unfold attributeBase
    split
    · rename_i id x pos
      exact absurd rfl (hn _ _)
    · rfl
theorem okV_ok {whole : Sem Value} {env : PySem.Env} (h : okV e = true) : isTrue e env whole = (do let v ← whole; standAt e.pos; holding [v] (truthy v)) := by
  cases e <;> first | (cases h; done) | rfl
theorem bop_ok (hK : w.K = X.K) {o : Bop} {op : Operator} (h : bopOk o op = true) : OpR X (binaryOp op) (rB w o) := by
  cases o <;> cases op <;> first | (cases h; done) | exact opR_add hK | exact opR_sub | exact opR_mul hK | exact opR_fdiv | exact opR_mod | exact opR_pow | exact opR_shl | exact opR_shr | exact opR_band
theorem cop_ok (hK : w.K = X.K) (hW : w.ex.1 = X.w) (hu : X.A.units + 65 < cLine) {o : Cop} {op : CmpOp} (h : copOk o op = true) : OpR X (compareOp op) (rC w o) := by
  cases o <;> cases op <;> first | (cases h; done) | skip
  · exact opR_eq hK (by omega)
  · exact opR_ne hK (by omega)
  · exact opR_ord .lt (fun _ _ _ => rfl)
  · exact opR_ord .le (fun _ _ _ => rfl)
  · exact opR_ord .gt (fun _ _ _ => rfl)
  · exact opR_ord .ge (fun _ _ _ => rfl)
  · exact opR_in hK hW hu
  · exact opR_nin hK hW hu
  · exact opR_is
  · exact opR_isn
theorem chain_marks {op op' : CmpOp} {b d : Expr} (h : okX d = true) : lastMarks [op, op'] [b, d] = false := mark_ok h
theorem kd_facts {k : Kd} (h : okK k = true) : ∃ T, kdN k = some T ∧ bootBuiltins (kdS k) = some (.type T) ∧ okName (kdS k) = true ∧ kdS k ∈ freeNames := by
  cases k <;> first | (cases h; done) | skip
  · exact ⟨_, rfl, bb_int, by decide, by decide⟩
  · exact ⟨_, rfl, bt_bool, by decide, by decide⟩
  · exact ⟨_, rfl, bb_str, by decide, by decide⟩
  · exact ⟨_, rfl, bb_tuple, by decide, by decide⟩
  · exact ⟨_, rfl, bb_list, by decide, by decide⟩
  · exact ⟨_, rfl, bt_dict, by decide, by decide⟩
theorem const_ok {d : D} (h : constC d e = true) : PE X e (tE w xw C W (.c d)) := by
  unfold constC at h
  split at h
  · rename_i k _ _
    split at h
    · exact se_c pe_non (fun _ _ _ => .non) rfl
    · have := eq_of_beq h
      subst this
      exact se_c pe_bl (fun _ _ _ => .bl _) rfl
    · have := of_decide_eq_true h
      subst this
      exact se_c pe_int (fun _ _ _ => .int _) rfl
    · have := of_decide_eq_true h
      subst this
      exact se_c pe_str (fun _ _ _ => .str _) rfl
    · cases h
  · cases h
theorem nameC_ok {i : Nat} (h : Fc w xw p n C f c W X) (g : nameC f c i e = true) : ∃ x pos, e = .Name x pos ∧ X.N[i]? = some x ∧ Loc X.env.scope x ∧ (X.fn x = true ∨ X.env.scope.names.lookup x = some .local) := by
  unfold nameC at g
  split at g
  · rename_i x pos
    simp only [Bool.and_eq_true, Bool.or_eq_true] at g
    refine ⟨x, pos, rfl, h.at g.1, ?_⟩
    rw [h.sc]
    rcases g.2 with k | ⟨k, k2⟩
    · exact ⟨.inl (locB_ok k), .inr (locB_ok k)⟩
    · rw [kindAt_ok] at k
      split at k
      · rename_i hk
        exact ⟨.inr hk, .inl (h.fn x k2)⟩
      · cases k
  · cases g
theorem namesC_ok (h : Fc w xw p n C f c W X) : ∀ {is : List Nat} {es : List Expr}, namesC f c is es = true → PGs X es (gNs is) ∧ (assignEach es X.env).length = is.length ∧ (assignEach es X.env).findIdx? (·.1) = none
  | [], [], _ => ⟨pgs_nil, rfl, rfl⟩
  | [], _ :: _, g => by cases g
  | _ :: _, [], g => by cases g
  | i :: is, e :: es, g => by
    have g : (nameC f c i e && namesC f c is es) = true := g
    simp only [Bool.and_eq_true] at g
    obtain ⟨x, pos, rfl, h1, h2, h3⟩ := nameC_ok h g.1
    obtain ⟨k1, k2, k3⟩ := namesC_ok h g.2
    refine ⟨pgs_cons (pg_name h.nd h1 h2 h3) k1 rfl, ?_, ?_⟩
    · show (assignEach es X.env).length + 1 = _
      rw [k2]; rfl
    · show List.findIdx? _ ((false, assign (.Name x pos) X.env) :: assignEach es X.env) = none
      rw [List.findIdx?_cons]
      simp only [Bool.false_eq_true, if_false, k3]
      rfl
theorem tgC_ok {t : Tg} (h : Fc w xw p n C f c W X) (g : tgC f c t e = true) : PG X e (gT w t) := by
  cases t with
  | v i =>
    have g : (nameC f c i e && (match f.sl with | some j => decide (i ≠ j) | none => true)) = true := g
    simp only [Bool.and_eq_true] at g
    obtain ⟨x, pos, rfl, h1, h2, h3⟩ := nameC_ok h g.1
    refine sg_v (fun a j fs he => ?_) h.nd h1 h2 h3
    have := h.sx a j fs he
    rw [this] at g
    exact of_decide_eq_true g.2
  | tup is =>
    unfold tgC at g
    dsimp only at g
    split at g
    · simp only [Bool.and_eq_true] at g
      obtain ⟨k1, k2, k3⟩ := namesC_ok h g.1
      exact sg_tup (h.calm g.2).2.1 h.hK (h.calm g.2).1 k1 k2 k3
    · cases g
end
end Pw
end
section
set_option Elab.async false
set_option linter.all false
set_option maxRecDepth 100000
set_option maxHeartbeats 4000000
set_option autoImplicit false
/-! Pw21: expressions: what the look has found holds -/
namespace Pw
open PySem PySem.Spec PyProof.Rows L2
variable {w : Wo} {xw : Xw} {C : Ctx} {p : Prg} {n : Nat} {f : Cf}
def rdR (w : Wo) (xw : Xw) (C : Ctx) (W : WX) (X : Cx) (l : Src) (e : Expr) : Md → Prop
  | .n => PE X e (tN w xw C W l)
  | .i => ∀ tg, zipT l tg = true → PI X tg e (tI w xw C W l)
  | .s => PE X e (tS w xw C W l)
  | .l => PE X e (tL w xw C W l)
theorem rdR_n {W : WX} {X : Cx} {l : Src} {e : Expr} {m : Md} (h : PE X e (tN w xw C W l)) (hm : m ≠ .i) : rdR w xw C W X l e m := by
  cases m with
  | n => exact h
  | i => exact absurd rfl hm
  | s => exact ss_new h
  | l => exact sl_new h
theorem Fc.fr {W : WX} {X : Cx} {c : Cs} (h : Fc w xw p n C f c W X) {x : Str} (hx : x ∈ freeNames) : X.mg x = none := h.gd.free x hx
theorem slN_ok {W : WX} {X : Cx} {c : Cs} {y : Str} (F : Fc w xw p n C f c W X) (h : slN f c y = true) : ∃ i, f.sl = some i ∧ X.N[i]? = some y ∧ Vis X.env.scope y ∧ okName y = true := by
  unfold slN at h
  split at h
  · rename_i i hs
    simp only [Bool.and_eq_true] at h
    exact ⟨i, hs, F.at h.1.1, F.vis h.1.2, h.2⟩
  · cases h
theorem hotAt_ok {l : List (Nat × Str)} {j : Nat} {x : Str} (h : hotAt l j x = true) : (j, x) ∈ l := by
  unfold hotAt at h
  rw [List.any_eq_true] at h
  obtain ⟨⟨a, b⟩, hm, h⟩ := h
  simp only [Bool.and_eq_true, decide_eq_true_eq] at h
  obtain ⟨rfl, h⟩ := h
  rw [← eqS_ok h]
  exact hm
theorem tail_And {X : Cx} {b : Expr} {r : List Expr} {q : Pos} {t : TT} (k : PT X (match r with | [] => b | _ => .BoolOp .And (b :: r) q) t ∧ (isBo (match r with | [] => b | _ => .BoolOp .And (b :: r) q) = true → PW X (match r with | [] => b | _ => .BoolOp .And (b :: r) q) t)) : PW X (.BoolOp .And (b :: r) q) t := by
  cases r with
  | nil => exact pw_and1 k.1
  | cons => exact k.2 rfl
theorem tail_Or {X : Cx} {b : Expr} {r : List Expr} {q : Pos} {t : TT} (k : PT X (match r with | [] => b | _ => .BoolOp .Or (b :: r) q) t ∧ (isBo (match r with | [] => b | _ => .BoolOp .Or (b :: r) q) = true → PW X (match r with | [] => b | _ => .BoolOp .Or (b :: r) q) t)) : PW X (.BoolOp .Or (b :: r) q) t := by
  cases r with
  | nil => exact pw_or1 k.1
  | cons => exact k.2 rfl
theorem sorted_case {l : Src} {g a : Expr} {pos : Pos} {c : Cs} {W : WX} {X : Cx} (F : Fc w xw p n C f c W X) (h : (nameIs c g "sorted" && okX a && cR f c .s l a) = true) (ih : cR f c .s l a = true → rdR w xw C W X l a .s) : PE X (.Call g [a] [] pos) (tE w xw C W (.sorted l)) := by
  simp only [Bool.and_eq_true] at h
  obtain ⟨q, rfl, hg⟩ := nameIs_ok F h.1.1
  exact se_sorted F.hK F.un hg (F.fr (by decide)) (ih h.2) h.1.2
section
variable {w : Wo} {xw : Xw} {C : Ctx} {p : Prg} {n : Nat} {f : Cf} {c : Cs} {W : WX} {X : Cx}
theorem cXs_ok (F : Fc w xw p n C f c W X) : ∀ (ks : List Nat) (es : List Expr), cXs f c ks es = true → (∀ c', c' < xw.n → ∃ bs, p.Cl[c']? = some bs) → ∃ vs cvs, TstsOk xw X p ks es vs cvs
  | [], [], _, hc => ⟨[], [], .nil hc⟩
  | [], _ :: _, h, _ => by simp [cXs] at h
  | _ :: _, [], h, _ => by simp [cXs] at h
  | k :: ks, e :: es, h, hc => by
    cases e with
    | Name x q =>
      simp only [cXs, Bool.and_eq_true] at h
      obtain ⟨cv, ht⟩ := F.gd.tst _ _ (isAt_ok h.1.1.1)
      dsimp only at ht
      rw [F.hK] at ht
      obtain ⟨vs, cvs, r⟩ := cXs_ok F ks es h.2 hc
      obtain ⟨v, r2⟩ := TstsOk.cons (q := q) ht (F.gl h.1.1.2) h.1.2 r
      exact ⟨_, _, r2⟩
    | _ => simp [cXs] at h
theorem cXs_cl (F : Fc w xw p n C f c W X) {k : Nat} {ks : List Nat} {es : List Expr} (h : cXs f c (k :: ks) es = true) : ∀ c', c' < xw.n → ∃ bs, p.Cl[c']? = some bs := by
  cases es with
  | nil => simp [cXs] at h
  | cons e es => cases e with
    | Name x q =>
      simp only [cXs, Bool.and_eq_true] at h
      obtain ⟨cv, ht⟩ := F.gd.tst _ _ (isAt_ok h.1.1.1)
      intro c' hc'
      obtain ⟨bs, hb, _⟩ := ht.kit c' hc'
      exact ⟨bs, hb⟩
    | _ => simp [cXs] at h
end
mutual
theorem cE_ok : ∀ (x : Exp) {e : Expr} {c : Cs} {W : WX} {X : Cx}, Fc w xw p n C f c W X → cE f c x e = true → PE X e (tE w xw C W x)
  | .c d, e, c, W, X, F, h => const_ok (by simpa only [cE] using h)
  | .v i, e, c, W, X, F, h => by
    simp only [cE] at h
    split at h
    · simp only [Bool.and_eq_true] at h
      exact se_v (F.at h.1.1) (F.vis h.1.2) h.2
    · cases h
  | .g i, e, c, W, X, F, h => by
    simp only [cE] at h
    split at h
    · simp only [Bool.and_eq_true] at h
      obtain ⟨d, u, v, h1, h2, h3, h4, h5⟩ := F.gd.gl i _ (isAt_ok h.1.1)
      exact se_g (by rw [F.cG]; exact h1) (pe_glob (F.gl h.1.2) h2 h3 (okName_ok h.2).1) h4 h5
    · cases h
  | .bin o x y, e, c, W, X, F, h => by
    simp only [cE] at h
    split at h
    · simp only [Bool.and_eq_true] at h
      exact se_bin (bop_ok F.hK h.1.1) (cE_ok x F h.1.2) (cE_ok y F h.2)
    · cases h
  | .neg x, e, c, W, X, F, h => by
    simp only [cE] at h
    split at h
    · split at h
      · exact se_neg (cE_ok x F h)
      · cases h
    · cases h
  | .notV x, e, c, W, X, F, h => by
    simp only [cE] at h
    split at h
    · split at h
      · exact se_notV (cE_ok x F h)
      · cases h
    · cases h
  | .andV x y, e, c, W, X, F, h => by
    simp only [cE] at h
    split at h
    · split at h
      · simp only [Bool.and_eq_true] at h
        refine se_and (cE_ok x F h.1) ?_
        have k := cE_ok y F h.2
        split at k
        · exact pe_one k
        · exact k
      · cases h
    · cases h
  | .orV x y, e, c, W, X, F, h => by
    simp only [cE] at h
    split at h
    · split at h
      · simp only [Bool.and_eq_true] at h
        refine se_or (cE_ok x F h.1) ?_
        have k := cE_ok y F h.2
        split at k
        · exact pe_one k
        · exact k
      · cases h
    · cases h
  | .cmp o x y, e, c, W, X, F, h => by
    simp only [cE] at h
    split at h
    · simp only [Bool.and_eq_true] at h
      exact se_cmp (cop_ok F.hK F.hW F.un h.1.1.1) (cE_ok x F h.1.1.2) (cE_ok y F h.1.2) (mark_ok h.2)
    · cases h
  | .chn o o' x y z, e, c, W, X, F, h => by
    simp only [cE] at h
    split at h
    · simp only [Bool.and_eq_true] at h
      exact se_chn (cop_ok F.hK F.hW F.un h.1.1.1.1.1) (cop_ok F.hK F.hW F.un h.1.1.1.1.2) (cE_ok x F h.1.1.1.2) (cE_ok y F h.1.1.2) (cE_ok z F h.1.2) (chain_marks h.2)
    · cases h
  | .ife t x y, e, c, W, X, F, h => by
    simp only [cE] at h
    split at h
    · simp only [Bool.and_eq_true] at h
      exact se_ife (cT_ok t F h.1.1).1 (cE_ok x F h.1.2) (cE_ok y F h.2)
    · cases h
  | .call i xs, e, c, W, X, F, h => by
    simp only [cE] at h
    split at h
    · simp only [Bool.and_eq_true] at h
      exact se_call (F.cP none) F.tk (F.fx h.1.1.1.2) (isAt_ok h.1.1.1.1.1.1) (F.gl h.1.1.1.1.1.2) (cEs_ok xs F h.2) h.1.1.1.1.2 h.1.1.2 h.1.2
    · cases h
  | .hcall _ _, e, c, W, X, F, h => by simp [cE] at h
  | .hot j, e, c, W, X, F, h => by
    simp only [cE] at h
    split at h
    · simp only [Bool.and_eq_true, Bool.not_eq_true'] at h
      have hx := F.hx h.1.1.1.1
      obtain ⟨i, hs, k1, k2, k3⟩ := slN_ok F h.1.1.1.2
      obtain ⟨f', fd, z, g1, g2, g3, g4⟩ := F.gd.hot j _ (hotAt_ok h.1.1.2)
      have e0 : w.K = X.K := F.hK
      exact se_hot e0 hx hs F.cP (F.gl h.1.2) h.2 k1 k2 k3 g1 (e0 ▸ g2) (by have g3 := g3; simp only at g3; rw [e0] at g3; exact g3) (by have g4 := g4; simp only at g4; rw [e0] at g4; exact g4)
    · cases h
  | .isX ks, e, c, W, X, F, h => by
    simp only [cE] at h
    split at h
    · simp only [Bool.and_eq_true, Bool.not_eq_true'] at h
      obtain ⟨q, rfl, hg⟩ := nameIs_ok F h.1.1.1.1.2
      obtain ⟨i, hs, k1, k2, k3⟩ := slN_ok F h.1.1.1.2
      obtain ⟨cv, ht⟩ := F.gd.tst _ _ (isAt_ok h.1.1.2)
      dsimp only at ht
      rw [F.hK] at ht
      exact se_isX F.hK (F.hx h.1.1.1.1.1) hs F.cC hg (F.fr (by decide)) k1 k2 k3 ht (F.gl h.1.2) h.2
    · simp only [Bool.and_eq_true, Bool.not_eq_true', decide_eq_true_eq] at h
      obtain ⟨q, rfl, hg⟩ := nameIs_ok F h.1.1.1.2
      obtain ⟨i, hs, k1, k2, k3⟩ := slN_ok F h.1.1.2
      obtain ⟨vs, cvs, ht⟩ := cXs_ok F _ _ h.1.2 (cXs_cl F h.1.2)
      exact se_isXT F.hK (F.hx h.1.1.1.1) hs F.cC hg (F.fr (by decide)) k1 k2 k3 ht h.2
    · cases h
  | .xf cs k, e, c, W, X, F, h => by
    simp only [cE] at h
    split at h
    · rename_i y q n q2
      simp only [Bool.and_eq_true, Bool.not_eq_true'] at h
      obtain ⟨i, hs, k1, k2, k3⟩ := slN_ok F h.1.2
      refine se_xf F.hK (F.hx h.1.1) hs k1 k2 k3 (fun c' hc' hn => ?_) (okB_ok rfl)
      have hf := List.all_eq_true.mp h.2 c' hc'
      split at hf
      · rename_i l e1
        simp only [Bool.and_eq_true, decide_eq_true_eq] at hf
        have e2 := F.gd.fls c' hn
        rw [e1] at e2
        cases e2
        exact ⟨hf.1, isAt_ok hf.2⟩
      · cases hf
    · cases h
  | .anyH x, e, c, W, X, F, h => by
    simp only [cE] at h
    split at h
    · simp only [Bool.and_eq_true, Bool.not_eq_true'] at h
      obtain ⟨q, rfl, hg⟩ := nameIs_ok F h.1.1.2
      have hx := F.hx h.1.1.1
      exact se_anyH F.hK hx hg (F.fr (by decide)) (cE_ok x F h.2) h.1.2 (cr_anyHot hx.hot)
    · cases h
  | .f1 g x, e, c, W, X, F, h => by
    simp only [cE] at h
    split at h
    · cases g with
      | len =>
        simp only [Bool.and_eq_true] at h
        obtain ⟨q, rfl, hg⟩ := nameIs_ok F h.1.1
        exact se_len F.hK hg (F.fr (by decide)) (cE_ok x F h.2) h.1.2
      | int =>
        simp only [Bool.and_eq_true] at h
        obtain ⟨q, rfl, hg⟩ := nameIs_ok F h.1.1
        exact se_int hg (F.fr (by decide)) (cE_ok x F h.2) h.1.2
      | abs =>
        simp only [Bool.and_eq_true] at h
        obtain ⟨q, rfl, hg⟩ := nameIs_ok F h.1.1
        exact se_abs hg (F.fr (by decide)) (cE_ok x F h.2) h.1.2
      | str =>
        simp only [Bool.and_eq_true] at h
        obtain ⟨q, rfl, hg⟩ := nameIs_ok F h.1.1
        exact se_str hg (F.fr (by decide)) (cE_ok x F h.2) h.1.2
    · cases h
  | .f2 g x y, e, c, W, X, F, h => by
    simp only [cE] at h
    split at h
    · simp only [Bool.and_eq_true] at h
      cases g with
      | min =>
        obtain ⟨q, rfl, hg⟩ := nameIs_ok F h.2
        exact se_min (F.calm h.1.1.1.1.1).1 hg (F.fr (by decide)) (cE_ok x F h.1.1.2) (cE_ok y F h.1.2) h.1.1.1.1.2 h.1.1.1.2
      | max =>
        obtain ⟨q, rfl, hg⟩ := nameIs_ok F h.2
        exact se_max (F.calm h.1.1.1.1.1).1 hg (F.fr (by decide)) (cE_ok x F h.1.1.2) (cE_ok y F h.1.2) h.1.1.1.1.2 h.1.1.1.2
    · cases h
  | .isI x ks, e, c, W, X, F, h => by
    simp only [cE] at h
    split at h
    · simp only [Bool.and_eq_true] at h
      obtain ⟨q, rfl, hg⟩ := nameIs_ok F h.1.1.1.1
      obtain ⟨q2, rfl, hg2⟩ := nameIs_ok F h.1.1.2
      obtain ⟨T, k1, k2, k3, k4⟩ := kd_facts h.1.1.1.2
      exact se_isB F.hK hg (F.fr (by decide)) (cE_ok x F h.2) hg2 (F.fr k4) k2 k1 k3 h.1.2
    · cases h
  | .idx x y, e, c, W, X, F, h => by
    simp only [cE] at h
    split at h
    · simp only [Bool.and_eq_true] at h
      exact se_idx F.hK F.hW F.un (cE_ok x F h.1.1) (cE_ok y F h.1.2) (plainIx_ok h.2)
    · cases h
  | .sl x lo hi, e, c, W, X, F, h => by
    simp only [cE] at h
    split at h
    · simp only [Bool.and_eq_true] at h
      exact se_sl F.hK (cE_ok x F h.1.1) (cO_ok lo F h.1.2) (cO_ok hi F h.2)
    · cases h
  | .rev x, e, c, W, X, F, h => by
    simp only [cE] at h
    split at h
    · split at h
      · simp only [Bool.and_eq_true, decide_eq_true_eq] at h
        obtain ⟨rfl, h⟩ := h
        exact se_rev F.hK (cE_ok x F h)
      · cases h
    · cases h
  | .tup xs, e, c, W, X, F, h => by
    simp only [cE] at h
    split at h
    · simp only [Bool.and_eq_true, decide_eq_true_eq] at h
      exact se_tup (cEs_ok xs F h.1) (by rw [sizeLine_eq]; omega)
    · cases h
  | .ls l, e, c, W, X, F, h => by
    simp only [cE] at h
    exact se_ls (cR_ok l .n F h)
  | .dct es, e, c, W, X, F, h => by
    simp only [cE] at h
    split at h
    · simp only [Bool.and_eq_true, decide_eq_true_eq] at h
      obtain ⟨k1, k2, k3, k4, k5⟩ := cKV_ok es F h.1
      rcases k5 with ⟨rfl, rfl, rfl⟩ | k5
      · exact se_dct0
      · exact se_dct (k1 _) k2 k3 k4 k5 h.2
    · cases h
  | .tupR x y z, e, c, W, X, F, h => by
    simp only [cE] at h
    split at h
    · simp only [Bool.and_eq_true] at h
      obtain ⟨q, rfl, hg⟩ := nameIs_ok F h.1.1.1.1.1.1.1.2
      obtain ⟨q2, rfl, hg2⟩ := nameIs_ok F h.1.1.1.1.1.1.2
      exact se_tupR (F.calm h.1.1.1.1.1.1.1.1).1 hg (F.fr (by decide)) hg2 (F.fr (by decide)) (cE_ok x F h.1.1.2) (cE_ok y F h.1.2) (cE_ok z F h.2) h.1.1.1.1.1.2 h.1.1.1.1.2 h.1.1.1.2
    · cases h
  | .tupOf l, e, c, W, X, F, h => by
    simp only [cE] at h
    split at h
    · simp only [Bool.and_eq_true] at h
      obtain ⟨q, rfl, hg⟩ := nameIs_ok F h.1.1
      exact se_tupOf F.hK hg (F.fr (by decide)) (cR_ok l .s F h.2) h.1.2
    · cases h
  | .allOf l, e, c, W, X, F, h => by
    simp only [cE] at h
    split at h
    · simp only [Bool.and_eq_true] at h
      obtain ⟨q, rfl, hg⟩ := nameIs_ok F h.1.1.2
      exact se_all F.hK (F.calm h.1.1.1).1 hg (F.fr (by decide)) (cR_ok l .l F h.2) h.1.2
    · cases h
  | .anyOf l, e, c, W, X, F, h => by
    simp only [cE] at h
    split at h
    · simp only [Bool.and_eq_true] at h
      obtain ⟨q, rfl, hg⟩ := nameIs_ok F h.1.1.2
      exact se_any F.hK (F.calm h.1.1.1).1 hg (F.fr (by decide)) (cR_ok l .l F h.2) h.1.2
    · cases h
  | .sumOf l, e, c, W, X, F, h => by
    simp only [cE] at h
    split at h
    · simp only [Bool.and_eq_true] at h
      obtain ⟨q, rfl, hg⟩ := nameIs_ok F h.1.1.2
      exact se_sumS F.hK (F.calm h.1.1.1).1 hg (F.fr (by decide)) (cR_ok l .s F h.2) h.1.2
    · cases h
  | .minOf l, e, c, W, X, F, h => by
    simp only [cE] at h
    split at h
    · simp only [Bool.and_eq_true] at h
      obtain ⟨q, rfl, hg⟩ := nameIs_ok F h.1.1.2
      exact se_minG F.hK (F.calm h.1.1.1).1 F.un hg (F.fr (by decide)) (cR_ok l .l F h.2) h.1.2
    · cases h
  | .maxOf l, e, c, W, X, F, h => by
    simp only [cE] at h
    split at h
    · simp only [Bool.and_eq_true] at h
      obtain ⟨q, rfl, hg⟩ := nameIs_ok F h.1.1.2
      exact se_maxL F.hK (F.calm h.1.1.1).1 hg (F.fr (by decide)) (cR_ok l .l F h.2) h.1.2
    · cases h
  | .sorted (.keys x), e, c, W, X, F, h => by
    simp only [cE] at h
    split at h
    · simp only [Bool.and_eq_true] at h
      obtain ⟨q, rfl, hg⟩ := nameIs_ok F h.1.1.2
      exact se_sortedK F.hK (F.calm h.1.1.1).1 hg (F.fr (by decide)) (cE_ok x F h.2) h.1.2
    · cases h
  | .sorted (.val x), e, c, W, X, F, h => by
    simp only [cE] at h
    split at h
    · exact sorted_case F h (fun h => cR_ok (.val x) .s F h)
    · cases h
  | .sorted (.seq x), e, c, W, X, F, h => by
    simp only [cE] at h
    split at h
    · exact sorted_case F h (fun h => cR_ok (.seq x) .s F h)
    · cases h
  | .sorted (.lis x), e, c, W, X, F, h => by
    simp only [cE] at h
    split at h
    · exact sorted_case F h (fun h => cR_ok (.lis x) .s F h)
    · cases h
  | .sorted (.rng x), e, c, W, X, F, h => by
    simp only [cE] at h
    split at h
    · exact sorted_case F h (fun h => cR_ok (.rng x) .s F h)
    · cases h
  | .sorted (.rng2 x y), e, c, W, X, F, h => by
    simp only [cE] at h
    split at h
    · exact sorted_case F h (fun h => cR_ok (.rng2 x y) .s F h)
    · cases h
  | .sorted (.rng3 x y z), e, c, W, X, F, h => by
    simp only [cE] at h
    split at h
    · exact sorted_case F h (fun h => cR_ok (.rng3 x y z) .s F h)
    · cases h
  | .sorted (.disp xs), e, c, W, X, F, h => by
    simp only [cE] at h
    split at h
    · exact sorted_case F h (fun h => cR_ok (.disp xs) .s F h)
    · cases h
  | .sorted (.comp x t l ts), e, c, W, X, F, h => by
    simp only [cE] at h
    split at h
    · exact sorted_case F h (fun h => cR_ok (.comp x t l ts) .s F h)
    · cases h
  | .sorted (.comp2 x t l ts t1 l1 ts1), e, c, W, X, F, h => by
    simp only [cE] at h
    split at h
    · exact sorted_case F h (fun h => cR_ok (.comp2 x t l ts t1 l1 ts1) .s F h)
    · cases h
  | .sorted (.zip l l2), e, c, W, X, F, h => by
    simp only [cE] at h
    split at h
    · exact sorted_case F h (fun h => cR_ok (.zip l l2) .s F h)
    · cases h
  | .join x l, e, c, W, X, F, h => by
    simp only [cE] at h
    split at h
    · simp only [Bool.and_eq_true] at h
      obtain rfl := eqS_ok h.1.1.1.1.1
      exact se_join F.hK (cE_ok x F h.1.2) (cR_ok l .s F h.2) h.1.1.2 (okB_ok h.1.1.1.1.2) h.1.1.1.2
    · cases h
  | .app x y, e, c, W, X, F, h => by
    simp only [cE] at h
    split at h
    · simp only [Bool.and_eq_true] at h
      obtain rfl := eqS_ok h.1.1.1.1.1
      exact se_app F.hK (cE_ok x F h.1.2) (cE_ok y F h.2) h.1.1.2 (okB_ok h.1.1.1.1.2) h.1.1.1.2
    · cases h
  | .pop x, e, c, W, X, F, h => by
    simp only [cE] at h
    split at h
    · simp only [Bool.and_eq_true] at h
      obtain rfl := eqS_ok h.1.1.1
      exact se_pop F.hK (cE_ok x F h.2) (okB_ok h.1.1.2) h.1.2
    · cases h
  | .ext x y, e, c, W, X, F, h => by
    simp only [cE] at h
    split at h
    · simp only [Bool.and_eq_true] at h
      obtain rfl := eqS_ok h.1.1.1.1.1
      exact se_ext F.hK (cE_ok x F h.1.2) (cE_ok y F h.2) h.1.1.2 (okB_ok h.1.1.1.1.2) h.1.1.1.2
    · cases h
  | .sw x y, e, c, W, X, F, h => by
    simp only [cE] at h
    split at h
    · simp only [Bool.and_eq_true] at h
      obtain rfl := eqS_ok h.1.1.1.1.1
      exact se_sw (cE_ok x F h.1.2) (cE_ok y F h.2) h.1.1.2 (okB_ok h.1.1.1.1.2) h.1.1.1.2
    · cases h
  | .split x y, e, c, W, X, F, h => by
    simp only [cE] at h
    split at h
    · simp only [Bool.and_eq_true] at h
      obtain rfl := eqS_ok h.1.1.1.1.1
      exact se_split (cE_ok x F h.1.2) (cE_ok y F h.2) h.1.1.2 (okB_ok h.1.1.1.1.2) h.1.1.1.2
    · cases h
  | .find x y, e, c, W, X, F, h => by
    simp only [cE] at h
    split at h
    · simp only [Bool.and_eq_true] at h
      obtain rfl := eqS_ok h.1.1.1.1.1
      exact se_find (cE_ok x F h.1.2) (cE_ok y F h.2) h.1.1.2 (okB_ok h.1.1.1.1.2) h.1.1.1.2
    · cases h
  | .insl x y z, e, c, W, X, F, h => by
    simp only [cE] at h
    split at h
    · simp only [Bool.and_eq_true] at h
      obtain rfl := eqS_ok h.1.1.1.1.1.1.1
      exact se_insl F.hK (cE_ok x F h.1.1.2) (cE_ok y F h.1.2) (cE_ok z F h.2) h.1.1.1.1.2 h.1.1.1.2 (okB_ok h.1.1.1.1.1.1.2) h.1.1.1.1.1.2
    · cases h
  | .fs x t y, e, c, W, X, F, h => by
    simp only [cE] at h
    split at h
    · simp only [Bool.and_eq_true, decide_eq_true_eq] at h
      obtain rfl := h.1.1.1.1
      obtain rfl := h.1.1.1.2
      exact se_fs (cE_ok x F h.1.2) (cE_ok y F h.2) h.1.1.2
    · cases h
theorem cEs_ok : ∀ (xs : List Exp) {es : List Expr} {c : Cs} {W : WX} {X : Cx}, Fc w xw p n C f c W X → cEs f c xs es = true → PA X es (tEs w xw C W xs)
  | [], es, c, W, X, F, h => by
    simp only [cEs] at h
    split at h
    · exact sa_nil
    · cases h
  | x :: xs, es, c, W, X, F, h => by
    simp only [cEs] at h
    split at h
    · simp only [Bool.and_eq_true] at h
      exact sa_cons (cE_ok x F h.1.1) (cEs_ok xs F h.2) h.1.2
    · cases h
theorem cKV_ok : ∀ (es : List Exp) {ks : List (Option Expr)} {vs : List Expr} {c : Cs} {W : WX} {X : Cx}, Fc w xw p n C f c W X → cKV f c es ks vs = true →
    (∀ pos, PPs X pos ks vs (trP w xw C W es)) ∧ es.length % 2 = 0 ∧ ks.all (·.isSome) = true ∧ ks.length = vs.length ∧ ((es = [] ∧ ks = [] ∧ vs = []) ∨ ks ≠ [])
  | [], ks, vs, c, W, X, F, h => by
    simp only [cKV] at h
    split at h
    · exact ⟨fun _ => pps_nil, rfl, rfl, rfl, .inl ⟨rfl, rfl, rfl⟩⟩
    · cases h
  | [_], ks, vs, c, W, X, F, h => by simp [cKV] at h
  | k :: v :: r, ks, vs, c, W, X, F, h => by
    simp only [cKV] at h
    split at h
    · simp only [Bool.and_eq_true] at h
      obtain ⟨k1, k2, k3, k4, _⟩ := cKV_ok r F h.2
      have hk := cE_ok k F h.1.1
      have hv := cE_ok v F h.1.2
      refine ⟨fun pos => pps_cons hk hv (k1 pos), by simp only [List.length_cons]; omega, ?_, by simp [k4], .inr (by simp)⟩
      simp only [List.all_cons, k3, Option.isSome_some, Bool.and_true]
    · cases h
theorem cO_ok : ∀ (xs : Option Exp) {es : Option Expr} {c : Cs} {W : WX} {X : Cx}, Fc w xw p n C f c W X → cO f c xs es = true → PO X es (tO w xw C W xs)
  | none, es, c, W, X, F, h => by
    simp only [cO] at h
    split at h
    · exact so_none
    · cases h
  | some x, es, c, W, X, F, h => by
    simp only [cO] at h
    split at h
    · exact so_some (cE_ok x F h)
    · cases h
theorem cR_ok : ∀ (l : Src) (m : Md) {e : Expr} {c : Cs} {W : WX} {X : Cx}, Fc w xw p n C f c W X → cR f c m l e = true → rdR w xw C W X l e m
  | .val x, m, e, c, W, X, F, h => by
    simp only [cR] at h
    split at h
    · exact fun tg _ => si_val F.hK (cE_ok x F h)
    · cases h
  | .seq x, m, e, c, W, X, F, h => by
    simp only [cR] at h
    split at h
    · exact ss_val (cE_ok x F h)
    · split at h
      · simp only [Bool.and_eq_true] at h
        obtain ⟨q, rfl, hg⟩ := nameIs_ok F h.1.1
        exact sn_list F.hK hg (F.fr (by decide)) (ss_val (cE_ok x F h.2)) h.1.2
      · cases h
    · cases h
  | .lis x, m, e, c, W, X, F, h => by
    simp only [cR] at h
    split at h
    · exact sl_val (cE_ok x F h)
    · cases h
  | .keys _, m, e, c, W, X, F, h => by simp [cR] at h
  | .rng x, m, e, c, W, X, F, h => by
    simp only [cR] at h
    split at h
    · simp only [Bool.and_eq_true] at h
      obtain ⟨q, rfl, hg⟩ := nameIs_ok F h.1.1
      exact fun tg _ => si_rng hg (F.fr (by decide)) (cE_ok x F h.2) h.1.2
    · cases h
  | .rng2 x y, m, e, c, W, X, F, h => by
    simp only [cR] at h
    split at h
    · simp only [Bool.and_eq_true] at h
      obtain ⟨q, rfl, hg⟩ := nameIs_ok F h.1.1.1.1
      exact fun tg _ => si_rng2 hg (F.fr (by decide)) (cE_ok x F h.1.2) (cE_ok y F h.2) h.1.1.1.2 h.1.1.2
    · cases h
  | .rng3 x y z, m, e, c, W, X, F, h => by
    simp only [cR] at h
    split at h
    · simp only [Bool.and_eq_true] at h
      obtain ⟨q, rfl, hg⟩ := nameIs_ok F h.1.1.1.1.1.1
      exact fun tg _ => si_rng3 hg (F.fr (by decide)) (cE_ok x F h.1.1.2) (cE_ok y F h.1.2) (cE_ok z F h.2) h.1.1.1.1.1.2 h.1.1.1.1.2 h.1.1.1.2
    · cases h
  | .disp xs, m, e, c, W, X, F, h => by
    simp only [cR] at h
    split at h
    · cases h
    · simp only [Bool.and_eq_true, decide_eq_true_eq] at h
      exact rdR_n (sn_disp (cEs_ok xs F h.1) (by rw [sizeLine_eq]; omega)) (by assumption)
    · cases h
  | .comp x t l ts, m, e, c, W, X, F, h => by
    simp only [cR] at h
    split at h
    · cases h
    · simp only [Bool.and_eq_true, decide_eq_true_eq] at h
      obtain ⟨⟨⟨⟨⟨⟨⟨h1, h2⟩, h3⟩, h4⟩, h5⟩, h6⟩, h7⟩, h8⟩ := h
      subst h2
      have ok := blkOk_by h4
      rw [← F.hN, ← F.sc] at ok
      refine rdR_n (sn_comp (F.calm h1).2.1 (F.calm h1).1 F.nd (cR_ok l .i F h6.2 _ h6.1) ok ?_ (fun s H D cl fp => tgC_ok (F.blk h1 s H D cl fp) h5) (fun s H D cl fp => cTs_ok ts (F.blk h1 s H D cl fp) h7) (fun s H D cl fp => cE_ok x (F.blk h1 s H D cl fp) h8) (fold_ok h3)) (by assumption)
      unfold ownOf
      rw [List.map_map]
      exact List.map_id _
    · cases h
  | .comp2 x t l ts t1 l1 ts1, m, e, c, W, X, F, h => by
    simp only [cR] at h
    split at h
    · cases h
    · simp only [Bool.and_eq_true, decide_eq_true_eq] at h
      obtain ⟨⟨⟨⟨⟨⟨⟨⟨⟨⟨⟨⟨h1, h2⟩, h2'⟩, h3⟩, h3'⟩, h4⟩, h5⟩, h5'⟩, h6⟩, h7⟩, h6'⟩, h7'⟩, h8⟩ := h
      subst h2
      subst h2'
      have ok := blkOk_by h4
      rw [← F.hN, ← F.sc] at ok
      refine rdR_n (sn_comp2 (F.calm h1).2.1 (F.calm h1).1 F.nd (cR_ok l .i F h6.2 _ h6.1) ok ?_ (fun s H D cl fp => tgC_ok (F.blk h1 s H D cl fp) h5) (fun s H D cl fp => cTs_ok ts (F.blk h1 s H D cl fp) h7) (fun s H D cl fp => cR_ok l1 .i (F.blk h1 s H D cl fp) h6'.2 _ h6'.1) (fun s H D cl fp => tgC_ok (F.blk h1 s H D cl fp) h5') (fun s H D cl fp => cTs_ok ts1 (F.blk h1 s H D cl fp) h7') (fun s H D cl fp => cE_ok x (F.blk h1 s H D cl fp) h8) (fold_ok h3) (fun _ => fold_ok h3')) (by assumption)
      unfold ownOf
      rw [List.map_append, List.map_map, List.map_map]
      congr 1 <;> exact List.map_id _
    · cases h
  | .zip x y, m, e, c, W, X, F, h => by
    simp only [cR] at h
    split at h
    · simp only [Bool.and_eq_true] at h
      obtain ⟨q, rfl, hg⟩ := nameIs_ok F h.1.1.1.1
      intro tg ht
      unfold zipT at ht
      split at ht
      · rename_i hz
        split at ht
        · cases hz
          exact si_zip F.hK hg (F.fr (by decide)) (cE_ok x F h.1.2) (cE_ok y F h.2) h.1.1.1.2 h.1.1.2
        · cases ht
      · rename_i hz
        exact absurd rfl (hz x y)
    · cases h
theorem cT_ok : ∀ (t : Tst) {e : Expr} {c : Cs} {W : WX} {X : Cx}, Fc w xw p n C f c W X → cT f c t e = true → PT X e (tT w xw C W t) ∧ (isBo e = true → PW X e (tT w xw C W t))
  | .val x, e, c, W, X, F, h => by
    simp only [cT, Bool.and_eq_true, Bool.or_eq_true] at h
    obtain ⟨h1, h2⟩ := h
    rcases h2 with h2 | h2
    · exact ⟨st_val F.hK (cE_ok x F h1) (fun _ => okV_ok h2), fun z => by cases e <;> first | (cases z; done) | (cases h2; done)⟩
    · split at h2
      · simp only [cE] at h1
        split at h1
        · simp only [Bool.and_eq_true] at h1
          rename_i heq
          cases heq
          exact ⟨st_cmp (cop_ok F.hK F.hW F.un h1.1.1.1) (cE_ok _ F h1.1.1.2) (cE_ok _ F h1.1.2) (mark_ok h1.2), fun z => by cases z⟩
        · cases h1
      · simp only [cE] at h1
        split at h1
        · simp only [Bool.and_eq_true] at h1
          rename_i heq
          cases heq
          exact ⟨st_chn (cop_ok F.hK F.hW F.un h1.1.1.1.1.1) (cop_ok F.hK F.hW F.un h1.1.1.1.1.2) (cE_ok _ F h1.1.1.1.2) (cE_ok _ F h1.1.1.2) (cE_ok _ F h1.1.2) (chain_marks h1.2), fun z => by cases z⟩
        · cases h1
      · cases h2
  | .not t, e, c, W, X, F, h => by
    simp only [cT] at h
    split at h
    · split at h
      · exact ⟨st_not (cT_ok t F h).1, fun z => by cases z⟩
      · cases h
    · cases h
  | .and t u, e, c, W, X, F, h => by
    simp only [cT] at h
    split at h
    · split at h
      · simp only [Bool.and_eq_true] at h
        have k := cT_ok u F h.2
        have q : PW X _ (tT w xw C W (.and t u)) := st_and (cT_ok t F h.1).1 (tail_And k)
        exact ⟨q.pt, fun _ => q⟩
      · cases h
    · cases h
  | .or t u, e, c, W, X, F, h => by
    simp only [cT] at h
    split at h
    · split at h
      · simp only [Bool.and_eq_true] at h
        have k := cT_ok u F h.2
        have q : PW X _ (tT w xw C W (.or t u)) := st_or (cT_ok t F h.1).1 (tail_Or k)
        exact ⟨q.pt, fun _ => q⟩
      · cases h
    · cases h
theorem cTs_ok : ∀ (ts : List Tst) {es : List Expr} {c : Cs} {W : WX} {X : Cx}, Fc w xw p n C f c W X → cTs f c ts es = true → PTs X es (tTs w xw C W ts)
  | [], es, c, W, X, F, h => by
    simp only [cTs] at h
    split at h
    · exact sts_nil
    · cases h
  | t :: ts, es, c, W, X, F, h => by
    simp only [cTs] at h
    split at h
    · exact sts_one (cT_ok t F h).1
    · cases h
end
end Pw
end
section
set_option Elab.async false
set_option linter.all false
set_option maxRecDepth 100000
set_option maxHeartbeats 4000000
set_option autoImplicit false
/-! Pw22: statements: the look, and that what it finds holds -/
namespace Pw
open PySem PySem.Spec PyProof.Rows L2
theorem contains_any (bs : List Nat) (k : Nat) : bs.contains k = bs.any fun b => [k].contains b := by
  rw [Bool.eq_iff_iff, List.contains_iff_mem, List.any_eq_true]
  constructor
  · intro h; exact ⟨k, h, by simp⟩
  · rintro ⟨b, hb, e⟩
    have : b = k := by simpa using e
    rw [← this]; exact hb
/-- no comprehension -/
def notLc : Expr → Bool
  | .ListComp .. => false | .SetComp .. => false | .DictComp .. => false
  | _ => true
def notTup : Expr → Bool
  | .Tuple .. => false
  | _ => true
def tgOk : Expr → Bool
  | .Name .. => true | .Tuple .. => true | .Subscript .. => true
  | _ => false
def mkC (f : Cf) (c : Cs) (k : Nat) (e : Expr) : Bool := match e with
  | .Call (.Name x _) [.Constant (.str _) _ _] [] _ => isAt f.nm.cls k x && gloB c.sc x && okName x && (match f.nm.fls[k]? with | some [] => true | _ => false)
  | _ => false
/-- C(e, ..) of a class with fields -/
def mkA (f : Cf) (c : Cs) (k : Nat) (xs : List Exp) (e : Expr) : Bool := match e with
  | .Call (.Name x _) (a :: r) [] _ => isAt f.nm.cls k x && gloB c.sc x && okName x && okX a && r.all okX && (match f.nm.fls[k]? with | some l => decide (0 < l.length) && decide (l.length ≤ 900) && decide (xs.length = l.length) | none => false) && cEs f c xs (a :: r)
  | _ => false
/-- the value is stored in the plain way -/
def nosw (c : Cs) (tg e : Expr) : Bool := notLc e || (match tg, e with
  | .Name x py, .ListComp _ _ scope pos => !(locB c.sc x) || !(py.line == pos.line) || (scope.names.any fun (n, k) => n == x && (k == .local || k == .cell))
  | _, _ => false)
/-- name = [..] on one line -/
def lcC (f : Cf) (c : Cs) (i : Nat) (l : Src) (tg e : Expr) : Bool := match tg, e with
  | .Name x py, .ListComp _ [⟨_, _, _, _⟩] scope pos => isAt f.N i x && locB c.sc x && (py.line == pos.line) && !(scope.names.any fun (n, k) => n == x && (k == .local || k == .cell)) && cR f c .n l e
  | _, _ => false
/-- a value, or a tuple of values, that stands there -/
def cCxs : List Exp → List Expr → Bool
  | [], [] => true
  | .c d :: xs, e :: es => constC d e && okX e && cCxs xs es
  | _, _ => false
def cCx (x : Exp) (e : Expr) : Bool := match x with
  | .c d => constC d e
  | .tup xs => (match e with
    | .Tuple es _ _ => cCxs xs es && decide (xs.length ≤ 1000)
    | _ => false)
  | _ => false
/-- return of a value that stands there -/
def plainC (suite : List Stm) (b0 : Stmt) (t : List Stmt) : Bool := match suite, b0, t with
  | [.ret x], .Return (some e) _, [] => cCx x e
  | [.ret (.c d)], .Return none _, [] => (match d with | .non => true | _ => false)
  | _, _, _ => false
mutual
def cSt (f : Cf) (c : Cs) : Stm → Stmt → Bool
  | .pass, s => (match s with | .Pass _ => true | _ => false)
  | .brk, s => (match s with | .Break _ => true | _ => false)
  | .cont, s => (match s with | .Continue _ => true | _ => false)
  | .ex x, s => (match s with | .Expr e _ => cE f c x e && notLc e | _ => false)
  | .ret x, s => (match s with
    | .Return (some e) _ => cE f c x e
    | .Return none _ => (match x with | .c d => (match d with | .non => true | _ => false) | _ => false)
    | _ => false)
  | .set t x, s => (match s with
    | .Assign [tg] e _ => (cE f c x e && nosw c tg e && tgC f c t tg && tgOk tg && (notTup tg || notTup e)) || (match t, x with
      | .v i, .ls (.comp y t2 l ts) => f.cm && lcC f c i (.comp y t2 l ts) tg e
      | _, _ => false)
    | _ => false)
  | .setIx o i x, s => (match s with
    | .Assign [.Subscript a b _] e _ => cE f c x e && cE f c o a && cE f c i b && notLc e && okX b
    | _ => false)
  | .ite t a b, s => (match s with
    | .If g x y _ => cT f c t g && cSts f c a x && cSts f c b y
    | _ => false)
  | .forS t l body _, s => (match s with
    | .For tg iter x [] _ => f.cm && okX iter && tgC f c t tg && (zipT l tg && cR f c .i l iter) && cSts f c body x
    | _ => false)
  | .whl t body _, s => (match s with
    | .While g x [] _ => f.cm && cT f c t g && cSts f c body x
    | _ => false)
  | .rais k es, s => (match s with
    | .Raise (some e) none _ => f.cm && (match es with | [] => mkC f c k e | xs => mkA f c k xs e)
    | _ => false)
  | .tryS body hs, s => (match s with
    | .Try x (h0 :: hds) [] [] _ => f.cm && cSts f c body x && cHs f c hs (h0 :: hds)
    | _ => false)
  | _, _ => false
def cSts (f : Cf) (c : Cs) : List Stm → List Stmt → Bool
  | [], l => (match l with | [] => true | _ => false)
  | s :: r, l => (match l with
    | x :: t => cSt f c s x && cSts f c r t
    | [] => false)
def cHs (f : Cf) (c : Cs) : List Hd → List ExceptHandler → Bool
  | [], l => (match l with | [] => true | _ => false)
  | (cs, sl, suite) :: r, l => (match l with
    | .ExceptHandler (some (.Name cn _)) nm (b0 :: t) _ :: hds => (match cs with | [k] => isAt f.nm.tst k cn && gloB c.sc cn && okName cn | _ => false) && (match sl, nm with
      | some i, some y => isAt f.N i y && locB c.sc y && cSts { f with cm := false, sl := some i } c suite (b0 :: t)
      | none, none => plainC suite b0 t
      | _, _ => false) && cHs f c r hds
    | _ => false)
end
variable {w : Wo} {xw : Xw} {C : Ctx} {p : Prg} {n : Nat} {f : Cf}
structure Fs (w : Wo) (xw : Xw) (p : Prg) (n : Nat) (C : Ctx) (f : Cf) (c : Cs) (W : WX) (X : Cx) : Prop extends Fc w xw p n C f c W X where
  own : f.cm = true → PassesOwn (model X.prog X.w) X.A X.env X.xe
  stk : X.stack = X.env :: X.outer
  frm : X.env.frame = some X.env.locals
  knd : X.env.scope.kind = .function
section
variable {c : Cs} {W : WX} {X : Cx} {e tg : Expr} {pos : Pos}
theorem notLc_ok {t : Option Expr} {l : Nat} {env : PySem.Env} (h : notLc e = true) : swapsWith e t l env = pure false := by
  cases e <;> first | (cases h; done) | rfl
theorem notLcS {t : Expr} {l : Nat} {env : PySem.Env} (h : notLc e = true) : swapsWithSole [t] e l env = pure false := notLc_ok h
theorem nosw_ok {t : Expr} {l : Nat} {env : PySem.Env} (hs : env.scope = c.sc) (h : nosw c t e = true) : swapsWithSole [t] e l env = pure false := by
  unfold nosw at h
  rw [Bool.or_eq_true] at h
  rcases h with h | h
  · exact notLcS h
  · split at h
    · rename_i x py elt gs scope pos
      show swapsWith (.ListComp elt gs scope pos) (some (.Name x py)) l env = _
      have key : (env.blockKind == .function && env.kindOf x == some .local && py.line == pos.line && !(scope.names.any fun (n, k) => n == x && (k == .local || k == .cell))) = false := by
        simp only [Bool.or_eq_true, Bool.not_eq_true'] at h
        rcases h with (h | h) | h
        · have : (env.kindOf x == some .local) = false := by
            rw [Bool.eq_false_iff]
            intro z
            have z : env.scope.names.lookup x = some .local := eq_of_beq z
            rw [hs] at z
            unfold locB at h
            rw [kindAt_ok, z] at h
            cases h
          rw [this, Bool.and_false, Bool.false_and, Bool.false_and]
        · rw [h, Bool.and_false, Bool.false_and]
        · rw [h, Bool.not_true, Bool.and_false]
      unfold swapsWith
      simp only [Expr.pos, key]
    · cases h
theorem notTup_ok {env : PySem.Env} (h : (notTup tg || notTup e) = true) (h2 : tgOk tg = true) : swappedStores [tg] e env = pure none := by
  cases tg <;> first | (cases h2; done) | rfl | (cases e <;> first | (cases h; done) | rfl)
theorem tg1_ok {env : PySem.Env} (h2 : tgOk tg = true) : (assignEach [tg] env).map (·.2) = [assign tg env] := by
  cases tg <;> first | (cases h2; done) | rfl
theorem sub_ok {o b : Expr} {env : PySem.Env} (h : okX b = true) (v : Value) : assign (.Subscript o b pos) env v = (do
      let ov ← holding [v] (eval o env)
      let iv ← holding [v, ov] (eval b env)
      standAt pos
      holding [v, ov, iv] (setItem ov iv v)
      release [v, ov, iv] []) := by
  cases b <;> first | (cases h; done) | rfl
theorem mk_ok {k : Nat} (F : Fs w xw p n C f c W X) (h : mkC f c k e = true) : L2N.PMk X e (fun _ H Q => Q (xw.cA k) none H) ∧ xw.fl k = [] ∧ k < xw.n := by
  unfold mkC at h
  split at h
  · rename_i x q m j q2 q3
    simp only [Bool.and_eq_true] at h
    have hx := isAt_ok h.1.1.1
    obtain ⟨h1, a, h2, h3, h4, h5, h6, h7⟩ := F.gd.cls k x hx
    have fl : xw.fl k = [] := by
      have e := F.gd.fls k h1
      have h8 := h.2
      rw [e] at h8
      split at h8
      · rename_i z
        exact Option.some.inj z
      · cases h8
    dsimp only at h4 h5 h6 h7
    rw [F.hK] at h4 h5 h6 h7
    rw [h3]
    exact ⟨L2N.pmk_own PySem.F.excBase_ValueError (h5 fl) h2 h4 (raises_own h6 h7) (F.gl h.1.1.2) (okName_ok h.1.2).1, fl, h1⟩
  · cases h
theorem names_ok {k : Nat} {x : Str} {cv : Value} {K : PySem.W.Frag} (h : TstOk xw K X.mg p k x cv) (hg : Gl X x) (hn : okName x = true) : Names X x cv := by
  refine ⟨hg, (okName_ok hn).1, ?_⟩
  rcases h.nm with ⟨a, rfl, hm⟩ | ⟨T, rfl, hm, hb⟩
  · exact .inl hm
  · exact .inr ⟨hm, hb, (okName_ok hn).2.2⟩
/-- a try body -/
theorem Fs.tr {W' : WX} {pn : List (Addr × Obj)} {xe : Value → Shared → Prop} (F : Fs w xw p n C f c W X) (tk : L2N.Takes (X.tr pn xe) W') (own : PassesOwn (model X.prog X.w) X.A X.env xe) (h1 : f.cm = true := by assumption) : Fs w xw p n C f c W' (X.tr pn xe) :=
  { hK := F.hK, hW := F.hW, gd := F.gd, nd := F.nd, un := F.un, cG := F.cG, cP := F.cP, cC := F.cC, hx := fun z => (by rw [h1] at z; cases z), tk := tk, hN := F.hN, sc := F.sc, fn := F.fn, sx := F.sx, calm := F.calm, own := fun _ => own, stk := F.stk, frm := F.frm, knd := F.knd }
/-- an except suite -/
theorem Fs.suite {a : Addr} {oe : Obj} {pn : List (Addr × Obj)} {i k : Nat} {fs : List D} {dd : Option Addr} {φ : Nat → Addr} {H : Hp} {S : Store} {cls : Value} (F : Fs w xw p n C f c W X) (h1 : f.cm = true) (xr : XR w xw φ H S k fs cls dd) (hz : L2N.Zn cls dd oe) (hf : ∃ vs, oe.data = .fields vs) :
    Fs (w.at a i (xdO xw k fs dd)) xw p n { C with exn := some (k, fs) } { f with cm := false, sl := some i } c W0 (X.suite a ((a, oe) :: pn)) := by
  obtain ⟨hk, rfl, q3, q4, q5⟩ := xr
  obtain ⟨D0, e1, e2, e3⟩ := F.gd.exc k hk
  have iff : dd = none ↔ xw.fl k = [] := by
    rcases q5 with ⟨z1, z2⟩ | ⟨z1, d, z2, _⟩
    · exact ⟨fun _ => z1, fun _ => z2⟩
    · exact ⟨fun z => by (rw [z2] at z; cases z), fun z => absurd z z1⟩
  dsimp only at e2 e3
  rw [F.hK] at e2 e3
  rw [e1] at hz
  have hr := (F.calm h1).2.2
  exact { hK := F.hK, hW := F.hW, gd := F.gd, nd := F.nd, un := F.un, cG := F.cG, cP := F.cP, cC := F.cC, hx := fun _ => ⟨⟨a, oe, i, k, D0, fs, dd, rfl, rfl, rfl, hk, e1, List.mem_cons_self, hz, hf, e2, rfl, q3, q4, iff, e3⟩, ⟨(hr.mono (Nat.le_add_right _ _)).dp, (hr.mono (Nat.le_add_right _ _)).un⟩⟩, tk := takes0, hN := F.hN, sc := F.sc, fn := F.fn, sx := fun a' j fs e => (by cases e; rfl), calm := fun z => (by cases z), own := fun z => (by cases z), stk := F.stk, frm := F.frm, knd := F.knd }
end
abbrev StsOk (ss : List Stm) : Prop := ∀ {w : Wo} {xw : Xw} {C : Ctx} {p : Prg} {n : Nat} {f : Cf} {sts : List Stmt} {c : Cs} {W : WX} {X : Cx}, Fs w xw p n C f c W X → cSts f c ss sts = true → PSs X sts (tSts w xw C W ss)
theorem tst_ok {cs : List Nat} {cn : Str} {c : Cs} {W : WX} {X : Cx} (F : Fs w xw p n C f c W X) (h : (match cs with | [k] => isAt f.nm.tst k cn && gloB c.sc cn && okName cn | _ => false) = true) :
    ∃ cv, Names X cn cv ∧ ∀ k, k < xw.n → PySem.W.exmOne X.K (xw.cA k) cv = some (catches C.Cl k cs) := by
  split at h
  · rename_i k
    simp only [Bool.and_eq_true] at h
    obtain ⟨cv, ht⟩ := F.gd.tst _ _ (isAt_ok h.1.1)
    dsimp only at ht
    have hK := F.hK
    refine ⟨cv, names_ok ht (F.gl h.1.2) h.2, fun c' hc' => ?_⟩
    obtain ⟨bs, hb, _, hk⟩ := ht.kit c' hc'
    rw [← hK, hk]
    congr 1
    unfold catches
    rw [F.cC, hb]
    show bs.contains k = bs.any fun b => [k].contains b
    exact contains_any bs k
  · cases h
theorem cCxs_ok {X : Cx} {W : WX} : ∀ {xs : List Exp} {es : List Expr}, cCxs xs es = true → (∃ ds, ∀ (C : Ctx) (env : Env) (S : Store), evEs C xs env S = .ok ds S) ∧ PA X es (tEs w xw C W xs)
  | [], [], _ => ⟨⟨[], fun C env S => by rw [evEs]⟩, sa_nil⟩
  | .c d :: xs, e :: es, h => by
    simp only [cCxs, Bool.and_eq_true] at h
    obtain ⟨⟨ds, i1⟩, i2⟩ := cCxs_ok (X := X) (W := W) h.2
    exact ⟨⟨d :: ds, fun C env S => by rw [evEs, evE]; show ((evEs C xs env S).bind fun xs S => Res.ok (d :: xs) S) = _; rw [i1]; rfl⟩, sa_cons (const_ok h.1.1) i2 h.1.2⟩
  | [], _ :: _, h => by simp [cCxs] at h
  | x :: _, [], h => by cases x <;> simp [cCxs] at h
theorem cCx_ok {X : Cx} {W : WX} {x : Exp} {e : Expr} (h : cCx x e = true) : (∃ d, ∀ (C : Ctx) (env : Env) (S : Store), evE C x env S = .ok d S) ∧ PE X e (tE w xw C W x) := by
  unfold cCx at h
  split at h
  · rename_i d
    exact ⟨⟨d, fun C env S => by rw [evE]⟩, const_ok h⟩
  · rename_i xs
    split at h
    · simp only [Bool.and_eq_true, decide_eq_true_eq] at h
      obtain ⟨⟨ds, i1⟩, i2⟩ := cCxs_ok (w := w) (xw := xw) (C := C) (X := X) (W := W) h.1
      exact ⟨⟨.tup ds, fun C env S => by rw [evE, i1]; rfl⟩, se_tup i2 (by rw [sizeLine_eq]; omega)⟩
    · cases h
  · cases h
theorem plain_ok {suite : List Stm} {b0 : Stmt} {t : List Stmt} {X : Cx} (h : plainC suite b0 t = true) : ∃ x d, suite = [.ret x] ∧ (∀ (C : Ctx) (env : Env) (S : Store), evE C x env S = .ok d S) ∧ PSs X (b0 :: t) (tSts w xw C W0 suite) := by
  unfold plainC at h
  split at h
  · obtain ⟨⟨d, h1⟩, h2⟩ := cCx_ok (w := w) (xw := xw) (C := C) (X := X) (W := W0) h
    exact ⟨_, d, rfl, h1, sss_cons (sst_ret h2) sss_nil⟩
  · split at h
    · exact ⟨_, .non, rfl, fun C env S => by rw [evE], sss_cons sst_retN sss_nil⟩
    · cases h
  · cases h
theorem clause_case {cs : List Nat} {sl : Option Nat} {suite : List Stm} {r : List Hd} {hds : List ExceptHandler} {c : Cs} {W : WX} {X : Cx} (ihs : StsOk suite) (ihr : ∀ hds, cHs f c r hds = true → ∃ l, PwT.MixOk X hds l ∧ Meets w xw C X r l)
    (F : Fs w xw p n C f c W X) (h1 : f.cm = true) (h : cHs f c ((cs, sl, suite) :: r) hds = true) : ∃ l, PwT.MixOk X hds l ∧ Meets w xw C X ((cs, sl, suite) :: r) l := by
  simp only [cHs] at h
  split at h
  · rename_i cn np nm b0 t pos hds2
    simp only [Bool.and_eq_true] at h
    obtain ⟨⟨g1, g2⟩, g3⟩ := h
    obtain ⟨cv, hn, hex⟩ := tst_ok F g1
    obtain ⟨l, m1, m2⟩ := ihr _ g3
    split at g2
    · rename_i i y
      simp only [Bool.and_eq_true] at g2
      obtain ⟨⟨h3, h4⟩, h8⟩ := g2
      refine ⟨_, .named hn (F.toFc.at h3) (by show X.env.scope.names.lookup y = _; rw [F.sc]; exact locB_ok h4) (fun a oe cls d pn hz hf => ⟨fun pins s σ H D0 I ⟨c', fs, φ, env, S, xr, m, g⟩ => ?_⟩) m1, .named hex m2⟩
      exact (ihs (F.suite h1 xr hz hf) h8).run pins s σ H D0 I ⟨φ, env, S, m, g⟩
    · obtain ⟨x, d, e, hxd, _⟩ := plain_ok (w := w) (xw := xw) (C := C) (X := X) g2
      subst e
      exact ⟨_, .plain hn (fun a oe cls d pn hz hf => by obtain ⟨_, _, _, _, hp⟩ := plain_ok (w := w) (xw := xw) (C := C) (X := X.suite a ((a, oe) :: pn)) g2; exact hp) m1, .plain hxd hex m2⟩
    · cases g2
  · cases h
theorem try_case {body : List Stm} {hs : List Hd} {st : Stmt} {c : Cs} {W : WX} {X : Cx} (ihb : StsOk body) (F : Fs w xw p n C f c W X) (ihh : f.cm = true → ∀ hds, cHs f c hs hds = true → ∃ l, PwT.MixOk X hds l ∧ Meets w xw C X hs l) (h : cSt f c (.tryS body hs) st = true) : PS X st (tSt w xw C W (.tryS body hs)) := by
  simp only [cSt] at h
  split at h
  · rename_i x h0 hds pos
    simp only [Bool.and_eq_true] at h
    obtain ⟨⟨h1, h2⟩, h3⟩ := h
    obtain ⟨l, m1, m2⟩ := ihh h1 _ h3
    exact sst_tryM (F.calm h1).2.1 F.stk F.frm F.nd F.tk (fun W' pn xe tk own => ihb (F.tr tk own) h2) m1 m2
  · cases h
mutual
theorem cSt_ok : ∀ (s : Stm) {w : Wo} {xw : Xw} {C : Ctx} {p : Prg} {n : Nat} {f : Cf} {st : Stmt} {c : Cs} {W : WX} {X : Cx}, Fs w xw p n C f c W X → cSt f c s st = true → PS X st (tSt w xw C W s)
  | .pass, w, xw, C, p, n, f, st, c, W, X, F, h => by
    simp only [cSt] at h
    split at h
    · exact sst_pass
    · cases h
  | .brk, w, xw, C, p, n, f, st, c, W, X, F, h => by
    simp only [cSt] at h
    split at h
    · exact sst_brk
    · cases h
  | .cont, w, xw, C, p, n, f, st, c, W, X, F, h => by
    simp only [cSt] at h
    split at h
    · exact sst_cont
    · cases h
  | .ex x, w, xw, C, p, n, f, st, c, W, X, F, h => by
    simp only [cSt] at h
    split at h
    · simp only [Bool.and_eq_true] at h
      exact sst_ex (cE_ok x F.toFc h.1) (notLc_ok h.2)
    · cases h
  | .ret x, w, xw, C, p, n, f, st, c, W, X, F, h => by
    simp only [cSt] at h
    split at h
    · exact sst_ret (cE_ok x F.toFc h)
    · split at h
      · split at h
        · exact sst_retN
        · cases h
      · cases h
    · cases h
  | .set t x, w, xw, C, p, n, f, st, c, W, X, F, h => by
    simp only [cSt] at h
    split at h
    · rw [Bool.or_eq_true] at h
      rcases h with h | h
      · simp only [Bool.and_eq_true] at h
        exact sst_set (cE_ok x F.toFc h.1.1.1.1) (tgC_ok F.toFc h.1.1.2) (nosw_ok (by rw [F.sc]) h.1.1.1.2) (notTup_ok h.2 h.1.2) (tg1_ok h.1.2)
      · split at h
        · rw [Bool.and_eq_true] at h
          obtain ⟨hcm, h⟩ := h
          unfold lcC at h
          split at h
          · rename_i x py elt tg iter gifs as scope pos
            simp only [Bool.and_eq_true, Bool.not_eq_true'] at h
            obtain ⟨⟨⟨⟨h1, h2⟩, h3⟩, h4⟩, h5⟩ := h
            simp only [cR] at h5
            simp only [Bool.and_eq_true, decide_eq_true_eq] at h5
            obtain ⟨⟨⟨⟨⟨⟨⟨g1, g2⟩, g3⟩, g4⟩, g5⟩, g6⟩, g7⟩, g8⟩ := h5
            subst g2
            have ok := blkOk_by g4
            rw [← F.hN, ← F.sc] at ok
            have hl : X.env.scope.names.lookup x = some .local := by rw [F.sc]; exact locB_ok h2
            refine sst_setLc (F.calm g1).2.1 (F.calm g1).1 F.nd (F.toFc.at h1) hl (sw_true F.knd hl h3 h4) (cR_ok _ .i F.toFc g6.2 _ g6.1) ok ?_ (fun s H D cl fp => tgC_ok (F.toFc.blk g1 s H D cl fp) g5) (fun s H D cl fp => cTs_ok _ (F.toFc.blk g1 s H D cl fp) g7) (fun s H D cl fp => cE_ok _ (F.toFc.blk g1 s H D cl fp) g8) (fold_ok g3)
            unfold ownOf
            rw [List.map_map]
            exact List.map_id _
          · cases h
        · cases h
    · cases h
  | .setIx o i x, w, xw, C, p, n, f, st, c, W, X, F, h => by
    simp only [cSt] at h
    split at h
    · simp only [Bool.and_eq_true] at h
      exact sst_setIx (psetR F.hK F.hW F.un) (cE_ok o F.toFc h.1.1.1.2) (cE_ok i F.toFc h.1.1.2) (cE_ok x F.toFc h.1.1.1.1) (notLcS h.1.2) (notTup_ok (by rfl) rfl) rfl (sub_ok h.2)
    · cases h
  | .ite t a b, w, xw, C, p, n, f, st, c, W, X, F, h => by
    simp only [cSt] at h
    split at h
    · simp only [Bool.and_eq_true] at h
      exact sst_if (cT_ok t F.toFc h.1.1).1 (cSts_ok a F h.1.2) (cSts_ok b F h.2)
    · cases h
  | .forS t l body ks, w, xw, C, p, n, f, st, c, W, X, F, h => by
    simp only [cSt] at h
    split at h
    · simp only [Bool.and_eq_true] at h
      have hc := (F.calm h.1.1.1.1).1
      have hi := fun (_ : Unit) => cR_ok l .i F.toFc h.1.2.2 _ h.1.2.1
      have hg := tgC_ok F.toFc h.1.1.2
      have hb := cSts_ok body F h.2
      exact sst_for (F.own h.1.1.1.1) hc (hi ()) hg hb (ps_for (F.own h.1.1.1.1) hc (hi ()) hg hb (fold_ok h.1.1.1.2))
    · cases h
  | .whl t body ks, w, xw, C, p, n, f, st, c, W, X, F, h => by
    simp only [cSt] at h
    split at h
    · simp only [Bool.and_eq_true] at h
      exact sst_whl (F.own h.1.1) (cT_ok t F.toFc h.1.2).1 (cSts_ok body F h.2)
    · cases h
  | .rais k es, w, xw, C, p, n, f, st, c, W, X, F, h => by
    simp only [cSt] at h
    split at h
    · rw [Bool.and_eq_true] at h
      obtain ⟨hcm, h⟩ := h
      split at h
      · obtain ⟨h1, h2, h3⟩ := mk_ok F h
        exact sst_raise0 (F.calm hcm).1 F.tk h1 h2 h3
      · unfold mkA at h
        split at h
        · rename_i x q1 a r q2
          simp only [Bool.and_eq_true] at h
          obtain ⟨⟨⟨⟨⟨⟨g1, g2⟩, g3⟩, g4⟩, g5⟩, g6⟩, g7⟩ := h
          obtain ⟨hk, _⟩ := F.gd.cls k x (isAt_ok g1)
          have e := F.gd.fls k hk
          rw [e] at g6
          simp only [Bool.and_eq_true, decide_eq_true_eq] at g6
          obtain ⟨⟨l1, l2⟩, l3⟩ := g6
          have hne : xw.fl k ≠ [] := fun z => by rw [z] at l1; exact absurd l1 (by simp)
          obtain ⟨A, D1, fI, fd, p0, ps, m1, m2, m3, m4, m5, m6⟩ := F.gd.ini k x (isAt_ok g1) hne
          dsimp only at m3 m5 m6
          rw [F.hK] at m3 m5 m6
          exact sst_raiseA (F.calm hcm).1 F.tk m2 hk hne m3 (by rw [List.length_cons, m4]) m5 ((F.calm hcm).2.2.mono (Nat.le_add_left _ _)) m6 l2 (F.gl g2) m1 (cEs_ok _ F.toFc g7) l3 g3 g4 g5
        · cases h
    · cases h
  | .tryS body hs, w, xw, C, p, n, f, st, c, W, X, F, h => try_case (fun F h => cSts_ok body F h) F (fun h1 hds h => cHs_ok hs F h1 h) h
  | .kill _, w, xw, C, p, n, f, st, c, W, X, F, h => by simp [cSt] at h
theorem cSts_ok : ∀ (ss : List Stm) {w : Wo} {xw : Xw} {C : Ctx} {p : Prg} {n : Nat} {f : Cf} {sts : List Stmt} {c : Cs} {W : WX} {X : Cx}, Fs w xw p n C f c W X → cSts f c ss sts = true → PSs X sts (tSts w xw C W ss)
  | [], w, xw, C, p, n, f, sts, c, W, X, F, h => by
    simp only [cSts] at h
    split at h
    · exact sss_nil
    · cases h
  | s :: r, w, xw, C, p, n, f, sts, c, W, X, F, h => by
    simp only [cSts] at h
    split at h
    · simp only [Bool.and_eq_true] at h
      exact sss_cons (cSt_ok s F h.1) (cSts_ok r F h.2)
    · cases h
theorem cHs_ok : ∀ (hs : List Hd) {w : Wo} {xw : Xw} {C : Ctx} {p : Prg} {n : Nat} {f : Cf} {hds : List ExceptHandler} {c : Cs} {W : WX} {X : Cx}, Fs w xw p n C f c W X → f.cm = true → cHs f c hs hds = true → ∃ l, PwT.MixOk X hds l ∧ Meets w xw C X hs l
  | [], w, xw, C, p, n, f, hds, c, W, X, F, h1, h => by
    simp only [cHs] at h
    split at h
    · exact ⟨_, .nil, .nil⟩
    · cases h
  | (cs, sl, suite) :: r, w, xw, C, p, n, f, hds, c, W, X, F, h1, h => clause_case (fun F h => cSts_ok suite F h) (fun hds h => cHs_ok r F h1 h) F h1 h
end
end Pw
end
section
set_option Elab.async false
set_option linter.all false
set_option maxRecDepth 100000
set_option maxHeartbeats 4000000
set_option autoImplicit false
/-! Pw23: defs: each keeps what the evaluator says -/
namespace Pw
open PySem PySem.Spec PyProof.Rows L2
variable {w : Wo} {xw : Xw} {p : Prg} {nm : Nm}
section
variable {φ φ' : Nat → Addr} {S S' : Store} {H H' : Hp} {d : D} {v : V} {Q : VK} {W : WX} {σ : L2.St}
/-- a call's end: what was laid within is forgotten -/
theorem fin_ok (so : SimO w.K φ w.ex H S) (l : Lat φ φ' S S' H H') (so' : SimO w.K φ' w.ex H' S') (r : RE w φ' H' S' v d) (g : Rg w xw W σ (RE w) φ S H (fin S S' d) Q) : Q v H' := by
  unfold fin at g
  split at g
  · exact g v φ' H' l so' r
  · split at g
    · rename_i h1 h2
      have hl := (okOld_ok h2).1
      have sd := so'.drop so h2
      have ld := l.drop hl
      split at g
      · rename_i hb
        exact g v φ' H' ld sd ⟨r.1, by rw [hl]; exact hb⟩
      · rename_i hb
        split at g
        · rename_i m
          split at g
          · rename_i o e
            split at g
            · rename_i ho
              have hm : S.length ≤ m := by
                rcases Nat.lt_or_ge m S.length with z | z
                · exact absurd (show D.bel S.length (.obj m) = true from Nat.ble_eq_true_of_le z) hb
                · exact z
              have h0 : H (φ' m) = none := l.nw m hm (get_lt e)
              obtain ⟨φ2, l2, e2, s2⟩ := sd.adoptO ld h0 (so'.ob m o e) (fun n hn z => by
                rw [hl] at hn
                rw [l.same n hn] at z
                exact so.ne h0 n hn z) (by rw [hl]; exact ho)
              refine g v φ2 H' l2 s2 ⟨?_, ?_⟩
              · have : v = .ref (φ' m) := by cases r.1; rfl
                rw [this, ← e2, hl]
                exact .obj _
              · show Nat.blt S.length (o :: S'.drop (S'.length - S.length)).length = true
                rw [List.length_cons, hl]
                exact Nat.ble_eq_true_of_le (Nat.le_refl _)
            · exact g v φ' H' l so' r
          · exact g.elim
        · exact g v φ' H' l so' r
    · exact g v φ' H' l so' r
theorem finX_ok {c : Nat} {fs : List D} {cls : Value} {dd : Option Addr} (so : SimO w.K φ w.ex H S) (l : Lat φ φ' S S' H H') (so' : SimO w.K φ' w.ex H' S') (r : XR w xw φ' H' S' c fs cls dd) (g : Rg w xw W σ (RE w) φ S H (.exc c fs (finX S S' fs)) Q) : W cls dd σ H' := by
  unfold finX at g
  split at g
  · exact g φ' H' cls dd l so' r
  · split at g
    · rename_i h1 h2
      simp only [Bool.and_eq_true] at h2
      have hl := (okOld_ok h2.2).1
      exact g φ' H' cls dd (l.drop hl) (so'.drop so h2.2) r
    · exact g φ' H' cls dd l so' r
end
theorem simE0 {φ : Nat → Addr} {H : Hp} {S : Store} {vs : List V} {ds : List D} {N : List Str} {np nl : Nat} (hx : w.ex.2 = none) (r : REs w φ H S vs ds) (hp : ds.length = np) (hn : nl = N.length) : SimE w.K φ w.ex H S.length (L2.start N vs) (ds.map some ++ List.replicate (nl - np) none) := by
  have hl := r.1.length
  refine ⟨by simp [L2.start, hl, hp, hn], fun i d h => ?_, fun a j fs e => (by rw [hx] at e; cases e), fun a i d fs e => (by rw [hx] at e; cases e)⟩
  have hi : i < ds.length := by
    rcases Nat.lt_or_ge i ds.length with z | z
    · exact z
    · rw [List.getElem?_append_right (by simpa using z), List.getElem?_replicate] at h
      split at h <;> cases h
  rw [List.getElem?_append_left (by simpa using hi), List.getElem?_map] at h
  cases e : ds[i]? with
  | none => rw [e] at h; cases h
  | some d' =>
    rw [e] at h
    cases h
    obtain ⟨v, h1, h2⟩ := r.1.get d e
    refine ⟨v, ?_, h2, bels_all.mp r.2 d (List.mem_of_getElem? e)⟩
    unfold L2.start
    rw [List.getElem?_append_left (by simp; omega), List.getElem?_map, h1]
    rfl
/-- what is known of the text's defs -/
structure Tx (w : Wo) (xw : Xw) (mg : Str → Option Value) (p : Prg) (nm : Nm) (hP : Program → Prop) : Prop where
  ex : w.ex.2 = none
  fn : ∀ (i : Nat) (x : Str), nm.fns[i]? = some x → ∃ (f : Addr) (fd : FuncData) (ps N : List Str) (params : Arguments) (body : List Stmt) (scope : Scope) (g : Fn), mg x = some (.ref f) ∧ FunD w.K x x params body scope [] [] f fd ∧ Binds w.K fd ps [] ∧ FnScope N ps scope ∧
    p.fns[i]? = some g ∧ g.np = ps.length ∧ g.nl = N.length ∧ cSts ⟨nm, N, true, none⟩ ⟨scope, fun _ => true⟩ g.body body = true
  gl : ∀ (i : Nat) (x : Str), nm.gs[i]? = some x → ∃ (d : D) (u : Value) (v : V), p.G[i]? = some d ∧ mg x = some u ∧ RelV v u ∧ (∀ φ ex H, Rp w.K φ ex H v d) ∧ D.bel 0 d = true
  free : ∀ x ∈ freeNames, mg x = none
  cls : ∀ (k : Nat) (x : Str), nm.cls[k]? = some x → k < xw.n ∧ ∃ a : Addr, mg x = some (.ref a) ∧ xw.cA k = .ref a ∧ PySem.W.keepIn w.K (.ref a) = true ∧ (xw.fl k = [] → PySem.W.excIn w.K a veB "ValueError.__new__" = true) ∧
    PySem.W.subIn w.K (.ref a) (.type "BaseException") = some true ∧ PySem.W.typeIn w.K (.ref a) = some (.type "type")
  fls : ∀ k, k < xw.n → nm.fls[k]? = some (xw.fl k)
  hot : ∀ (i : Nat) (x : Str), (i, x) ∈ nm.hots → ∃ (f : Addr) (fd : FuncData) (y : Str) (N : List Str) (params : Arguments) (body : List Stmt) (scope : Scope) (g : Fn), mg x = some (.ref f) ∧ FunD w.K x x params body scope [] [] f fd ∧ Binds w.K fd [y] [] ∧ FnScope N [y] scope ∧
    p.fns[i]? = some g ∧ g.nl = N.length ∧ cSts ⟨nm, N, false, some 0⟩ ⟨scope, fun _ => true⟩ g.body body = true
  tst : ∀ (k : Nat) (x : Str), nm.tst[k]? = some x → ∃ cv, TstOk xw w.K mg p k x cv
  exc : ∀ c, c < xw.n → ∃ a : Addr, xw.cA c = .ref a ∧ ExcC w.K a ∧ ∀ g ∈ xw.fl c, PySem.W.findIn w.K (.ref a) g = some none
  ini : ∀ (P : Program) (wd : World) (base : Heap), hP P → ∀ (k : Nat) (x : Str), nm.cls[k]? = some x → xw.fl k ≠ [] → ∃ (a D fI : Addr) (fd : FuncData) (p0 : Str) (ps : List Str), mg x = some (.ref a) ∧ xw.cA k = .ref a ∧ IniC w.K a D fI (xw.fl k) ∧ ps.length = (xw.fl k).length ∧
    FnOk P wd w.K mg base (L2N.CX P wd) 1 fI fd (p0 :: ps) (spI w.K D fI (xw.fl k)) ∧ Binds w.K fd (p0 :: ps) []
/-- one def -/
theorem fn_keeps {P : Program} {wd : World} {mg : Str → Option Value} {base : Heap} {n i : Nat} {x : Str} {f : Addr} {fd : FuncData} {ps N : List Str} {params : Arguments} {body : List Stmt} {scope : Scope} {g : Fn} {hP : Program → Prop} (hw : w.ex.1 = wd) (T : Tx w xw mg p nm hP) (G : Gd w xw P wd mg base p nm n)
    (F : FunD w.K x x params body scope [] [] f fd) (Sc : FnScope N ps scope) (hg : p.fns[i]? = some g) (hp : g.np = ps.length) (hn : g.nl = N.length) (hc : cSts ⟨nm, N, true, none⟩ ⟨scope, fun _ => true⟩ g.body body = true) : FnOk P wd w.K mg base (L2N.CX P wd) (n + 3) f fd ps (spD w xw p (n + 1) i) := by
  have hden : ∀ ds S, den p (n + 1) none i ds S = evFn ⟨den p n, p.G, p.Cl, none⟩ g ds S := fun ds S => by
    show (match p.fns[i]? with
      | some f => evFn ⟨den p n, p.G, p.Cl, none⟩ f ds S
      | none => .bad) = _
    rw [hg]
  have hev : ∀ ds S, evFn ⟨den p n, p.G, p.Cl, none⟩ g ds S = if ds.length = g.np then (match evSs ⟨den p n, p.G, p.Cl, none⟩ g.body (ds.map some ++ List.replicate (g.nl - g.np) none) S with
    | .ok (.rt d) S' => fin S S' d
    | .ok (.nx _) S' => fin S S' .non
    | .ok (.ex c fs _) S' => .exc c fs (finX S S' fs)
    | _ => .bad) else .bad := fun ds S => by
      unfold evFn
      by_cases h : ds.length = g.np
      · rw [if_pos (.inr h), if_pos h]; rfl
      · rw [if_neg (by simp [h]), if_neg h]
  refine F.ok Sc (fun vs H Q E h => ?_) fun cdv A outer s H vs Q E hr h => ?_
  · obtain ⟨φ, S, ds, so, rs, h⟩ := h
    rw [hden, hev] at h
    obtain ⟨h1, _⟩ := Rg.ite h
    rw [rs.1.length, h1, hp]
  · obtain ⟨φ, S, ds, so, rs, h⟩ := h
    rw [hden, hev] at h
    obtain ⟨h1, h⟩ := Rg.ite h
    have hu := hr.un
    have Fs0 : Fs w xw p n ⟨den p n, p.G, p.Cl, none⟩ ⟨nm, N, true, none⟩ ⟨scope, fun _ => true⟩ (fun cls d _ H => E cls d H) (cxOf (L2N.CX P wd) P wd w.K mg base N x scope f cdv A outer s H E) :=
      { hK := rfl, hW := hw, gd := (by have zz := T.ex; have zg := G; clear G; obtain ⟨wk1, wd1, wx1⟩ := w; simp only at zz; subst zz; exact zg), nd := Sc.nd, un := (by show (A.deeper _).units + 65 < _; omega), cG := rfl, cP := fun _ => rfl, cC := rfl, hx := fun z => (by cases z), tk := L2N.takes_of rfl rfl rfl rfl, hN := rfl, sc := rfl, fn := fun _ _ => rfl, sx := fun a j fs e => (by rw [T.ex] at e; cases e), calm := fun _ => ⟨rfl, T.ex, hr⟩, own := fun _ => passes_of rfl, stk := rfl, frm := rfl, knd := Sc.kind }
    refine ⟨_, cSts_ok g.body Fs0 hc, φ, ds.map some ++ List.replicate (g.nl - g.np) none, S, ⟨so, simE0 T.ex rs h1 hn⟩, ?_⟩
    cases e : evSs ⟨den p n, p.G, p.Cl, none⟩ g.body (ds.map some ++ List.replicate (g.nl - g.np) none) S with
    | bad => rw [e] at h; exact h.elim
    | exc c fs S' => rw [e] at h; exact h.elim
    | ok fl S' =>
      rw [e] at h
      cases fl with
      | nx env => exact fun φ' H' σ' l m => fin_ok so l m.o ⟨.non, rfl⟩ h
      | rt d => exact fun v φ' H' l so' r => fin_ok so l so' r h
      | ex c fs env => exact fun φ' H' σ' cls dd l m xr => finX_ok so l m.o xr h
      | bk env => exact h.elim
      | ct env => exact h.elim
/-- a def that is called with the exception that is handled -/
theorem fnH_keeps {P : Program} {wd : World} {mg : Str → Option Value} {base : Heap} {n i : Nat} {x y : Str} {f : Addr} {fd : FuncData} {N : List Str} {params : Arguments} {body : List Stmt} {scope : Scope} {g : Fn} {hP : Program → Prop} (hw : w.ex.1 = wd) (T : Tx w xw mg p nm hP) (G : Gd w xw P wd mg base p nm n)
    (F : FunD w.K x x params body scope [] [] f fd) (Sc : FnScope N [y] scope) (hg : p.fns[i]? = some g) (hn : g.nl = N.length) (hc : cSts ⟨nm, N, false, some 0⟩ ⟨scope, fun _ => true⟩ g.body body = true) : FnHp P wd w.K mg base (L2N.CX P wd) (n + 1) f fd [y] (spX w xw p (n + 1) i) := by
  refine ⟨fun A outer s H args us vs Q E pr cls dd hr hot hpin hz e0 hb r hsp => ?_⟩
  obtain ⟨rfl, c, fs0, φ, S, xr0, so, h⟩ := hsp
  obtain ⟨hcn, rfl, hfo, hfl, hdd⟩ := id xr0
  have iff : dd = none ↔ xw.fl c = [] := by
    rcases hdd with ⟨z1, z2⟩ | ⟨z1, d, z2, _⟩
    · exact ⟨fun _ => z1, fun _ => z2⟩
    · exact ⟨fun z => by (rw [z2] at z; cases z), fun z => absurd z z1⟩
  obtain ⟨oc, od, dV, kV, doc, pm, an, cdv, ct, osl, rfl, lk, hcd, _, _⟩ := F.ex
  have kin : w.K.In s.heap := e0.mod.kin.keeps fun b o e => (e0.bs b o e).1
  have nolim : s.heap.NoLimit := e0.mod.nolimit.keeps fun b o e => (e0.bs b o e).1
  have kinds : ∀ q ∈ [y].zip us, scope.names.lookup q.1 = some .local ∨ (scope.names.lookup q.1 = some .cell ∧ ((cellsFrom (s.heap.objs.size + 1) scope.names []).lookup q.1).isSome = true) := fun ⟨m, v⟩ hq => (Sc.par m (List.of_mem_zip hq).1).imp id fun q => ⟨q, PySem.W.cellsFrom_some _ _ _ (.inl q)⟩
  refine codeAny_call_function hr.depth (kin _ _ lk) rfl Sc.co Sc.gen rfl (PySem.W.codeRec_of kin hcd) (hb _ _ _ _ (wpAny_newFunctionEnv_cells Sc.kind kinds fun env he s1 inn => ?_))
  subst he
  refine ⟨nolim.keeps inn.toInCall.keep, (codeAny_func ?_)⟩
  obtain ⟨D0, e1, e2, e3⟩ := T.exc c hcn
  have hz' := hz
  rw [e1] at hz'
  obtain ⟨hh, vsf, hv, _⟩ := id hot
  have hrd := hr.deeper (envOfC x scope s.heap.objs.size f cdv)
  have hun := hrd.un
  have J : Inv (L2H.cxH (L2N.CX P wd) P wd w.K mg base N x scope f cdv A outer s H E pr) [] (L2.start N [.ref pr.1]) H s1 := L2H.inv_startH Sc hpin e0 rfl r inn
  have Fs0 : Fs (w.at pr.1 0 (xdO xw c fs0 dd)) xw p n ⟨den p n, p.G, p.Cl, some (c, fs0)⟩ ⟨nm, N, false, some 0⟩ ⟨scope, fun _ => true⟩ W0 (L2H.cxH (L2N.CX P wd) P wd w.K mg base N x scope f cdv A outer s H E pr) :=
    { hK := rfl, hW := hw, gd := (by have zz := T.ex; have zg := G; clear G; obtain ⟨wk1, wd1, wx1⟩ := w; simp only at zz; subst zz; exact zg), nd := Sc.nd, un := (by show (A.deeper _).units + 65 < _; omega), cG := rfl, cP := fun _ => rfl, cC := rfl,
      hx := fun _ => ⟨⟨pr.1, pr.2, 0, c, D0, fs0, dd, rfl, rfl, rfl, hcn, e1, List.mem_cons_self, hz', ⟨vsf, hv⟩, e2, hh, hfo, hfl, iff, e3⟩, hrd⟩, tk := takes0, hN := rfl, sc := rfl, fn := fun _ _ => rfl, sx := fun a j fs e => (by cases e; rfl), calm := fun z => (by cases z), own := fun z => (by cases z), stk := rfl, frm := rfl, knd := Sc.kind }
  have hev : den p (n + 1) (some (c, fs0)) i [] S = (match evSs ⟨den p n, p.G, p.Cl, some (c, fs0)⟩ g.body (List.replicate g.nl none) S with
    | .ok (.rt d) S' => fin S S' d
    | .ok (.nx _) S' => fin S S' .non
    | .ok (.ex c fs _) S' => .exc c fs (finX S S' fs)
    | _ => .bad) := by
    show (match p.fns[i]? with
      | some f => evFn ⟨den p n, p.G, p.Cl, some (c, fs0)⟩ f [] S
      | none => .bad) = _
    rw [hg]
    rfl
  rw [hev] at h
  have pre : tSts (w.at pr.1 0 (xdO xw c fs0 dd)) xw ⟨den p n, p.G, p.Cl, some (c, fs0)⟩ W0 g.body { nx := fun _ H' => Q .non H', rt := Q } (L2.start N [.ref pr.1]) H := by
    have hNl : 0 < N.length := by
      have := congrArg List.length Sc.pre
      simp only [List.length_take, List.length_cons, List.length_nil] at this
      omega
    refine ⟨φ, List.replicate g.nl none, S, ⟨so_ex so rfl, ?_, fun j d hd => ?_, fun a j fs e => ?_, fun a j d fs e => xdO_ok xr0 e⟩, ?_⟩
    · simp only [L2.start, List.length_append, List.length_map, List.length_replicate, List.length_cons, List.length_nil, hn]
      omega
    · rw [List.getElem?_replicate] at hd
      split at hd <;> cases hd
    · cases e
      rfl
    · cases e : evSs ⟨den p n, p.G, p.Cl, some (c, fs0)⟩ g.body (List.replicate g.nl none) S with
      | bad => rw [e] at h; exact h.elim
      | exc c fs S' => rw [e] at h; exact h.elim
      | ok fl S' =>
        rw [e] at h
        cases fl with
        | nx env => exact fun φ' H' σ' l m => fin_ok so l (so_ex m.o rfl) ⟨.non, rfl⟩ h
        | rt d => exact fun v φ' H' l so' rv => fin_ok so l (so_ex so' rfl) ⟨rp_ex rv.1, rv.2⟩ h
        | ex c fs env => exact fun φ' H' σ' cls dd l m xr => (finX_ok (Q := Q) so l (so_ex m.o rfl) xr h : W00 _ _ _ _).elim
        | bk env => exact h.elim
        | ct env => exact h.elim
  refine wpAny_mono ((cSts_ok g.body Fs0 hc).run [] s1 _ H _ J pre) (fun fl s' hs => ?_) fun _ _ z => z
  have out : ∀ {σ' : L2.St} {H' : Hp} {v : V} {u : Value}, Inv (L2H.cxH (L2N.CX P wd) P wd w.K mg base N x scope f cdv A outer s H E pr) [] σ' H' s' → RelV v u → Q v H' → CE outer P wd H s Q u s' := fun {σ' H' v u} J2 rv q => ⟨v, H', J2.os, J2.bare, J2.base, J2.hok, rv, q⟩
  cases fl with
  | next => obtain ⟨_, _, J2, q⟩ := hs; exact out (v := V.non) (u := Value.none) J2 rfl q
  | ret u => obtain ⟨_, _, _, J2, rv, q⟩ := hs; exact out J2 rv q
  | brk => obtain ⟨_, _, _, z⟩ := hs; exact z.elim
  | cont => obtain ⟨_, _, _, z⟩ := hs; exact z.elim
theorem gd_all {P : Program} {wd : World} {mg : Str → Option Value} {base : Heap} {hP : Program → Prop} (hw : w.ex.1 = wd) (hp : hP P) (T : Tx w xw mg p nm hP) : ∀ n, Gd w xw P wd mg base p nm n
  | 0 => ⟨fun i x h => by
      obtain ⟨f, fd, ps, N, params, body, scope, g, h1, h2, h3, _⟩ := T.fn i x h
      exact ⟨f, fd, ps, h1, h2.kp, ⟨fun vs H Q E ⟨_, _, _, _, _, z⟩ => z.elim, fun A outer s H args us vs Q E _ _ _ _ ⟨_, _, _, _, _, z⟩ => z.elim⟩, h3⟩, T.gl, T.free, T.cls, fun i x h => by
      obtain ⟨f, fd, y, N, params, body, scope, g, h1, h2, h3, _⟩ := T.hot i x h
      exact ⟨f, fd, y, h1, h2.kp, ⟨fun A outer s H args us vs Q E pr cls dd _ _ _ _ _ _ _ ⟨_, _, _, _, _, _, _, z⟩ => z.elim⟩, h3⟩, T.tst, T.exc, T.fls, T.ini P wd base hp⟩
  | n + 1 => ⟨fun i x h => by
      obtain ⟨f, fd, ps, N, params, body, scope, g, h1, h2, h3, h4, h5, h6, h7, h8⟩ := T.fn i x h
      exact ⟨f, fd, ps, h1, h2.kp, fn_keeps hw T (gd_all hw hp T n) h2 h4 h5 h6 h7 h8, h3⟩, T.gl, T.free, T.cls, fun i x h => by
      obtain ⟨f, fd, y, N, params, body, scope, g, h1, h2, h3, h4, h5, h6, h7⟩ := T.hot i x h
      exact ⟨f, fd, y, h1, h2.kp, fnH_keeps hw T (gd_all hw hp T n) h2 h4 h5 h6 h7, h3⟩, T.tst, T.exc, T.fls, T.ini P wd base hp⟩
end Pw
end
section
set_option Elab.async false
set_option linter.all false
set_option maxRecDepth 100000
set_option maxHeartbeats 4000000
set_option autoImplicit false
/-! Pw24: the head's facts, the end -/
namespace Pw
open PySem PySem.Spec PyProof.Rows L2
/-- one def of the text -/
structure Dd where
  x : Str
  ps : List Str
  N : List Str
  params : Arguments
  body : List Stmt
  scope : Scope
  g : Fn
def Dd.d (a : Dd) : He.DefD := ⟨(a.x, none), a.x, a.x, a.params, a.body, a.scope, [], []⟩
def scopC (ps N : List Str) (sc : Scope) : Bool := (match sc.kind with | .function => true | _ => false) && !sc.isCoroutine && !sc.isGenerator && decide N.Nodup && decide (N.take ps.length = ps) &&
  (ps.all fun x => (match kindAt sc.names x with | some .local => true | some .cell => true | _ => false)) && sc.names.all fun y => (match y.2 with | .free => false | _ => true)
theorem scopC_ok {ps N : List Str} {sc : Scope} (h : scopC ps N sc = true) : FnScope N ps sc := by
  unfold scopC at h
  simp only [Bool.and_eq_true, Bool.not_eq_true', decide_eq_true_eq, List.all_eq_true] at h
  obtain ⟨⟨⟨⟨⟨⟨h1, h2⟩, h3⟩, h4⟩, h5⟩, h6⟩, h7⟩ := h
  refine ⟨?_, h2, h3, h4, h5, fun x hx => ?_, fun y hy e => ?_⟩
  · split at h1
    · assumption
    · cases h1
  · have k := h6 x hx
    rw [kindAt_ok] at k
    split at k
    · exact .inl (by assumption)
    · exact .inr (by assumption)
    · cases k
  · have k := h7 y hy
    rw [e] at k
    cases k
def Dd.ok (nm : Nm) (hot : Bool) (a : Dd) : Bool := scopC a.ps a.N a.scope && decide (a.g.nl = a.N.length) && (if hot then decide (a.ps.length = 1) else decide (a.g.np = a.ps.length)) &&
  cSts ⟨nm, a.N, !hot, if hot then some 0 else none⟩ ⟨a.scope, fun _ => true⟩ a.g.body a.body
def BindP (a : Dd) : Prop := ∀ (kV doc pm : Value) (an : Option Addr) (cdv ct : Value) (us : List Value), us.length = a.ps.length → bindArgs (PySem.W.fnOf a.x a.x a.params a.body a.scope .none kV doc pm an cdv ct) ⟨us, []⟩ = pure (a.ps.zip us)
/-- an own __init__: the class it stands in, its qualified name, its parameters, the fields that it fills -/
structure In1 where
  x : Str
  q : Str
  p0 : Str
  ps : List Str
  fl : List Str
  params : Arguments
  body : List Stmt
  scope : Scope
def BindI (a : In1) : Prop := ∀ (cl : List (Str × Addr)) (kV doc pm : Value) (an : Option Addr) (cdv ct : Value) (us : List Value), us.length = (a.p0 :: a.ps).length → bindArgs (PySem.W.fnX "__init__" a.q a.params a.body a.scope cl .none kV doc pm an cdv ct) ⟨us, []⟩ = pure ((a.p0 :: a.ps).zip us)
def In1.ok (a : In1) : Bool := NdefX.nscB (a.p0 :: a.ps ++ [("__class__" : Str)]) (a.p0 :: a.ps) [("__class__" : Str)] a.scope && (match kindAt a.scope.names "super" with | some .globalImplicit => true | _ => false) && cIni a.p0 a.ps a.fl a.body &&
  (match (a.params.posonlyargs ++ a.params.args).head? with | some ar => eqS ar.arg a.p0 | none => false)
/-- the def that stands first in a class -/
def iniOf (s : Stmt) : Stmt := match s with
  | .ClassDef _ _ _ body _ _ _ _ _ _ _ => (body.find? fun t => match t with | .FunctionDef .. => true | _ => false).getD s
  | s => s
/-- the text: its defs, the first m in ordinary calls, the others with the exception at hand; constants; classes; classes that isinstance is asked of -/
structure Txt where
  ds : List Dd
  m : Nat
  gs : List Str
  G : List D
  cls : List Str
  tst : List Str
  Cl : Classes
  ini : List In1
  fls : List (List Str)
  iof : List Nat
  file : Str
def Txt.prg (t : Txt) : Prg := ⟨t.ds.map (·.g), t.G, t.Cl⟩
def Txt.nm (t : Txt) : Nm := ⟨(t.ds.take t.m).map (·.x), t.gs, t.cls, (t.ds.zipIdx.drop t.m).map fun q => (q.2, q.1.x), t.tst, t.fls⟩
/-- the look at the text -/
def Txt.look (t : Txt) : Bool := ((t.ds.take t.m).all fun a => a.ok t.nm false) && ((t.ds.drop t.m).all fun a => a.ok t.nm true) && t.ini.all In1.ok && decide (t.fls.length = t.cls.length) && decide (t.iof.length = t.cls.length)
/-- flat items as they stand -/
def flatIs : List Value → List D → Bool
  | [], [] => true
  | .int i _ :: r, .int j :: t => decide (i = j) && flatIs r t
  | .str y _ :: r, .str l :: t => decide (y.cps.toList = l) && flatIs r t
  | _, _ => false
theorem flatIs_ok {K : PySem.W.Frag} : ∀ {us : List Value} {ds : List D}, flatIs us ds = true → ∃ vs : List V, Vals vs us ∧ ∀ φ ex H, RpA K φ ex H vs ds
  | [], [], _ => ⟨[], .nil, fun _ _ _ => .nil⟩
  | .int i t :: r, .int j :: ds, h => by
    simp only [flatIs, Bool.and_eq_true, decide_eq_true_eq] at h
    obtain ⟨vs, h1, h2⟩ := flatIs_ok (K := K) h.2
    obtain ⟨rfl, _⟩ := h
    exact ⟨.int i :: vs, .cons ⟨t, rfl⟩ h1, fun φ ex H => .cons (.int i) (h2 φ ex H)⟩
  | .str y t :: r, .str l :: ds, h => by
    simp only [flatIs, Bool.and_eq_true, decide_eq_true_eq] at h
    obtain ⟨vs, h1, h2⟩ := flatIs_ok (K := K) h.2
    obtain ⟨rfl, _⟩ := h
    exact ⟨.str y :: vs, .cons ⟨t, rfl⟩ h1, fun φ ex H => .cons (.str y) (h2 φ ex H)⟩
def constK (K : PySem.W.Frag) (x : Str) (d : D) : Bool := match d with
  | .int i => (He.Fa.int x i).ok K
  | .str l => (match PySem.W.nsIn K mainGlobals x with
    | some (some (.str y _)) => decide (y.cps.toList = l)
    | _ => false)
  | .tup ds => (He.Fa.glo x).ok K && (match K.lookup (He.ga K x) with
    | some ⟨.type c, _, .seq its _, _⟩ => decide (c = "tuple") && decide (its.size ≤ sizeLine) && flatIs its.toList ds
    | _ => false)
  | _ => false
def excK (K : PySem.W.Frag) (a : Addr) : Bool := decide (PySem.W.findIn K (.ref a) "__getattribute__" = some (some (.builtin "BaseException.__getattribute__"))) && decide (PySem.W.findIn K (.ref a) "__getattr__" = some none) && decide (PySem.W.subIn K (.ref a) (.type "BaseException") = some true) &&
  PySem.W.hasDictIn K a && decide (PySem.W.findIn K (.ref a) "__class__" = some (some (.builtin "object.__class__"))) && decide (PySem.W.specialIn K (.builtin "object.__class__") "__get__" = some (some (.builtin "getset_descriptor.__get__"))) &&
  decide (PySem.W.takesIn K (.builtin "object.__class__") = some true) && decide (PySem.W.mroIn K a (.type "object") = some true)
theorem excK_ok {K : PySem.W.Frag} {a : Addr} (h : excK K a = true) : ExcC K a := by
  unfold excK at h
  simp only [Bool.and_eq_true, decide_eq_true_eq] at h
  obtain ⟨⟨⟨⟨⟨⟨⟨h1, h2⟩, h3⟩, h4⟩, h5⟩, h6⟩, h7⟩, h8⟩ := h
  exact ⟨h1, h2, h3, h4, h5, h6, h7, h8⟩
/-- a class over own ones and ValueError, its own __init__ walked -/
def oexB (K : PySem.W.Frag) (C : Addr) : Bool := (match K.lookup C with
  | some ⟨.type T, _, .cls cd, sl⟩ => decide (T = "type") && (match cd.mro, sl.toList with
    | .ref C' :: bm, [_, _, _, _, some (.builtin n), _] => decide (C' = C) && decide (n = "ValueError.__new__") && !cd.hasDel && cd.hasDict && PySem.HandSPX.refsVE bm
    | _, _ => false)
  | _ => false) && decide (PySem.W.findIn K (.ref C) "__setattr__" = some (some (.builtin "object.__setattr__"))) && decide (PySem.W.subIn K (.ref C) (.type "BaseException") = some true) && decide (PySem.W.typeIn K (.ref C) = some (.type "type")) && PySem.W.keepIn K (.ref C)
theorem oexB_ok {K : PySem.W.Frag} {C : Addr} (h : oexB K C = true) : OexC K C := by
  unfold oexB at h
  simp only [Bool.and_eq_true, decide_eq_true_eq] at h
  obtain ⟨⟨⟨⟨h1, h2⟩, h3⟩, h4⟩, h5⟩ := h
  refine ⟨?_, h2, h3, h4, h5⟩
  split at h1
  · rename_i T dd cd sl lk
    simp only [Bool.and_eq_true, decide_eq_true_eq] at h1
    obtain ⟨hT, h1⟩ := h1
    split at h1
    · rename_i C' bm k0 k1 k2 k3 n k5 hm hs
      simp only [Bool.and_eq_true, decide_eq_true_eq, Bool.not_eq_true'] at h1
      obtain ⟨⟨⟨⟨rfl, rfl⟩, hdl⟩, hdc⟩, hv⟩ := h1
      obtain ⟨nm, bs, mro, ns, qn, hd, sn, sub, ab, col, dl⟩ := cd
      dsimp only at hm hdl hdc
      subst hm hdl hdc hT
      have e : sl = #[k0, k1, k2, k3, some (.builtin "ValueError.__new__"), k5] := by
        obtain ⟨l⟩ := sl
        have hs : l = [k0, k1, k2, k3, some (.builtin "ValueError.__new__"), k5] := hs
        rw [hs]
      subst e
      exact ⟨nm, qn, ns, bs, bm, sn, sub, ab, col, dd, k0, k1, k2, k3, k5, lk, hv⟩
    · cases h1
  · cases h1
abbrev InW : Type := Option (Str × Str × Arguments × FuncBody × Scope × Addr × List Str × Addr)
def In1.fa (a : In1) (K : PySem.W.Frag) : Addr := He.ma K (He.ga K a.x) "__init__"
def In1.w (a : In1) (K : PySem.W.Frag) : InW := match K.lookup (a.fa K) with
  | some ⟨_, _, .func fd, _⟩ => some (fd.name, fd.qualname, fd.params, fd.body, fd.scope, fd.globals, fd.closure.map (·.1), fd.builtins)
  | _ => none
def In1.val (a : In1) : InW := some ("__init__", a.q, a.params, .stmts a.body, a.scope, mainGlobals, [("__class__" : Str)], builtinsNs)
def fileB (file : Str) : Option Value → Bool
  | some (.str fi _) => (file == fi)
  | _ => false
def In1.says (a : In1) (file : Str) (K : PySem.W.Frag) : Bool := (match K.lookup (a.fa K) with
  | some ⟨_, _, .func fd, _⟩ => PySem.W.codeIn K fd.code a.q && (match fd.defaults with | .none => true | _ => false) &&
    (match fd.code with
    | .ref cda => (match K.lookup cda with
      | some ⟨_, _, .fields vs, _⟩ => fileB file vs[2]?
      | _ => false)
    | _ => false) &&
    (match fd.closure with
    | [(_, cc)] => (match K.lookup cc with
      | some ⟨_, _, .cell (some (.ref D)), _⟩ => decide (D = He.ga K a.x)
      | _ => false)
    | _ => false)
  | _ => false) && (PySem.W.clsIn K (He.ga K a.x)).isSome && decide (PySem.W.nsIn K mainGlobals "super" = some none) && decide (PySem.W.nsIn K cStatics "thirdparty.any" = some none)
/-- what is asked of the program itself -/
def OkP (file : Str) (P : Program) : Prop := P.main.file = file ∧ (P.main.scope.names.lookup ("super" : Str)).isSome = false
theorem In1.iniF {a : In1} {K : PySem.W.Frag} {file : Str} {P : Program} (hP : OkP file P) (ok : a.ok = true) (e : a.w K = a.val) (c : a.says file K = true) (hb : BindI a) : ∃ (cc cda : Addr) (fd : FuncData), IniF P K (a.fa K) (He.ga K a.x) cc cda fd a.q a.params a.body a.scope a.p0 a.ps a.fl ∧ Binds K fd (a.p0 :: a.ps) [] := by
  unfold In1.ok at ok
  simp only [Bool.and_eq_true] at ok
  obtain ⟨⟨⟨o1, o2⟩, o3⟩, o4⟩ := ok
  unfold In1.says at c
  simp only [Bool.and_eq_true, decide_eq_true_eq] at c
  obtain ⟨⟨⟨c1, c2⟩, c3⟩, c4⟩ := c
  unfold In1.w at e
  cases lk : K.lookup (a.fa K) with
  | none => rw [lk] at e; cases e
  | some o =>
    obtain ⟨oc, od, dt, osl⟩ := o
    rw [lk] at c1 e
    cases dt with
    | func fd =>
      obtain ⟨n1, n2, n3, n4, n5, n6, n7, n8, n9, n10, n11, n12, n13, n14, n15⟩ := fd
      have e2 : (some (n1, n2, n3, n4, n5, n6, n7.map (·.1), n15) : InW) = some (("__init__" : Str), a.q, a.params, .stmts a.body, a.scope, mainGlobals, [("__class__" : Str)], builtinsNs) := e
      simp only [Option.some.injEq, Prod.mk.injEq] at e2
      obtain ⟨h1, h2, h3, h4, h5, h6, h7, h8⟩ := e2
      subst h1 h2 h3 h4 h5 h6 h8
      dsimp only at c1
      simp only [Bool.and_eq_true] at c1
      obtain ⟨⟨⟨d1, d2⟩, d3⟩, d4⟩ := c1
      split at d4
      · rename_i _ x1 cc
        have hx1 : x1 = "__class__" := by
          have h7 : [x1] = [("__class__" : Str)] := h7
          exact List.head_eq_of_cons_eq h7
        subst hx1
        split at d4
        · rename_i cl cd D sl lcc
          have hD := of_decide_eq_true d4
          subst hD
          split at d3
          · rename_i _ cda
            split at d3
            · rename_i fcl fcd vs fsl lcda
              unfold fileB at d3
              split at d3
              · rename_i fi tf hvs
                split at d2
                · refine ⟨cc, cda, _, ⟨⟨oc, od, _, n9, n10, n11, n12, n14, osl, rfl, lk⟩, d1, ⟨fcl, fcd, vs, fsl, fi, tf, lcda, hvs, by rw [hP.1]; exact d3⟩, ⟨cl, cd, sl, lcc⟩, Option.isSome_iff_exists.mp c2, c3, c4, hP.2, ?_, NdefX.nscope_by o1, ?_, o3⟩, Binds.all fun us hl => hb _ n9 n10 n11 n12 _ n14 us hl⟩
                  · split at o4
                    · rename_i ar har
                      exact ⟨ar, har, eqS_ok o4⟩
                    · cases o4
                  · rw [kindAt_ok] at o2
                    split at o2
                    · assumption
                    · cases o2
                · cases d2
              · cases d3
            · cases d3
          · cases d3
        · cases d4
      · cases d4
    | _ => cases c1
/-- a class: x its name, l its fields, i which __init__ fills them -/
def Txt.cls1 (t : Txt) (K : PySem.W.Frag) (x : Str) (l : List Str) (i : Nat) : Bool := (He.Fa.glo x).ok K && excK K (He.ga K x) && PySem.W.keepIn K (.ref (He.ga K x)) && decide (PySem.W.subIn K (.ref (He.ga K x)) (.type "BaseException") = some true) && decide (PySem.W.typeIn K (.ref (He.ga K x)) = some (.type "type")) &&
  (l.all fun g => decide (PySem.W.findIn K (.ref (He.ga K x)) g = some none)) && (if l.isEmpty then PySem.W.excIn K (He.ga K x) veB "ValueError.__new__" else match t.ini[i]? with
    | some a => decide (a.fl = l) && oexB K (He.ga K x) && decide (PySem.W.findIn K (.ref (He.ga K x)) "__init__" = some (some (.ref (a.fa K)))) && decide (PySem.W.typeIn K (.ref (a.fa K)) = some (.type "function")) && decide (PySem.W.mroIn K (He.ga K x) (.ref (He.ga K a.x)) = some true) &&
      decide (PySem.W.ks_superIn K (He.ga K x) (He.ga K a.x) "__init__" = some (some (.builtin "ValueError.__init__"))) && decide (PySem.W.subIn K (.ref (He.ga K x)) (.type "ValueError") = some true)
    | none => false)
def isVE (x : Str) : Bool := eqS x "ValueError"
def cvK (K : PySem.W.Frag) (x : Str) : Value := if isVE x then .type "ValueError" else .ref (He.ga K x)
/-- what is asked of the heap's part -/
def Txt.says (t : Txt) (K : PySem.W.Frag) : Bool :=
  (t.ds.all fun a => (He.Fa.glo a.x).ok K) && (freeNames.all fun x => (He.Fa.free x).ok K) && ((t.gs.zip t.G).all fun q => constK K q.1 q.2 && D.bel 0 q.2) && decide (t.gs.length = t.G.length) &&
  ((t.cls.zip (t.fls.zip t.iof)).all fun q => t.cls1 K q.1 q.2.1 q.2.2) && (t.ini.all fun a => a.says t.file K) && (t.tst.all fun x => isVE x || (He.Fa.glo x).ok K) &&
  (t.tst.zipIdx.all fun y => t.cls.zipIdx.all fun x => (match t.Cl[x.2]? with
    | some bs => decide (PySem.W.kitOne K (.ref (He.ga K x.1)) (cvK K y.1) = some (bs.contains y.2)) && decide (PySem.W.exmOne K (.ref (He.ga K x.1)) (cvK K y.1) = some (bs.contains y.2))
    | none => false)) && (K.all fun q => !decide (q.2.cls = .type "list"))
abbrev AlP : Type := He.AlD × List InW × Bool
def Txt.obsK (t : Txt) (K : PySem.W.Frag) : AlP := (He.obsD [] (t.ds.map Dd.d) K, t.ini.map fun a => a.w K, t.says K)
def Txt.obs (t : Txt) (g : Addr → Option Obj) : AlP := t.obsK (He.frG g (He.asD g 4 ++ [cStatics]))
def Txt.hook (t : Txt) : PySem.W.Hook where
  α := AlP
  obs := fun s => t.obs s.heap.get?
  val := fun _ => (He.valD (t.ds.map Dd.d), t.ini.map In1.val, true)
  says := fun _ h => ∃ K : PySem.W.Frag, K.In h ∧ He.SaysD [] (t.ds.map Dd.d) K ∧ (t.ini.map fun a => a.w K) = t.ini.map In1.val ∧ t.says K = true
  of := fun _ _ e => ⟨_, He.frG_in, congrArg Prod.fst e, congrArg (fun z => z.2.1) e, congrArg (fun z => z.2.2) e⟩
  keeps := fun _ _ _ ⟨K, hK, c⟩ k => ⟨K, PySem.W.Frag.In.keeps hK k, c⟩
def Txt.ob (t : Txt) (s : PySem.W.SharedT) : AlP := t.obs (HandSHeadRun.getT s)
theorem Txt.ob_eq (t : Txt) (s : PySem.W.SharedT) : t.ob s = t.hook.obs s.abs := by
  have e : HandSHeadRun.getT s = s.abs.heap.get? := funext (HandSHeadRun.getT_eq s)
  unfold Txt.ob
  rw [e]
  rfl
def Txt.xw (t : Txt) (K : PySem.W.Frag) : Xw := ⟨t.cls.length, fun c => .ref (He.ga K ((t.cls[c]?).getD "")), fun c => (t.fls[c]?).getD []⟩
theorem const_okK {K : PySem.W.Frag} {h : Heap} {mg : Str → Option Value} {x : Str} {d : D} (X : K.In h) (G : h.Ns mainGlobals mg) (c : constK K x d = true) : ∃ (u : Value) (v : V), mg x = some u ∧ RelV v u ∧ ∀ φ ex H, Rp K φ ex H v d := by
  cases d with
  | int i =>
    obtain ⟨t, e⟩ := He.int_ok X G c
    exact ⟨_, .int i, e, ⟨t, rfl⟩, fun _ _ _ => .int i⟩
  | str l =>
    unfold constK at c
    dsimp only at c
    split at c
    · rename_i y t e
      have := of_decide_eq_true c
      subst this
      exact ⟨_, .str y, PySem.W.mg_of X G e, ⟨t, rfl⟩, fun _ _ _ => .str y⟩
    · cases c
  | tup ds =>
    unfold constK at c
    dsimp only at c
    rw [Bool.and_eq_true] at c
    obtain ⟨c1, c2⟩ := c
    split at c2
    · rename_i cn od its n sl e
      simp only [Bool.and_eq_true, decide_eq_true_eq] at c2
      obtain ⟨⟨e1, e2⟩, e3⟩ := c2
      obtain ⟨vs, r1, r2⟩ := flatIs_ok (K := K) e3
      exact ⟨_, .ref (He.ga K x), He.glo_ok X G c1, rfl, fun φ ex H => .tup (.inr ⟨_, its, n, e, congrArg Value.type e1, rfl, e2, r1⟩) (r2 φ ex H)⟩
    · cases c2
  | _ => cases c
theorem bt_VE : bootBuiltins "ValueError" = some (.type "ValueError") := by decide +kernel
theorem Txt.tx (wd : World) {t : Txt} {K : PySem.W.Frag} {h : Heap} {mg : Str → Option Value} (X : K.In h) (G : h.Ns mainGlobals mg) (c : He.SaysD [] (t.ds.map Dd.d) K) (s : t.says K = true) (hl : t.look = true) (hb : ∀ (i : Nat) (a : Dd), t.ds[i]? = some a → BindP a) (hw : (t.ini.map fun a => a.w K) = t.ini.map In1.val) (hbi : ∀ a ∈ t.ini, BindI a) :
    Tx ⟨K, (wd, none)⟩ (t.xw K) mg t.prg t.nm (OkP t.file) := by
  unfold Txt.says at s
  simp only [Bool.and_eq_true, decide_eq_true_eq] at s
  obtain ⟨⟨⟨⟨⟨⟨⟨⟨s1, s2⟩, s3⟩, s4⟩, s5⟩, s5i⟩, s6⟩, s7⟩, s8⟩ := s
  unfold Txt.look at hl
  simp only [Bool.and_eq_true, decide_eq_true_eq] at hl
  obtain ⟨⟨⟨hl, hli⟩, hlf⟩, hlo⟩ := hl
  have clsf : ∀ (k : Nat) (x : Str), t.cls[k]? = some x → ∃ l i, t.fls[k]? = some l ∧ t.iof[k]? = some i ∧ t.cls1 K x l i = true := fun k x h => by
    have hk : k < t.cls.length := (List.getElem?_eq_some_iff.mp h).1
    refine ⟨t.fls[k]'(by omega), t.iof[k]'(by omega), List.getElem?_eq_getElem _, List.getElem?_eq_getElem _, ?_⟩
    have hz : (t.cls.zip (t.fls.zip t.iof))[k]? = some (x, t.fls[k]'(by omega), t.iof[k]'(by omega)) := by
      rw [List.getElem?_zip_eq_some]
      refine ⟨h, ?_⟩
      rw [List.getElem?_zip_eq_some]
      exact ⟨List.getElem?_eq_getElem _, List.getElem?_eq_getElem _⟩
    exact List.all_eq_true.mp s5 _ (List.mem_of_getElem? hz)
  have defs : ∀ (i : Nat) (a : Dd), t.ds[i]? = some a → ∃ fd, mg a.x = some (.ref (He.ga K a.x)) ∧ FunD K a.x a.x a.params a.body a.scope [] [] (He.ga K a.x) fd ∧ Binds K fd a.ps [] := fun i a ha => by
    obtain ⟨fd, F⟩ := c.def_ i (d := a.d) (by rw [List.getElem?_map, ha]; rfl)
    have F : FunD K a.x a.x a.params a.body a.scope [] [] (He.ga K a.x) fd := F
    refine ⟨fd, He.glo_ok X G (List.all_eq_true.mp s1 a (List.mem_of_getElem? ha)), F, F.bindsN (hb i a ha)⟩
  refine ⟨rfl, fun i x h => ?_, fun i x h => ?_, fun x hx => ?_, fun k x h => ?_, fun c hc => ?_, fun i x h => ?_, fun k x h => ?_, fun c hc => ?_, fun P wd base hP k x h hne => ?_⟩
  · have h : ((t.ds.take t.m).map (·.x))[i]? = some x := h
    rw [List.getElem?_map, Option.map_eq_some_iff] at h
    obtain ⟨a, ha, rfl⟩ := h
    have ha2 : t.ds[i]? = some a := by
      rw [List.getElem?_take] at ha
      split at ha
      · exact ha
      · cases ha
    have k := List.all_eq_true.mp hl.1 a (List.mem_of_getElem? ha)
    unfold Dd.ok at k
    simp only [Bool.and_eq_true, decide_eq_true_eq, Bool.false_eq_true, if_false, Bool.not_false] at k
    obtain ⟨fd, h1, h2, h3⟩ := defs i a ha2
    exact ⟨_, fd, a.ps, a.N, a.params, a.body, a.scope, a.g, h1, h2, h3, scopC_ok k.1.1.1, by show (t.ds.map (·.g))[i]? = _; rw [List.getElem?_map, ha2]; rfl, k.1.2, k.1.1.2, k.2⟩
  · have h : t.gs[i]? = some x := h
    have hi : i < t.gs.length := (List.getElem?_eq_some_iff.mp h).1
    have hd : t.G[i]? = some (t.G[i]'(by omega)) := List.getElem?_eq_getElem (by omega)
    have hz : (t.gs.zip t.G)[i]? = some (x, t.G[i]'(by omega)) := by rw [List.getElem?_zip_eq_some]; exact ⟨h, hd⟩
    have k := List.all_eq_true.mp s3 _ (List.mem_of_getElem? hz)
    simp only [Bool.and_eq_true] at k
    obtain ⟨u, v, e1, e2, e3⟩ := const_okK X G k.1
    exact ⟨_, u, v, hd, e1, e2, e3, k.2⟩
  · exact He.free_ok X G (List.all_eq_true.mp s2 x hx)
  · have h : t.cls[k]? = some x := h
    obtain ⟨l, i, hfl, hio, k5⟩ := clsf k x h
    unfold Txt.cls1 at k5
    simp only [Bool.and_eq_true, decide_eq_true_eq] at k5
    obtain ⟨⟨⟨⟨⟨⟨g1, g2⟩, g3⟩, g4⟩, g5⟩, g6⟩, g7⟩ := k5
    refine ⟨(List.getElem?_eq_some_iff.mp h).1, He.ga K x, He.glo_ok X G g1, ?_, g3, fun hfe => ?_, g4, g5⟩
    · show Value.ref (He.ga K ((t.cls[k]?).getD "")) = _
      rw [h]; rfl
    · have hfe : (t.fls[k]?).getD [] = [] := hfe
      rw [hfl] at hfe
      have : l = [] := hfe
      subst this
      exact g7
  · have hc : c < t.cls.length := hc
    show t.fls[c]? = some ((t.fls[c]?).getD [])
    rw [List.getElem?_eq_getElem (show c < t.fls.length by omega)]
    rfl
  · have h : (i, x) ∈ (t.ds.zipIdx.drop t.m).map fun q => (q.2, q.1.x) := h
    obtain ⟨⟨a, j⟩, hm, e⟩ := List.mem_map.mp h
    cases e
    have hm2 := List.mem_of_mem_drop hm
    rw [List.mem_zipIdx_iff_getElem?] at hm2
    have ha : t.ds[j]? = some a := hm2
    have hd : a ∈ t.ds.drop t.m := by
      have : a ∈ (t.ds.zipIdx.drop t.m).map (·.1) := List.mem_map.mpr ⟨(a, j), hm, rfl⟩
      rwa [List.map_drop, List.zipIdx_map_fst] at this
    have k := List.all_eq_true.mp hl.2 a hd
    unfold Dd.ok at k
    simp only [Bool.and_eq_true, decide_eq_true_eq, if_true, Bool.not_true] at k
    obtain ⟨y, hy⟩ : ∃ y, a.ps = [y] := List.length_eq_one_iff.mp k.1.2
    obtain ⟨fd, h1, h2, h3⟩ := defs j a ha
    have sc := scopC_ok k.1.1.1
    rw [hy] at h3 sc
    exact ⟨_, fd, y, a.N, a.params, a.body, a.scope, a.g, h1, h2, h3, sc, by show (t.ds.map (·.g))[j]? = _; rw [List.getElem?_map, ha]; rfl, k.1.1.2, k.2⟩
  · have h : t.tst[k]? = some x := h
    refine ⟨cvK K x, ?_, fun c hc => ?_⟩
    · have k6 := List.all_eq_true.mp s6 x (List.mem_of_getElem? h)
      unfold cvK
      cases hv : isVE x with
      | true =>
        have := eqS_ok hv
        subst this
        exact .inr ⟨"ValueError", rfl, He.free_ok X G (List.all_eq_true.mp s2 _ (by decide)), bt_VE⟩
      | false =>
        rw [hv] at k6
        exact .inl ⟨_, rfl, He.glo_ok X G k6⟩
    · have hc : c < t.cls.length := hc
      have k7 := List.all_eq_true.mp s7 (x, k) (by rw [List.mem_zipIdx_iff_getElem?]; exact h)
      have hcx : t.cls[c]? = some (t.cls[c]'hc) := List.getElem?_eq_getElem hc
      have k8 := List.all_eq_true.mp k7 (t.cls[c]'hc, c) (by rw [List.mem_zipIdx_iff_getElem?]; exact hcx)
      dsimp only at k8
      split at k8
      · rename_i bs hb
        simp only [Bool.and_eq_true, decide_eq_true_eq] at k8
        refine ⟨bs, hb, ?_, ?_⟩
        · show PySem.W.kitOne K (.ref (He.ga K ((t.cls[c]?).getD ""))) _ = _
          rw [hcx]; exact k8.1
        · show PySem.W.exmOne K (.ref (He.ga K ((t.cls[c]?).getD ""))) _ = _
          rw [hcx]; exact k8.2
      · cases k8
  · have hc : c < t.cls.length := hc
    have hcx : t.cls[c]? = some (t.cls[c]'hc) := List.getElem?_eq_getElem hc
    obtain ⟨l, i, hfl, hio, k5⟩ := clsf c _ hcx
    unfold Txt.cls1 at k5
    simp only [Bool.and_eq_true, decide_eq_true_eq] at k5
    obtain ⟨⟨⟨⟨⟨⟨g1, g2⟩, g3⟩, g4⟩, g5⟩, g6⟩, g7⟩ := k5
    refine ⟨_, ?_, excK_ok g2, fun g hg => ?_⟩
    · show Value.ref (He.ga K ((t.cls[c]?).getD "")) = _
      rw [hcx]; rfl
    · have hg : g ∈ (t.fls[c]?).getD [] := hg
      rw [hfl] at hg
      exact of_decide_eq_true (List.all_eq_true.mp g6 g hg)
  · have h : t.cls[k]? = some x := h
    have hne : (t.fls[k]?).getD [] ≠ [] := hne
    obtain ⟨l, i, hfl, hio, k5⟩ := clsf k x h
    have ef : (t.xw K).fl k = l := by show (t.fls[k]?).getD [] = l; rw [hfl]; rfl
    rw [ef]
    rw [hfl] at hne
    have hne : l ≠ [] := hne
    unfold Txt.cls1 at k5
    simp only [Bool.and_eq_true, decide_eq_true_eq] at k5
    obtain ⟨⟨⟨⟨⟨⟨g1, g2⟩, g3⟩, g4⟩, g5⟩, g6⟩, g7⟩ := k5
    have hle : l.isEmpty = false := by cases l with | nil => exact absurd rfl hne | cons _ _ => rfl
    rw [hle, if_neg (by simp)] at g7
    split at g7
    · rename_i a hia
      simp only [Bool.and_eq_true, decide_eq_true_eq] at g7
      obtain ⟨⟨⟨⟨⟨⟨c1, c2⟩, c3⟩, c4⟩, c5⟩, c6⟩, c7⟩ := g7
      have hm := List.mem_of_getElem? hia
      have wa : a.w K = a.val := by
        have e2 : (t.ini.map fun a => a.w K)[i]? = (t.ini.map In1.val)[i]? := by rw [hw]
        rw [List.getElem?_map, List.getElem?_map, hia] at e2
        exact Option.some.inj e2
      have oka := List.all_eq_true.mp hli a hm
      obtain ⟨cc, cda, fd, F, B⟩ := In1.iniF (P := P) hP oka wa (List.all_eq_true.mp s5i a hm) (hbi a hm)
      have hms : mg ("super" : Str) = none := PySem.W.mg_none_of X G F.sup
      have lps : a.ps.length = a.fl.length := by
        obtain ⟨_, _, _, _, _, _, _, _, _, _, _, _, _, hcs, _⟩ := cIni_ok F.look
        exact (cStores_len hcs).symm
      subst c1
      refine ⟨He.ga K x, He.ga K a.x, a.fa K, fd, a.p0, a.ps, He.glo_ok X G g1, ?_, ⟨oexB_ok c2, c3, c4, c5, c6, c7, fun g hg => of_decide_eq_true (List.all_eq_true.mp g6 g hg)⟩, lps, ini_ok (k := 0) F hms, B⟩
      show Value.ref (He.ga K ((t.cls[k]?).getD "")) = _
      rw [h]; rfl
    · cases g7
theorem lk_mem {β : Type} : ∀ {l : List (Addr × β)} {a : Addr} {b : β}, l.lookup a = some b → (a, b) ∈ l
  | [], _, _, h => by cases h
  | (c, d) :: r, a, b, h => by
    rw [List.lookup_cons] at h
    split at h
    · rename_i e
      cases h
      rw [beq_iff_eq.mp e]
      exact List.mem_cons_self
    · exact List.mem_cons_of_mem _ (lk_mem h)
theorem rp_ints {K : PySem.W.Frag} {φ : Nat → Addr} {ex : Ex1} {H : Hp} : ∀ ns : List Int, RpA K φ ex H (ns.map V.int) (ns.map D.int)
  | [] => .nil
  | n :: ns => .cons (.int n) (rp_ints ns)
/-- the law's promise, by what the evaluator says -/
theorem Txt.walk (t : Txt) {l : PySem.W.OpenLaw} {n k j : Nat} {q : Program} {loose : List Str} {XP : (Str → Option Value) → Heap → Prop} {d : DefRec} {a0 : Dd} {x : Str}
    (hn : l.most = some n) (hn2 : n ≤ sizeLine) (hdf : d.params.defaults = []) (hr : Room (k + 3) callerA) (hP : OkP t.file l.prog) (hl : t.look = true) (hbi : ∀ a ∈ t.ini, BindI a) (hb : ∀ (i : Nat) (a : Dd), t.ds[i]? = some a → BindP a)
    (hj : t.ds[j]? = some a0) (hm : j < t.m) (hx : a0.ps = [x]) (hd : d.name = a0.x)
    (pure_ : ∀ ns : List Int, ns.length ≤ n → (∀ z ∈ ns, Builtin.Int.intBits z ≤ 1048576) → ∃ S', den t.prg (k + 1) none j [.obj 0] [.ro (ns.map .int)] = .ok (.bl true) S') :
    PySem.W.WalkO q loose XP (fun w h => t.hook.says w h) l.row.toRowW d [] (fun f vs => PySem.call f vs) := by
  refine Att.attach_callB hn hdf fun w s₀ s₁ mg mb fa o pm cd doc a vs ns G Y ho hdd hcd hmg hobj hints hlen hbits hg => ?_
  obtain ⟨K, KX, c, hw, says⟩ := Y
  have T := Txt.tx w KX G.T.g c says hl hb hw hbi
  have noL : ∀ (b : Addr) (o : Obj), K.lookup b = some o → o.cls ≠ .type "list" := fun b o e z => by
    unfold Txt.says at says
    rw [Bool.and_eq_true] at says
    have k := List.all_eq_true.mp says.2 (b, o) (lk_mem e)
    simp only [z, decide_true, Bool.not_true] at k
    cases k
  obtain ⟨fd, F⟩ := c.def_ j (d := a0.d) (by rw [List.getElem?_map, hj]; rfl)
  have F : FunD K a0.x a0.x a0.params a0.body a0.scope [] [] (He.ga K a0.x) fd := F
  have hga : mg a0.x = some (.ref (He.ga K a0.x)) := by
    unfold Txt.says at says
    simp only [Bool.and_eq_true] at says
    exact He.glo_ok KX G.T.g (List.all_eq_true.mp says.1.1.1.1.1.1.1.1 a0 (List.mem_of_getElem? hj))
  rw [hd, hga] at hmg
  cases hmg
  have hlk := hl
  unfold Txt.look at hlk
  simp only [Bool.and_eq_true] at hlk
  have k1 := List.all_eq_true.mp hlk.1.1.1.1 a0 (List.mem_of_getElem? (by rw [List.getElem?_take_of_lt hm]; exact hj))
  unfold Dd.ok at k1
  simp only [Bool.and_eq_true, decide_eq_true_eq, Bool.false_eq_true, if_false, Bool.not_false] at k1
  have hbA := F.bindsA (ps := a0.ps) (hb j a0 hj)
  rw [hx] at hbA
  refine law_call (CX := L2N.CX l.prog w) (sp := spD ⟨K, (w, none)⟩ (t.xw K) t.prg (k + 1) j) KX G.T.g G.T.b G.T.builtins G.T.nolimit hg hobj hints (Nat.le_trans hlen hn2) hr (fun base hK hN => ?_) (fun s u => hbA s [u] rfl) (fun H hO hS => ?_) fun H e s' => cx_never
  · have := fn_keeps (P := l.prog) (wd := w) (base := base) rfl T (gd_all rfl hP T k) F (scopC_ok k1.1.1.1) (by show (t.ds.map (·.g))[j]? = _; rw [List.getElem?_map, hj]; rfl) k1.1.2 k1.1.1.2 k1.2
    rw [hx] at this
    exact this
  · obtain ⟨S', hS'⟩ := pure_ ns hlen hbits
    have hfz : ∃ ob, H a = some (.frz ob (.lst (ns.map V.int))) := by
      rcases hS with (h1 | ⟨ob, h1⟩) | ⟨ob, its, m, h1, h2, _⟩
      · rcases hO a with h2 | ⟨ob, xs, h2⟩
        · rw [h1] at h2; cases h2
        · rw [h1] at h2; cases h2
      · exact ⟨ob, h1⟩
      · exact absurd h2 (noL _ _ h1)
    refine ⟨fun _ => a, [.ro (ns.map .int)], [.obj 0], ⟨fun n o e => ?_, fun n o e => ?_, fun m n om on em en mm mn e => ?_⟩, ⟨.cons (.obj 0) .nil, rfl⟩, ?_⟩
    · have hn0 := get_lt e
      have : n = 0 := by simp only [List.length_cons, List.length_nil] at hn0; omega
      subst this
      cases e
      exact ⟨_, hfz, rp_ints ns⟩
    · have hn0 := get_lt e
      have : n = 0 := by simp only [List.length_cons, List.length_nil] at hn0; omega
      subst this
      cases e
      exact bels_map fun _ => rfl
    · have h1 := get_lt em
      have h2 := get_lt en
      simp only [List.length_cons, List.length_nil] at h1 h2
      omega
    · rw [hS']
      intro v φ' H' l so r
      cases r.1
      rfl
end Pw
end
section
set_option linter.all false
/-! Pw25: tools for the plain laws: the evaluator by simp, loops by invariants -/
namespace Pw
theorem bind_cg {α β : Type} {a b : Res α} {f : α → Store → Res β} (h : a = b) : a.bind f = b.bind f := by rw [h]
theorem st_cg {α : Type} {a b : Res α} {env env' : Env} {f : α → Store → Res Flow} (h : a = b) (he : env = env') : a.st env f = b.st env' f := by rw [h, he]
@[simp] theorem bind_ok {α β : Type} (a : α) (S : Store) (f : α → Store → Res β) : (Res.ok a S).bind f = f a S := Eq.trans rfl rfl
@[simp] theorem bind_exc {α β : Type} (c : Nat) (fs : List D) (S : Store) (f : α → Store → Res β) : (Res.exc c fs S).bind f = .exc c fs S := Eq.trans rfl rfl
@[simp] theorem bind_bad {α β : Type} (f : α → Store → Res β) : (Res.bad).bind f = .bad := Eq.trans rfl rfl
@[simp] theorem st_ok {α : Type} (a : α) (S : Store) (env : Env) (f : α → Store → Res Flow) : (Res.ok a S).st env f = f a S := Eq.trans rfl rfl
@[simp] theorem st_exc {α : Type} (c : Nat) (fs : List D) (S : Store) (env : Env) (f : α → Store → Res Flow) : (Res.exc c fs S).st env f = .ok (.ex c fs env) S := Eq.trans rfl rfl
@[simp] theorem of_some {α : Type} (a : α) (S : Store) : Res.of (some a) S = .ok a S := Eq.trans rfl rfl
@[simp] theorem of_none {α : Type} (S : Store) : Res.of (none : Option α) S = .bad := Eq.trans rfl rfl
theorem loop_cg {f : D → Env → Store → Res Flow} {ks : List Nat} {g : Store → Bool} {xs xs' : List D} {env env' : Env} {S S' : Store} (hx : xs = xs') (he : env = env') (hS : S = S') : loopL f ks g xs env S = loopL f ks g xs' env' S' := by rw [hx, he, hS]
theorem comp_cg {f : D → Store → Res (Option D)} {g : Store → Bool} {xs xs' : List D} {S S' : Store} (hx : xs = xs') (hS : S = S') : compL f g xs S = compL f g xs' S' := by rw [hx, hS]
theorem whl_cg {t : Env → Store → Res Bool} {f : Env → Store → Res Flow} {ks : List Nat} {n : Nat} {env env' : Env} {S S' : Store} (he : env = env') (hS : S = S') : whlL t f ks n env S = whlL t f ks n env' S' := by rw [he, hS]

/-- a row of statements, behind the first one's end -/
def seqK (C : Ctx) (r : List Stm) (x : Res Flow) : Res Flow := x.bind fun fl S => match fl with
  | .nx env => evSs C r env S
  | fl => .ok fl S
@[simp] theorem seqK_nx (C : Ctx) (r env S) : seqK C r (.ok (.nx env) S) = evSs C r env S := Eq.trans rfl rfl
@[simp] theorem seqK_rt (C : Ctx) (r d S) : seqK C r (.ok (.rt d) S) = .ok (.rt d) S := Eq.trans rfl rfl
@[simp] theorem seqK_bk (C : Ctx) (r d S) : seqK C r (.ok (.bk d) S) = .ok (.bk d) S := Eq.trans rfl rfl
@[simp] theorem seqK_ct (C : Ctx) (r d S) : seqK C r (.ok (.ct d) S) = .ok (.ct d) S := Eq.trans rfl rfl
@[simp] theorem seqK_ex (C : Ctx) (r c fs d S) : seqK C r (.ok (.ex c fs d) S) = .ok (.ex c fs d) S := Eq.trans rfl rfl
def iteK (C : Ctx) (a b : List Stm) (env : Env) (x : Res Bool) : Res Flow := x.st env fun k S => if k then evSs C a env S else evSs C b env S
@[simp] theorem iteK_ok (C : Ctx) (a b env k S) : iteK C a b env (.ok k S) = if k then evSs C a env S else evSs C b env S := Eq.trans rfl rfl
def forK (C : Ctx) (t : Tg) (body : List Stm) (ks : List Nat) (o : Option Nat) (xs : List D) (env : Env) (S : Store) : Res Flow := loopL (fun x env S => match bind1 t x env with
    | some env => evSs C body env S
    | none => .bad) ks (stands o (obAt o S)) xs env S
def forS (C : Ctx) (t : Tg) (body : List Stm) (ks : List Nat) (env : Env) (x : Res (List D × Option Nat)) : Res Flow := x.st env fun p S => forK C t body ks p.2 p.1 env S
@[simp] theorem forS_ok (C : Ctx) (t body ks env p S) : forS C t body ks env (.ok p S) = forK C t body ks p.2 p.1 env S := Eq.trans rfl rfl
def whlK (C : Ctx) (t : Tst) (body : List Stm) (ks : List Nat) (env : Env) (S : Store) : Res Flow := whlL (evT C t) (evSs C body) ks turns env S
def compK (C : Ctx) (e : Exp) (t : Tg) (ifs : List Tst) (env : Env) (o : Option Nat) (xs : List D) (S : Store) : Res (List D) := if xs.length ≤ line then compL (fun x S => match bind1 t x (kill t.ix env) with
        | some env => (match evTs C ifs env S with
          | .ok true S => (match evE C e env S with
            | .ok y S => .ok (some y) S
            | _ => .bad)
          | .ok false S => .ok none S
          | _ => .bad)
        | none => .bad) (stands o (obAt o S)) xs S else .bad
def rngF (x : D) (S : Store) : Res (List D × Option Nat) := match x with
  | .int i => if small i then .ok (rngL 0 i, none) S else .bad
  | _ => .bad
def rngF2 (x y : D) (S : Store) : Res (List D × Option Nat) := match x, y with
  | .int i, .int j => if small i && small j then .ok (rngL i j, none) S else .bad
  | _, _ => .bad
def rngF3 (x y z : D) (S : Store) : Res (List D × Option Nat) := match x, y, z with
  | .int i, .int j, .int k => if small i && small j && (decide (k = -1) || (decide (0 < k) && decide (k < 1073741824))) then .ok (rngL3 i j k, none) S else .bad
  | _, _, _ => .bad
theorem smallOk {i : Int} (h : -4611686018427387904 ≤ i ∧ i < 4611686018427387904) : small i = true := by
  unfold small
  simp only [Bool.and_eq_true, decide_eq_true_eq]
  exact h
@[simp] theorem rngF_ok {i : Int} {S : Store} (h : -4611686018427387904 ≤ i ∧ i < 4611686018427387904) : rngF (.int i) S = .ok (rngL 0 i, none) S := by
  show (if small i = true then Res.ok (rngL 0 i, none) S else .bad) = _
  rw [if_pos (smallOk h)]
@[simp] theorem rngF2_ok {i j : Int} {S : Store} (h : -4611686018427387904 ≤ i ∧ i < 4611686018427387904) (h' : -4611686018427387904 ≤ j ∧ j < 4611686018427387904) : rngF2 (.int i) (.int j) S = .ok (rngL i j, none) S := by
  show (if (small i && small j) = true then Res.ok (rngL i j, none) S else .bad) = _
  rw [if_pos (by rw [smallOk h, smallOk h']; rfl)]
@[simp] theorem rngF3_ok {i j k : Int} {S : Store} (h : -4611686018427387904 ≤ i ∧ i < 4611686018427387904) (h' : -4611686018427387904 ≤ j ∧ j < 4611686018427387904) (hk : 0 < k ∧ k < 1073741824) : rngF3 (.int i) (.int j) (.int k) S = .ok (rngL3 i j k, none) S := by
  show (if (small i && small j && (decide (k = -1) || (decide (0 < k) && decide (k < 1073741824)))) = true then Res.ok (rngL3 i j k, none) S else .bad) = _
  rw [if_pos (by rw [smallOk h, smallOk h', decide_eq_true hk.1, decide_eq_true hk.2]; simp)]
@[simp] theorem rngF3_neg {i j : Int} {S : Store} (h : -4611686018427387904 ≤ i ∧ i < 4611686018427387904) (h' : -4611686018427387904 ≤ j ∧ j < 4611686018427387904) : rngF3 (.int i) (.int j) (.int (-1)) S = .ok (rngL3 i j (-1), none) S := by
  show (if (small i && small j && (decide ((-1 : Int) = -1) || (decide ((0 : Int) < -1) && decide ((-1 : Int) < 1073741824)))) = true then Res.ok (rngL3 i j (-1), none) S else .bad) = _
  rw [if_pos (by rw [smallOk h, smallOk h']; simp)]
def zipF (x y : D) (S : Store) : Res (List D × Option Nat) := match x, y with
  | .tup xs, .tup ys => .ok ((xs.zip ys).map fun z => .tup [z.1, z.2], none) S
  | _, _ => .bad
@[simp] theorem zipF_tt (xs ys S) : zipF (.tup xs) (.tup ys) S = .ok ((xs.zip ys).map fun z => .tup [z.1, z.2], none) S := Eq.trans rfl rfl
def compF2K (C : Ctx) (e : Exp) (t : Tg) (ifs : List Tst) (t1 : Tg) (l1 : Src) (ifs1 : List Tst) (env : Env) (x : D) (S : Store) : Res (List D) := match bind1 t x (kill (t.ix ++ t1.ix) env) with
        | some env => (match evTs C ifs env S with
          | .ok true S => (match evL C l1 env S with
            | .ok p1 S => if p1.1.length ≤ line then compL (fun x S => match bind1 t1 x (kill t1.ix env) with
                | some env => (match evTs C ifs1 env S with
                  | .ok true S => (match evE C e env S with
                    | .ok y S => .ok (some y) S
                    | _ => .bad)
                  | .ok false S => .ok none S
                  | _ => .bad)
                | none => .bad) (stands p1.2 (obAt p1.2 S)) p1.1 S else .bad
            | _ => .bad)
          | .ok false S => .ok [] S
          | _ => .bad)
        | none => .bad
def compK2 (C : Ctx) (e : Exp) (t : Tg) (ifs : List Tst) (t1 : Tg) (l1 : Src) (ifs1 : List Tst) (env : Env) (o : Option Nat) (xs : List D) (S : Store) : Res (List D) := if xs.length ≤ line then
  (compL2 (fun x S => compF2K C e t ifs t1 l1 ifs1 env x S) (stands o (obAt o S)) xs S).bind fun ys S => if ys.length ≤ line then .ok ys S else .bad else .bad
def tryK (C : Ctx) (hs : List (List Nat × Option Nat × List Stm)) (x : Res Flow) : Res Flow := x.bind fun fl S => match fl with
    | .ex c fs env => evH C hs c fs env S
    | fl => .ok fl S
@[simp] theorem tryK_ex (C : Ctx) (hs c fs env S) : tryK C hs (.ok (.ex c fs env) S) = evH C hs c fs env S := Eq.trans rfl rfl
@[simp] theorem tryK_nx (C : Ctx) (hs env S) : tryK C hs (.ok (.nx env) S) = .ok (.nx env) S := Eq.trans rfl rfl
@[simp] theorem tryK_rt (C : Ctx) (hs d S) : tryK C hs (.ok (.rt d) S) = .ok (.rt d) S := Eq.trans rfl rfl
@[simp] theorem qE_0 (C : Ctx) : evE C (.c d) (env) (S) = (.ok d S) := by first | (rw [evE]; done) | (rw [evE]; rfl) | rfl
@[simp] theorem qE_1 (C : Ctx) : evE C (.v i) (env) (S) = ((match env[i]? with
    | some (some d) => .ok d S
    | _ => .bad)) := by first | (rw [evE]; done) | (rw [evE]; rfl) | rfl
@[simp] theorem qE_2 (C : Ctx) : evE C (.g i) (env) (S) = (Res.of (C.G[i]?) S) := by first | (rw [evE]; done) | (rw [evE]; rfl) | rfl
@[simp] theorem qE_3 (C : Ctx) : evE C (.bin o a b) (env) (S) = ((evE C a env S).bind fun x S => (evE C b env S).bind fun y S => binD o x y S) := by first | (rw [evE]; done) | (rw [evE]; rfl) | rfl
@[simp] theorem qE_4 (C : Ctx) : evE C (.neg a) (env) (S) = ((evE C a env S).bind fun x S => (match x with
    | .int i => .ok (.int (-i)) S
    | _ => .bad)) := by first | (rw [evE]; done) | (rw [evE]; rfl) | rfl
@[simp] theorem qE_5 (C : Ctx) : evE C (.notV a) (env) (S) = ((evE C a env S).bind fun x S => (match x with
    | .bl b => .ok (.bl (!b)) S
    | _ => .bad)) := by first | (rw [evE]; done) | (rw [evE]; rfl) | rfl
@[simp] theorem qE_6 (C : Ctx) : evE C (.andV a b) (env) (S) = ((evE C a env S).bind fun x S => (match x with
    | .bl b' => if b' then evE C b env S else .ok (.bl false) S
    | _ => .bad)) := by first | (rw [evE]; done) | (rw [evE]; rfl) | rfl
@[simp] theorem qE_7 (C : Ctx) : evE C (.orV a b) (env) (S) = ((evE C a env S).bind fun x S => (match x with
    | .bl b' => if b' then .ok (.bl true) S else evE C b env S
    | _ => .bad)) := by first | (rw [evE]; done) | (rw [evE]; rfl) | rfl
@[simp] theorem qE_8 (C : Ctx) : evE C (.cmp o a b) (env) (S) = ((evE C a env S).bind fun x S => (evE C b env S).bind fun y S => (Res.of (cmpD S o x y) S).bind fun c S => .ok (.bl c) S) := by first | (rw [evE]; done) | (rw [evE]; rfl) | rfl
@[simp] theorem qE_9 (C : Ctx) : evE C (.chn o p a b c) (env) (S) = ((evE C a env S).bind fun x S => (evE C b env S).bind fun y S => (Res.of (cmpD S o x y) S).bind fun k S =>
      if k then (evE C c env S).bind fun z S => (Res.of (cmpD S p y z) S).bind fun k S => .ok (.bl k) S else .ok (.bl false) S) := by first | (rw [evE]; done) | (rw [evE]; rfl) | rfl
@[simp] theorem qE_10 (C : Ctx) : evE C (.ife t a b) (env) (S) = ((evT C t env S).bind fun k S => if k then evE C a env S else evE C b env S) := by first | (rw [evE]; done) | (rw [evE]; rfl) | rfl
@[simp] theorem qE_11 (C : Ctx) : evE C (.call f as) (env) (S) = ((evEs C as env S).bind fun ds S => C.Φ none f ds S) := by first | (rw [evE]; done) | (rw [evE]; rfl) | rfl
@[simp] theorem qE_12 (C : Ctx) : evE C (.hcall f as) (env) (S) = ((evEs C as env S).bind fun ds S => C.Φ none f ds S) := by first | (rw [evE]; done) | (rw [evE]; rfl) | rfl
@[simp] theorem qE_13 (C : Ctx) : evE C (.hot f) (env) (S) = (if C.exn.isSome then (match C.Φ C.exn f [] S with
    | .ok d S => .ok d S
    | _ => .bad) else .bad) := by first | (rw [evE]; done) | (rw [evE]; rfl) | rfl
@[simp] theorem qE_14 (C : Ctx) : evE C (.isX cs) (env) (S) = ((match C.exn with
    | some (c, _) => (match C.Cl[c]? with
      | some bs => .ok (.bl (cs.any fun k => bs.contains k)) S
      | none => .bad)
    | none => .bad)) := by first | (rw [evE]; done) | (rw [evE]; rfl) | rfl
@[simp] theorem qE_15 (C : Ctx) : evE C (.xf cs k) (env) (S) = ((match C.exn with
    | some (c, fs) => if cs.contains c then Res.of fs[k]? S else .bad
    | none => .bad)) := by first | (rw [evE]; done) | (rw [evE]; rfl) | rfl
@[simp] theorem qE_16 (C : Ctx) : evE C (.anyH a) (env) (S) = ((evE C a env S).bind fun x S => (Res.of (lbls x S) S).bind fun k S => .ok (.bl (k.any id)) S) := by first | (rw [evE]; done) | (rw [evE]; rfl) | rfl
@[simp] theorem qE_17 (C : Ctx) : evE C (.f1 f a) (env) (S) = ((evE C a env S).bind fun x S => f1D f x S) := by first | (rw [evE]; done) | (rw [evE]; rfl) | rfl
@[simp] theorem qE_18 (C : Ctx) : evE C (.f2 f a b) (env) (S) = ((evE C a env S).bind fun x S => (evE C b env S).bind fun y S => f2D f x y S) := by first | (rw [evE]; done) | (rw [evE]; rfl) | rfl
@[simp] theorem qE_19 (C : Ctx) : evE C (.isI a ks) (env) (S) = ((evE C a env S).bind fun x S => (Res.of (isKds C.Cl S x ks) S).bind fun k S => .ok (.bl k) S) := by first | (rw [evE]; done) | (rw [evE]; rfl) | rfl
@[simp] theorem qE_20 (C : Ctx) : evE C (.idx a b) (env) (S) = ((evE C a env S).bind fun x S => (evE C b env S).bind fun y S => idxD x y S) := by first | (rw [evE]; done) | (rw [evE]; rfl) | rfl
@[simp] theorem qE_21 (C : Ctx) : evE C (.sl a lo hi) (env) (S) = ((evE C a env S).bind fun x S => (evO C lo env S).bind fun l S => (evO C hi env S).bind fun h S => slD x l h S) := by first | (rw [evE]; done) | (rw [evE]; rfl) | rfl
@[simp] theorem qE_22 (C : Ctx) : evE C (.rev a) (env) (S) = ((evE C a env S).bind fun x S => revD x S) := by first | (rw [evE]; done) | (rw [evE]; rfl) | rfl
@[simp] theorem qE_23 (C : Ctx) : evE C (.tup es) (env) (S) = ((evEs C es env S).bind fun ds S => .ok (.tup ds) S) := by first | (rw [evE]; done) | (rw [evE]; rfl) | rfl
@[simp] theorem qE_24 (C : Ctx) : evE C (.ls l) (env) (S) = ((evL C l env S).bind fun p S => .ok (.obj S.length) (.lst p.1 :: S)) := by first | (rw [evE]; done) | (rw [evE]; rfl) | rfl
@[simp] theorem qE_25 (C : Ctx) : evE C (.dct es) (env) (S) = ((evEs C es env S).bind fun ds S => (match pairsD ds with
    | some m => if ds.length ≤ 30 then .ok (.obj S.length) (.dct (m.foldl (fun m p => putD p.1 p.2 m) []) :: S) else .bad
    | none => .bad)) := by first | (rw [evE]; done) | (rw [evE]; rfl) | rfl
@[simp] theorem qE_26 (C : Ctx) : evE C (.tupOf l) (env) (S) = ((evL C l env S).bind fun p S => .ok (.tup p.1) S) := by first | (rw [evE]; done) | (rw [evE]; rfl) | rfl
@[simp] theorem qE_27 (C : Ctx) : evE C (.allOf l) (env) (S) = ((evL C l env S).bind fun p S => (Res.of (bls p.1) S).bind fun k S => .ok (.bl (k.all id)) S) := by first | (rw [evE]; done) | (rw [evE]; rfl) | rfl
@[simp] theorem qE_28 (C : Ctx) : evE C (.anyOf l) (env) (S) = ((evL C l env S).bind fun p S => (Res.of (bls p.1) S).bind fun k S => .ok (.bl (k.any id)) S) := by first | (rw [evE]; done) | (rw [evE]; rfl) | rfl
@[simp] theorem qE_29 (C : Ctx) : evE C (.sumOf l) (env) (S) = ((evL C l env S).bind fun p S => (Res.of (intsD p.1) S).bind fun k S => .ok (.int k.sum) S) := by first | (rw [evE]; done) | (rw [evE]; rfl) | rfl
@[simp] theorem qE_30 (C : Ctx) : evE C (.minOf l) (env) (S) = ((evL C l env S).bind fun p S => (match intsD p.1 with
    | some (x :: r) => .ok (.int (r.foldl min x)) S
    | _ => (match p.1 with
      | x :: r => if minLk (x :: r) = true then .ok (minT x r) S else .bad
      | [] => .bad))) := by first | (rw [evE]; done) | (rw [evE]; rfl) | rfl
@[simp] theorem qE_31 (C : Ctx) : evE C (.maxOf l) (env) (S) = ((evL C l env S).bind fun p S => (match intsD p.1 with
    | some (x :: r) => .ok (.int (r.foldl max x)) S
    | _ => .bad)) := by first | (rw [evE]; done) | (rw [evE]; rfl) | rfl
@[simp] theorem qE_32 (C : Ctx) : evE C (.sorted l) (env) (S) = ((evL C l env S).bind fun p S => (match sortD p.1 with
    | some ys => .ok (.obj S.length) (.lst ys :: S)
    | none => .bad)) := by first | (rw [evE]; done) | (rw [evE]; rfl) | rfl
@[simp] theorem qE_33 (C : Ctx) : evE C (.join a l) (env) (S) = ((evE C a env S).bind fun x S => if isS x then (evL C l env S).bind fun p S => (match x, strsD p.1 with
    | .str s, some ts => if (ts.map (·.length)).sum + ts.length * s.length ≤ line then .ok (.str (joinS s ts)) S else .bad
    | _, _ => .bad) else .bad) := by first | (rw [evE]; done) | (rw [evE]; rfl) | rfl
@[simp] theorem qE_34 (C : Ctx) : evE C (.app o a) (env) (S) = ((evE C o env S).bind fun x S => if isL x S then (evE C a env S).bind fun y S => appD x y S else .bad) := by first | (rw [evE]; done) | (rw [evE]; rfl) | rfl
@[simp] theorem qE_35 (C : Ctx) : evE C (.pop o) (env) (S) = ((evE C o env S).bind fun x S => if isL x S then popD x S else .bad) := by first | (rw [evE]; done) | (rw [evE]; rfl) | rfl
@[simp] theorem qE_36 (C : Ctx) : evE C (.ext o a) (env) (S) = ((evE C o env S).bind fun x S => if isL x S then (evE C a env S).bind fun y S => extD x y S else .bad) := by first | (rw [evE]; done) | (rw [evE]; rfl) | rfl
@[simp] theorem qE_37 (C : Ctx) : evE C (.sw o a) (env) (S) = ((evE C o env S).bind fun x S => if isS x then (evE C a env S).bind fun y S => (Res.of (swD x y) S).bind fun k S => .ok (.bl k) S else .bad) := by first | (rw [evE]; done) | (rw [evE]; rfl) | rfl
@[simp] theorem qE_38 (C : Ctx) : evE C (.tupR a b c) (env) (S) = ((evE C a env S).bind fun x S => (evE C b env S).bind fun y S => (evE C c env S).bind fun z S => tupRD x y z S) := by first | (rw [evE]; done) | (rw [evE]; rfl) | rfl
@[simp] theorem qE_39 (C : Ctx) : evE C (.split a b) (env) (S) = ((evE C a env S).bind fun x S => if isS x then (evE C b env S).bind fun y S => splitD x y S else .bad) := by first | (rw [evE]; done) | (rw [evE]; rfl) | rfl
@[simp] theorem qE_40 (C : Ctx) : evE C (.find a b) (env) (S) = ((evE C a env S).bind fun x S => if isS x then (evE C b env S).bind fun y S => findD x y S else .bad) := by first | (rw [evE]; done) | (rw [evE]; rfl) | rfl
@[simp] theorem qE_41 (C : Ctx) : evE C (.insl o i a) (env) (S) = ((evE C o env S).bind fun x S => if isL x S then (evE C i env S).bind fun y S => (evE C a env S).bind fun z S => insD x y z S else .bad) := by first | (rw [evE]; done) | (rw [evE]; rfl) | rfl
@[simp] theorem qE_42 (C : Ctx) : evE C (.fs a t b) (env) (S) = ((evE C a env S).bind fun x S => if shortS x t then (evE C b env S).bind fun y S => fsD x t y S else .bad) := by first | (rw [evE]; done) | (rw [evE]; rfl) | rfl
@[simp] theorem qEs_0 (C : Ctx) : evEs C ([]) (env) (S) = (.ok [] S) := by first | (rw [evEs]; done) | (rw [evEs]; rfl) | rfl
@[simp] theorem qEs_1 (C : Ctx) : evEs C (e :: r) (env) (S) = ((evE C e env S).bind fun x S => (evEs C r env S).bind fun xs S => .ok (x :: xs) S) := by first | (rw [evEs]; done) | (rw [evEs]; rfl) | rfl
@[simp] theorem qO_0 (C : Ctx) : evO C (none) (env) (S) = (.ok none S) := by first | (rw [evO]; done) | (rw [evO]; rfl) | rfl
@[simp] theorem qO_1 (C : Ctx) : evO C (some e) (env) (S) = ((evE C e env S).bind fun x S => (match x with
    | .int i => .ok (some (.int i)) S
    | _ => .bad)) := by first | (rw [evO]; done) | (rw [evO]; rfl) | rfl
@[simp] theorem qL_0 (C : Ctx) : evL C (.val e) (env) (S) = ((evE C e env S).bind fun x S => Res.of (items x S) S) := by first | (rw [evL]; done) | (rw [evL]; rfl) | rfl
@[simp] theorem qL_1 (C : Ctx) : evL C (.seq e) (env) (S) = ((evE C e env S).bind fun x S => Res.of ((seqD x S).map fun xs => (xs, none)) S) := by first | (rw [evL]; done) | (rw [evL]; rfl) | rfl
@[simp] theorem qL_2 (C : Ctx) : evL C (.lis e) (env) (S) = ((evE C e env S).bind fun x S => if isLs x S then Res.of ((seqD x S).map fun xs => (xs, none)) S else .bad) := by first | (rw [evL]; done) | (rw [evL]; rfl) | rfl
@[simp] theorem qL_3 (C : Ctx) : evL C (.keys e) (env) (S) = ((evE C e env S).bind fun x S => Res.of ((keysD x S).map fun xs => (xs, none)) S) := by first | (rw [evL]; done) | (rw [evL]; rfl) | rfl
@[simp] theorem qL_4 (C : Ctx) : evL C (.rng a) (env) (S) = (evE C a env S).bind rngF := by rw [evL]; first | done | rfl
@[simp] theorem qL_5 (C : Ctx) : evL C (.rng2 a b) (env) (S) = (evE C a env S).bind fun x S => (evE C b env S).bind (rngF2 x) := by rw [evL]; first | done | rfl
@[simp] theorem qL_6 (C : Ctx) : evL C (.rng3 a b c) (env) (S) = (evE C a env S).bind fun x S => (evE C b env S).bind fun y S => (evE C c env S).bind (rngF3 x y) := by rw [evL]; first | done | rfl
@[simp] theorem qL_7 (C : Ctx) : evL C (.disp es) (env) (S) = ((evEs C es env S).bind fun xs S => .ok (xs, none) S) := by first | (rw [evL]; done) | (rw [evL]; rfl) | rfl
@[simp] theorem qL_8 (C : Ctx) : evL C (.comp e t l ifs) (env) (S) = (evL C l env S).bind fun p S => (compK C e t ifs env p.2 p.1 S).bind fun ys S => .ok (ys, none) S := by
  rw [evL]; congr 1; funext p S; unfold compK; split <;> rfl
@[simp] theorem qL_9 (C : Ctx) : evL C (.zip a b) (env) (S) = (evE C a env S).bind fun x S => (evE C b env S).bind (zipF x) := by rw [evL]; first | done | rfl
@[simp] theorem qL_10 (C : Ctx) : evL C (.comp2 e t l ifs t1 l1 ifs1) (env) (S) = (evL C l env S).bind fun p S => (compK2 C e t ifs t1 l1 ifs1 env p.2 p.1 S).bind fun ys S => .ok (ys, none) S := by
  rw [evL]; congr 1; funext p S; unfold compK2; split
  · show ((compL2 (fun x S => compF2K C e t ifs t1 l1 ifs1 env x S) (stands p.2 (obAt p.2 S)) p.1 S).bind fun ys S => if ys.length ≤ line then Res.ok (ys, none) S else .bad) = ((compL2 (fun x S => compF2K C e t ifs t1 l1 ifs1 env x S) (stands p.2 (obAt p.2 S)) p.1 S).bind fun ys S => if ys.length ≤ line then Res.ok ys S else .bad).bind fun ys S => Res.ok (ys, none) S
    generalize compL2 (fun x S => compF2K C e t ifs t1 l1 ifs1 env x S) (stands p.2 (obAt p.2 S)) p.1 S = r
    cases r with
    | ok ys S => show (if ys.length ≤ line then Res.ok (ys, none) S else .bad) = Res.bind (if ys.length ≤ line then Res.ok ys S else .bad) _; split <;> rfl
    | _ => rfl
  · rfl
@[simp] theorem qT_0 (C : Ctx) : evT C (.val e) (env) (S) = ((evE C e env S).bind fun x S => Res.of (truth S x) S) := by first | (rw [evT]; done) | (rw [evT]; rfl) | rfl
@[simp] theorem qT_1 (C : Ctx) : evT C (.not t) (env) (S) = ((evT C t env S).bind fun k S => .ok (!k) S) := by first | (rw [evT]; done) | (rw [evT]; rfl) | rfl
@[simp] theorem qT_2 (C : Ctx) : evT C (.and a b) (env) (S) = ((evT C a env S).bind fun k S => if k then evT C b env S else .ok false S) := by first | (rw [evT]; done) | (rw [evT]; rfl) | rfl
@[simp] theorem qT_3 (C : Ctx) : evT C (.or a b) (env) (S) = ((evT C a env S).bind fun k S => if k then .ok true S else evT C b env S) := by first | (rw [evT]; done) | (rw [evT]; rfl) | rfl
@[simp] theorem qTs_0 (C : Ctx) : evTs C ([]) (env) (S) = (.ok true S) := by first | (rw [evTs]; done) | (rw [evTs]; rfl) | rfl
@[simp] theorem qTs_1 (C : Ctx) : evTs C (t :: r) (env) (S) = ((evT C t env S).bind fun k S => if k then evTs C r env S else .ok false S) := by first | (rw [evTs]; done) | (rw [evTs]; rfl) | rfl
@[simp] theorem qS_0 (C : Ctx) : evS C (.pass) (env) (S) = (.ok (.nx env) S) := by first | (rw [evS]; done) | (rw [evS]; rfl) | rfl
@[simp] theorem qS_1 (C : Ctx) : evS C (.ex e) (env) (S) = ((evE C e env S).st env fun _ S => .ok (.nx env) S) := by first | (rw [evS]; done) | (rw [evS]; rfl) | rfl
@[simp] theorem qS_2 (C : Ctx) : evS C (.set t e) (env) (S) = ((evE C e env S).st env fun x S => (match bind1 t x env with
    | some env => .ok (.nx env) S
    | none => .bad)) := by first | (rw [evS]; done) | (rw [evS]; rfl) | rfl
@[simp] theorem qS_3 (C : Ctx) : evS C (.setIx o i e) (env) (S) = ((evE C e env S).st env fun x S => (evE C o env S).st env fun y S => (evE C i env S).st env fun z S => (match setIxD y z x S with
    | some S => .ok (.nx env) S
    | none => .bad)) := by first | (rw [evS]; done) | (rw [evS]; rfl) | rfl
@[simp] theorem qS_4 (C : Ctx) : evS C (.ite t a b) (env) (S) = iteK C a b env (evT C t env S) := by rw [evS]; first | done | rfl
@[simp] theorem qS_5 (C : Ctx) : evS C (.forS t l body ks) (env) (S) = forS C t body ks env (evL C l env S) := by rw [evS]; first | done | rfl
@[simp] theorem qS_6 (C : Ctx) : evS C (.whl t body ks) (env) (S) = whlK C t body ks env S := by rw [evS]; first | done | rfl
@[simp] theorem qS_7 (C : Ctx) : evS C (.ret e) (env) (S) = ((evE C e env S).st env fun x S => .ok (.rt x) S) := by first | (rw [evS]; done) | (rw [evS]; rfl) | rfl
@[simp] theorem qS_8 (C : Ctx) : evS C (.brk) (env) (S) = (.ok (.bk env) S) := by first | (rw [evS]; done) | (rw [evS]; rfl) | rfl
@[simp] theorem qS_9 (C : Ctx) : evS C (.cont) (env) (S) = (.ok (.ct env) S) := by first | (rw [evS]; done) | (rw [evS]; rfl) | rfl
@[simp] theorem qS_10 (C : Ctx) : evS C (.rais c es) (env) (S) = ((evEs C es env S).st env fun ds S => if fldOk ds then .ok (.ex c ds env) S else .bad) := by first | (rw [evS]; done) | (rw [evS]; rfl) | rfl
@[simp] theorem qS_11 (C : Ctx) : evS C (.tryS body hs) (env) (S) = tryK C hs (evSs C body env S) := by rw [evS]; first | done | rfl
@[simp] theorem qS_12 (C : Ctx) : evS C (.kill ks) (env) (S) = (.ok (.nx (kill ks env)) S) := by first | (rw [evS]; done) | (rw [evS]; rfl) | rfl
@[simp] theorem qSs_0 (C : Ctx) : evSs C ([]) (env) (S) = (.ok (.nx env) S) := by first | (rw [evSs]; done) | (rw [evSs]; rfl) | rfl
@[simp] theorem qSs_1 (C : Ctx) : evSs C (s :: r) (env) (S) = seqK C r (evS C s env S) := by rw [evSs]; first | done | rfl
@[simp] theorem qH_0 (C : Ctx) : evH C ([]) (c) (fs) (env) (S) = (.ok (.ex c fs env) S) := by first | (rw [evH]; done) | (rw [evH]; rfl) | rfl
@[simp] theorem qH_1 (C : Ctx) : evH C ((cs, sl, suite) :: r) (c) (fs) (env) (S) = (if catches C.Cl c cs then
      (match sl with
      | some i => if i < env.length then (evSs { C with exn := some (c, fs) } suite (env.set i none) S).bind fun fl S => (match fl with
        | .nx env => .ok (.nx (env.set i none)) S
        | .rt d => .ok (.rt d) S
        | _ => .bad) else .bad
      | none => (evSs { C with exn := some (c, fs) } suite env S).bind fun fl S => (match fl with
        | .nx env => .ok (.nx env) S
        | .rt d => .ok (.rt d) S
        | _ => .bad)) else evH C r c fs env S) := by first | (rw [evH]; done) | (rw [evH]; rfl) | rfl
/-! what a run leaves -/
inductive wp {α : Type} : Res α → (α → Store → Prop) → Prop where
  | ok (a : α) (S : Store) (Q : α → Store → Prop) (h : Q a S) : wp (.ok a S) Q
@[simp] theorem wp_ok {α : Type} (a : α) (S : Store) (Q : α → Store → Prop) : wp (.ok a S) Q = Q a S := propext ⟨fun h => by cases h; assumption, fun h => .ok _ _ _ h⟩
theorem wp_no {α : Type} {c : Nat} {fs : List D} {S : Store} {Q : α → Store → Prop} : ¬ wp (.exc c fs S) Q := fun h => nomatch h
theorem wp_nb {α : Type} {Q : α → Store → Prop} : ¬ wp .bad Q := fun h => nomatch h
theorem wp_bind {α β : Type} {r : Res α} {f : α → Store → Res β} {Q : β → Store → Prop} (h : wp r fun a S => wp (f a S) Q) : wp (r.bind f) Q := by
  cases r with
  | ok a S => rw [wp_ok] at h; exact h
  | exc => exact (wp_no h).elim
  | bad => exact (wp_nb h).elim
theorem wp_st {α : Type} {r : Res α} {env : Env} {f : α → Store → Res Flow} {Q : Flow → Store → Prop} (h : wp r fun a S => wp (f a S) Q) : wp (r.st env f) Q := by
  cases r with
  | ok a S => rw [wp_ok] at h; exact h
  | exc => exact (wp_no h).elim
  | bad => exact (wp_nb h).elim
theorem wp_mono {α : Type} {r : Res α} {Q Q' : α → Store → Prop} (h : wp r Q) (hq : ∀ a S, Q a S → Q' a S) : wp r Q' := by
  cases r with
  | ok a S => rw [wp_ok] at h ⊢; exact hq _ _ h
  | exc => exact (wp_no h).elim
  | bad => exact (wp_nb h).elim
/-- what a round of a loop leaves -/
def rnd (Q : Flow → Store → Prop) (ks : List Nat) (S : Store) (N : Env → Store → Prop) (fl : Flow) (S' : Store) : Prop := match fl with
  | .nx env => N (kill ks env) (trim S S' (kill ks env))
  | .ct env => N (kill ks env) (trim S S' (kill ks env))
  | .bk env => Q (.nx (kill ks env)) S'
  | .rt d => Q (.rt d) S'
  | .ex c fs env => Q (.ex c fs env) S'
@[simp] theorem rnd_nx (Q ks S N env S') : rnd Q ks S N (.nx env) S' = N (kill ks env) (trim S S' (kill ks env)) := Eq.trans rfl rfl
@[simp] theorem rnd_ct (Q ks S N env S') : rnd Q ks S N (.ct env) S' = N (kill ks env) (trim S S' (kill ks env)) := Eq.trans rfl rfl
@[simp] theorem rnd_bk (Q ks S N env S') : rnd Q ks S N (.bk env) S' = Q (.nx (kill ks env)) S' := Eq.trans rfl rfl
@[simp] theorem rnd_rt (Q ks S N d S') : rnd Q ks S N (.rt d) S' = Q (.rt d) S' := Eq.trans rfl rfl
@[simp] theorem rnd_ex (Q ks S N c fs env S') : rnd Q ks S N (.ex c fs env) S' = Q (.ex c fs env) S' := Eq.trans rfl rfl
theorem wp_loop {f : D → Env → Store → Res Flow} {ks : List Nat} {g : Store → Bool} {Q : Flow → Store → Prop} {xs : List D} (I : Nat → Env → Store → Prop) {env : Env} {S : Store}
    (h0 : I 0 env S) (hg : ∀ i env S, I i env S → g S = true)
    (hs : ∀ i x env S, xs[i]? = some x → I i env S → wp (f x env S) (rnd Q ks S (I (i + 1))))
    (hq : ∀ env S, I xs.length env S → Q (.nx env) S) : wp (loopL f ks g xs env S) Q := by
  have key : ∀ (ys : List D) (k : Nat), (∀ i, ys[i]? = xs[k + i]?) → k + ys.length = xs.length → ∀ env S, I k env S → wp (loopL f ks g ys env S) Q := by
    intro ys
    induction ys with
    | nil => intro k _ hl env S h
             simp only [List.length_nil, Nat.add_zero] at hl
             simp only [loopL, hg _ _ _ h, if_true]
             exact .ok _ _ _ (hq _ _ (hl ▸ h))
    | cons y r ih => intro k hy hl env S h
                     simp only [loopL, hg _ _ _ h, if_true]
                     have := hs k y env S (by simpa using (hy 0).symm) h
                     revert this
                     cases f y env S with
                     | exc => exact fun h => nomatch h
                     | bad => exact fun h => nomatch h
                     | ok fl S' =>
                       have step : ∀ env S, I (k + 1) env S → wp (loopL f ks g r env S) Q := ih (k + 1) (fun i => by have := hy (i + 1); simp only [List.getElem?_cons_succ] at this; rw [this]; congr 1; omega) (by simp only [List.length_cons] at hl; omega)
                       intro this
                       rw [wp_ok] at this
                       cases fl with
                       | nx e => exact step _ _ this
                       | ct e => exact step _ _ this
                       | bk e => exact .ok _ _ _ this
                       | rt d => exact .ok _ _ _ this
                       | ex c fs e => exact .ok _ _ _ this
  exact key xs 0 (fun i => by rw [Nat.zero_add]) (Nat.zero_add _) env S h0
/-- a while loop: a measure that falls -/
theorem wp_whl {t : Env → Store → Res Bool} {f : Env → Store → Res Flow} {ks : List Nat} {Q : Flow → Store → Prop} (I : Nat → Env → Store → Prop) {n m : Nat} {env : Env} {S : Store}
    (h0 : I m env S) (hm : m < n)
    (hs : ∀ k env S, I k env S → k ≤ m → wp (t env S) fun c S1 => if c = true then wp (f env S1) (rnd Q ks S fun env S => ∃ j, j < k ∧ I j env S) else Q (.nx env) S1) : wp (whlL t f ks n env S) Q := by
  suffices H : ∀ n k env S, I k env S → k ≤ m → k < n → wp (whlL t f ks n env S) Q from H n m env S h0 (Nat.le_refl _) hm
  intro n
  induction n with
  | zero => intro k _ _ _ _ h; omega
  | succ n ih =>
    intro k env S h hk hkn
    have := hs k env S h hk
    simp only [whlL]
    revert this
    cases t env S with
    | exc => exact fun h => nomatch h
    | bad => exact fun h => nomatch h
    | ok c S1 =>
      simp only [wp_ok, st_ok]
      cases c with
      | false => simp only [Bool.false_eq_true, if_false]; exact fun h => .ok _ _ _ h
      | true =>
        simp only [if_true]
        cases f env S1 with
        | exc => exact fun h => nomatch h
        | bad => exact fun h => nomatch h
        | ok fl S' =>
          intro this
          rw [wp_ok] at this
          cases fl with
          | nx e => obtain ⟨j, hj, hi⟩ := this; exact ih j _ _ hi (by omega) (by omega)
          | ct e => obtain ⟨j, hj, hi⟩ := this; exact ih j _ _ hi (by omega) (by omega)
          | bk e => exact .ok _ _ _ this
          | rt d => exact .ok _ _ _ this
          | ex c fs e => exact .ok _ _ _ this
/-- a comprehension that lays nothing -/
theorem compL_map {f : D → Store → Res (Option D)} {g : Store → Bool} (o : D → Option D) {xs : List D} {S : Store} (hg : g S = true)
    (h : ∀ x ∈ xs, f x S = .ok (o x) S) : compL f g xs S = .ok (xs.filterMap o) S := by
  induction xs with
  | nil => simp [compL, hg]
  | cons x r ih =>
    simp only [compL, hg, if_true, h x (by simp), ih fun y hy => h y (by simp [hy]), bind_ok, List.filterMap_cons]
    cases o x <;> rfl
theorem compL_map1 {f : D → Store → Res (Option D)} {g : Store → Bool} (o : D → D) {xs : List D} {S : Store} (hg : g S = true)
    (h : ∀ x ∈ xs, f x S = .ok (some (o x)) S) : compL f g xs S = .ok (xs.map o) S := by
  rw [compL_map (fun x => some (o x)) hg h]; simp
/-! store -/
@[simp] theorem get_self (o : SO) (S : Store) : get (o :: S) S.length = some o := by simp [get]
theorem getLt {S : Store} : ∀ {n : Nat} {o : SO}, get S n = some o → n < S.length := by
  induction S with
  | nil => intro n o h; simp [get] at h
  | cons a r ih => intro n o h; simp only [get] at h; split at h
                   · simp only [List.length_cons]; omega
                   · have := ih h; simp only [List.length_cons]; omega
theorem getOld {S : Store} {n : Nat} {o x : SO} (h : get S n = some o) : get (x :: S) n = some o := by
  have := getLt h
  simp only [get]; rw [if_neg (by omega)]; exact h
theorem get_app {n : Nat} {o : SO} {S : Store} (h : get S n = some o) : ∀ pre : Store, get (pre ++ S) n = some o
  | [] => h
  | x :: r => getOld (get_app h r)
@[simp] theorem okOld_refl (n : Nat) : ∀ S : Store, okOld n S S = true
  | [] => rfl
  | a :: r => by simp [okOld, okOld_refl n r]
theorem trim_app {S S' pre : Store} {env : Env} (h : S' = pre ++ S) (he : envBel S.length env = true) : trim S S' env = S := by
  subst h
  unfold trim
  split
  · rename_i h
    have : pre = [] := List.eq_nil_of_length_eq_zero (by simp only [List.length_append] at h; omega)
    rw [this]; rfl
  · have : (pre ++ S).drop ((pre ++ S).length - S.length) = S := by simp
    rw [this, he, okOld_refl]; rfl
@[simp] theorem trim_self (S : Store) (env : Env) : trim S S env = S := by simp [trim]
theorem trim_same {S S' : Store} {env : Env} (h : S'.length = S.length) : trim S S' env = S' := by simp [trim, h]
/-- trim, where the old part was changed -/
theorem trim_chg {S S' pre T : Store} {env : Env} (h : S' = pre ++ T) (hl : T.length = S.length) (he : envBel S.length env = true) (ho : okOld S.length S T = true) : trim S S' env = T := by
  subst h
  unfold trim
  split
  · rename_i h
    have : pre = [] := List.eq_nil_of_length_eq_zero (by simp only [List.length_append] at h; omega)
    rw [this]; rfl
  · have : (pre ++ T).drop ((pre ++ T).length - S.length) = T := by simp [hl]
    rw [this, he, ho]; rfl
theorem fin_val {S S' pre : Store} {d : D} (h : S' = pre ++ S) (hd : D.bel S.length d = true) : fin S S' d = .ok d S := by
  subst h
  unfold fin
  split
  · rename_i h
    have : pre = [] := List.eq_nil_of_length_eq_zero (by simp only [List.length_append] at h; omega)
    rw [this]; rfl
  · have : (pre ++ S).drop ((pre ++ S).length - S.length) = S := by simp
    rw [this, okOld_refl]; simp [hd]
theorem fin_obj {S S' pre : Store} {m : Nat} {o : SO} (h : S' = pre ++ S) (hm : S.length ≤ m) (hg : get S' m = some o) (ho : SO.bel S.length o = true) : fin S S' (.obj m) = .ok (.obj S.length) (o :: S) := by
  subst h
  unfold fin
  split
  · rename_i h
    have : pre = [] := List.eq_nil_of_length_eq_zero (by simp only [List.length_append] at h; omega)
    subst this
    have := getLt hg
    simp only [List.nil_append] at this
    omega
  · have : (pre ++ S).drop ((pre ++ S).length - S.length) = S := by simp
    rw [this, okOld_refl]
    have hb : D.bel S.length (.obj m) = false := by
      rw [D.bel]
      exact Bool.eq_false_iff.mpr fun h => by have := Nat.le_of_ble_eq_true h; omega
    simp only [hb, hg, ho, if_true, Bool.false_eq_true, if_false]
theorem finX_nil {S S' pre : Store} (h : S' = pre ++ S) : finX S S' [] = S := by
  subst h
  unfold finX
  split
  · rename_i h
    have : pre = [] := List.eq_nil_of_length_eq_zero (by simp only [List.length_append] at h; omega)
    rw [this]; rfl
  · have : (pre ++ S).drop ((pre ++ S).length - S.length) = S := by simp
    rw [this, okOld_refl]; simp [D.bels]
/-- what a call gives -/
def outF (S : Store) (fl : Flow) (S' : Store) : Res D := match fl with
  | .rt d => fin S S' d
  | .nx _ => fin S S' .non
  | .ex c fs _ => .exc c fs (finX S S' fs)
  | _ => .bad
@[simp] theorem outF_rt (S S' d) : outF S (.rt d) S' = fin S S' d := Eq.trans rfl rfl
@[simp] theorem outF_nx (S S' e) : outF S (.nx e) S' = fin S S' .non := Eq.trans rfl rfl
@[simp] theorem outF_ex (S S' c fs e) : outF S (.ex c fs e) S' = .exc c fs (finX S S' fs) := Eq.trans rfl rfl
theorem den_wp {p : Prg} {n i : Nat} {f : Fn} {ds : List D} {S : Store} {R : Res D} (hf : p.fns[i]? = some f) (hl : ds.length = f.np)
    (h : wp (evSs ⟨den p n, p.G, p.Cl, none⟩ f.body (ds.map some ++ List.replicate (f.nl - f.np) none) S) fun fl S' => outF S fl S' = R) : den p (n + 1) none i ds S = R := by
  simp only [den, hf, evFn, Option.isSome_none, Bool.false_eq_true, false_or, hl, if_true, if_false]
  revert h
  cases evSs ⟨den p n, p.G, p.Cl, none⟩ f.body (ds.map some ++ List.replicate (f.nl - f.np) none) S with
  | exc => exact fun h => nomatch h
  | bad => exact fun h => nomatch h
  | ok fl S' => intro h; rw [wp_ok] at h; cases fl <;> exact h
theorem den_hot {p : Prg} {n i : Nat} {f : Fn} {e : Nat × List D} {S : Store} {R : Res D} (hf : p.fns[i]? = some f)
    (h : wp (evSs ⟨den p n, p.G, p.Cl, some e⟩ f.body (List.replicate f.nl none) S) fun fl S' => outF S fl S' = R) : den p (n + 1) (some e) i [] S = R := by
  simp only [den, hf, evFn, Option.isSome_some, true_or, if_true]
  revert h
  cases evSs ⟨den p n, p.G, p.Cl, some e⟩ f.body (List.replicate f.nl none) S with
  | exc => exact fun h => nomatch h
  | bad => exact fun h => nomatch h
  | ok fl S' => intro h; rw [wp_ok] at h; cases fl <;> exact h

theorem wp_seq {C : Ctx} {r : List Stm} {x : Res Flow} {Q : Flow → Store → Prop} (h : wp x fun fl S => wp (seqK C r (.ok fl S)) Q) : wp (seqK C r x) Q := wp_bind (by
  refine wp_mono h fun fl S h => ?_
  cases fl <;> exact h)
theorem wp_for {C : Ctx} {t : Tg} {body : List Stm} {ks : List Nat} {o : Option Nat} {Q : Flow → Store → Prop} {xs : List D} (I : Nat → Env → Store → Prop) {env : Env} {S : Store}
    (h0 : I 0 env S) (hg : ∀ i env S', I i env S' → stands o (obAt o S) S' = true)
    (hs : ∀ i x env S, xs[i]? = some x → I i env S → wp (match bind1 t x env with | some env => evSs C body env S | none => .bad) (rnd Q ks S (I (i + 1))))
    (hq : ∀ env S, I xs.length env S → Q (.nx env) S) : wp (forK C t body ks o xs env S) Q := wp_loop I h0 hg hs hq
theorem wp_while {C : Ctx} {t : Tst} {body : List Stm} {ks : List Nat} {Q : Flow → Store → Prop} (I : Nat → Env → Store → Prop) {m : Nat} {env : Env} {S : Store}
    (h0 : I m env S) (hm : m < turns)
    (hs : ∀ k env S, I k env S → k ≤ m → wp (evT C t env S) fun c S1 => if c = true then wp (evSs C body env S1) (rnd Q ks S fun env S => ∃ j, j < k ∧ I j env S) else Q (.nx env) S1) : wp (whlK C t body ks env S) Q := wp_whl I h0 hm hs
theorem compK_map {C : Ctx} {e : Exp} {t : Tg} {ifs : List Tst} {env : Env} {o : Option Nat} {xs : List D} {S : Store} (f : D → D) (hl : xs.length ≤ line)
    (h : ∀ x ∈ xs, ∃ env', bind1 t x (kill t.ix env) = some env' ∧ evTs C ifs env' S = .ok true S ∧ evE C e env' S = .ok (f x) S) : compK C e t ifs env o xs S = .ok (xs.map f) S := by
  unfold compK
  rw [if_pos hl]
  refine compL_map1 f (by cases o <;> simp [stands, obAt]) fun x hx => ?_
  obtain ⟨env', h1, h2, h3⟩ := h x hx
  simp only [h1, h2, h3]
theorem compK_fm {C : Ctx} {e : Exp} {t : Tg} {ifs : List Tst} {env : Env} {o : Option Nat} {xs : List D} {S : Store} (f : D → Option D) (hl : xs.length ≤ line)
    (h : ∀ x ∈ xs, ∃ env' b, bind1 t x (kill t.ix env) = some env' ∧ evTs C ifs env' S = .ok b S ∧ (if b = true then ∃ y, evE C e env' S = .ok y S ∧ f x = some y else f x = none)) : compK C e t ifs env o xs S = .ok (xs.filterMap f) S := by
  unfold compK
  rw [if_pos hl]
  refine compL_map f (by cases o <;> simp [stands, obAt]) fun x hx => ?_
  obtain ⟨env', b, h1, h2, h3⟩ := h x hx
  cases b with
  | true => obtain ⟨y, h4, h5⟩ := h3; simp only [h1, h2, h4, h5]
  | false => simp only [h1, h2]; rw [if_neg (by decide)] at h3; rw [h3]
end Pw
end
section
set_option linter.all false
/-! Pw26: the operators by simp -/
namespace Pw
@[simp] theorem lineN : line = 16777216 := Eq.trans rfl rfl
@[simp] theorem truth_bl (S b) : truth S (.bl b) = some b := Eq.trans rfl rfl
@[simp] theorem truth_non (S) : truth S .non = some false := Eq.trans rfl rfl
@[simp] theorem truth_int (S i) : truth S (.int i) = some (decide (i ≠ 0)) := Eq.trans rfl rfl
@[simp] theorem truth_tup (S xs) : truth S (.tup xs) = some (!xs.isEmpty) := Eq.trans rfl rfl
@[simp] theorem isKds_nil (Cl S d) : isKds Cl S d [] = some false := Eq.trans rfl rfl
@[simp] theorem isKds_cons (Cl S d k r) : isKds Cl S d (k :: r) = (isKd Cl S d k).bind fun b => if b then some true else isKds Cl S d r := Eq.trans rfl rfl
@[simp] theorem isKd_int (Cl S d) : isKd Cl S d .int = (match d with | .int _ => some true | .bl _ => some true | .exc _ _ => none | _ => some false) := Eq.trans rfl rfl
@[simp] theorem isKd_bool (Cl S d) : isKd Cl S d .bool = (match d with | .bl _ => some true | .exc _ _ => none | _ => some false) := Eq.trans rfl rfl
@[simp] theorem isKd_str (Cl S d) : isKd Cl S d .str = (match d with | .str _ => some true | .exc _ _ => none | _ => some false) := Eq.trans rfl rfl
@[simp] theorem isKd_tuple (Cl S d) : isKd Cl S d .tuple = (match d with | .tup _ => some true | .exc _ _ => none | _ => some false) := Eq.trans rfl rfl
@[simp] theorem lenD_str {S : Store} {s : List Nat} (h : s.length ≤ 16777216) : lenD S (.str s) = some (s.length : Int) := by simp [lenD, h]
@[simp] theorem lenD_tup (S xs) : lenD S (.tup xs) = some (List.length xs : Int) := Eq.trans rfl rfl
theorem lenD_obj {S n xs} (h : get S n = some (.lst xs)) : lenD S (.obj n) = some (List.length xs : Int) := by simp [lenD, h]
@[simp] theorem lenD_self (S : Store) (xs : List D) : lenD (.lst xs :: S) (.obj S.length) = some (xs.length : Int) := lenD_obj (get_self _ _)
@[simp] theorem f1_len (S d) : f1D .len d S = (Res.of (lenD S d) S).bind fun n S => .ok (.int n) S := Eq.trans rfl rfl
@[simp] theorem f1_int (S i) : f1D .int (.int i) S = .ok (.int i) S := Eq.trans rfl rfl
@[simp] theorem f1_intb (S b) : f1D .int (.bl b) S = .ok (.int (b2i b)) S := Eq.trans rfl rfl
@[simp] theorem f1_abs (S i) : f1D .abs (.int i) S = .ok (.int (if i < 0 then -i else i)) S := Eq.trans rfl rfl
@[simp] theorem f2_min (S i j) : f2D .min (.int i) (.int j) S = .ok (.int (if j < i then j else i)) S := Eq.trans rfl rfl
@[simp] theorem f2_max (S i j) : f2D .max (.int i) (.int j) S = .ok (.int (if j > i then j else i)) S := Eq.trans rfl rfl
@[simp] theorem cmp_lt (S a b) : cmpD S .lt (.int a) (.int b) = some (decide (a < b)) := Eq.trans rfl rfl
@[simp] theorem cmp_le (S a b) : cmpD S .le (.int a) (.int b) = some (decide (a ≤ b)) := Eq.trans rfl rfl
@[simp] theorem cmp_gt (S a b) : cmpD S .gt (.int a) (.int b) = some (decide (b < a)) := Eq.trans rfl rfl
@[simp] theorem cmp_ge (S a b) : cmpD S .ge (.int a) (.int b) = some (decide (b ≤ a)) := Eq.trans rfl rfl
@[simp] theorem cmps_lt (S a b) : cmpD S .lt (.str a) (.str b) = some (decide (a < b)) := Eq.trans rfl rfl
@[simp] theorem cmps_le (S a b) : cmpD S .le (.str a) (.str b) = some (!decide (b < a)) := Eq.trans rfl rfl
@[simp] theorem cmps_gt (S a b) : cmpD S .gt (.str a) (.str b) = some (decide (b < a)) := Eq.trans rfl rfl
@[simp] theorem cmps_ge (S a b) : cmpD S .ge (.str a) (.str b) = some (!decide (a < b)) := Eq.trans rfl rfl
@[simp] theorem cmp_eq (S a b) : cmpD S .eq (.int a) (.int b) = some (decide (a = b)) := Eq.trans rfl rfl
@[simp] theorem cmp_ne (S a b) : cmpD S .ne (.int a) (.int b) = some (!decide (a = b)) := Eq.trans rfl rfl
@[simp] theorem cmps_eq (S a b) : cmpD S .eq (.str a) (.str b) = some (decide (a = b)) := Eq.trans rfl rfl
@[simp] theorem cmps_ne (S a b) : cmpD S .ne (.str a) (.str b) = some (!decide (a = b)) := Eq.trans rfl rfl
@[simp] theorem cmpb_eq (S a b) : cmpD S .eq (.bl a) (.bl b) = some (decide (a = b)) := Eq.trans rfl rfl
@[simp] theorem cmpb_ne (S a b) : cmpD S .ne (.bl a) (.bl b) = some (!decide (a = b)) := Eq.trans rfl rfl
@[simp] theorem cmp_in (S a b) : cmpD S .inn a b = din S a b := Eq.trans rfl rfl
@[simp] theorem cmp_nin (S a b) : cmpD S .nin a b = (din S a b).map (!·) := Eq.trans rfl rfl
@[simp] theorem din_s (S c t) : din S (.str [c]) (.str t) = some (decide (c ∈ t)) := Eq.trans rfl rfl
@[simp] theorem din_t (S x t) : din S x (.tup t) = inD x t := Eq.trans rfl rfl
theorem din_l {S x n t} (h : get S n = some (.lst t)) : din S x (.obj n) = inD x t := by simp [din, h]
@[simp] theorem cmp_is (S a b) : cmpD S .is a b = dis a b := Eq.trans rfl rfl
@[simp] theorem cmp_isn (S a b) : cmpD S .isn a b = (dis a b).map (!·) := Eq.trans rfl rfl
@[simp] theorem dis_non (a) : dis a .non = some (decide (a = .non)) := Eq.trans rfl rfl
@[simp] theorem dis_bl (a b) : dis (.bl a) (.bl b) = some (decide (a = b)) := Eq.trans rfl rfl
@[simp] theorem add_i (S i j) : binD .add (.int i) (.int j) S = .ok (.int (i + j)) S := Eq.trans rfl rfl
@[simp] theorem sub_i (S i j) : binD .sub (.int i) (.int j) S = .ok (.int (i - j)) S := Eq.trans rfl rfl
@[simp] theorem add_s {S : Store} {i j : List Nat} (h : i.length + j.length ≤ 16777216) : binD .add (.str i) (.str j) S = .ok (.str (i ++ j)) S := by simp [binD, h]
@[simp] theorem add_t {S : Store} {i j : List D} (h : i.length + j.length ≤ 16777216) : binD .add (.tup i) (.tup j) S = .ok (.tup (i ++ j)) S := by simp [binD, h]
theorem add_l {S : Store} {a b : Nat} {x y : List D} (ha : get S a = some (.lst x)) (hb : get S b = some (.lst y)) (h : x.length + y.length ≤ 16777216) : binD .add (.obj a) (.obj b) S = .ok (.obj S.length) (.lst (x ++ y) :: S) := by simp [binD, h, ha, hb]
theorem mul_i {S : Store} {i j : Int} (h : i.natAbs.log2 + j.natAbs.log2 < 1000000) : binD .mul (.int i) (.int j) S = .ok (.int (i * j)) S := by simp [binD, mulOk, h]
theorem mul_s {S : Store} {c : Nat} {j : Int} (h : j ≤ 16777216) (h' : -(2 ^ 62) ≤ j) : binD .mul (.str [c]) (.int j) S = .ok (.str (List.replicate j.toNat c)) S := by
  have : j ≤ line ∧ -(2 ^ 62) ≤ j := ⟨by simpa using h, h'⟩
  simp only [binD]; rw [if_pos this]
theorem fdiv_i {S : Store} {i j : Int} (h : 0 < j) (h' : j.natAbs.log2 < 9000) : binD .fdiv (.int i) (.int j) S = .ok (.int (i / j)) S := by simp [binD, h, h']
theorem fdiv_n {S : Store} {i : Int} {k : Nat} (h0 : 0 < k) (h' : Nat.log2 k < 9000) : binD .fdiv (.int i) (.int (no_index (OfNat.ofNat k))) S = .ok (.int (i / (OfNat.ofNat k))) S :=
  fdiv_i (show (0 : Int) < (k : Int) by omega) h'
@[simp] theorem mod_i {S : Store} {i j : Int} (h : 0 < j) : binD .mod (.int i) (.int j) S = .ok (.int (i % j)) S := by simp [binD, h]
theorem pow_i {S : Store} {i j : Int} (h : 0 ≤ j ∧ j ≤ 1000000 ∧ i.natAbs < 2 ^ 64) : binD .pow (.int i) (.int j) S = .ok (.int (i ^ j.toNat)) S := by simp only [binD]; rw [if_pos h]
@[simp] theorem place_nat (n i : Nat) : place n (i : Int) = if i < n then some i else none := by
  unfold place
  rw [if_pos (Int.natCast_nonneg i)]
  by_cases h : i < n
  · rw [if_pos h, if_pos (by omega)]; simp
  · rw [if_neg h, if_neg (by omega)]
theorem place_q {α : Type} (xs : List α) (i : Nat) : ((place xs.length (i : Int)).bind fun j => xs[j]?) = xs[i]? := by
  rw [place_nat]
  by_cases h : i < xs.length
  · rw [if_pos h]; rfl
  · rw [if_neg h, List.getElem?_eq_none (by omega)]; rfl
@[simp] theorem idx_t (xs : List D) (i : Nat) (S : Store) : idxD (.tup xs) (.int (i : Int)) S = Res.of xs[i]? S := by simp only [idxD]; rw [place_q]
@[simp] theorem idx_t0 (xs : List D) (S : Store) : idxD (.tup xs) (.int 0) S = Res.of xs[0]? S := idx_t xs 0 S
@[simp] theorem idx_t1 (xs : List D) (S : Store) : idxD (.tup xs) (.int 1) S = Res.of xs[1]? S := idx_t xs 1 S
theorem idx_l {n : Nat} {xs : List D} {S : Store} (h : get S n = some (.lst xs)) (i : Nat) : idxD (.obj n) (.int (i : Int)) S = Res.of xs[i]? S := by simp only [idxD, h]; rw [place_q]
theorem idx_l0 {n : Nat} {xs : List D} {S : Store} (h : get S n = some (.lst xs)) : idxD (.obj n) (.int 0) S = Res.of xs[0]? S := idx_l h 0
theorem idx_ln {n : Nat} {xs : List D} {S : Store} (k : Nat) (h : get S n = some (.lst xs)) : idxD (.obj n) (.int (no_index (OfNat.ofNat k))) S = Res.of xs[k]? S := idx_l h k
@[simp] theorem idx_s {s : List Nat} {S : Store} (h : s.length ≤ 16777216) (i : Nat) : idxD (.str s) (.int (i : Int)) S = Res.of (s[i]?.map fun c => .str [c]) S := by simp only [idxD, lineN, h, if_true]; rw [place_q]
@[simp] theorem idx_s0 {s : List Nat} {S : Store} (h : s.length ≤ 16777216) : idxD (.str s) (.int 0) S = Res.of (s[0]?.map fun c => .str [c]) S := idx_s h 0
/-- a place given by a whole number that is not negative -/
theorem idx_sz {s : List Nat} {S : Store} {i : Int} (h : s.length ≤ 16777216) (h0 : 0 ≤ i) : idxD (.str s) (.int i) S = Res.of (s[i.toNat]?.map fun c => .str [c]) S := by
  have := idx_s (S := S) h i.toNat
  rwa [Int.toNat_of_nonneg h0] at this
theorem idx_tz {s : List D} {S : Store} {i : Int} (h0 : 0 ≤ i) : idxD (.tup s) (.int i) S = Res.of s[i.toNat]? S := by
  have := idx_t s i.toNat S
  rwa [Int.toNat_of_nonneg h0] at this
@[simp] theorem items_s (s S) : items (.str s) S = some (List.map (fun c => D.str [c]) s, none) := Eq.trans rfl rfl
@[simp] theorem items_t (s S) : items (.tup s) S = some (s, none) := Eq.trans rfl rfl
theorem items_l {S n xs} (h : get S n = some (.lst xs)) : items (.obj n) S = some (xs, some n) := by simp [items, h]
@[simp] theorem seqD_t (s S) : seqD (.tup s) S = some s := Eq.trans rfl rfl
theorem seqD_l {S n xs} (h : get S n = some (.lst xs)) : seqD (.obj n) S = some xs := by simp [seqD, h]
@[simp] theorem isLs_o (n S) : isLs (.obj n) S = true := Eq.trans rfl rfl
theorem isL_l {S n xs} (h : get S n = some (.lst xs)) : isL (.obj n) S = true := by simp [isL, h]
@[simp] theorem isS_s (s) : isS (.str s) = true := Eq.trans rfl rfl
@[simp] theorem rngL_nat (n : Nat) : rngL 0 (n : Int) = (List.range n).map fun i => .int (i : Int) := by simp [rngL]
theorem rngL_z (n : Int) : rngL 0 n = (List.range n.toNat).map fun i => .int (i : Int) := by simp [rngL]
@[simp] theorem rngL_ofNat (n : Nat) : rngL 0 (no_index (OfNat.ofNat n)) = (List.range n).map fun i => .int (i : Int) := rngL_nat n
@[simp] theorem bind_v (i d env) : bind1 (.v i) d env = some (env.set i (some d)) := Eq.trans rfl rfl
@[simp] theorem bind_2 (i j a b env) : bind1 (.tup [i, j]) (.tup [a, b]) env = some ((env.set i (some a)).set j (some b)) := Eq.trans rfl rfl
@[simp] theorem ix_v (i) : Tg.ix (.v i) = [i] := Eq.trans rfl rfl
@[simp] theorem ix_t (is) : Tg.ix (.tup is) = is := Eq.trans rfl rfl
@[simp] theorem kill_nil (env) : kill [] env = env := Eq.trans rfl rfl
@[simp] theorem kill_cons (k ks env) : kill (k :: ks) env = kill ks (env.set k none) := Eq.trans rfl rfl
@[simp] theorem bls_map {α : Type} (f : α → Bool) (xs : List α) : bls (xs.map fun x => .bl (f x)) = some (xs.map f) := by
  induction xs with
  | nil => rfl
  | cons x r ih => simp [bls, ih]
@[simp] theorem intsD_map {α : Type} (f : α → Int) (xs : List α) : intsD (xs.map fun x => .int (f x)) = some (xs.map f) := by
  induction xs with
  | nil => rfl
  | cons x r ih => simp [intsD, ih]
@[simp] theorem strsD_map {α : Type} (f : α → List Nat) (xs : List α) : strsD (xs.map fun x => .str (f x)) = some (xs.map f) := by
  induction xs with
  | nil => rfl
  | cons x r ih => simp [strsD, ih]
theorem small_nat (n : Nat) : small (n : Int) = decide (n < 2 ^ 62) := by
  unfold small
  rw [Bool.eq_iff_iff]; simp only [Bool.and_eq_true, decide_eq_true_eq]; omega
theorem app_l {S : Store} {n : Nat} {xs : List D} {v : D} (h : get S n = some (.lst xs)) (hl : xs.length < 16777216) : appD (.obj n) v S = .ok .non (put S n (.lst (xs ++ [v]))) := by simp [appD, h, hl]
@[simp] theorem put_self (o x : SO) (S : Store) : put (o :: S) S.length x = x :: S := by simp [put]
theorem put_old {S : Store} {n : Nat} {o x : SO} (h : n < S.length) : put (o :: S) n x = o :: put S n x := by simp only [put]; rw [if_neg (by omega)]
@[simp] theorem put_len (S : Store) (n : Nat) (x : SO) : (put S n x).length = S.length := by
  induction S with
  | nil => rfl
  | cons o r ih => simp only [put]; split <;> simp [ih]
@[simp] theorem bel_non (n) : D.bel n .non = true := by rw [D.bel]; all_goals simp
@[simp] theorem bel_bl (n b) : D.bel n (.bl b) = true := by rw [D.bel]; all_goals simp
@[simp] theorem bel_int (n b) : D.bel n (.int b) = true := by rw [D.bel]; all_goals simp
@[simp] theorem bel_str (n b) : D.bel n (.str b) = true := by rw [D.bel]; all_goals simp
@[simp] theorem bel_tup (n b) : D.bel n (.tup b) = D.bels n b := by rw [D.bel]
@[simp] theorem bel_obj (n b) : D.bel n (.obj b) = decide (b < n) := by
  rw [D.bel, Bool.eq_iff_iff]; simp [Nat.blt_eq]
@[simp] theorem bels_nil (n) : D.bels n [] = true := by rw [D.bels]
@[simp] theorem bels_cons (n x r) : D.bels n (x :: r) = (D.bel n x && D.bels n r) := by rw [D.bels]
theorem belsA (n : Nat) (xs : List D) : D.bels n xs = xs.all (D.bel n) := by
  induction xs with
  | nil => simp
  | cons x r ih => simp [ih]
@[simp] theorem bels_app (n : Nat) (xs ys : List D) : D.bels n (xs ++ ys) = (D.bels n xs && D.bels n ys) := by simp [belsA]
theorem belsM {α : Type} {n : Nat} {f : α → D} {xs : List α} (h : ∀ x ∈ xs, D.bel n (f x) = true) : D.bels n (xs.map f) = true := by
  rw [belsA]; simpa using h
@[simp] theorem bels_str {α : Type} (n : Nat) (f : α → List Nat) (xs : List α) : D.bels n (xs.map fun x => .str (f x)) = true := belsM fun x _ => bel_str _ _
@[simp] theorem bels_int {α : Type} (n : Nat) (f : α → Int) (xs : List α) : D.bels n (xs.map fun x => .int (f x)) = true := belsM fun x _ => bel_int _ _
@[simp] theorem bels_str' (n : Nat) (xs : List (List Nat)) : D.bels n (xs.map D.str) = true := belsM fun x _ => bel_str _ _
@[simp] theorem bels_int' (n : Nat) (xs : List Int) : D.bels n (xs.map D.int) = true := belsM fun x _ => bel_int _ _
@[simp] theorem obel_lst (n xs) : SO.bel n (.lst xs) = D.bels n xs := Eq.trans rfl rfl
@[simp] theorem envBel_nil (n) : envBel n [] = true := Eq.trans rfl rfl
@[simp] theorem envBel_some (n d r) : envBel n (some d :: r) = (D.bel n d && envBel n r) := Eq.trans rfl rfl
@[simp] theorem envBel_none (n r) : envBel n (none :: r) = envBel n r := by simp [envBel]
/-- handles below a smaller number -/
theorem bel_mono {n m : Nat} (h : n ≤ m) : ∀ d : D, D.bel n d = true → D.bel m d = true
  | .obj b, hb => by simp at hb ⊢; omega
  | .tup xs, hb => by
    simp only [bel_tup, belsA, List.all_eq_true] at hb ⊢
    exact fun x hx => bel_mono h x (hb x hx)
  | .exc c xs, hb => by
    rw [D.bel, belsA, List.all_eq_true] at hb ⊢
    exact fun x hx => bel_mono h x (hb x hx)
  | .non, _ => bel_non _
  | .bl _, _ => bel_bl _ _
  | .int _, _ => bel_int _ _
  | .str _, _ => bel_str _ _
theorem bels_mono {n m : Nat} (h : n ≤ m) {xs : List D} (hb : D.bels n xs = true) : D.bels m xs = true := by
  rw [belsA, List.all_eq_true] at hb ⊢
  exact fun x hx => bel_mono h x (hb x hx)
end Pw
namespace Pw
@[simp] theorem bls_nil : bls [] = some [] := Eq.trans rfl rfl
@[simp] theorem bls_cons (b r) : bls (.bl b :: r) = (bls r).map (b :: ·) := Eq.trans rfl rfl
@[simp] theorem intsD_nil : intsD [] = some [] := Eq.trans rfl rfl
@[simp] theorem intsD_cons (b r) : intsD (.int b :: r) = (intsD r).map (b :: ·) := Eq.trans rfl rfl
@[simp] theorem strsD_nil : strsD [] = some [] := Eq.trans rfl rfl
@[simp] theorem strsD_cons (b r) : strsD (.str b :: r) = (strsD r).map (b :: ·) := Eq.trans rfl rfl
mutual
/-- a value that the looks at kinds can take: no exception in it, texts and tuples of a bearable length -/
def okE : D → Bool
  | .str s => decide (s.length ≤ 16777216)
  | .tup xs => decide (xs.length ≤ 16777216) && okEs xs
  | .exc _ _ => false
  | _ => true
def okEs : List D → Bool
  | [] => true
  | x :: r => okE x && okEs r
end
@[simp] theorem okE_non : okE .non = true := by rw [okE] <;> simp
@[simp] theorem okE_bl (b) : okE (.bl b) = true := by rw [okE] <;> simp
@[simp] theorem okE_int (b) : okE (.int b) = true := by rw [okE] <;> simp
@[simp] theorem okE_obj (b) : okE (.obj b) = true := by rw [okE] <;> simp
@[simp] theorem okE_str (s) : okE (.str s) = decide (List.length s ≤ 16777216) := by rw [okE]
@[simp] theorem okE_tup (s) : okE (.tup s) = (decide (List.length s ≤ 16777216) && okEs s) := by rw [okE]
@[simp] theorem okE_exc (c s) : okE (.exc c s) = false := by rw [okE]
@[simp] theorem okEs_nil : okEs [] = true := by rw [okEs]
@[simp] theorem okEs_cons (x r) : okEs (x :: r) = (okE x && okEs r) := by rw [okEs]
theorem okEs_all (xs : List D) : okEs xs = xs.all okE := by
  induction xs with
  | nil => simp
  | cons x r ih => simp [ih]
@[simp] theorem okEs_app (xs ys : List D) : okEs (xs ++ ys) = (okEs xs && okEs ys) := by simp [okEs_all]
theorem okEs_at {xs : List D} (h : okEs xs = true) {i : Nat} {x : D} (hx : xs[i]? = some x) : okE x = true := by
  rw [okEs_all, List.all_eq_true] at h
  exact h x (List.mem_of_getElem? hx)
end Pw
namespace Pw
@[simp] theorem fin_0 {S : Store} {d : D} (h : D.bel S.length d = true) : fin S S d = .ok d S := fin_val (pre := []) rfl h
@[simp] theorem fin_1 {S : Store} {d : D} {a : SO} (h : D.bel S.length d = true) : fin S (a :: S) d = .ok d S := fin_val (pre := [a]) rfl h
@[simp] theorem fin_2 {S : Store} {d : D} {a b : SO} (h : D.bel S.length d = true) : fin S (a :: b :: S) d = .ok d S := fin_val (pre := [a, b]) rfl h
@[simp] theorem fin_3 {S : Store} {d : D} {a b c : SO} (h : D.bel S.length d = true) : fin S (a :: b :: c :: S) d = .ok d S := fin_val (pre := [a, b, c]) rfl h
@[simp] theorem fin_4 {S : Store} {d : D} {a b c e : SO} (h : D.bel S.length d = true) : fin S (a :: b :: c :: e :: S) d = .ok d S := fin_val (pre := [a, b, c, e]) rfl h
@[simp] theorem fin_o (S : Store) (o : SO) : fin S (o :: S) (.obj S.length) = .ok (.obj S.length) (o :: S) := by
  unfold fin
  simp
@[simp] theorem idx_tp (xs : List D) (i : Nat) (S : Store) : idxD (.tup xs) (.int ((i : Int) + 1)) S = Res.of xs[i + 1]? S := idx_t xs (i + 1) S
theorem idx_lp {n : Nat} {xs : List D} {S : Store} (h : get S n = some (.lst xs)) (i : Nat) : idxD (.obj n) (.int ((i : Int) + 1)) S = Res.of xs[i + 1]? S := idx_l h (i + 1)
@[simp] theorem idx_sp {s : List Nat} {S : Store} (h : s.length ≤ 16777216) (i : Nat) : idxD (.str s) (.int ((i : Int) + 1)) S = Res.of (s[i + 1]?.map fun c => .str [c]) S := idx_s h (i + 1)
end Pw
namespace Pw
theorem log2_lt {n k : Nat} (h : n < 2 ^ k) (hk : 0 < k) : n.log2 < k := by
  by_cases h0 : n = 0
  · subst h0; simpa using hk
  · exact (Nat.log2_lt h0).mpr h
/-- two factors below 2^64 -/
@[simp] theorem mul_sm {S : Store} {i j : Int} (h : -18446744073709551616 < i ∧ i < 18446744073709551616) (h' : -18446744073709551616 < j ∧ j < 18446744073709551616) : binD .mul (.int i) (.int j) S = .ok (.int (i * j)) S := by
  have a : i.natAbs.log2 < 64 := log2_lt (by omega) (by omega)
  have b : j.natAbs.log2 < 64 := log2_lt (by omega) (by omega)
  exact mul_i (by omega)
@[simp] theorem fdiv_sm {S : Store} {i j : Int} (h : 0 < j ∧ j < 18446744073709551616) : binD .fdiv (.int i) (.int j) S = .ok (.int (i / j)) S := by
  have b : j.natAbs.log2 < 64 := log2_lt (by omega) (by omega)
  exact fdiv_i h.1 (by omega)
@[simp] theorem rngL_neg (n : Int) (h : n ≤ 0) : rngL 0 n = [] := by simp [rngL]; omega
@[simp] theorem bels_tup {α : Type} (n : Nat) (f : α → List D) (xs : List α) : D.bels n (xs.map fun x => .tup (f x)) = xs.all fun x => D.bels n (f x) := by
  rw [belsA]; simp [Function.comp_def]
/-- the store's newest object changed -/
@[simp] theorem okOld_cons (n a r b t) : okOld n (a :: r) (b :: t) = ((decide (a = b) || SO.bel n b) && okOld n r t) := Eq.trans rfl rfl
theorem trim_new {S pre : Store} {a b : SO} {env : Env} (he : envBel (S.length + 1) env = true) (ho : SO.bel (S.length + 1) b = true) : trim (a :: S) (pre ++ b :: S) env = b :: S := trim_chg rfl rfl he (by simp [ho])
end Pw
namespace Pw
theorem range_at {f : Nat → D} {m i : Nat} {x : D} (h : ((List.range m).map f)[i]? = some x) : i < m ∧ x = f i := by
  rw [List.getElem?_map] at h
  have hi : i < m := by
    have := (List.getElem?_eq_some_iff.mp (Option.map_eq_some_iff.mp h).choose_spec.1).1
    simpa using this
  rw [List.getElem?_range hi] at h
  exact ⟨hi, by simpa using h.symm⟩
@[simp] theorem isL_self (xs : List D) (S : Store) : isL (.obj S.length) (.lst xs :: S) = true := isL_l (get_self _ _)
@[simp] theorem app_self {xs : List D} {S : Store} {v : D} (h : xs.length < 16777216) : appD (.obj S.length) v (.lst xs :: S) = .ok .non (.lst (xs ++ [v]) :: S) := by rw [app_l (get_self _ _) h, put_self]
@[simp] theorem idx_self (xs : List D) (S : Store) (i : Nat) : idxD (.obj S.length) (.int (i : Int)) (.lst xs :: S) = Res.of xs[i]? (.lst xs :: S) := idx_l (get_self _ _) i
@[simp] theorem get_under (a b : SO) (S : Store) : get (a :: b :: S) S.length = some b := getOld (get_self _ _)
@[simp] theorem get_under2 (a b c : SO) (S : Store) : get (a :: b :: c :: S) S.length = some c := getOld (getOld (get_self _ _))
@[simp] theorem get_over (a b : SO) (S : Store) : get (a :: b :: S) (S.length + 1) = some a := get_self a (b :: S)
@[simp] theorem get_over2 (a b c : SO) (S : Store) : get (a :: b :: c :: S) (S.length + 1) = some b := getOld (get_self b (c :: S))
@[simp] theorem get_over3 (a b c : SO) (S : Store) : get (a :: b :: c :: S) (S.length + 2) = some a := get_self a (b :: c :: S)
theorem den_post {p : Prg} {n i : Nat} {f : Fn} {ds : List D} {S : Store} {α : Type} (A : α → Prop) (R : α → Res D) (hf : p.fns[i]? = some f) (hl : ds.length = f.np)
    (h : wp (evSs ⟨den p n, p.G, p.Cl, none⟩ f.body (ds.map some ++ List.replicate (f.nl - f.np) none) S) fun fl S' => ∃ a, A a ∧ outF S fl S' = R a) : ∃ a, A a ∧ den p (n + 1) none i ds S = R a := by
  revert h
  have H : ∀ a, wp (evSs ⟨den p n, p.G, p.Cl, none⟩ f.body (ds.map some ++ List.replicate (f.nl - f.np) none) S) (fun fl S' => outF S fl S' = R a) → den p (n + 1) none i ds S = R a := fun a => den_wp hf hl
  revert H
  cases evSs ⟨den p n, p.G, p.Cl, none⟩ f.body (ds.map some ++ List.replicate (f.nl - f.np) none) S with
  | exc => exact fun _ h => nomatch h
  | bad => exact fun _ h => nomatch h
  | ok fl S' => intro H h; rw [wp_ok] at h; obtain ⟨a, h1, h2⟩ := h; exact ⟨a, h1, H a (.ok _ _ _ h2)⟩
end Pw
namespace Pw
theorem pick_s {l : List Nat} {z : Int} (hl : l.length ≤ 16777216) (h : 0 ≤ z ∧ z < l.length) : ∃ c, c ∈ l ∧ ∀ S, idxD (.str l) (.int z) S = .ok (.str [c]) S := by
  have hz : z.toNat < l.length := by omega
  exact ⟨l[z.toNat], List.getElem_mem hz, fun S => by rw [idx_sz hl h.1, List.getElem?_eq_getElem hz]; rfl⟩
theorem clip_some {n d : Nat} {i : Int} (h : 0 ≤ i) : clip n d (some i) = min i.toNat n := if_neg (by omega)
theorem cut_to {α : Type} (xs : List α) {i : Int} (h : 0 ≤ i) : cut xs none (some i) = xs.take i.toNat := by
  show (xs.drop 0).take (clip _ _ (some i) - 0) = _
  rw [clip_some h]
  by_cases h' : i.toNat ≤ xs.length
  · rw [Nat.min_eq_left h']; simp
  · rw [Nat.min_eq_right (by omega)]; simp [List.take_of_length_le (show xs.length ≤ i.toNat by omega)]
theorem cut_from {α : Type} (xs : List α) {i : Int} (h : 0 ≤ i) : cut xs (some i) none = xs.drop i.toNat := by
  show (xs.drop (clip _ _ (some i))).take (xs.length - clip _ _ (some i)) = _
  rw [clip_some h]
  by_cases h' : i.toNat ≤ xs.length
  · rw [Nat.min_eq_left h', List.take_of_length_le (by simp)]
  · rw [Nat.min_eq_right (by omega)]; simp [List.drop_of_length_le (show xs.length ≤ i.toNat by omega)]
theorem cut_mid {α : Type} (xs : List α) {i j : Int} (h : 0 ≤ i) (hj : 0 ≤ j) : cut xs (some i) (some j) = (xs.drop i.toNat).take (j.toNat - i.toNat) := by
  show (xs.drop (clip _ _ (some i))).take (clip _ _ (some j) - clip _ _ (some i)) = _
  rw [clip_some h, clip_some hj]
  by_cases h' : i.toNat ≤ xs.length
  · rw [Nat.min_eq_left h']
    by_cases h2 : j.toNat ≤ xs.length
    · rw [Nat.min_eq_left h2]
    · rw [Nat.min_eq_right (by omega), List.take_of_length_le (by simp), List.take_of_length_le (by simp; omega)]
  · rw [Nat.min_eq_right (by omega : xs.length ≤ i.toNat), List.drop_of_length_le (by omega), List.drop_of_length_le (by omega)]; simp
@[simp] theorem sl_sto {s : List Nat} {S : Store} {i : Int} (h : s.length ≤ 16777216) (hi : 0 ≤ i) : slD (.str s) none (some (.int i)) S = .ok (.str (s.take i.toNat)) S := by simp [slD, intO, h, cut_to _ hi]
@[simp] theorem sl_sfr {s : List Nat} {S : Store} {i : Int} (h : s.length ≤ 16777216) (hi : 0 ≤ i) : slD (.str s) (some (.int i)) none S = .ok (.str (s.drop i.toNat)) S := by simp [slD, intO, h, cut_from _ hi]
@[simp] theorem sl_smi {s : List Nat} {S : Store} {i j : Int} (h : s.length ≤ 16777216) (hi : 0 ≤ i) (hj : 0 ≤ j) : slD (.str s) (some (.int i)) (some (.int j)) S = .ok (.str ((s.drop i.toNat).take (j.toNat - i.toNat))) S := by simp [slD, intO, h, cut_mid _ hi hj]
@[simp] theorem sl_tto {s : List D} {S : Store} {i : Int} (hi : 0 ≤ i) : slD (.tup s) none (some (.int i)) S = .ok (.tup (s.take i.toNat)) S := by simp [slD, intO, cut_to _ hi]
@[simp] theorem sl_tfr {s : List D} {S : Store} {i : Int} (hi : 0 ≤ i) : slD (.tup s) (some (.int i)) none S = .ok (.tup (s.drop i.toNat)) S := by simp [slD, intO, cut_from _ hi]
@[simp] theorem sl_tmi {s : List D} {S : Store} {i j : Int} (hi : 0 ≤ i) (hj : 0 ≤ j) : slD (.tup s) (some (.int i)) (some (.int j)) S = .ok (.tup ((s.drop i.toNat).take (j.toNat - i.toNat))) S := by simp [slD, intO, cut_mid _ hi hj]
theorem sl_lto {n : Nat} {s : List D} {S : Store} {i : Int} (h : get S n = some (.lst s)) (hi : 0 ≤ i) : slD (.obj n) none (some (.int i)) S = .ok (.obj S.length) (.lst (s.take i.toNat) :: S) := by simp [slD, intO, h, cut_to _ hi]
theorem sl_lmi {n : Nat} {s : List D} {S : Store} {i j : Int} (h : get S n = some (.lst s)) (hi : 0 ≤ i) (hj : 0 ≤ j) : slD (.obj n) (some (.int i)) (some (.int j)) S = .ok (.obj S.length) (.lst ((s.drop i.toNat).take (j.toNat - i.toNat)) :: S) := by simp [slD, intO, h, cut_mid _ hi hj]
end Pw
namespace Pw
/-- what holds between the rounds of a loop: the names and the store by what changes -/
def Inv {α : Type} (E : α → Env) (T : α → Store) (A : Nat → α → Prop) (i : Nat) (env : Env) (S : Store) : Prop := ∃ a, A i a ∧ env = E a ∧ S = T a
theorem inv_cg {α : Type} {E : α → Env} {T : α → Store} {A : Nat → α → Prop} {i : Nat} {env env' : Env} {S S' : Store} (he : env = env') (hS : S = S') : Inv E T A i env S = Inv E T A i env' S' := by rw [he, hS]
theorem wp_forI {C : Ctx} {t : Tg} {body : List Stm} {ks : List Nat} {o : Option Nat} {Q : Flow → Store → Prop} {xs : List D} {α : Type} (E : α → Env) (T : α → Store) (A : Nat → α → Prop) (a0 : α) {env : Env} {S : Store}
    (h0 : A 0 a0) (he : env = E a0) (hS : S = T a0) (hg : ∀ a, stands o (obAt o S) (T a) = true)
    (hs : ∀ i x a, xs[i]? = some x → A i a → wp (match bind1 t x (E a) with | some env => evSs C body env (T a) | none => .bad) (rnd Q ks (T a) (Inv E T A (i + 1))))
    (hq : ∀ a, A xs.length a → Q (.nx (E a)) (T a)) : wp (forK C t body ks o xs env S) Q :=
  wp_for (fun i env S => Inv E T A i env S) ⟨a0, h0, he, hS⟩ (by rintro i env S' ⟨a, _, _, rfl⟩; exact hg a) (by rintro i x env S' hx ⟨a, ha, rfl, rfl⟩; exact hs i x a hx ha) (by rintro env S' ⟨a, ha, rfl, rfl⟩; exact hq a ha)
/-- the same for a row of n turns -/
theorem wp_forR {C : Ctx} {j : Nat} {body : List Stm} {ks : List Nat} {Q : Flow → Store → Prop} {α : Type} (n : Nat) (E : α → Env) (T : α → Store) (A : Nat → α → Prop) (a0 : α) {env : Env} {S : Store}
    (h0 : A 0 a0) (he : env = E a0) (hS : S = T a0)
    (hs : ∀ i a, i < n → A i a → wp (evSs C body ((E a).set j (some (.int i))) (T a)) (rnd Q ks (T a) (Inv E T A (i + 1))))
    (hq : ∀ a, A n a → Q (.nx (E a)) (T a)) : wp (forK C (.v j) body ks none ((List.range n).map fun i : Nat => D.int (i : Int)) env S) Q :=
  wp_forI E T A a0 h0 he hS (fun _ => rfl) (fun i x a hx ha => by obtain ⟨hi, rfl⟩ := range_at hx; exact hs i a hi ha) (fun a ha => hq a (by simpa using ha))
theorem wp_forRz {C : Ctx} {j : Nat} {body : List Stm} {ks : List Nat} {Q : Flow → Store → Prop} {α : Type} {z : Int} (n : Nat) (hz : z.toNat = n) (E : α → Env) (T : α → Store) (A : Nat → α → Prop) (a0 : α) {env : Env} {S : Store}
    (h0 : A 0 a0) (he : env = E a0) (hS : S = T a0)
    (hs : ∀ i a, i < n → A i a → wp (evSs C body ((E a).set j (some (.int i))) (T a)) (rnd Q ks (T a) (Inv E T A (i + 1))))
    (hq : ∀ a, A n a → Q (.nx (E a)) (T a)) : wp (forK C (.v j) body ks none (rngL 0 z) env S) Q := by
  rw [rngL_z, hz]; exact wp_forR n E T A a0 h0 he hS hs hq
end Pw
namespace Pw
@[simp] theorem fin_o2 {S : Store} {o a : SO} (ho : SO.bel S.length o = true) : fin S (o :: a :: S) (.obj (S.length + 1)) = .ok (.obj S.length) (o :: S) := fin_obj (pre := [o, a]) rfl (by omega) (get_self o (a :: S)) ho
@[simp] theorem fin_o3 {S : Store} {o a b : SO} (ho : SO.bel S.length o = true) : fin S (o :: a :: b :: S) (.obj (S.length + 1 + 1)) = .ok (.obj S.length) (o :: S) := fin_obj (pre := [o, a, b]) rfl (by omega) (get_self o (a :: b :: S)) ho
@[simp] theorem fin_u {S : Store} {o a : SO} (ho : SO.bel S.length o = true) : fin S (a :: o :: S) (.obj S.length) = .ok (.obj S.length) (o :: S) := fin_obj (pre := [a, o]) rfl (by omega) (get_under a o S) ho
@[simp] theorem fin_u2 {S : Store} {o a b : SO} (ho : SO.bel S.length o = true) : fin S (a :: b :: o :: S) (.obj S.length) = .ok (.obj S.length) (o :: S) := fin_obj (pre := [a, b, o]) rfl (by omega) (get_under2 a b o S) ho
@[simp] theorem fin_u1 {S : Store} {o a b : SO} (ho : SO.bel S.length o = true) : fin S (a :: o :: b :: S) (.obj (S.length + 1)) = .ok (.obj S.length) (o :: S) := fin_obj (pre := [a, o, b]) rfl (by omega) (get_over2 a o b S) ho
theorem setIx_d {S : Store} {n : Nat} {kvs : List (D × D)} {k v : D} (h : get S n = some (.dct kvs)) (hk : isKey k = true) (hl : kvs.length < 100000) : setIxD (.obj n) k v S = some (put S n (.dct (putD k v kvs))) := by simp [setIxD, h, hk, hl]
theorem setIx_l {S : Store} {n : Nat} {xs : List D} {i : Nat} {v : D} (h : get S n = some (.lst xs)) (hi : i < xs.length) : setIxD (.obj n) (.int (i : Int)) v S = some (put S n (.lst (xs.set i v))) := by simp [setIxD, h, hi]
@[simp] theorem isKey_s (s) : isKey (.str s) = true := rfl
/-- the keys of a dict that holds names -/
def nmD (ks : List (List Nat)) : List (D × D) := ks.map fun s => (.str s, .bl true)
@[simp] theorem nmD_len (ks : List (List Nat)) : (nmD ks).length = ks.length := by simp [nmD]
@[simp] theorem nmD_keys (ks : List (List Nat)) : (nmD ks).map (·.1) = ks.map .str := by simp [nmD, Function.comp_def]
theorem putD_nm (s : List Nat) : ∀ ks : List (List Nat), putD (.str s) (.bl true) (nmD ks) = nmD (if s ∈ ks then ks else ks ++ [s])
  | [] => rfl
  | k :: r => by
    show (if D.str k = D.str s then _ else _) = _
    by_cases h : k = s
    · subst h; simp [nmD]
    · have ih := putD_nm s r
      have hs : s ≠ k := fun e => h e.symm
      simp only [nmD] at ih
      simp only [D.str.injEq, h, if_false, List.mem_cons, hs, false_or, ih]
      split <;> simp [nmD]
theorem keysD_nm {S : Store} {n : Nat} {ks : List (List Nat)} (h : get S n = some (.dct (nmD ks))) (hl : ks.length < 64) : keysD (.obj n) S = some (ks.map .str) := by simp [keysD, h, hl, Function.comp_def, nmD]
theorem sortD_s {ts : List (List Nat)} (h : ts.length < 64) : sortD (ts.map .str) = some ((ts.mergeSort leL).map .str) := by
  cases ts with
  | nil => simp [sortD, intsD]
  | cons t r =>
    have e : strsD ((t :: r).map D.str) = some (t :: r) := by simpa using strsD_map (fun x => x) (t :: r)
    have i : intsD ((t :: r).map D.str) = none := rfl
    simp only [sortD, i, e, h, if_true]
theorem leL_trans (a b c : List Nat) (h1 : leL a b = true) (h2 : leL b c = true) : leL a c = true := by
  simp only [leL, Bool.not_eq_true', decide_eq_false_iff_not, List.not_lt] at *
  exact List.le_trans h1 h2
theorem leL_total (a b : List Nat) : (leL a b || leL b a) = true := by
  simp only [leL, Bool.or_eq_true, Bool.not_eq_true', decide_eq_false_iff_not, List.not_lt]
  exact List.le_total a b
theorem sort_asc {ts : List (List Nat)} (hn : ts.Nodup) : (ts.mergeSort leL).Pairwise (· < ·) := by
  have h1 := List.pairwise_mergeSort leL_trans leL_total ts
  have h2 : (ts.mergeSort leL).Nodup := (List.mergeSort_perm ts leL).nodup_iff.mpr hn
  refine (h1.and h2).imp fun {a b} h => ?_
  obtain ⟨h, hne⟩ := h
  simp only [leL, Bool.not_eq_true', decide_eq_false_iff_not, List.not_lt] at h
  rcases Decidable.em (a < b) with h' | h'
  · exact h'
  · exact absurd (List.le_antisymm h (List.not_lt.mp h')) hne
end Pw
namespace Pw
@[simp] theorem idx_un (a : SO) (xs : List D) (S : Store) (i : Nat) : idxD (.obj S.length) (.int (i : Int)) (a :: .lst xs :: S) = Res.of xs[i]? (a :: .lst xs :: S) := idx_l (get_under _ _ _) i
@[simp] theorem idx_un2 (a b : SO) (xs : List D) (S : Store) (i : Nat) : idxD (.obj S.length) (.int (i : Int)) (a :: b :: .lst xs :: S) = Res.of xs[i]? (a :: b :: .lst xs :: S) := idx_l (get_under2 _ _ _ _) i
end Pw
namespace Pw
@[simp] theorem pairsD_nil : pairsD [] = some [] := Eq.trans rfl rfl
@[simp] theorem pairsD_cons (k v r) : pairsD (k :: v :: r) = if isKey k then (pairsD r).map ((k, v) :: ·) else none := Eq.trans rfl rfl
@[simp] theorem nmD_nil : nmD [] = [] := Eq.trans rfl rfl
end Pw
namespace Pw
@[simp] theorem put_over (a b x : SO) (S : Store) : put (a :: b :: S) (S.length + 1) x = x :: b :: S := put_self a x (b :: S)
@[simp] theorem put_under (a b x : SO) (S : Store) : put (a :: b :: S) S.length x = a :: x :: S := by simp [put]
@[simp] theorem put_under2 (a b c x : SO) (S : Store) : put (a :: b :: c :: S) S.length x = a :: b :: x :: S := by simp [put]; omega
@[simp] theorem put_over2 (a b c x : SO) (S : Store) : put (a :: b :: c :: S) (S.length + 1) x = a :: x :: c :: S := by simp [put]
@[simp] theorem put_over3 (a b c x : SO) (S : Store) : put (a :: b :: c :: S) (S.length + 2) x = x :: b :: c :: S := by simp [put]
end Pw
namespace Pw
@[simp high] theorem setIx_n0 {S : Store} {ks : List (List Nat)} {s : List Nat} (h : ks.length < 100000) : setIxD (.obj S.length) (.str s) (.bl true) (.dct (nmD ks) :: S) = some (.dct (nmD (if s ∈ ks then ks else ks ++ [s])) :: S) := by
  rw [setIx_d (get_self _ _) rfl (by simpa using h), put_self, putD_nm]
@[simp high] theorem setIx_n1 {S : Store} {b : SO} {ks : List (List Nat)} {s : List Nat} (h : ks.length < 100000) : setIxD (.obj (S.length + 1)) (.str s) (.bl true) (.dct (nmD ks) :: b :: S) = some (.dct (nmD (if s ∈ ks then ks else ks ++ [s])) :: b :: S) := by
  rw [setIx_d (get_over _ _ _) rfl (by simpa using h), put_over, putD_nm]
end Pw
namespace Pw
theorem mul_t {S : Store} {xs : List D} {j : Int} (h : 0 < xs.length ∧ xs.length ≤ 1000) (h' : 1 ≤ j ∧ j ≤ 1000) : binD .mul (.tup xs) (.int j) S = .ok (.tup (List.replicate j.toNat xs).flatten) S := by
  show (if 0 < xs.length ∧ xs.length ≤ 1000 ∧ 1 ≤ j ∧ j ≤ 1000 then Res.ok (D.tup (List.replicate j.toNat xs).flatten) S else .bad) = _
  rw [if_pos ⟨h.1, h.2, h'.1, h'.2⟩]
theorem mul_t1 {S : Store} {x : D} {n : Nat} (h' : 1 ≤ n ∧ n ≤ 1000) : binD .mul (.tup [x]) (.int (n : Int)) S = .ok (.tup (List.replicate n x)) S := by
  rw [mul_t (by simp) (by omega), Int.toNat_natCast]
  congr 2
  induction n with
  | zero => rfl
  | succ n ih => 
    rw [List.replicate_succ, List.flatten_cons, List.replicate_succ]
    cases n with
    | zero => rfl
    | succ n => rw [ih (by omega)]; rfl
theorem mul_l1 {S : Store} {x : D} {n k : Nat} (hg : get S k = some (.lst [x])) (h' : n ≤ 1000) : binD .mul (.obj k) (.int (n : Int)) S = .ok (.obj S.length) (.lst (List.replicate n x) :: S) := by
  show (match get S k with
    | some (.lst xs) => if -(2 ^ 62) ≤ (n : Int) ∧ (n : Int) ≤ line ∧ xs.length * (n : Int).toNat ≤ line then Res.ok (D.obj S.length) (.lst (List.replicate (n : Int).toNat xs).flatten :: S) else .bad
    | _ => .bad) = _
  rw [hg]
  have e : (List.replicate n [x]).flatten = List.replicate n x := by
    clear h'
    induction n with
    | zero => rfl
    | succ n ih => rw [List.replicate_succ, List.flatten_cons, ih, List.replicate_succ]; rfl
  show (if -(2 ^ 62) ≤ (n : Int) ∧ (n : Int) ≤ line ∧ [x].length * (n : Int).toNat ≤ line then Res.ok (D.obj S.length) (.lst (List.replicate (n : Int).toNat [x]).flatten :: S) else .bad) = _
  rw [Int.toNat_natCast, e, if_pos ⟨by omega, by unfold line; omega, by simp [line]; omega⟩]
@[simp] theorem fldOk_nil : fldOk [] = true := Eq.trans rfl rfl
@[simp] theorem fldOk_cons (i : Int) (r) : fldOk (.int i :: r) = (decide (i.natAbs.log2 < 1920) && fldOk r) := Eq.trans rfl rfl
theorem fld_small {i : Int} (h1 : -(2 ^ 62) ≤ i) (h2 : i < 2 ^ 62) : i.natAbs.log2 < 1920 := by
  have h : i.natAbs ≤ 2 ^ 62 := by omega
  by_cases h0 : i.natAbs = 0
  · rw [h0]; decide
  · rw [Nat.log2_lt h0]
    exact Nat.lt_of_le_of_lt h (Nat.pow_lt_pow_right (by decide) (by decide))
@[simp] theorem log2_1 : Nat.log2 1 = 0 := by decide
@[simp] theorem log2_119 : Nat.log2 119 = 6 := by decide
@[simp] theorem log2_200 : Nat.log2 200 = 7 := by decide
@[simp] theorem log2_400 : Nat.log2 400 = 8 := by decide
@[simp] theorem log2_1200 : Nat.log2 1200 = 10 := by decide
end Pw
end
section
set_option linter.all false
/-! Pw27: what stands in the store, by simp -/
namespace Pw
@[simp] theorem get_cons (o : SO) (r : Store) (n : Nat) : get (o :: r) n = if n = r.length then some o else get r n := Eq.trans rfl rfl
@[simp] theorem put_cons (o : SO) (r : Store) (n : Nat) (x : SO) : put (o :: r) n x = if n = r.length then x :: r else o :: put r n x := Eq.trans rfl rfl
def idxG (g : Option SO) (i : Int) (S : Store) : Res D := match g with
  | some (.lst xs) => Res.of ((place xs.length i).bind fun j => xs[j]?) S
  | some (.ro xs) => Res.of ((place xs.length i).bind fun j => xs[j]?) S
  | some (.dct kvs) => Res.of (lookD (.int i) kvs) S
  | _ => .bad
@[simp] theorem idx_G (n : Nat) (i : Int) (S : Store) : idxD (.obj n) (.int i) S = idxG (get S n) i S := by
  unfold idxG idxD
  rcases h : get S n with _ | o
  · simp [h]
  · cases o <;> simp [h, isKey, keyT]
@[simp] theorem idxG_d {i d kvs S} (h : lookD (.int i) kvs = some d) : idxG (some (.dct kvs)) i S = .ok d S := by simp [idxG, h]
@[simp] theorem idxG_n (xs : List D) (i : Nat) (S : Store) : idxG (some (.lst xs)) (i : Int) S = Res.of xs[i]? S := by simp only [idxG]; rw [place_q]
@[simp] theorem idxG_n1 (xs : List D) (i : Nat) (S : Store) : idxG (some (.lst xs)) ((i : Int) + 1) S = Res.of xs[i + 1]? S := idxG_n xs (i + 1) S
@[simp] theorem idxG_0 (xs : List D) (S : Store) : idxG (some (.lst xs)) 0 S = Res.of xs[0]? S := idxG_n xs 0 S
@[simp] theorem idxG_1 (xs : List D) (S : Store) : idxG (some (.lst xs)) 1 S = Res.of xs[1]? S := idxG_n xs 1 S
@[simp] theorem idxG_o (xs : List D) (k : Nat) (S : Store) : idxG (some (.lst xs)) (no_index (OfNat.ofNat k)) S = Res.of xs[k]? S := idxG_n xs k S
theorem idxG_z (xs : List D) {i : Int} (h : 0 ≤ i) (S : Store) : idxG (some (.lst xs)) i S = Res.of xs[i.toNat]? S := by
  have := idxG_n xs i.toNat S
  rwa [Int.toNat_of_nonneg h] at this
def lenG (g : Option SO) : Option Int := match g with
  | some (.lst xs) => some (xs.length : Int)
  | some (.ro xs) => some (xs.length : Int)
  | some (.dct xs) => some (xs.length : Int)
  | _ => none
@[simp] theorem len_G (S n) : lenD S (.obj n) = lenG (get S n) := by
  unfold lenG lenD
  rcases h : get S n with _ | o
  · simp [h]
  · cases o <;> simp [h]
@[simp] theorem lenG_l (xs) : lenG (some (.lst xs)) = some (List.length xs : Int) := Eq.trans rfl rfl
@[simp] theorem lenG_r (xs) : lenG (some (.ro xs)) = some (List.length xs : Int) := Eq.trans rfl rfl
@[simp] theorem lenG_d (xs) : lenG (some (.dct xs)) = some (List.length xs : Int) := Eq.trans rfl rfl
def truthG (g : Option SO) : Option Bool := match g with
  | some (.lst xs) => some (!xs.isEmpty)
  | some (.ro xs) => some (!xs.isEmpty)
  | some (.dct xs) => some (!xs.isEmpty)
  | _ => none
@[simp] theorem truth_G (S n) : truth S (.obj n) = truthG (get S n) := by
  unfold truthG truth
  rcases h : get S n with _ | o
  · simp [h]
  · cases o <;> simp [h]
@[simp] theorem truthG_l (xs) : truthG (some (.lst xs)) = some (!xs.isEmpty) := Eq.trans rfl rfl
def itemsG (n : Nat) (g : Option SO) : Option (List D × Option Nat) := match g with
  | some (.lst xs) => some (xs, some n)
  | some (.ro xs) => some (xs, some n)
  | _ => none
@[simp] theorem items_G (n S) : items (.obj n) S = itemsG n (get S n) := by
  unfold itemsG items
  rcases h : get S n with _ | o
  · simp [h]
  · cases o <;> simp [h]
@[simp] theorem itemsG_l (n xs) : itemsG n (some (.lst xs)) = some (xs, some n) := Eq.trans rfl rfl
def seqG (g : Option SO) : Option (List D) := match g with
  | some (.lst xs) => some xs
  | some (.ro xs) => some xs
  | _ => none
@[simp] theorem seq_G (n S) : seqD (.obj n) S = seqG (get S n) := by
  unfold seqG seqD
  rcases h : get S n with _ | o
  · simp [h]
  · cases o <;> simp [h]
@[simp] theorem seqG_l (xs) : seqG (some (.lst xs)) = some xs := Eq.trans rfl rfl
def isLG (g : Option SO) : Bool := match g with
  | some (.lst xs) => true
  | _ => false
@[simp] theorem isL_G (n S) : isL (.obj n) S = isLG (get S n) := by
  unfold isLG isL
  rcases h : get S n with _ | o
  · simp [h]
  · cases o <;> simp [h]
@[simp] theorem isLG_l (xs) : isLG (some (.lst xs)) = true := Eq.trans rfl rfl
def appG (n : Nat) (v : D) (g : Option SO) (S : Store) : Res D := match g with
  | some (.lst xs) => if xs.length < line then .ok .non (put S n (.lst (xs ++ [v]))) else .bad
  | _ => .bad
@[simp] theorem app_G (n v S) : appD (.obj n) v S = appG n v (get S n) S := by
  unfold appG appD
  rcases h : get S n with _ | o
  · simp [h]
  · cases o <;> simp [h]
@[simp] theorem appG_l {n v xs S} (h : List.length xs < 16777216) : appG n v (some (.lst xs)) S = .ok .non (put S n (.lst (xs ++ [v]))) := by unfold appG; simp only [lineN, h, if_true]
def setG (n : Nat) (i v : D) (g : Option SO) (S : Store) : Option Store := match g with
  | some (.lst xs) => (match i with
      | .int i => (place xs.length i).map fun j => put S n (.lst (xs.set j v))
      | _ => none)
  | some (.dct kvs) => if isKey i && decide (kvs.length < 100000) then some (put S n (.dct (putD i v kvs))) else if keyT i && kvs.isEmpty then some (put S n (.dcn [(i, v)])) else none
  | some (.dcn kvs) => if keyT i && decide (kvs.length < 100000) then some (put S n (.dcn (putD i v kvs))) else none
  | _ => none
@[simp] theorem set_G (n i v S) : setIxD (.obj n) i v S = setG n i v (get S n) S := by
  unfold setG setIxD
  rcases h : get S n with _ | o
  · simp [h]
  · cases o <;> cases i <;> simp [h]
@[simp] theorem setG_l {n : Nat} {i : Nat} {v xs S} (h : i < List.length xs) : setG n (.int (i : Int)) v (some (.lst xs)) S = some (put S n (.lst (xs.set i v))) := by unfold setG; simp [h]
@[simp] theorem setG_d {n k v kvs S} (hk : isKey k = true) (h : List.length kvs < 100000) : setG n k v (some (.dct kvs)) S = some (put S n (.dct (putD k v kvs))) := by unfold setG; simp [h, hk]
theorem keyT_no {k : D} (h : keyT k = true) : isKey k = false := by cases k <;> first | rfl | (cases h; done)
@[simp] theorem setG_dn0 {n k v S} (hk : keyT k = true) : setG n k v (some (.dct [])) S = some (put S n (.dcn [(k, v)])) := by unfold setG; simp [keyT_no hk, hk]
@[simp] theorem setG_dn {n k v kvs S} (hk : keyT k = true) (h : List.length kvs < 100000) : setG n k v (some (.dcn kvs)) S = some (put S n (.dcn (putD k v kvs))) := by unfold setG; simp [h, hk]
def idxKG (k : D) (g : Option SO) (S : Store) : Res D := match g with
  | some (.dct kvs) => if isKey k then Res.of (lookD k kvs) S else .bad
  | some (.dcn kvs) => if keyT k then Res.of (lookD k kvs) S else .bad
  | _ => .bad
@[simp] theorem idx_KGs (n s S) : idxD (.obj n) (.str s) S = idxKG (.str s) (get S n) S := by
  unfold idxKG idxD
  rcases h : get S n with _ | o
  · simp [h]
  · cases o <;> simp [h]
@[simp] theorem idx_KGt (n s S) : idxD (.obj n) (.tup s) S = idxKG (.tup s) (get S n) S := by
  unfold idxKG idxD
  rcases h : get S n with _ | o
  · simp [h]
  · cases o <;> simp [h]
@[simp] theorem idxKG_d {k d kvs S} (hk : isKey k = true) (h : lookD k kvs = some d) : idxKG k (some (.dct kvs)) S = .ok d S := by simp [idxKG, hk, h]
@[simp] theorem idxKG_n {k d kvs S} (hk : keyT k = true) (h : lookD k kvs = some d) : idxKG k (some (.dcn kvs)) S = .ok d S := by simp [idxKG, hk, h]
def slG (g : Option SO) (l h : Option D) (S : Store) : Res D := match intO l, intO h with
  | some l, some h => (match g with
      | some (.lst xs) => .ok (.obj S.length) (.lst (cut xs l h) :: S)
      | _ => .bad)
  | _, _ => .bad
@[simp] theorem sl_G (n l h S) : slD (.obj n) l h S = slG (get S n) l h S := by
  unfold slG slD
  rcases h' : get S n with _ | o
  · cases intO l <;> cases intO h <;> simp [h']
  · cases o <;> cases intO l <;> cases intO h <;> simp [h']
@[simp] theorem slG_to {s : List D} {S : Store} {i : Int} (hi : 0 ≤ i) : slG (some (.lst s)) none (some (.int i)) S = .ok (.obj S.length) (.lst (s.take i.toNat) :: S) := by simp [slG, intO, cut_to _ hi]
@[simp] theorem slG_fr {s : List D} {S : Store} {i : Int} (hi : 0 ≤ i) : slG (some (.lst s)) (some (.int i)) none S = .ok (.obj S.length) (.lst (s.drop i.toNat) :: S) := by simp [slG, intO, cut_from _ hi]
@[simp] theorem slG_mi {s : List D} {S : Store} {i j : Int} (hi : 0 ≤ i) (hj : 0 ≤ j) : slG (some (.lst s)) (some (.int i)) (some (.int j)) S = .ok (.obj S.length) (.lst ((s.drop i.toNat).take (j.toNat - i.toNat)) :: S) := by simp [slG, intO, cut_mid _ hi hj]
def addG (a b : Option SO) (S : Store) : Res D := match a, b with
  | some (.lst x), some (.lst y) => if x.length + y.length ≤ line then .ok (.obj S.length) (.lst (x ++ y) :: S) else .bad
  | _, _ => .bad
@[simp] theorem add_G (a b S) : binD .add (.obj a) (.obj b) S = addG (get S a) (get S b) S := by
  unfold addG binD
  rcases h : get S a with _ | o
  · simp [h]
  · rcases h' : get S b with _ | o'
    · cases o <;> simp [h, h']
    · cases o <;> cases o' <;> simp [h, h']
@[simp] theorem addG_l {x y : List D} {S : Store} (h : x.length + y.length ≤ 16777216) : addG (some (.lst x)) (some (.lst y)) S = .ok (.obj S.length) (.lst (x ++ y) :: S) := by unfold addG; simp only [lineN, h, if_true]
def dinG (x : D) (g : Option SO) : Option Bool := match g with
  | some (.lst xs) => inD x xs
  | some (.ro xs) => inD x xs
  | some (.dct kvs) => if isKey x then some (hasK x kvs) else if keyT x && kvs.isEmpty then some false else none
  | some (.dcn kvs) => if keyT x then some (hasK x kvs) else none
  | _ => none
@[simp] theorem din_G (S x n) : din S x (.obj n) = dinG x (get S n) := by
  unfold dinG din
  rcases h : get S n with _ | o
  · simp [h]
  · cases o <;> simp [h]
@[simp] theorem dinG_l (x xs) : dinG x (some (.lst xs)) = inD x xs := Eq.trans rfl rfl
@[simp] theorem dinG_d {x kvs} (h : isKey x = true) : dinG x (some (.dct kvs)) = some (hasK x kvs) := by simp [dinG, h]
@[simp] theorem dinG_n {x kvs} (h : keyT x = true) : dinG x (some (.dcn kvs)) = some (hasK x kvs) := by simp [dinG, h]
@[simp] theorem dinG_n0 {x} (h : keyT x = true) : dinG x (some (.dct [])) = some false := by simp [dinG, h, keyT_no h]
@[simp] theorem stands_none (S T) : stands none (obAt none S) T = true := rfl
@[simp] theorem stands_some (n S T) : stands (some n) (obAt (some n) S) T = decide (get T n = get S n) := Eq.trans rfl rfl
/-- a fresh object over anything that points below -/
theorem fin_any {S S' : Store} (pre : Store) {m : Nat} {o : SO} (h : S' = pre ++ S) (hm : S.length ≤ m) (hg : get S' m = some o) (ho : SO.bel S.length o = true) : fin S S' (.obj m) = .ok (.obj S.length) (o :: S) := fin_obj h hm hg ho
end Pw
namespace Pw
@[simp] theorem trim_g0 (a b : SO) (R : Store) (env : Env) : trim (a :: R) (b :: R) env = b :: R := trim_same (by simp)
@[simp] theorem trim_g1 {a b g : SO} {R : Store} {env : Env} (he : envBel (R.length + 1) env = true) (ho : SO.bel (R.length + 1) b = true) : trim (a :: R) (g :: b :: R) env = b :: R := trim_new (pre := [g]) he ho
@[simp] theorem trim_g2 {a b g h : SO} {R : Store} {env : Env} (he : envBel (R.length + 1) env = true) (ho : SO.bel (R.length + 1) b = true) : trim (a :: R) (g :: h :: b :: R) env = b :: R := trim_new (pre := [g, h]) he ho
@[simp] theorem trim_g3 {a b g h i : SO} {R : Store} {env : Env} (he : envBel (R.length + 1) env = true) (ho : SO.bel (R.length + 1) b = true) : trim (a :: R) (g :: h :: i :: b :: R) env = b :: R := trim_new (pre := [g, h, i]) he ho
end Pw
namespace Pw
@[simp] theorem bels_take {n k : Nat} {xs : List D} (h : D.bels n xs = true) : D.bels n (xs.take k) = true := by
  rw [belsA, List.all_eq_true] at *; exact fun x hx => h x (List.mem_of_mem_take hx)
@[simp] theorem bels_drop {n k : Nat} {xs : List D} (h : D.bels n xs = true) : D.bels n (xs.drop k) = true := by
  rw [belsA, List.all_eq_true] at *; exact fun x hx => h x (List.mem_of_mem_drop hx)
end Pw
namespace Pw
theorem place_r (xs : List D) (i : Nat) (S : Store) : idxG (some (.ro xs)) (i : Int) S = Res.of xs[i]? S := by simp only [idxG]; rw [place_q]
@[simp] theorem idxG_rn (xs : List D) (i : Nat) (S : Store) : idxG (some (.ro xs)) (i : Int) S = Res.of xs[i]? S := place_r xs i S
@[simp] theorem idxG_ro (xs : List D) (k : Nat) (S : Store) : idxG (some (.ro xs)) (no_index (OfNat.ofNat k)) S = Res.of xs[k]? S := place_r xs k S
end Pw
namespace Pw
@[simp high] theorem setG_nm {n : Nat} {ks : List (List Nat)} {s : List Nat} {S : Store} (h : ks.length < 100000) : setG n (.str s) (.bl true) (some (.dct (nmD ks))) S = some (put S n (.dct (nmD (if s ∈ ks then ks else ks ++ [s])))) := by
  rw [setG_d rfl (by simpa using h), putD_nm]
end Pw
end
section
set_option linter.all false
set_option maxRecDepth 100000
set_option maxHeartbeats 0
/-! Pw28: more plain tools (own work) -/
namespace Pw
/-- a comprehension over a range: who passes, what it gives -/
theorem compK_rg {C : Ctx} {e : Exp} {j : Nat} {ifs : List Tst} {env : Env} {S : Store} (n : Nat) (p : Nat → Bool) (v : Nat → D) (hl : n ≤ 16777216)
    (h : ∀ k, k < n → evTs C ifs ((env.set j none).set j (some (.int (k : Int)))) S = .ok (p k) S ∧ (p k = true → evE C e ((env.set j none).set j (some (.int (k : Int)))) S = .ok (v k) S)) :
    compK C e (.v j) ifs env none ((List.range n).map fun i : Nat => .int (i : Int)) S = .ok (((List.range n).filter p).map v) S := by
  rw [compK_fm (fun x => match x with | .int k => if p k.toNat = true then some (v k.toNat) else none | _ => none) (by simpa using hl)]
  · congr 1
    rw [List.filterMap_map]
    induction List.range n with
    | nil => rfl
    | cons a r ih =>
      simp only [List.filterMap_cons, List.filter_cons, Function.comp_apply, Int.toNat_natCast, ih]
      cases p a <;> simp
  · intro x hx
    rw [List.mem_map] at hx
    obtain ⟨k, hk, rfl⟩ := hx
    obtain ⟨h1, h2⟩ := h k (List.mem_range.mp hk)
    refine ⟨_, p k, rfl, h1, ?_⟩
    cases hp : p k with
    | true => exact ⟨v k, h2 hp, by simp [hp]⟩
    | false => simp [hp]
theorem compL_on {β : Type} {f : D → Store → Res (Option D)} {g : Store → Bool} (l : List β) (c : β → D) (v : β → D) {S : Store} (hg : g S = true)
    (h : ∀ b ∈ l, f (c b) S = .ok (some (v b)) S) : compL f g (l.map c) S = .ok (l.map v) S := by
  induction l with
  | nil => simp [compL, hg]
  | cons x r ih => simp only [List.map_cons, compL, hg, if_true, h x (by simp), ih fun y hy => h y (by simp [hy]), bind_ok]
theorem compK_on {β : Type} {C : Ctx} {e : Exp} {t : Tg} {ifs : List Tst} {env : Env} {o : Option Nat} {S : Store} (l : List β) (c : β → D) (v : β → D) (hl : l.length ≤ 16777216)
    (h : ∀ b ∈ l, ∃ env', bind1 t (c b) (kill t.ix env) = some env' ∧ evTs C ifs env' S = .ok true S ∧ evE C e env' S = .ok (v b) S) : compK C e t ifs env o (l.map c) S = .ok (l.map v) S := by
  unfold compK
  rw [if_pos (by simpa using hl)]
  refine compL_on l c v (by cases o <;> simp [stands, obAt]) fun x hx => ?_
  obtain ⟨env', h1, h2, h3⟩ := h x hx
  simp only [h1, h2, h3]
@[simp] theorem envBel_oi (n : Nat) (o : Option Int) (r : Env) : envBel n (o.map D.int :: r) = envBel n r := by cases o <;> simp
end Pw
namespace Pw
/-- a comprehension with a test over a known row -/
theorem compK_fon {β : Type} {C : Ctx} {e : Exp} {t : Tg} {ifs : List Tst} {env : Env} {o : Option Nat} {S : Store} (l : List β) (c : β → D) (p : β → Bool) (v : β → D) (hl : l.length ≤ 16777216)
    (h : ∀ b ∈ l, ∃ env', bind1 t (c b) (kill t.ix env) = some env' ∧ evTs C ifs env' S = .ok (p b) S ∧ (p b = true → evE C e env' S = .ok (v b) S)) : compK C e t ifs env o (l.map c) S = .ok ((l.filter p).map v) S := by
  unfold compK
  rw [if_pos (by simpa using hl)]
  have hg : stands o (obAt o S) S = true := by cases o <;> simp [stands, obAt]
  clear hl
  induction l with
  | nil => simp [compL, hg]
  | cons x r ih =>
    obtain ⟨env', h1, h2, h3⟩ := h x (by simp)
    have e := ih fun y hy => h y (by simp [hy])
    cases hp : p x with
    | true =>
      rw [hp] at h2
      simp only [List.map_cons, compL, hg, if_true, h1, h2, h3 hp]
      rw [e, bind_ok, List.filter_cons, hp]; rfl
    | false =>
      rw [hp] at h2
      simp only [List.map_cons, compL, hg, if_true, h1, h2]
      rw [e, bind_ok, List.filter_cons, hp]; rfl
theorem inD_str {α : Type} (s : List Nat) (l : List α) (f : α → List Nat) : inD (.str s) (l.map fun k => .str (f k)) = some (l.any fun k => f k == s) := by
  simp [inD, flatD, feq, List.any_map, Function.comp_def]
end Pw
namespace Pw
theorem seqK_cg {C : Ctx} {r : List Stm} {x x' : Res Flow} (h : x = x') : seqK C r x = seqK C r x' := by rw [h]
theorem forK_cg {C : Ctx} {t : Tg} {body : List Stm} {ks : List Nat} {o o' : Option Nat} {xs xs' : List D} {env env' : Env} {S S' : Store} (ho : o = o') (hx : xs = xs') (he : env = env') (hS : S = S') : forK C t body ks o xs env S = forK C t body ks o' xs' env' S' := by rw [ho, hx, he, hS]
@[simp] theorem putD_nil (k v) : putD k v [] = [(k, v)] := Eq.trans rfl rfl
theorem wp_app2 {C : Ctx} {Q : Flow → Store → Prop} : ∀ (xs ys : List Stm) (env : Env) (S : Store), wp (evSs C xs env S) (fun fl S' => ∃ e, fl = .nx e ∧ wp (evSs C ys e S') Q) → wp (evSs C (xs ++ ys) env S) Q
  | [], ys, env, S, h => by
    simp at h; exact h
  | x :: r, ys, env, S, h => by
    rw [List.cons_append, qSs_1] at *
    unfold seqK at *
    revert h
    cases evS C x env S with
    | exc => exact fun h => nomatch h
    | bad => exact fun h => nomatch h
    | ok fl S1 =>
      simp only [bind_ok]
      cases fl with
      | nx e => exact wp_app2 r ys e S1
      | _ => simp
theorem wp_split {C : Ctx} {Q : Flow → Store → Prop} {b : List Stm} {env : Env} {S : Store} (k : Nat) (E1 : Env) (T1 : Store) (h1 : wp (evSs C (b.take k) env S) fun fl S' => fl = .nx E1 ∧ S' = T1) (h2 : wp (evSs C (b.drop k) E1 T1) Q) : wp (evSs C b env S) Q := by
  rw [← List.take_append_drop k b]
  exact wp_app2 _ _ _ _ (wp_mono h1 fun fl S' h => ⟨E1, h.1, by rw [h.2]; exact h2⟩)
theorem fin_keep {S S' pre : Store} {m : Nat} {o : SO} (h : S' = pre ++ S) (hm : S.length ≤ m) (hg : get S' m = some o) (ho : SO.bel S.length o = false) : fin S S' (.obj m) = .ok (.obj m) S' := by
  subst h
  unfold fin
  split
  · rfl
  · have : (pre ++ S).drop ((pre ++ S).length - S.length) = S := by simp
    rw [this, okOld_refl]
    have hb : D.bel S.length (.obj m) = false := by simp; omega
    simp only [hb, hg, ho, if_true, Bool.false_eq_true, if_false]
/-- a loop that puts one value behind another -/
theorem wp_forapp {C : Ctx} {t : Tg} {body : List Stm} {ks : List Nat} {o : Option Nat} {Q : Flow → Store → Prop} {L : List D} {env : Env} {S : Store} (g : D → D) (acc0 : List D) (T : List D → Store)
    (hS : S = T acc0) (hg : ∀ acc, stands o (obAt o S) (T acc) = true)
    (hs : ∀ x ∈ L, ∀ acc, acc.length ≤ acc0.length + L.length → wp (match bind1 t x env with | some env => evSs C body env (T acc) | none => .bad) (rnd Q ks (T acc) fun e S' => e = env ∧ S' = T (acc ++ [g x])))
    (hq : Q (.nx env) (T (acc0 ++ L.map g))) : wp (forK C t body ks o L env S) Q := by
  refine wp_for (fun i e S' => i ≤ L.length ∧ e = env ∧ S' = T (acc0 ++ (L.take i).map g)) ⟨by omega, rfl, by simpa using hS⟩ (by rintro i e S' ⟨_, _, rfl⟩; exact hg _) ?_ ?_
  · rintro i x e S' hx ⟨hi, rfl, rfl⟩
    have hil : i < L.length := (List.getElem?_eq_some_iff.mp hx).1
    refine wp_mono (hs x (List.mem_of_getElem? hx) _ (by simp; omega)) fun fl S' h => ?_
    have e : acc0 ++ (L.take (i + 1)).map g = acc0 ++ (L.take i).map g ++ [g x] := by rw [List.take_add_one, hx]; simp
    cases fl <;> simp only [rnd] at h ⊢ <;> first | exact ⟨by omega, h.1, by rw [h.2, e]⟩ | exact h
  · rintro e S' ⟨_, rfl, rfl⟩
    rw [List.take_length]; exact hq
end Pw
namespace Pw
theorem okEs_take {xs : List D} (h : okEs xs = true) (k : Nat) : okEs (xs.take k) = true := by
  rw [okEs_all, List.all_eq_true] at *; exact fun x hx => h x (List.mem_of_mem_take hx)
theorem okEs_drop {xs : List D} (h : okEs xs = true) (k : Nat) : okEs (xs.drop k) = true := by
  rw [okEs_all, List.all_eq_true] at *; exact fun x hx => h x (List.mem_of_mem_drop hx)
theorem alls_app {f : D → D → Option Bool} : ∀ {xs ys xs' ys' : List D}, alls f xs ys = some true → alls f xs' ys' = some true → alls f (xs ++ xs') (ys ++ ys') = some true
  | [], [], _, _, _, h => h
  | x :: r, y :: t, _, _, h1, h2 => by
    simp only [alls, List.cons_append] at *
    cases hc : f x y with
    | none => rw [hc] at h1; simp at h1
    | some c =>
      rw [hc] at h1
      simp only [Option.bind_some] at *
      cases hk : alls f r t with
      | none => rw [hk] at h1; simp at h1
      | some k =>
        rw [hk] at h1
        simp at h1
        obtain ⟨rfl, rfl⟩ := h1
        rw [alls_app hk h2]; simp
  | [], _ :: _, _, _, h, _ => by simp [alls] at h
  | _ :: _, [], _, _, h, _ => by simp [alls] at h
theorem alls_refl {f : D → D → Option Bool} : ∀ {xs : List D}, (∀ x ∈ xs, f x x = some true) → alls f xs xs = some true
  | [], _ => rfl
  | x :: r, h => by
    have := alls_refl (f := f) (xs := r) (fun y hy => h y (by simp [hy]))
    simp [alls, h x (by simp), this]
theorem alls_cons {f : D → D → Option Bool} {x y : D} {r t : List D} (h1 : f x y = some true) (h2 : alls f r t = some true) : alls f (x :: r) (y :: t) = some true := by simp [alls, h1, h2]
theorem alls_map {f : D → D → Option Bool} {g : D → D} {xs ys : List D} (h : alls f xs ys = some true) {f' : D → D → Option Bool} (hg : ∀ x y, f x y = some true → f' (g x) (g y) = some true) : alls f' (xs.map g) (ys.map g) = some true := by
  induction xs generalizing ys with
  | nil => cases ys with
    | nil => rfl
    | cons => simp [alls] at h
  | cons x r ih => cases ys with
    | nil => simp [alls] at h
    | cons y t =>
      simp only [alls] at h
      cases hc : f x y with
      | none => rw [hc] at h; simp at h
      | some c =>
        rw [hc] at h
        simp only [Option.bind_some] at h
        cases hk : alls f r t with
        | none => rw [hk] at h; simp at h
        | some k =>
          rw [hk] at h
          simp at h
          obtain ⟨rfl, rfl⟩ := h
          exact alls_cons (hg x y hc) (ih hk)
theorem deq_tup {S : Store} {n : Nat} {xs ys : List D} (h : alls (deq S n) xs ys = some true) (hl : xs.length = ys.length) : deq S (n + 1) (.tup xs) (.tup ys) = some true := by
  simp only [deq, hl, if_true, h]
end Pw
namespace Pw
/-- plain values of bounded depth -/
def plD : Nat → D → Bool
  | _, .non => true
  | _, .bl _ => true
  | _, .int _ => true
  | _, .str _ => true
  | k + 1, .tup xs => decide (xs.length ≤ 16777216) && xs.all (plD k)
  | _, _ => false
theorem deq_refl (S : Store) : ∀ (k : Nat) (d : D), plD k d = true → ∀ n, k < n → deq S n d d = some true
  | k, .non, _, n + 1, _ => by simp [deq]
  | k, .bl _, _, n + 1, _ => by simp [deq]
  | k, .int _, _, n + 1, _ => by simp [deq]
  | k, .str _, _, n + 1, _ => by simp [deq]
  | k + 1, .tup xs, h, n + 1, hn => by
    simp only [plD, Bool.and_eq_true, List.all_eq_true] at h
    exact deq_tup (alls_refl fun x hx => deq_refl S k x (h.2 x hx) n (by omega)) rfl
  | 0, .tup xs, h, _, _ => by simp [plD] at h
  | _, .obj _, h, _, _ => by simp [plD] at h
  | _, .exc _ _, h, _, _ => by simp [plD] at h
theorem pl_mono : ∀ (k : Nat) (d : D), plD k d = true → plD (k + 1) d = true
  | 0, .tup _, h => by simp [plD] at h
  | k + 1, .tup xs, h => by
    simp only [plD, Bool.and_eq_true, List.all_eq_true] at h
    have h2 : ∀ x ∈ xs, plD (k + 1) x = true := fun x hx => pl_mono k x (h.2 x hx)
    rw [plD, Bool.and_eq_true, List.all_eq_true]
    exact ⟨h.1, h2⟩
  | _, .non, _ => by simp [plD]
  | _, .bl _, _ => by simp [plD]
  | _, .int _, _ => by simp [plD]
  | _, .str _, _ => by simp [plD]
  | k, .obj _, h => by cases k <;> simp [plD] at h
  | k, .exc _ _, h => by cases k <;> simp [plD] at h
theorem deq_sm {S : Store} {d : D} (h : plD 3 d = true) {n : Nat} (hn : 3 < n) : deq S n d d = some true := deq_refl S 3 d h n hn
theorem get_rev {l : Store} {T : Store} {k : Nat} {o : SO} (h : l.reverse[k]? = some o) : get (l ++ T) (T.length + k) = some o := by
  induction l generalizing T k with
  | nil => simp at h
  | cons x r ih =>
    rw [List.reverse_cons] at h
    by_cases hk : k < r.reverse.length
    · rw [List.getElem?_append_left hk] at h
      rw [List.cons_append, get_cons, if_neg (by simp at hk ⊢; omega)]
      exact ih h
    · rw [List.getElem?_append_right (by omega)] at h
      have hk2 : k - r.reverse.length = 0 := by
        have := (List.getElem?_eq_some_iff.mp h).1; simp at this; simp; omega
      rw [hk2] at h
      simp at h hk hk2
      rw [List.cons_append, get_cons, if_pos (by simp; omega), h]
theorem lst_eq {S2 : Store} (n x y : Nat) (xs ys : List D) (hx : get S2 x = some (.lst xs)) (hy : get S2 y = some (.lst ys)) (hl : xs.length = ys.length) (ha : alls (deq S2 n) xs ys = some true) : deq S2 (n + 1) (.obj x) (.obj y) = some true := by simp only [deq, hx, hy, hl, if_true, ha]
theorem dct_eq {S2 : Store} (n x y : Nat) (xs ys : List (D × D)) (hx : get S2 x = some (.dct xs)) (hy : get S2 y = some (.dct ys)) (hl : xs.map (·.1) = ys.map (·.1)) (ha : alls (deq S2 n) (xs.map (·.2)) (ys.map (·.2)) = some true) : deq S2 (n + 1) (.obj x) (.obj y) = some true := by simp only [deq, hx, hy, hl, if_true, ha]
theorem sames {S2 : Store} (xs : List D) (n : Nat) (hx : ∀ x ∈ xs, plD 3 x = true) (hn : 3 < n) : alls (deq S2 n) xs xs = some true := alls_refl fun x hx' => deq_sm (hx x hx') hn
theorem tup1 {S2 : Store} (n : Nat) (pre post : List D) (x y : D) (h1 : ∀ z ∈ pre, plD 3 z = true) (h2 : ∀ z ∈ post, plD 3 z = true) (hn : 3 < n) (hxy : deq S2 n x y = some true) : deq S2 (n + 1) (.tup (pre ++ x :: post)) (.tup (pre ++ y :: post)) = some true :=
    deq_tup (alls_app (sames pre n h1 hn) (alls_cons hxy (sames post n h2 hn))) (by simp)
def inB (b : Int) (z : Int) : Prop := 0 ≤ z ∧ z < b
theorem inD_strs (s : List Nat) (l : List (List Nat)) : inD (.str s) (l.map .str) = some (decide (s ∈ l)) := by
  have := inD_str s l id
  simp only [id] at this
  rw [show (l.map fun k => D.str k) = l.map .str from rfl] at this
  rw [this]; congr 1
  rw [Bool.eq_iff_iff]; simp
def gx (ds : List D) (pl : Nat) (x : D) : D := .tup (ds.take pl ++ x :: ds.drop (pl + 1))
theorem mem_gx {ds : List D} {pl : Nat} {x y : D} (h : y ∈ ds.take pl ++ x :: ds.drop (pl + 1)) : y = x ∨ y ∈ ds := by
  simp only [List.mem_append, List.mem_cons] at h
  rcases h with h | h | h
  · exact Or.inr (List.mem_of_mem_take h)
  · exact Or.inl h
  · exact Or.inr (List.mem_of_mem_drop h)
theorem okE_gx {ds : List D} {pl : Nat} {x : D} (hd : okEs ds = true) (hl : ds.length ≤ 1000) (hx : okE x = true) : okE (gx ds pl x) = true := by
  have h1 := okEs_take hd pl
  have h2 := okEs_drop hd (pl + 1)
  simp only [gx, okE_tup, okEs_app, okEs_cons, h1, h2, hx, Bool.and_self, Bool.and_true, decide_eq_true_eq]
  simp; omega
theorem all_gx {f : D → Bool} {ds : List D} {pl : Nat} {x : D} (hx : f x = false) : (ds.take pl ++ x :: ds.drop (pl + 1)).all f = false := List.all_eq_false.mpr ⟨x, by simp, by simp [hx]⟩
theorem gx_eq {S2 : Store} {ds : List D} {pl : Nat} (hp : ∀ x ∈ ds, plD 3 x = true) {x y : D} (h : deq S2 38 x y = some true) : deq S2 39 (gx ds pl x) (gx ds pl y) = some true :=
  tup1 38 _ _ _ _ (fun z hz => hp z (List.mem_of_mem_take hz)) (fun z hz => hp z (List.mem_of_mem_drop hz)) (by omega) h
theorem modN (p : Int) {m : Nat} (h : 0 < m) : ∃ k : Nat, p % (m : Int) = k ∧ k < m := ⟨(p % (m : Int)).toNat, by
    have := Int.emod_nonneg p (show (m : Int) ≠ 0 by omega); omega, by
    have := Int.emod_lt_of_pos p (show 0 < (m : Int) by omega)
    have := Int.emod_nonneg p (show (m : Int) ≠ 0 by omega); omega⟩
theorem minN (a b : Nat) (S : Store) : f2D .min (.int a) (.int b) S = .ok (.int ((min a b : Nat) : Int)) S := by
  rw [f2_min]; congr 2; split <;> omega
theorem maxN (b : Nat) (S : Store) : f2D .max (.int 1) (.int b) S = .ok (.int ((max 1 b : Nat) : Int)) S := by
  rw [f2_max]; congr 2; split <;> omega
theorem okEs_of {d : D} {xs : List D} (h : okE d = true) (e : d = .tup xs) : okEs xs = true := by
  subst e; simp only [okE_tup, Bool.and_eq_true] at h; exact h.2
theorem rngL1 (n : Nat) : rngL 1 (n : Int) = (List.range (n - 1)).map fun i : Nat => .int ((i + 1 : Nat) : Int) := by
  unfold rngL
  rw [show ((n : Int) - 1).toNat = n - 1 by omega]
  apply List.map_congr_left
  intro i _
  congr 1; omega
theorem rng1_at {n i : Nat} {x : D} (h : (rngL 1 (n : Int))[i]? = some x) : i + 1 < n ∧ x = .int ((i + 1 : Nat) : Int) := by
  rw [rngL1, List.getElem?_map] at h
  obtain ⟨k, hk, rfl⟩ := Option.map_eq_some_iff.mp h
  have := (List.getElem?_eq_some_iff.mp hk)
  obtain ⟨h1, h2⟩ := this
  simp at h1 h2
  subst h2
  exact ⟨by omega, rfl⟩
@[simp] theorem rng1_len (n : Nat) : (rngL 1 (n : Int)).length = n - 1 := by rw [rngL1]; simp
@[simp] theorem idx_p1 (x y : Nat) (S : Store) : idxD (.str [x, y]) (.int 1) S = .ok (.str [y]) S := by
  have := idx_s (s := [x, y]) (S := S) (i := 1) (by simp)
  exact this
@[simp] theorem idx_p0 (x y : Nat) (S : Store) : idxD (.str [x, y]) (.int 0) S = .ok (.str [x]) S := by
  have := idx_s (s := [x, y]) (S := S) (i := 0) (by simp)
  exact this
theorem idxG_last {S : Store} {xs : List D} {x : D} : idxG (some (.lst (xs ++ [x]))) (-1) S = .ok x S := by
  simp only [idxG, place]
  rw [if_neg (by decide), if_pos (by simp; omega)]
  simp only [Option.bind_some]
  rw [List.getElem?_append_right (by simp; omega)]
  rw [show (-1 + ((xs ++ [x]).length : Int)).toNat - xs.length = 0 by simp; omega]
  rfl
theorem ext_l {S : Store} {n m : Nat} {xs ys : List D} (h1 : get S n = some (.lst xs)) (h2 : get S m = some (.lst ys)) (hl : xs.length + ys.length ≤ 16777216) : extD (.obj n) (.obj m) S = .ok .non (put S n (.lst (xs ++ ys))) := by
  show (match get S n, get S m with
    | some (.lst xs), some (.lst ys) => if xs.length + ys.length ≤ line then Res.ok D.non (put S n (.lst (xs ++ ys))) else .bad
    | _, _ => .bad) = _
  rw [h1, h2]
  exact if_pos hl
theorem trim_no {S S' : Store} {env : Env} (he : envBel S.length env = false) : trim S S' env = S' := by
  unfold trim
  split
  · rfl
  · rw [he]; rfl
@[simp] theorem iteK_exc (C : Ctx) (a b env c fs S) : iteK C a b env (.exc c fs S) = .ok (.ex c fs env) S := Eq.trans rfl rfl
/-! a changed object -/
theorem getPut (o : SO) (n m : Nat) : ∀ S : Store, get (put S n o) m = if m = n ∧ n < S.length then some o else get S m
  | [] => by simp [put, get]
  | a :: r => by
    have ih := getPut o n m r
    simp only [put_cons, get_cons, List.length_cons]
    by_cases h1 : n = r.length
    · rw [if_pos h1]
      simp only [get_cons]
      by_cases h2 : m = r.length
      · rw [if_pos h2, if_pos ⟨by omega, by omega⟩]
      · rw [if_neg h2, if_neg (by omega), if_neg h2]
    · rw [if_neg h1]
      simp only [get_cons, put_len]
      by_cases h2 : m = r.length
      · rw [if_pos h2, if_neg (by omega), if_pos h2]
      · rw [if_neg h2, if_neg h2, ih]
        by_cases h3 : m = n ∧ n < r.length
        · rw [if_pos h3, if_pos ⟨h3.1, by omega⟩]
        · rw [if_neg h3, if_neg (by omega)]
theorem get_put_self {S : Store} {n : Nat} {o : SO} (h : n < S.length) : get (put S n o) n = some o := by rw [getPut, if_pos ⟨rfl, h⟩]
theorem get_put_ne {S : Store} {n m : Nat} {o : SO} (h : m ≠ n) : get (put S n o) m = get S m := by rw [getPut, if_neg (by omega)]
@[simp] theorem put_put (o u : SO) (n : Nat) : ∀ S : Store, put (put S n o) n u = put S n u
  | [] => rfl
  | a :: r => by
    simp only [put_cons]
    by_cases h1 : n = r.length
    · rw [if_pos h1, if_pos h1]; simp [put_cons, h1]
    · rw [if_neg h1, if_neg h1]; simp [put_cons, h1, put_put o u n r]
theorem put_same {n : Nat} {o : SO} : ∀ {S : Store}, get S n = some o → put S n o = S
  | [], h => rfl
  | a :: r, h => by
    simp only [put_cons, get_cons] at *
    by_cases h1 : n = r.length
    · rw [if_pos h1] at h ⊢; cases h; rfl
    · rw [if_neg h1] at h ⊢; rw [put_same h]
theorem put_app {n : Nat} {o : SO} {S : Store} (h : n < S.length) : ∀ pre : Store, put (pre ++ S) n o = pre ++ put S n o
  | [] => rfl
  | a :: r => by
    rw [List.cons_append, put_cons, if_neg (by simp; omega), put_app h r]; rfl
theorem okOld_put {n m : Nat} {o : SO} (h : SO.bel n o = true) : ∀ S : Store, okOld n S (put S m o) = true
  | [] => rfl
  | a :: r => by
    simp only [put_cons]
    split
    · simp [h]
    · simp [okOld_put h r]
theorem fin_chg {S S' pre T : Store} {d : D} (h : S' = pre ++ T) (hl : T.length = S.length) (hd : D.bel S.length d = true) (ho : okOld S.length S T = true) : fin S S' d = .ok d T := by
  subst h
  unfold fin
  split
  · rename_i h
    have : pre = [] := List.eq_nil_of_length_eq_zero (by simp only [List.length_append] at h; omega)
    rw [this]; rfl
  · have : (pre ++ T).drop ((pre ++ T).length - S.length) = T := by simp [hl]
    rw [this, ho]; simp [hd]
theorem fin_put {S pre : Store} {m : Nat} {o : SO} {d : D} (hd : D.bel S.length d = true) (ho : SO.bel S.length o = true) : fin S (pre ++ put S m o) d = .ok d (put S m o) := fin_chg rfl (by simp) hd (okOld_put ho S)
theorem trim_put {S pre : Store} {m : Nat} {o : SO} {env : Env} (he : envBel S.length env = true) (ho : SO.bel S.length o = true) : trim S (pre ++ put S m o) env = put S m o := trim_chg rfl (by simp) he (okOld_put ho S)
/-! loops that look at each item -/
theorem wp_chk {C : Ctx} {t : Tg} {body : List Stm} {ks : List Nat} {o : Option Nat} {Q : Flow → Store → Prop} {xs : List D} {env : Env} {S : Store} (c : Nat) (p : D → Bool)
    (hs : ∀ x ∈ xs, wp (match bind1 t x env with | some env => evSs C body env S | none => .bad) (fun fl S' => if p x = true then ∃ e, fl = .nx e ∧ kill ks e = env ∧ S' = S else ∃ e, fl = .ex c [] e ∧ S' = S))
    (hq : xs.all p = true → Q (.nx env) S) (hx : xs.all p = false → ∀ e, Q (.ex c [] e) S) : wp (forK C t body ks o xs env S) Q := by
  refine wp_for (fun i e S' => e = env ∧ S' = S ∧ (xs.take i).all p = true) ⟨rfl, rfl, rfl⟩ (by rintro i e S' ⟨_, rfl, _⟩; cases o <;> simp [stands, obAt]) ?_ ?_
  · rintro i x e S' hx' ⟨rfl, rfl, hall⟩
    refine wp_mono (hs x (List.mem_of_getElem? hx')) fun fl S1 h => ?_
    by_cases hp : p x = true
    · rw [if_pos hp] at h
      obtain ⟨e1, rfl, he, rfl⟩ := h
      rw [rnd_nx, he, trim_self]
      exact ⟨rfl, rfl, by rw [List.take_add_one, hx']; simp [hall, hp]⟩
    · rw [if_neg hp] at h
      obtain ⟨e1, rfl, rfl⟩ := h
      rw [rnd_ex]
      exact hx (List.all_eq_false.mpr ⟨x, List.mem_of_getElem? hx', hp⟩) _
  · rintro e S' ⟨rfl, rfl, hall⟩
    rw [List.take_length] at hall
    exact hq hall
theorem wp_find {C : Ctx} {t : Tg} {body : List Stm} {ks : List Nat} {o : Option Nat} {Q : Flow → Store → Prop} {xs : List D} {env : Env} {S : Store} (p : D → Bool) (r : D → D)
    (hs : ∀ x ∈ xs, wp (match bind1 t x env with | some env => evSs C body env S | none => .bad) (fun fl S' => if p x = true then fl = .rt (r x) ∧ S' = S else ∃ e, fl = .nx e ∧ kill ks e = env ∧ S' = S))
    (hq : xs.find? p = none → Q (.nx env) S) (hr : ∀ x, xs.find? p = some x → Q (.rt (r x)) S) : wp (forK C t body ks o xs env S) Q := by
  refine wp_for (fun i e S' => e = env ∧ S' = S ∧ (xs.take i).find? p = none) ⟨rfl, rfl, rfl⟩ (by rintro i e S' ⟨_, rfl, _⟩; cases o <;> simp [stands, obAt]) ?_ ?_
  · rintro i x e S' hx' ⟨rfl, rfl, hall⟩
    refine wp_mono (hs x (List.mem_of_getElem? hx')) fun fl S1 h => ?_
    by_cases hp : p x = true
    · rw [if_pos hp] at h
      obtain ⟨rfl, rfl⟩ := h
      rw [rnd_rt]
      refine hr x ?_
      have e2 : xs = xs.take i ++ x :: xs.drop (i + 1) := by
        obtain ⟨hi, rfl⟩ := List.getElem?_eq_some_iff.mp hx'
        rw [← List.drop_eq_getElem_cons hi, List.take_append_drop]
      rw [e2, List.find?_append, hall]
      simp [hp]
    · rw [if_neg hp] at h
      obtain ⟨e1, rfl, he, rfl⟩ := h
      rw [rnd_nx, he, trim_self]
      exact ⟨rfl, rfl, by rw [List.take_add_one, hx', List.find?_append, hall]; simp [hp]⟩
  · rintro e S' ⟨rfl, rfl, hall⟩
    rw [List.take_length] at hall
    exact hq hall
/-- a loop that only looks, and says nothing -/
theorem wp_see {C : Ctx} {t : Tg} {body : List Stm} {ks : List Nat} {o : Option Nat} {Q : Flow → Store → Prop} {xs : List D} {env : Env} {S : Store}
    (hs : ∀ x ∈ xs, wp (match bind1 t x env with | some env => evSs C body env S | none => .bad) (fun fl S' => ∃ e, fl = .nx e ∧ kill ks e = env ∧ S' = S))
    (hq : Q (.nx env) S) : wp (forK C t body ks o xs env S) Q :=
  wp_find (fun _ => false) id (fun x hx => by simpa using hs x hx) (fun _ => hq) (fun x h => by
    exact absurd (List.find?_some h) (by simp))
/-- the evaluation of a comprehension that changes the store -/
theorem compL_inv {f : D → Store → Res (Option D)} {g : Store → Bool} (I : Nat → List D → Store → Prop) {xs : List D} {S : Store} (hg : ∀ S, g S = true) (h0 : I 0 [] S)
    (hs : ∀ i x ys S, xs[i]? = some x → I i ys S → ∃ y S', f x S = .ok (some y) S' ∧ I (i + 1) (ys ++ [y]) S') : ∃ ys S', compL f g xs S = .ok ys S' ∧ I xs.length ys S' := by
  have key : ∀ (r : List D) (k : Nat) (acc : List D) (S : Store), (∀ i, r[i]? = xs[k + i]?) → k + r.length = xs.length → I k acc S → ∃ ys S', compL f g r S = .ok ys S' ∧ I xs.length (acc ++ ys) S' := by
    intro r
    induction r with
    | nil => intro k acc S _ hl h; exact ⟨[], S, by simp [compL, hg], by simp at hl; subst hl; simpa using h⟩
    | cons x r ih =>
      intro k acc S hr hl h
      obtain ⟨y, S1, e1, h1⟩ := hs k x acc S (by simpa using (hr 0).symm) h
      obtain ⟨ys, S2, e2, h2⟩ := ih (k + 1) (acc ++ [y]) S1 (fun i => by have := hr (i + 1); simp only [List.getElem?_cons_succ] at this; rw [this]; congr 1; omega) (by simp only [List.length_cons] at hl; omega) h1
      exact ⟨y :: ys, S2, by simp only [compL, hg, if_true, e1, e2, bind_ok], by simpa using h2⟩
  obtain ⟨ys, S', h1, h2⟩ := key xs 0 [] S (fun i => by rw [Nat.zero_add]) (Nat.zero_add _) h0
  exact ⟨ys, S', h1, by simpa using h2⟩
theorem compK_inv {C : Ctx} {e : Exp} {t : Tg} {env : Env} {xs : List D} {S : Store} (I : Nat → List D → Store → Prop) (hl : xs.length ≤ 16777216) (h0 : I 0 [] S)
    (hs : ∀ i x ys S, xs[i]? = some x → I i ys S → ∃ env' y S', bind1 t x (kill t.ix env) = some env' ∧ evE C e env' S = .ok y S' ∧ I (i + 1) (ys ++ [y]) S') : ∃ ys S', compK C e t [] env none xs S = .ok ys S' ∧ I xs.length ys S' := by
  unfold compK
  rw [if_pos (show xs.length ≤ line by simpa using hl)]
  refine compL_inv I (fun _ => rfl) h0 fun i x ys S hx h => ?_
  obtain ⟨env', y, S', h1, h2, h3⟩ := hs i x ys S hx h
  exact ⟨y, S', by simp only [h1, qTs_0, h2], h3⟩
/-- a loop that looks at each item of a known row and may give an answer -/
theorem wp_findL {β : Type} {C : Ctx} {t : Tg} {body : List Stm} {ks : List Nat} {o : Option Nat} {Q : Flow → Store → Prop} {env : Env} {S : Store} (l : List β) (c : β → D) (p : β → Bool) (r : β → D)
    (hs : ∀ b ∈ l, wp (match bind1 t (c b) env with | some env => evSs C body env S | none => .bad) (fun fl S' => if p b = true then fl = .rt (r b) ∧ S' = S else ∃ e, fl = .nx e ∧ kill ks e = env ∧ S' = S))
    (hq : l.find? p = none → Q (.nx env) S) (hr : ∀ b, l.find? p = some b → Q (.rt (r b)) S) : wp (forK C t body ks o (l.map c) env S) Q := by
  refine wp_for (fun i e S' => e = env ∧ S' = S ∧ (l.take i).find? p = none) ⟨rfl, rfl, rfl⟩ (by rintro i e S' ⟨_, rfl, _⟩; cases o <;> simp [stands, obAt]) ?_ ?_
  · rintro i x e S' hx' ⟨rfl, rfl, hall⟩
    rw [List.getElem?_map] at hx'
    obtain ⟨b, hb, rfl⟩ := Option.map_eq_some_iff.mp hx'
    refine wp_mono (hs b (List.mem_of_getElem? hb)) fun fl S1 h => ?_
    by_cases hp : p b = true
    · rw [if_pos hp] at h
      obtain ⟨rfl, rfl⟩ := h
      rw [rnd_rt]
      refine hr b ?_
      have e2 : l = l.take i ++ b :: l.drop (i + 1) := by
        obtain ⟨hi, rfl⟩ := List.getElem?_eq_some_iff.mp hb
        rw [← List.drop_eq_getElem_cons hi, List.take_append_drop]
      rw [e2, List.find?_append, hall]
      simp [hp]
    · rw [if_neg hp] at h
      obtain ⟨e1, rfl, he, rfl⟩ := h
      rw [rnd_nx, he, trim_self]
      exact ⟨rfl, rfl, by rw [List.take_add_one, hb, List.find?_append, hall]; simp [hp]⟩
  · rintro e S' ⟨rfl, rfl, hall⟩
    rw [List.length_map, List.take_length] at hall
    exact hq hall
theorem put_rev {T : Store} {k : Nat} {o : SO} : ∀ {l : Store}, k < l.length → put (l.reverse ++ T) (T.length + k) o = (l.set k o).reverse ++ T := by
  intro l
  have : ∀ (r : Store) (k : Nat), k < r.length → put (r ++ T) (T.length + k) o = (r.reverse.set k o).reverse ++ T := by
    intro r
    induction r with
    | nil => intro k h; simp at h
    | cons x r ih =>
      intro k h
      rw [List.cons_append, put_cons]
      by_cases hk : k = r.length
      · rw [if_pos (by simp; omega)]
        subst hk
        simp [List.reverse_cons, List.set_append]
      · rw [if_neg (by simp; omega)]
        simp only [List.length_cons] at h
        rw [ih k (by omega)]
        rw [List.reverse_cons, List.set_append, if_pos (by simp; omega)]
        simp
  intro h
  have h1 := this l.reverse k (by simpa using h)
  rwa [List.reverse_reverse] at h1
theorem find_none_all {α : Type} {p : α → Bool} {l : List α} (h : l.find? p = none) : l.all (fun x => !p x) = true := by
  rw [List.find?_eq_none] at h
  rw [List.all_eq_true]
  intro x hx; simpa using h x hx
end Pw
end
section
set_option Elab.async false
set_option linter.all false
set_option maxRecDepth 100000
set_option maxHeartbeats 0
namespace HT
open PySem PySem.Spec PyProof.Rows L2 Pw
abbrev R : PySem.W.OpenRow := PySem.W.OpenLaw.row PySem.Challenge.rw_pullwire_k31_timely_orders
def top (i : Nat) : Stmt := R.prog.main.body.getD i (.Pass ⟨0, 0, 0, 0⟩)
def gtab : List D := [.str [97, 98, 99, 100, 101, 102, 103, 104, 105, 106, 107, 108, 109, 110, 111, 112, 113, 114, 115, 116, 117, 118, 119, 120, 121, 122], .str [97, 98, 99, 100, 101, 102, 103, 104, 105, 106, 107, 108, 109, 110, 111, 112, 113, 114, 115, 116, 117, 118, 119, 120, 121, 122, 48, 49, 50, 51, 52, 53, 54, 55, 56, 57], .int 8, .int 8, .int 60, .int 600]
def ctab : Classes := [[0, 15], [1, 0, 15], [2, 0, 15], [3, 0, 15], [4, 0, 15], [5, 0, 15], [6, 0, 15], [7, 0, 15], [8, 0, 15], [9, 0, 15], [10, 0, 15], [11, 0, 15], [12, 0, 15], [13, 0, 15], [14, 0, 15], [15]]
/-- is_integer, 0:value -/
def b0 : List Stm :=
  [.ret (.andV (.isI (.v 0) [.int]) (.notV (.isI (.v 0) [.bool])))]
def d0 : Dd := ⟨"is_integer", ["value"], ["value"], defArgs (top 20), defBody (top 20), defScope (top 20), ⟨1, 1, b0⟩⟩
/-- is_integer_in, 0:value 1:low 2:high -/
def b1 : List Stm :=
  [.ret (.andV (.call 0 [.v 0]) (.chn .le .le (.v 1) (.v 0) (.v 2)))]
def d1 : Dd := ⟨"is_integer_in", ["value", "low", "high"], ["value", "low", "high"], defArgs (top 21), defBody (top 21), defScope (top 21), ⟨3, 3, b1⟩⟩
/-- is_name, 0:value 1:sign -/
def b2 : List Stm :=
  [.ite (.or (.not (.val (.isI (.v 0) [.str]))) (.not (.val (.chn .le .le (.c (.int 1)) (.f1 .len (.v 0)) (.g 2))))) [.ret (.c (.bl false))] [],
  .ite (.val (.cmp .nin (.idx (.v 0) (.c (.int 0))) (.g 0))) [.ret (.c (.bl false))] [],
  .ret (.allOf (.comp (.cmp .inn (.v 1) (.g 1)) (.v 1) (.val (.v 0)) []))]
def d2 : Dd := ⟨"is_name", ["value"], ["value", "sign"], defArgs (top 22), defBody (top 22), defScope (top 22), ⟨1, 2, b2⟩⟩
/-- is_ascending, 0:values 1:k -/
def b3 : List Stm :=
  [.ret (.allOf (.comp (.cmp .lt (.idx (.v 0) (.v 1)) (.idx (.v 0) (.bin .add (.v 1) (.c (.int 1))))) (.v 1) (.rng (.bin .sub (.f1 .len (.v 0)) (.c (.int 1)))) []))]
def d3 : Dd := ⟨"is_ascending", ["values"], ["values", "k"], defArgs (top 23), defBody (top 23), defScope (top 23), ⟨1, 2, b3⟩⟩
/-- is_names, 0:value 1:low 2:high 3:name -/
def b4 : List Stm :=
  [.ite (.or (.not (.val (.isI (.v 0) [.tuple]))) (.not (.val (.chn .le .le (.v 1) (.f1 .len (.v 0)) (.v 2))))) [.ret (.c (.bl false))] [],
  .ret (.allOf (.comp (.call 2 [.v 3]) (.v 3) (.val (.v 0)) []))]
def d4 : Dd := ⟨"is_names", ["value", "low", "high"], ["value", "low", "high", "name"], defArgs (top 24), defBody (top 24), defScope (top 24), ⟨3, 4, b4⟩⟩
/-- is_name_row, 0:value 1:low 2:high -/
def b5 : List Stm :=
  [.ret (.andV (.call 4 [.v 0, .v 1, .v 2]) (.call 3 [.v 0]))]
def d5 : Dd := ⟨"is_name_row", ["value", "low", "high"], ["value", "low", "high"], defArgs (top 25), defBody (top 25), defScope (top 25), ⟨3, 3, b5⟩⟩
/-- check_number, 0:value 1:low 2:high -/
def b6 : List Stm :=
  [.ite (.not (.val (.call 1 [.v 0, .v 1, .v 2]))) [.rais 1 []] []]
def d6 : Dd := ⟨"check_number", ["value", "low", "high"], ["value", "low", "high"], defArgs (top 26), defBody (top 26), defScope (top 26), ⟨3, 3, b6⟩⟩
/-- is_gaps, 0:value 1:gap -/
def b7 : List Stm :=
  [.ite (.or (.not (.val (.isI (.v 0) [.tuple]))) (.not (.val (.chn .le .le (.c (.int 1)) (.f1 .len (.v 0)) (.g 3))))) [.ret (.c (.bl false))] [],
  .ret (.allOf (.comp (.call 1 [.v 1, .c (.int 1), .g 4]) (.v 1) (.val (.v 0)) []))]
def d7 : Dd := ⟨"is_gaps", ["value"], ["value", "gap"], defArgs (top 31), defBody (top 31), defScope (top 31), ⟨1, 2, b7⟩⟩
/-- check_gaps, 0:gaps -/
def b8 : List Stm :=
  [.ite (.not (.val (.call 7 [.v 0]))) [.rais 8 []] []]
def d8 : Dd := ⟨"check_gaps", ["gaps"], ["gaps"], defArgs (top 32), defBody (top 32), defScope (top 32), ⟨1, 1, b8⟩⟩
/-- wait_bound, 0:gaps 1:place 2:limit 3:k 4:need 5:wait -/
def b9 : List Stm :=
  [.ex (.call 8 [.v 0]),
  .ex (.call 6 [.v 1, .c (.int 0), .bin .sub (.f1 .len (.v 0)) (.c (.int 1))]),
  .ex (.call 6 [.v 2, .c (.int 1), .g 5]),
  .set (.v 5) (.c (.int 1)),
  .whl (.val (.c (.bl true))) [.set (.v 4) (.bin .add (.c (.int 1)) (.sumOf (.comp (.bin .fdiv (.bin .sub (.bin .add (.v 5) (.idx (.v 0) (.v 3))) (.c (.int 1))) (.idx (.v 0) (.v 3))) (.v 3) (.rng (.v 1)) []))),
    .ite (.val (.cmp .eq (.v 4) (.v 5))) [.ret (.v 5)] [],
    .ite (.val (.cmp .gt (.v 4) (.v 2))) [.ret (.c (.non))] [],
    .set (.v 5) (.v 4)] [4]]
def d9 : Dd := ⟨"wait_bound", ["gaps", "place", "limit"], ["gaps", "place", "limit", "k", "need", "wait"], defArgs (top 33), defBody (top 33), defScope (top 33), ⟨3, 6, b9⟩⟩
/-- is_need, 0:value -/
def b10 : List Stm :=
  [.ite (.or (.not (.val (.isI (.v 0) [.tuple]))) (.or (.val (.cmp .ne (.f1 .len (.v 0)) (.c (.int 3)))) (.not (.val (.call 2 [.idx (.v 0) (.c (.int 0))]))))) [.ret (.c (.bl false))] [],
  .ret (.andV (.call 1 [.idx (.v 0) (.c (.int 1)), .c (.int 1), .g 4]) (.call 1 [.idx (.v 0) (.c (.int 2)), .c (.int 1), .idx (.v 0) (.c (.int 1))]))]
def d10 : Dd := ⟨"is_need", ["value"], ["value"], defArgs (top 35), defBody (top 35), defScope (top 35), ⟨1, 1, b10⟩⟩
/-- is_needs, 0:value 1:need -/
def b11 : List Stm :=
  [.ite (.or (.not (.val (.isI (.v 0) [.tuple]))) (.not (.val (.chn .le .le (.c (.int 1)) (.f1 .len (.v 0)) (.g 3))))) [.ret (.c (.bl false))] [],
  .ite (.not (.val (.allOf (.comp (.call 10 [.v 1]) (.v 1) (.val (.v 0)) [])))) [.ret (.c (.bl false))] [],
  .ret (.call 3 [.ls (.comp (.idx (.v 1) (.c (.int 0))) (.v 1) (.val (.v 0)) [])])]
def d11 : Dd := ⟨"is_needs", ["value"], ["value", "need"], defArgs (top 36), defBody (top 36), defScope (top 36), ⟨1, 2, b11⟩⟩
/-- check_needs, 0:needs -/
def b12 : List Stm :=
  [.ite (.not (.val (.call 11 [.v 0]))) [.rais 8 []] []]
def d12 : Dd := ⟨"check_needs", ["needs"], ["needs"], defArgs (top 37), defBody (top 37), defScope (top 37), ⟨1, 1, b12⟩⟩
/-- is_timely_behind, 0:needs 1:chip 2:others 3:gaps 4:need 5:own -/
def b13 : List Stm :=
  [.set (.v 3) (.tupOf (.comp (.idx (.v 4) (.c (.int 1))) (.v 4) (.val (.v 0)) [.and (.val (.cmp .ne (.idx (.v 4) (.c (.int 0))) (.v 1))) (.val (.cmp .inn (.idx (.v 4) (.c (.int 0))) (.v 2)))])),
  .set (.v 5) (.ls (.comp (.v 4) (.v 4) (.val (.v 0)) [.val (.cmp .eq (.idx (.v 4) (.c (.int 0))) (.v 1))])),
  .ret (.cmp .isn (.call 9 [.bin .add (.v 3) (.tup [.idx (.idx (.v 5) (.c (.int 0))) (.c (.int 1))]), .f1 .len (.v 3), .idx (.idx (.v 5) (.c (.int 0))) (.c (.int 2))]) (.c (.non)))]
def d13 : Dd := ⟨"is_timely_behind", ["needs", "chip", "others"], ["needs", "chip", "others", "gaps", "need", "own"], defArgs (top 38), defBody (top 38), defScope (top 38), ⟨3, 6, b13⟩⟩
/-- timely_order, 0:needs 1:able 2:chip 3:left 4:need 5:order -/
def b14 : List Stm :=
  [.ex (.call 12 [.v 0]),
  .set (.v 3) (.ls (.comp (.idx (.v 4) (.c (.int 0))) (.v 4) (.val (.v 0)) [])),
  .set (.v 5) (.ls (.disp [])),
  .whl (.val (.cmp .gt (.f1 .len (.v 3)) (.c (.int 0)))) [.set (.v 1) (.ls (.comp (.v 2) (.v 2) (.val (.v 3)) [.val (.call 13 [.v 0, .v 2, .v 3])])),
    .ite (.val (.cmp .eq (.f1 .len (.v 1)) (.c (.int 0)))) [.ret (.tup [.c (.str [108, 97, 116, 101]), .tupOf (.seq (.v 3))])] [],
    .ex (.app (.v 5) (.idx (.v 1) (.neg (.c (.int 1))))),
    .set (.v 3) (.ls (.comp (.v 2) (.v 2) (.val (.v 3)) [.val (.cmp .ne (.v 2) (.idx (.v 1) (.neg (.c (.int 1)))))]))] [1],
  .ret (.tup [.c (.str [111, 114, 100, 101, 114]), .tupOf (.seq (.rev (.v 5)))])]
def d14 : Dd := ⟨"timely_order", ["needs"], ["needs", "able", "chip", "left", "need", "order"], defArgs (top 39), defBody (top 39), defScope (top 39), ⟨1, 6, b14⟩⟩
/-- is_timely, 0:needs 1:order 2:chip 3:k 4:names 5:need -/
def b15 : List Stm :=
  [.ex (.call 12 [.v 0]),
  .set (.v 4) (.ls (.comp (.idx (.v 5) (.c (.int 0))) (.v 5) (.val (.v 0)) [])),
  .ite (.or (.not (.val (.isI (.v 1) [.tuple]))) (.not (.val (.allOf (.comp (.isI (.v 2) [.str]) (.v 2) (.val (.v 1)) []))))) [.ret (.c (.bl false))] [],
  .ite (.val (.cmp .ne (.sorted (.seq (.v 1))) (.v 4))) [.ret (.c (.bl false))] [],
  .ret (.allOf (.comp (.call 13 [.v 0, .idx (.v 1) (.v 3), .sl (.v 1) none (some (.v 3))]) (.v 3) (.rng (.f1 .len (.v 1))) []))]
def d15 : Dd := ⟨"is_timely", ["needs", "order"], ["needs", "order", "chip", "k", "names", "need"], defArgs (top 40), defBody (top 40), defScope (top 40), ⟨2, 6, b15⟩⟩
/-- is_late, 0:needs 1:chips 2:chip 3:names 4:need -/
def b16 : List Stm :=
  [.ex (.call 12 [.v 0]),
  .set (.v 3) (.ls (.comp (.idx (.v 4) (.c (.int 0))) (.v 4) (.val (.v 0)) [])),
  .ite (.or (.not (.val (.call 5 [.v 1, .c (.int 1), .g 3]))) (.not (.val (.allOf (.comp (.cmp .inn (.v 2) (.v 3)) (.v 2) (.val (.v 1)) []))))) [.ret (.c (.bl false))] [],
  .ret (.notV (.anyOf (.comp (.call 13 [.v 0, .v 2, .v 1]) (.v 2) (.val (.v 1)) [])))]
def d16 : Dd := ⟨"is_late", ["needs", "chips"], ["needs", "chips", "chip", "names", "need"], defArgs (top 41), defBody (top 41), defScope (top 41), ⟨2, 5, b16⟩⟩
/-- _law_cell, 0:script 1:k -/
def b17 : List Stm :=
  [.ite (.val (.cmp .lt (.v 1) (.f1 .len (.v 0)))) [.ret (.f1 .int (.idx (.v 0) (.v 1)))] [],
  .ite (.val (.cmp .gt (.f1 .len (.v 0)) (.c (.int 0)))) [.ret (.bin .add (.bin .add (.bin .mul (.bin .mod (.f1 .int (.idx (.v 0) (.c (.int 0)))) (.c (.int 1000003))) (.bin .add (.v 1) (.c (.int 3)))) (.bin .mul (.c (.int 11)) (.v 1))) (.f1 .len (.v 0)))] [],
  .ret (.bin .add (.bin .mul (.c (.int 9)) (.v 1)) (.c (.int 4)))]
def d17 : Dd := ⟨"_law_cell", ["script", "k"], ["script", "k"], defArgs (top 43), defBody (top 43), defScope (top 43), ⟨2, 2, b17⟩⟩
/-- _law_numbers, 0:cell 1:base 2:count 3:by_digits 4:k 5:numbers 6:rest 7:seed -/
def b18 : List Stm :=
  [.set (.v 5) (.ls (.disp [])),
  .set (.v 6) (.f1 .int (.v 0)),
  .set (.v 7) (.bin .mod (.f1 .int (.v 0)) (.c (.int 2305843009213693951))),
  .set (.v 3) (.cmp .ge (.v 6) (.bin .pow (.c (.int 10)) (.c (.int 18)))),
  .forS (.v 4) (.rng (.v 2)) [.ite (.val (.v 3)) [.ex (.app (.v 5) (.bin .mod (.f1 .int (.v 6)) (.v 1))),
      .set (.v 6) (.bin .fdiv (.v 6) (.v 1))] [.set (.v 7) (.bin .mod (.f1 .int (.bin .add (.bin .add (.bin .mul (.v 7) (.c (.int 48271))) (.bin .mul (.c (.int 40692)) (.v 4))) (.c (.int 11)))) (.c (.int 2305843009213693951))),
      .set (.v 7) (.bin .mod (.f1 .int (.bin .add (.bin .mul (.v 7) (.c (.int 69621))) (.c (.int 7)))) (.c (.int 2305843009213693951))),
      .ex (.app (.v 5) (.bin .mod (.f1 .int (.bin .fdiv (.v 7) (.c (.int 4096)))) (.v 1)))]] [4],
  .ret (.v 5)]
def d18 : Dd := ⟨"_law_numbers", ["cell", "base", "count"], ["cell", "base", "count", "by_digits", "k", "numbers", "rest", "seed"], defArgs (top 44), defBody (top 44), defScope (top 44), ⟨3, 8, b18⟩⟩
/-- _law_name, 0:number 1:size 2:k 3:letters 4:name 5:rest 6:signs -/
def b19 : List Stm :=
  [.set (.v 3) (.c (.str [97, 98, 99, 100, 101, 102, 103, 104, 105, 106, 107, 108, 109, 110, 111, 112, 113, 114, 115, 116, 117, 118, 119, 120, 121, 122])),
  .set (.v 6) (.bin .add (.v 3) (.c (.str [48, 49, 50, 51, 52, 53, 54, 55, 56, 57]))),
  .set (.v 4) (.idx (.v 3) (.bin .mod (.f1 .int (.v 0)) (.c (.int 26)))),
  .set (.v 5) (.bin .fdiv (.f1 .int (.v 0)) (.c (.int 26))),
  .forS (.v 2) (.rng (.bin .sub (.v 1) (.c (.int 1)))) [.set (.v 4) (.bin .add (.v 4) (.idx (.v 6) (.bin .mod (.f1 .int (.v 5)) (.c (.int 36))))),
    .set (.v 5) (.bin .fdiv (.v 5) (.c (.int 36)))] [2],
  .ret (.v 4)]
def d19 : Dd := ⟨"_law_name", ["number", "size"], ["number", "size", "k", "letters", "name", "rest", "signs"], defArgs (top 45), defBody (top 45), defScope (top 45), ⟨2, 7, b19⟩⟩
/-- _law_names, 0:cell 1:count 2:k 3:met 4:name 5:numbers 6:place 7:signs 8:size 9:stem -/
def b20 : List Stm :=
  [.set (.v 7) (.c (.str [48, 49, 50, 51, 52, 53, 54, 55, 56, 57, 97, 98, 99, 100, 101, 102, 103, 104, 105, 106, 107, 108, 109, 110, 111, 112, 113, 114, 115, 116, 117, 118, 119, 120, 121, 122])),
  .set (.v 5) (.call 18 [.v 0, .bin .mul (.c (.int 2)) (.bin .pow (.c (.int 10)) (.c (.int 13))), .c (.int 13)]),
  .set (.v 8) (.bin .add (.c (.int 2)) (.bin .mod (.f1 .int (.bin .fdiv (.idx (.v 5) (.c (.int 12))) (.c (.int 2)))) (.c (.int 7)))),
  .set (.v 6) (.bin .add (.c (.int 1)) (.bin .mod (.f1 .int (.bin .fdiv (.idx (.v 5) (.c (.int 12))) (.c (.int 14)))) (.bin .sub (.v 8) (.c (.int 1))))),
  .set (.v 9) (.call 19 [.bin .fdiv (.idx (.v 5) (.c (.int 12))) (.c (.int 84)), .v 8]),
  .set (.v 3) (.dct []),
  .forS (.v 2) (.rng (.v 1)) [.set (.v 4) (.call 19 [.bin .fdiv (.idx (.v 5) (.v 2)) (.c (.int 8)), .bin .add (.c (.int 1)) (.bin .mod (.f1 .int (.idx (.v 5) (.v 2))) (.c (.int 8)))]),
    .ite (.val (.cmp .eq (.bin .mod (.f1 .int (.idx (.v 5) (.c (.int 12)))) (.c (.int 2))) (.c (.int 1)))) [.set (.v 4) (.bin .add (.bin .add (.sl (.v 9) none (some (.v 6))) (.idx (.v 7) (.bin .add (.bin .mul (.c (.int 3)) (.v 2)) (.bin .mod (.f1 .int (.idx (.v 5) (.v 2))) (.c (.int 3)))))) (.sl (.v 9) (some (.bin .add (.v 6) (.c (.int 1)))) none))] [],
    .setIx (.v 3) (.v 4) (.c (.bl true))] [2, 4],
  .ret (.sorted (.keys (.v 3)))]
def d20 : Dd := ⟨"_law_names", ["cell", "count"], ["cell", "count", "k", "met", "name", "numbers", "place", "signs", "size", "stem"], defArgs (top 46), defBody (top 46), defScope (top 46), ⟨2, 10, b20⟩⟩
/-- _law_same, 0:actual 1:due 2:k -/
def b21 : List Stm :=
  [.ite (.val (.cmp .is (.v 1) (.c (.non)))) [.ret (.cmp .is (.v 0) (.c (.non)))] [],
  .ite (.val (.isI (.v 1) [.tuple])) [.ite (.or (.not (.val (.isI (.v 0) [.tuple]))) (.val (.cmp .ne (.f1 .len (.v 0)) (.f1 .len (.v 1))))) [.ret (.c (.bl false))] [],
    .ret (.allOf (.comp (.call 21 [.idx (.v 0) (.v 2), .idx (.v 1) (.v 2)]) (.v 2) (.rng (.f1 .len (.v 1))) []))] [],
  .ite (.val (.isI (.v 1) [.bool])) [.ret (.andV (.isI (.v 0) [.bool]) (.cmp .eq (.v 0) (.v 1)))] [],
  .ite (.val (.isI (.v 1) [.int])) [.ret (.andV (.isI (.v 0) [.int]) (.andV (.notV (.isI (.v 0) [.bool])) (.cmp .eq (.v 0) (.v 1))))] [],
  .ret (.andV (.isI (.v 0) [.str]) (.cmp .eq (.v 0) (.v 1)))]
def d21 : Dd := ⟨"_law_same", ["actual", "due"], ["actual", "due", "k"], defArgs (top 47), defBody (top 47), defScope (top 47), ⟨2, 3, b21⟩⟩
/-- _law_needs, 0:script 1:start 2:count 3:gap 4:k 5:mode 6:names 7:needs 8:numbers 9:time -/
def b22 : List Stm :=
  [.set (.v 6) (.call 20 [.call 17 [.v 0, .c (.int 1)], .bin .add (.c (.int 1)) (.bin .mod (.f1 .int (.v 1)) (.c (.int 8)))]),
  .set (.v 8) (.call 18 [.call 17 [.v 0, .c (.int 2)], .c (.int 3600), .c (.int 8)]),
  .set (.v 5) (.bin .mod (.f1 .int (.bin .fdiv (.v 1) (.c (.int 8)))) (.c (.int 4))),
  .set (.v 2) (.f1 .len (.v 6)),
  .set (.v 7) (.ls (.disp [])),
  .forS (.v 4) (.rng (.v 2)) [.set (.v 3) (.bin .add (.c (.int 1)) (.bin .mod (.f1 .int (.idx (.v 8) (.v 4))) (.c (.int 60)))),
    .set (.v 9) (.bin .add (.c (.int 1)) (.bin .mod (.f1 .int (.bin .fdiv (.idx (.v 8) (.v 4)) (.c (.int 60)))) (.v 3))),
    .ite (.val (.cmp .gt (.v 5) (.c (.int 0)))) [.set (.v 3) (.f2 .min (.c (.int 60)) (.bin .add (.v 2) (.bin .mod (.f1 .int (.idx (.v 8) (.v 4))) (.bin .mul (.c (.int 3)) (.v 2)))))] [],
    .ite (.val (.cmp .eq (.v 5) (.c (.int 1)))) [.set (.v 9) (.v 3)] [],
    .ite (.val (.cmp .eq (.v 5) (.c (.int 2)))) [.set (.v 9) (.f2 .max (.c (.int 1)) (.bin .sub (.v 3) (.bin .mod (.f1 .int (.bin .fdiv (.idx (.v 8) (.v 4)) (.c (.int 60)))) (.c (.int 5)))))] [],
    .ite (.val (.cmp .eq (.v 5) (.c (.int 3)))) [.set (.v 9) (.f2 .min (.v 3) (.bin .add (.c (.int 1)) (.bin .mod (.f1 .int (.bin .fdiv (.idx (.v 8) (.v 4)) (.c (.int 60)))) (.bin .add (.v 2) (.c (.int 1))))))] [],
    .ex (.app (.v 7) (.tup [.idx (.v 6) (.v 4), .v 3, .v 9]))] [3, 4, 9],
  .ret (.tupOf (.seq (.v 7)))]
def d22 : Dd := ⟨"_law_needs", ["script", "start"], ["script", "start", "count", "gap", "k", "mode", "names", "needs", "numbers", "time"], defArgs (top 48), defBody (top 48), defScope (top 48), ⟨2, 10, b22⟩⟩
/-- _law_in_time, 0:needs 1:chip 2:others 3:memo 4:gap 5:gaps 6:key 7:known 8:need 9:times 10:wait -/
def b23 : List Stm :=
  [.set (.v 6) (.tup [.v 1, .tupOf (.seq (.sorted (.seq (.v 2))))]),
  .ite (.val (.cmp .nin (.v 6) (.v 3))) [.set (.v 5) (.ls (.comp (.idx (.v 8) (.c (.int 1))) (.v 8) (.val (.v 0)) [.and (.val (.cmp .inn (.idx (.v 8) (.c (.int 0))) (.v 2))) (.val (.cmp .ne (.idx (.v 8) (.c (.int 0))) (.v 1)))])),
    .set (.v 9) (.ls (.comp (.idx (.v 8) (.c (.int 2))) (.v 8) (.val (.v 0)) [.val (.cmp .eq (.idx (.v 8) (.c (.int 0))) (.v 1))])),
    .set (.v 7) (.c (.bl false)),
    .forS (.v 10) (.rng2 (.c (.int 1)) (.bin .add (.idx (.v 9) (.c (.int 0))) (.c (.int 1)))) [.set (.v 8) (.bin .add (.c (.int 1)) (.sumOf (.comp (.bin .fdiv (.bin .sub (.bin .add (.v 10) (.v 4)) (.c (.int 1))) (.v 4)) (.v 4) (.val (.v 5)) []))),
      .ite (.val (.cmp .eq (.v 8) (.v 10))) [.set (.v 7) (.c (.bl true))] [],
      .ite (.or (.val (.cmp .eq (.v 8) (.v 10))) (.val (.cmp .gt (.v 8) (.idx (.v 9) (.c (.int 0)))))) [.brk] []] [8, 10],
    .setIx (.v 3) (.v 6) (.v 7)] [],
  .ret (.idx (.v 3) (.v 6))]
def d23 : Dd := ⟨"_law_in_time", ["needs", "chip", "others", "memo"], ["needs", "chip", "others", "memo", "gap", "gaps", "key", "known", "need", "times", "wait"], defArgs (top 49), defBody (top 49), defScope (top 49), ⟨4, 11, b23⟩⟩
/-- _law_order, 0:needs 1:memo 2:able 3:chip 4:last 5:left 6:need 7:order 8:turn -/
def b24 : List Stm :=
  [.set (.v 5) (.ls (.comp (.idx (.v 6) (.c (.int 0))) (.v 6) (.val (.v 0)) [])),
  .set (.v 7) (.ls (.disp [])),
  .forS (.v 8) (.rng (.f1 .len (.v 0))) [.set (.v 2) (.ls (.comp (.v 3) (.v 3) (.val (.v 5)) [.val (.call 23 [.v 0, .v 3, .v 5, .v 1])])),
    .ite (.val (.cmp .eq (.f1 .len (.v 2)) (.c (.int 0)))) [.ret (.tup [.c (.str [108, 97, 116, 101]), .tupOf (.seq (.v 5))])] [],
    .set (.v 4) (.idx (.v 2) (.bin .sub (.f1 .len (.v 2)) (.c (.int 1)))),
    .set (.v 7) (.bin .add (.ls (.disp [.v 4])) (.v 7)),
    .set (.v 5) (.ls (.comp (.v 3) (.v 3) (.val (.v 5)) [.val (.cmp .ne (.v 3) (.v 4))]))] [2, 4, 8],
  .ret (.tup [.c (.str [111, 114, 100, 101, 114]), .tupOf (.seq (.v 7))])]
def d24 : Dd := ⟨"_law_order", ["needs", "memo"], ["needs", "memo", "able", "chip", "last", "left", "need", "order", "turn"], defArgs (top 50), defBody (top 50), defScope (top 50), ⟨2, 9, b24⟩⟩
/-- _law_are_chips, 0:needs 1:value 2:chip 3:names 4:need -/
def b25 : List Stm :=
  [.ite (.not (.val (.isI (.v 1) [.tuple]))) [.ret (.c (.bl false))] [],
  .set (.v 3) (.ls (.comp (.idx (.v 4) (.c (.int 0))) (.v 4) (.val (.v 0)) [])),
  .forS (.v 2) (.val (.v 1)) [.ite (.or (.not (.val (.isI (.v 2) [.str]))) (.val (.cmp .nin (.v 2) (.v 3)))) [.ret (.c (.bl false))] []] [2],
  .ret (.c (.bl true))]
def d25 : Dd := ⟨"_law_are_chips", ["needs", "value"], ["needs", "value", "chip", "names", "need"], defArgs (top 51), defBody (top 51), defScope (top 51), ⟨2, 5, b25⟩⟩
/-- _law_is_timely, 0:needs 1:value 2:memo 3:k -/
def b26 : List Stm :=
  [.ite (.or (.not (.val (.call 25 [.v 0, .v 1]))) (.val (.cmp .ne (.f1 .len (.v 1)) (.f1 .len (.v 0))))) [.ret (.c (.bl false))] [],
  .forS (.v 3) (.rng (.f1 .len (.v 1))) [.ite (.or (.val (.cmp .inn (.idx (.v 1) (.v 3)) (.sl (.v 1) none (some (.v 3))))) (.not (.val (.call 23 [.v 0, .idx (.v 1) (.v 3), .sl (.v 1) none (some (.v 3)), .v 2])))) [.ret (.c (.bl false))] []] [3],
  .ret (.c (.bl true))]
def d26 : Dd := ⟨"_law_is_timely", ["needs", "value", "memo"], ["needs", "value", "memo", "k"], defArgs (top 52), defBody (top 52), defScope (top 52), ⟨3, 4, b26⟩⟩
/-- _law_is_late, 0:needs 1:value 2:memo 3:chip 4:k -/
def b27 : List Stm :=
  [.ite (.or (.not (.val (.call 25 [.v 0, .v 1]))) (.val (.cmp .eq (.f1 .len (.v 1)) (.c (.int 0))))) [.ret (.c (.bl false))] [],
  .forS (.v 4) (.rng (.bin .sub (.f1 .len (.v 1)) (.c (.int 1)))) [.ite (.not (.val (.cmp .lt (.idx (.v 1) (.v 4)) (.idx (.v 1) (.bin .add (.v 4) (.c (.int 1))))))) [.ret (.c (.bl false))] []] [4],
  .ret (.notV (.anyOf (.comp (.call 23 [.v 0, .v 3, .v 1, .v 2]) (.v 3) (.val (.v 1)) [])))]
def d27 : Dd := ⟨"_law_is_late", ["needs", "value", "memo"], ["needs", "value", "memo", "chip", "k"], defArgs (top 53), defBody (top 53), defScope (top 53), ⟨3, 5, b27⟩⟩
/-- _law_all_orders, 0:names 1:longer 2:name 3:order 4:orders 5:turn -/
def b28 : List Stm :=
  [.set (.v 4) (.ls (.disp [.tup []])),
  .forS (.v 5) (.rng (.f1 .len (.v 0))) [.set (.v 1) (.ls (.disp [])),
    .forS (.v 3) (.val (.v 4)) [.forS (.v 2) (.val (.v 0)) [.ite (.val (.cmp .nin (.v 2) (.v 3))) [.ex (.app (.v 1) (.bin .add (.v 3) (.tup [.v 2])))] []] [2]] [2, 3],
    .set (.v 4) (.v 1)] [1, 2, 3, 5],
  .ret (.v 4)]
def d28 : Dd := ⟨"_law_all_orders", ["names"], ["names", "longer", "name", "order", "orders", "turn"], defArgs (top 54), defBody (top 54), defScope (top 54), ⟨1, 6, b28⟩⟩
/-- _law_all_sets, 0:names 1:name 2:row 3:sets -/
def b29 : List Stm :=
  [.set (.v 3) (.ls (.disp [.tup []])),
  .forS (.v 1) (.val (.v 0)) [.set (.v 3) (.bin .add (.v 3) (.ls (.comp (.bin .add (.v 2) (.tup [.v 1])) (.v 2) (.val (.v 3)) [])))] [1],
  .ret (.v 3)]
def d29 : Dd := ⟨"_law_all_sets", ["names"], ["names", "name", "row", "sets"], defArgs (top 55), defBody (top 55), defScope (top 55), ⟨1, 4, b29⟩⟩
/-- _law_values, 0:needs 1:due 2:numbers 3:chips 4:k 5:names 6:need 7:number 8:values -/
def b30 : List Stm :=
  [.set (.v 5) (.ls (.comp (.idx (.v 6) (.c (.int 0))) (.v 6) (.val (.v 0)) [])),
  .set (.v 3) (.idx (.v 1) (.c (.int 1))),
  .set (.v 8) (.ls (.disp [.v 3, .tupOf (.seq (.v 5)), .rev (.v 3), .bin .add (.v 3) (.tup [.idx (.v 3) (.c (.int 0))]), .sl (.v 3) (some (.c (.int 1))) none, .sl (.v 3) none (some (.bin .sub (.f1 .len (.v 3)) (.c (.int 1)))), .ls (.seq (.v 3)), .idx (.v 3) (.c (.int 0))])),
  .set (.v 8) (.bin .add (.v 8) (.ls (.disp [.c (.non), .c (.bl true), .c (.int 0), .c (.str []), .dct [], .tup [.c (.int 1)], .tup [.ls (.disp [])], .tup [.c (.non)], .tup [.tup [.idx (.v 3) (.c (.int 0))]], .dct [.idx (.v 3) (.c (.int 0)), .c (.int 1)], .bin .add (.sl (.v 3) (some (.c (.int 1))) none) (.tup [.c (.str [122, 122, 122, 122, 122, 122, 122, 122, 122])]), .bin .add (.sl (.v 3) (some (.c (.int 1))) none) (.tup [.c (.str [122, 122])])]))),
  .forS (.v 4) (.rng (.bin .sub (.f1 .len (.v 3)) (.c (.int 1)))) [.ex (.app (.v 8) (.bin .add (.bin .add (.sl (.v 3) none (some (.v 4))) (.tup [.idx (.v 3) (.bin .add (.v 4) (.c (.int 1))), .idx (.v 3) (.v 4)])) (.sl (.v 3) (some (.bin .add (.v 4) (.c (.int 2)))) none))),
    .ex (.app (.v 8) (.bin .add (.sl (.v 3) none (some (.v 4))) (.sl (.v 3) (some (.bin .add (.v 4) (.c (.int 1)))) none))),
    .ex (.app (.v 8) (.bin .add (.bin .add (.sl (.v 3) none (some (.v 4))) (.tup [.idx (.v 3) (.bin .add (.v 4) (.c (.int 1)))])) (.sl (.v 3) (some (.bin .add (.v 4) (.c (.int 1)))) none)))] [],
  .forS (.v 7) (.val (.v 2)) [.ex (.app (.v 8) (.tupOf (.comp (.idx (.v 5) (.v 4)) (.v 4) (.rng (.f1 .len (.v 5))) [.val (.cmp .eq (.bin .mod (.f1 .int (.bin .shr (.v 7) (.v 4))) (.c (.int 2))) (.c (.int 1)))])))] [7],
  .ret (.v 8)]
def d30 : Dd := ⟨"_law_values", ["needs", "due", "numbers"], ["needs", "due", "numbers", "chips", "k", "names", "need", "number", "values"], defArgs (top 56), defBody (top 56), defScope (top 56), ⟨3, 9, b30⟩⟩
/-- _law_judges_hold, 0:needs 1:values 2:memo 3:value -/
def b31 : List Stm :=
  [.forS (.v 3) (.val (.v 1)) [.ite (.not (.val (.call 21 [.call 15 [.v 0, .v 3], .call 26 [.v 0, .v 3, .v 2]]))) [.ret (.c (.bl false))] [],
    .ite (.not (.val (.call 21 [.call 16 [.v 0, .v 3], .call 27 [.v 0, .v 3, .v 2]]))) [.ret (.c (.bl false))] []] [3],
  .ret (.c (.bl true))]
def d31 : Dd := ⟨"_law_judges_hold", ["needs", "values", "memo"], ["needs", "values", "memo", "value"], defArgs (top 57), defBody (top 57), defScope (top 57), ⟨3, 4, b31⟩⟩
/-- _law_spoilt, 0:needs 1:place 2:gap 3:k 4:last 5:name 6:nine 7:time 8:values 9:wrong -/
def b32 : List Stm :=
  [.set (.tup [5, 2, 7]) (.idx (.v 0) (.v 1)),
  .set (.v 4) (.idx (.v 0) (.bin .sub (.f1 .len (.v 0)) (.c (.int 1)))),
  .set (.v 6) (.tupOf (.comp (.tup [.bin .add (.c (.str [110])) (.idx (.c (.str [48, 49, 50, 51, 52, 53, 54, 55, 56])) (.v 3)), .c (.int 9), .c (.int 1)]) (.v 3) (.rng (.c (.int 9))) [])),
  .set (.v 8) (.ls (.disp [.c (.non), .c (.bl true), .c (.int 5), .c (.str []), .tup [], .ls (.disp []), .dct [], .ls (.seq (.v 0)), .idx (.v 0) (.v 1), .bin .add (.v 0) (.tup [.v 4]), .bin .add (.v 0) (.tup [.c (.non)]), .v 6])),
  .ite (.val (.cmp .gt (.f1 .len (.v 0)) (.c (.int 1)))) [.ex (.app (.v 8) (.rev (.v 0)))] [],
  .forS (.v 9) (.val (.ls (.disp [.ls (.disp [.v 5, .v 2, .v 7]), .tup [.v 5, .v 2], .tup [.v 5, .v 2, .v 7, .v 7], .tup [.v 2, .v 5, .v 7], .v 5]))) [.ex (.app (.v 8) (.bin .add (.bin .add (.sl (.v 0) none (some (.v 1))) (.tup [.v 9])) (.sl (.v 0) (some (.bin .add (.v 1) (.c (.int 1)))) none)))] [9],
  .forS (.v 9) (.val (.ls (.disp [.c (.int 0), .c (.int 61), .neg (.c (.int 1)), .c (.bl true), .c (.non), .c (.str [57]), .tup [.v 2], .c (.int 600)]))) [.ex (.app (.v 8) (.bin .add (.bin .add (.sl (.v 0) none (some (.v 1))) (.tup [.tup [.v 5, .v 9, .c (.int 1)]])) (.sl (.v 0) (some (.bin .add (.v 1) (.c (.int 1)))) none)))] [9],
  .forS (.v 9) (.val (.ls (.disp [.c (.int 0), .bin .add (.v 2) (.c (.int 1)), .neg (.c (.int 1)), .c (.bl true), .c (.non), .c (.str [49]), .ls (.disp [.v 7]), .c (.int 61)]))) [.ex (.app (.v 8) (.bin .add (.bin .add (.sl (.v 0) none (some (.v 1))) (.tup [.tup [.v 5, .v 2, .v 9]])) (.sl (.v 0) (some (.bin .add (.v 1) (.c (.int 1)))) none)))] [9],
  .forS (.v 9) (.val (.ls (.disp [.sl (.bin .add (.idx (.v 4) (.c (.int 0))) (.c (.str [48, 48, 48, 48, 48, 48, 48, 48]))) none (some (.c (.int 9))), .bin .add (.sl (.idx (.v 4) (.c (.int 0))) none (some (.c (.int 7)))) (.c (.str [126])), .c (.non), .c (.int 3), .ls (.disp [.idx (.v 4) (.c (.int 0))])]))) [.ex (.app (.v 8) (.bin .add (.sl (.v 0) none (some (.bin .sub (.f1 .len (.v 0)) (.c (.int 1))))) (.tup [.tup [.v 9, .idx (.v 4) (.c (.int 1)), .idx (.v 4) (.c (.int 2))]])))] [9],
  .forS (.v 9) (.val (.ls (.disp [.c (.str []), .bin .add (.c (.str [53])) (.sl (.idx (.idx (.v 0) (.c (.int 0))) (.c (.int 0))) (some (.c (.int 1))) none), .bin .add (.c (.str [75])) (.sl (.idx (.idx (.v 0) (.c (.int 0))) (.c (.int 0))) (some (.c (.int 1))) none)]))) [.ex (.app (.v 8) (.bin .add (.tup [.tup [.v 9, .idx (.idx (.v 0) (.c (.int 0))) (.c (.int 1)), .idx (.idx (.v 0) (.c (.int 0))) (.c (.int 2))]]) (.sl (.v 0) (some (.c (.int 1))) none)))] [9],
  .ret (.v 8)]
def d32 : Dd := ⟨"_law_spoilt", ["needs", "place"], ["needs", "place", "gap", "k", "last", "name", "nine", "time", "values", "wrong"], defArgs (top 58), defBody (top 58), defScope (top 58), ⟨2, 10, b32⟩⟩
/-- _law_refuses, 0:which 1:value 2:chips 3:e -/
def b33 : List Stm :=
  [.tryS [.ite (.val (.cmp .eq (.v 0) (.c (.int 0)))) [.ex (.call 14 [.v 1])] [],
    .ite (.val (.cmp .eq (.v 0) (.c (.int 1)))) [.ex (.call 15 [.v 1, .v 2])] [],
    .ite (.val (.cmp .eq (.v 0) (.c (.int 2)))) [.ex (.call 16 [.v 1, .v 2])] []] [([0], some 3, [.ret (.hot 35)])],
  .ret (.c (.bl false))]
def d33 : Dd := ⟨"_law_refuses", ["which", "value", "chips"], ["which", "value", "chips", "e"], defArgs (top 60), defBody (top 60), defScope (top 60), ⟨3, 4, b33⟩⟩
/-- law, 0:script 1:due 2:eight 3:k 4:late 5:memo 6:names 7:need 8:needs 9:numbers 10:order 11:orders 12:place 13:row 14:sets 15:spoilt 16:start 17:timely 18:value 19:values -/
def b34 : List Stm :=
  [.set (.v 16) (.call 17 [.v 0, .c (.int 0)]),
  .set (.v 8) (.call 22 [.v 0, .v 16]),
  .set (.v 9) (.call 18 [.call 17 [.v 0, .c (.int 3)], .c (.int 256), .c (.int 8)]),
  .set (.v 5) (.dct []),
  .set (.v 1) (.call 24 [.v 8, .v 5]),
  .ite (.or (.val (.cmp .isn (.call 11 [.v 8]) (.c (.bl true)))) (.not (.val (.call 21 [.call 14 [.v 8], .v 1])))) [.ret (.c (.bl false))] [],
  .set (.v 19) (.call 30 [.v 8, .v 1, .v 9]),
  .ite (.val (.cmp .le (.f1 .len (.v 8)) (.c (.int 4)))) [.set (.v 6) (.ls (.comp (.idx (.v 7) (.c (.int 0))) (.v 7) (.val (.v 8)) [])),
    .set (.v 11) (.call 28 [.v 6]),
    .set (.v 14) (.call 29 [.v 6]),
    .set (.v 17) (.ls (.comp (.v 10) (.v 10) (.val (.v 11)) [.val (.call 26 [.v 8, .v 10, .v 5])])),
    .set (.v 4) (.ls (.comp (.v 13) (.v 13) (.val (.v 14)) [.val (.call 27 [.v 8, .v 13, .v 5])])),
    .ite (.or (.val (.cmp .ne (.cmp .gt (.f1 .len (.v 17)) (.c (.int 0))) (.cmp .eq (.f1 .len (.v 4)) (.c (.int 0))))) (.val (.cmp .ne (.cmp .gt (.f1 .len (.v 17)) (.c (.int 0))) (.cmp .eq (.idx (.v 1) (.c (.int 0))) (.c (.str [111, 114, 100, 101, 114])))))) [.ret (.c (.bl false))] [],
    .set (.v 19) (.bin .add (.bin .add (.v 19) (.v 11)) (.v 14))] [],
  .ite (.not (.val (.call 31 [.v 8, .v 19, .v 5]))) [.ret (.c (.bl false))] [],
  .set (.v 12) (.bin .mod (.f1 .int (.bin .fdiv (.v 16) (.c (.int 32)))) (.f1 .len (.v 8))),
  .set (.v 15) (.call 32 [.v 8, .v 12]),
  .forS (.v 18) (.val (.v 15)) [.ite (.val (.cmp .isn (.call 11 [.v 18]) (.c (.bl false)))) [.ret (.c (.bl false))] [],
    .ite (.or (.not (.val (.call 33 [.c (.int 0), .v 18, .tup []]))) (.or (.not (.val (.call 33 [.c (.int 1), .v 18, .idx (.v 1) (.c (.int 1))]))) (.not (.val (.call 33 [.c (.int 2), .v 18, .idx (.v 1) (.c (.int 1))]))))) [.ret (.c (.bl false))] []] [18],
  .ite (.val (.cmp .ne (.v 15) (.call 32 [.v 8, .v 12]))) [.ret (.c (.bl false))] [],
  .set (.v 2) (.tupOf (.comp (.tup [.bin .add (.c (.str [110])) (.idx (.c (.str [48, 49, 50, 51, 52, 53, 54, 55])) (.v 3)), .c (.int 60), .bin .add (.c (.int 1)) (.v 3)]) (.v 3) (.rng (.c (.int 8))) [])),
  .ite (.or (.val (.cmp .isn (.call 11 [.v 2]) (.c (.bl true)))) (.not (.val (.call 21 [.call 14 [.v 2], .tup [.c (.str [111, 114, 100, 101, 114]), .tupOf (.comp (.idx (.v 7) (.c (.int 0))) (.v 7) (.val (.v 2)) [])]])))) [.ret (.c (.bl false))] [],
  .ret (.call 21 [.call 14 [.v 8], .v 1])]
def d34 : Dd := ⟨"law", ["script"], ["script", "due", "eight", "k", "late", "memo", "names", "need", "needs", "numbers", "order", "orders", "place", "row", "sets", "spoilt", "start", "timely", "value", "values"], defArgs (top 61), defBody (top 61), defScope (top 61), ⟨1, 20, b34⟩⟩
/-- _law_is_book_error, 0:e 1:others -/
def b35 : List Stm :=
  [.set (.v 1) (.ls (.disp [.isX [7], .isX [6], .isX [4], .isX [1]])),
  .set (.v 1) (.bin .add (.v 1) (.ls (.disp [.isX [5], .isX [3], .isX [9], .isX [14]]))),
  .set (.v 1) (.bin .add (.v 1) (.ls (.disp [.isX [2], .isX [10], .isX [12], .isX [11]]))),
  .set (.v 1) (.bin .add (.v 1) (.ls (.disp [.isX [13]]))),
  .ret (.andV (.isX [8]) (.andV (.isX [15]) (.notV (.anyH (.v 1)))))]
def d35 : Dd := ⟨"_law_is_book_error", ["e"], ["e", "others"], defArgs (top 59), defBody (top 59), defScope (top 59), ⟨1, 2, b35⟩⟩
def in0 : In1 := ⟨"TooMany", "TooMany.__init__", "self", ["limit"], ["limit"], defArgs (iniOf (top 14)), defBody (iniOf (top 14)), defScope (iniOf (top 14))⟩
def in1 : In1 := ⟨"BadText", "BadText.__init__", "self", ["line", "column"], ["line", "column"], defArgs (iniOf (top 15)), defBody (iniOf (top 15)), defScope (iniOf (top 15))⟩
def txt : Txt := ⟨[d0, d1, d2, d3, d4, d5, d6, d7, d8, d9, d10, d11, d12, d13, d14, d15, d16, d17, d18, d19, d20, d21, d22, d23, d24, d25, d26, d27, d28, d29, d30, d31, d32, d33, d34, d35], 35, ["LETTERS", "NAME_SIGNS", "NAME_MOST", "CHIPS_MOST", "GAP_MOST", "ROUNDS_MOST"], gtab, ["WireError", "BadNumber", "BadWord", "BadRecord", "BadKind", "BadPlan", "BadHouse", "BadClaim", "BadBook", "BadRoll", "NoAccount", "NotSound", "NoDeed", "TooMany", "BadText"], ["WireError", "BadNumber", "BadWord", "BadRecord", "BadKind", "BadPlan", "BadHouse", "BadClaim", "BadBook", "BadRoll", "NoAccount", "NotSound", "NoDeed", "TooMany", "BadText", "ValueError"], ctab, [in0, in1], [[], [], [], [], [], [], [], [], [], [], [], [], [], ["limit"], ["line", "column"]], [0, 0, 0, 0, 0, 0, 0, 0, 0, 0, 0, 0, 0, 0, 1], R.prog.main.file⟩
def names0 : List PySem.Str := ["WireError", "BadNumber", "BadWord", "BadRecord", "BadKind", "BadPlan", "BadHouse", "BadClaim", "BadBook", "BadRoll", "NoAccount", "NotSound", "NoDeed", "TooMany", "BadText", "LETTERS", "NAME_SIGNS", "NAME_MOST", "is_integer", "is_integer_in", "is_name", "is_ascending", "is_names", "is_name_row", "check_number", "CHIPS_MOST", "GAP_MOST", "ROUNDS_MOST", "is_gaps", "check_gaps"]
def names1 : List PySem.Str := ["wait_bound", "is_need", "is_needs", "check_needs", "is_timely_behind", "timely_order", "is_timely", "is_late", "_law_cell", "_law_numbers", "_law_name", "_law_names", "_law_same", "_law_needs", "_law_in_time", "_law_order", "_law_are_chips", "_law_is_timely", "_law_is_late", "_law_all_orders", "_law_all_sets", "_law_values", "_law_judges_hold", "_law_spoilt", "_law_is_book_error", "_law_refuses"]
def names : List PySem.Str := names0 ++ names1
theorem look : txt.look = true := by decide +kernel
theorem bn0 : BindP d0 := fun _ _ _ _ _ _ us hl => match us, hl with | [_], _ => rfl
theorem bn1 : BindP d1 := fun _ _ _ _ _ _ us hl => match us, hl with | [_, _, _], _ => rfl
theorem bn2 : BindP d2 := fun _ _ _ _ _ _ us hl => match us, hl with | [_], _ => rfl
theorem bn3 : BindP d3 := fun _ _ _ _ _ _ us hl => match us, hl with | [_], _ => rfl
theorem bn4 : BindP d4 := fun _ _ _ _ _ _ us hl => match us, hl with | [_, _, _], _ => rfl
theorem bn5 : BindP d5 := fun _ _ _ _ _ _ us hl => match us, hl with | [_, _, _], _ => rfl
theorem bn6 : BindP d6 := fun _ _ _ _ _ _ us hl => match us, hl with | [_, _, _], _ => rfl
theorem bn7 : BindP d7 := fun _ _ _ _ _ _ us hl => match us, hl with | [_], _ => rfl
theorem bn8 : BindP d8 := fun _ _ _ _ _ _ us hl => match us, hl with | [_], _ => rfl
theorem bn9 : BindP d9 := fun _ _ _ _ _ _ us hl => match us, hl with | [_, _, _], _ => rfl
theorem bn10 : BindP d10 := fun _ _ _ _ _ _ us hl => match us, hl with | [_], _ => rfl
theorem bn11 : BindP d11 := fun _ _ _ _ _ _ us hl => match us, hl with | [_], _ => rfl
theorem bn12 : BindP d12 := fun _ _ _ _ _ _ us hl => match us, hl with | [_], _ => rfl
theorem bn13 : BindP d13 := fun _ _ _ _ _ _ us hl => match us, hl with | [_, _, _], _ => rfl
theorem bn14 : BindP d14 := fun _ _ _ _ _ _ us hl => match us, hl with | [_], _ => rfl
theorem bn15 : BindP d15 := fun _ _ _ _ _ _ us hl => match us, hl with | [_, _], _ => rfl
theorem bn16 : BindP d16 := fun _ _ _ _ _ _ us hl => match us, hl with | [_, _], _ => rfl
theorem bn17 : BindP d17 := fun _ _ _ _ _ _ us hl => match us, hl with | [_, _], _ => rfl
theorem bn18 : BindP d18 := fun _ _ _ _ _ _ us hl => match us, hl with | [_, _, _], _ => rfl
theorem bn19 : BindP d19 := fun _ _ _ _ _ _ us hl => match us, hl with | [_, _], _ => rfl
theorem bn20 : BindP d20 := fun _ _ _ _ _ _ us hl => match us, hl with | [_, _], _ => rfl
theorem bn21 : BindP d21 := fun _ _ _ _ _ _ us hl => match us, hl with | [_, _], _ => rfl
theorem bn22 : BindP d22 := fun _ _ _ _ _ _ us hl => match us, hl with | [_, _], _ => rfl
theorem bn23 : BindP d23 := fun _ _ _ _ _ _ us hl => match us, hl with | [_, _, _, _], _ => rfl
theorem bn24 : BindP d24 := fun _ _ _ _ _ _ us hl => match us, hl with | [_, _], _ => rfl
theorem bn25 : BindP d25 := fun _ _ _ _ _ _ us hl => match us, hl with | [_, _], _ => rfl
theorem bn26 : BindP d26 := fun _ _ _ _ _ _ us hl => match us, hl with | [_, _, _], _ => rfl
theorem bn27 : BindP d27 := fun _ _ _ _ _ _ us hl => match us, hl with | [_, _, _], _ => rfl
theorem bn28 : BindP d28 := fun _ _ _ _ _ _ us hl => match us, hl with | [_], _ => rfl
theorem bn29 : BindP d29 := fun _ _ _ _ _ _ us hl => match us, hl with | [_], _ => rfl
theorem bn30 : BindP d30 := fun _ _ _ _ _ _ us hl => match us, hl with | [_, _, _], _ => rfl
theorem bn31 : BindP d31 := fun _ _ _ _ _ _ us hl => match us, hl with | [_, _, _], _ => rfl
theorem bn32 : BindP d32 := fun _ _ _ _ _ _ us hl => match us, hl with | [_, _], _ => rfl
theorem bn33 : BindP d33 := fun _ _ _ _ _ _ us hl => match us, hl with | [_, _, _], _ => rfl
theorem bn34 : BindP d34 := fun _ _ _ _ _ _ us hl => match us, hl with | [_], _ => rfl
theorem bn35 : BindP d35 := fun _ _ _ _ _ _ us hl => match us, hl with | [_], _ => rfl
theorem bnd : ∀ (i : Nat) (a : Dd), txt.ds[i]? = some a → BindP a
  | 0, _, h => by cases h; exact bn0
  | 1, _, h => by cases h; exact bn1
  | 2, _, h => by cases h; exact bn2
  | 3, _, h => by cases h; exact bn3
  | 4, _, h => by cases h; exact bn4
  | 5, _, h => by cases h; exact bn5
  | 6, _, h => by cases h; exact bn6
  | 7, _, h => by cases h; exact bn7
  | 8, _, h => by cases h; exact bn8
  | 9, _, h => by cases h; exact bn9
  | 10, _, h => by cases h; exact bn10
  | 11, _, h => by cases h; exact bn11
  | 12, _, h => by cases h; exact bn12
  | 13, _, h => by cases h; exact bn13
  | 14, _, h => by cases h; exact bn14
  | 15, _, h => by cases h; exact bn15
  | 16, _, h => by cases h; exact bn16
  | 17, _, h => by cases h; exact bn17
  | 18, _, h => by cases h; exact bn18
  | 19, _, h => by cases h; exact bn19
  | 20, _, h => by cases h; exact bn20
  | 21, _, h => by cases h; exact bn21
  | 22, _, h => by cases h; exact bn22
  | 23, _, h => by cases h; exact bn23
  | 24, _, h => by cases h; exact bn24
  | 25, _, h => by cases h; exact bn25
  | 26, _, h => by cases h; exact bn26
  | 27, _, h => by cases h; exact bn27
  | 28, _, h => by cases h; exact bn28
  | 29, _, h => by cases h; exact bn29
  | 30, _, h => by cases h; exact bn30
  | 31, _, h => by cases h; exact bn31
  | 32, _, h => by cases h; exact bn32
  | 33, _, h => by cases h; exact bn33
  | 34, _, h => by cases h; exact bn34
  | 35, _, h => by cases h; exact bn35
  | _ + 36, _, h => by cases h
theorem bi0 : BindI in0 := fun _ _ _ _ _ _ _ us hl => match us, hl with | [_, _], _ => rfl
theorem bi1 : BindI in1 := fun _ _ _ _ _ _ _ us hl => match us, hl with | [_, _, _], _ => rfl
theorem bni : ∀ a ∈ txt.ini, BindI a := fun a h => by
  have h : a ∈ [in0, in1] := h
  simp only [List.mem_cons, List.not_mem_nil, or_false] at h
  rcases h with rfl | rfl
  · exact bi0
  · exact bi1
theorem run (w : World) : HandSHeadRun.RunEq R (PySem.W.view R.prog [61]) txt.hook txt.ob 20000 names w := by
  intro os
  kernel_rfl
end HT
end
section
namespace HT
open Pw
def P : Prg := HT.txt.prg
end HT
end
section
set_option maxHeartbeats 0
set_option linter.all false
set_option maxRecDepth 100000
namespace HT
open Pw
def LET : List Nat := [97, 98, 99, 100, 101, 102, 103, 104, 105, 106, 107, 108, 109, 110, 111, 112, 113, 114, 115, 116, 117, 118, 119, 120, 121, 122]
def SIG : List Nat := LET ++ [48, 49, 50, 51, 52, 53, 54, 55, 56, 57]
@[simp] theorem PG0 : P.G[0]? = some (.str LET) := rfl
@[simp] theorem PG1 : P.G[1]? = some (.str SIG) := rfl
@[simp] theorem PG2 : P.G[2]? = some (.int 8) := rfl
@[simp] theorem PG3 : P.G[3]? = some (.int 8) := rfl
@[simp] theorem PG4 : P.G[4]? = some (.int 60) := rfl
@[simp] theorem PG5 : P.G[5]? = some (.int 600) := rfl
theorem sp_same : ∀ (k : Nat) (d : D), plD k d = true → ∀ (n : Nat) (S : Store), den P (n + k + 1) none 21 [d, d] S = .ok (.bl true) S := by
  intro k
  induction k with
  | zero =>
    intro d hd n S
    refine den_wp (f := ⟨2, 3, b21⟩) rfl rfl ?_
    cases d <;> simp [plD] at hd <;> simp (disch := first | omega | (simp; done) | (simp; omega)) [if_pos, if_neg, b21]
  | succ k ih =>
    intro d hd n S
    refine den_wp (f := ⟨2, 3, b21⟩) rfl rfl ?_
    cases d with
    | tup xs =>
      simp only [plD, Bool.and_eq_true, decide_eq_true_eq, List.all_eq_true] at hd
      simp (disch := first | omega | (simp; done) | (simp; omega)) [if_pos, if_neg, b21]
      rw [compK_rg xs.length (fun _ => true) (fun _ => .bl true) (by omega) (fun j hj => by
        constructor
        · simp (disch := first | omega | (simp; done) | (simp; omega)) [if_pos, if_neg, id]
        · intro _
          have := ih xs[j] (hd.2 _ (List.getElem_mem hj)) n S
          simp (disch := first | omega | (simp; done) | (simp; omega)) [if_pos, if_neg, hj]
          exact this)]
      simp (disch := first | omega | (simp; done) | (simp; omega)) [if_pos, if_neg, id]
    | obj => simp [plD] at hd
    | exc => simp [plD] at hd
    | _ => simp (disch := first | omega | (simp; done) | (simp; omega)) [if_pos, if_neg, b21]
theorem sp_cell (n : Nat) (S : Store) (zs : List Int) (k : Nat) (h : get S 0 = some (.ro (zs.map .int))) (hk : k < 100) (hl : zs.length ≤ 63) : ∃ i : Int, den P (n + 1) none 17 [.obj 0, .int k] S = .ok (.int i) S := by
  have hle : lenD S (.obj 0) = some (zs.length : Int) := by simp [lenD, h]
  have hix : ∀ j : Nat, idxD (.obj 0) (.int (j : Int)) S = Res.of ((zs[j]?).map .int) S := fun j => by simp only [idxD, h]; rw [place_q]; simp
  have hix0 : idxD (.obj 0) (.int 0) S = Res.of ((zs[0]?).map .int) S := hix 0
  by_cases h1 : k < zs.length
  · refine ⟨zs[k], den_wp (f := ⟨2, 2, b17⟩) rfl rfl ?_⟩
    simp (disch := first | omega | (simp; done) | (simp; omega)) [if_pos, if_neg, b17, h]
  · cases zs with
    | nil => exact ⟨9 * k + 4, den_wp (f := ⟨2, 2, b17⟩) rfl rfl (by simp (disch := first | omega | (simp; done) | (simp; omega)) [if_pos, if_neg, b17, h, mul_sm])⟩
    | cons z r =>
      refine ⟨z % 1000003 * (k + 3) + 11 * k + (r.length + 1), den_wp (f := ⟨2, 2, b17⟩) rfl rfl ?_⟩
      simp only [List.length_cons] at h1
      have hm : 0 ≤ z % 1000003 ∧ z % 1000003 < 1000003 := ⟨Int.emod_nonneg _ (by decide), Int.emod_lt_of_pos _ (by decide)⟩
      simp (disch := first | omega | (simp; done) | (simp; omega)) [if_pos, if_neg, b17, h, mul_sm]
theorem sp_numbers (n : Nat) (S : Store) (c b : Int) (m : Nat) (hb : 0 < b ∧ b < 18446744073709551616) (hm : m < 1000) :
    ∃ ns : List Int, (ns.length = m ∧ (∀ z ∈ ns, 0 ≤ z ∧ z < b)) ∧ den P (n + 1) none 18 [.int c, .int b, .int m] S = .ok (.obj S.length) (.lst (ns.map .int) :: S) := by
  refine den_post (f := ⟨3, 8, b18⟩) (fun ns : List Int => ns.length = m ∧ (∀ z ∈ ns, 0 ≤ z ∧ z < b)) (fun ns => .ok (.obj S.length) (.lst (ns.map .int) :: S)) rfl rfl ?_
  have hp : binD .pow (.int 10) (.int 18) (.lst [] :: S) = .ok (.int (10 ^ 18)) (.lst [] :: S) := pow_i ⟨by omega, by omega, by decide⟩
  simp (disch := first | omega | (simp; done) | (simp; omega)) [if_pos, if_neg, b18, hp]
  generalize decide (1000000000000000000 ≤ c) = bd
  refine wp_seq (wp_for (fun i env S' => ∃ (ns : List Int) (rest seed : Int), S' = .lst (ns.map .int) :: S ∧ ns.length = i ∧ (∀ z ∈ ns, 0 ≤ z ∧ z < b) ∧ 0 ≤ seed ∧ seed < 2305843009213693951 ∧
    env = [some (.int c), some (.int b), some (.int m), some (.bl bd), none, some (.obj S.length), some (.int rest), some (.int seed)]) ⟨[], c, c % 2305843009213693951, rfl, rfl, by simp, by omega, by omega, rfl⟩ (fun i env S' hi => by simp [stands]) ?_ ?_)
  · rintro i x env S' hx ⟨ns, rest, seed, rfl, hl, hall, hs0, hs1, rfl⟩
    obtain ⟨hi, rfl⟩ := range_at hx
    have hall' : ∀ w : Int, ∀ z ∈ ns ++ [w % b], 0 ≤ z ∧ z < b := fun w z hz => by
      rw [List.mem_append, List.mem_singleton] at hz
      rcases hz with hz | rfl
      · exact hall z hz
      · exact ⟨Int.emod_nonneg _ (by omega), Int.emod_lt_of_pos _ (by omega)⟩
    cases bd with
    | true =>
      simp (disch := first | omega | (simp; done) | (simp; omega)) [if_pos, if_neg, fdiv_sm]
      refine ⟨ns ++ [rest % b], ?_, by simp [hl], hall' _, _, seed, hs0, hs1, rfl, rfl⟩
      simp
    | false =>
      simp (disch := first | omega | (simp; done) | (simp; omega)) [if_pos, if_neg, fdiv_sm, mul_sm]
      have q : 0 ≤ ((seed * 48271 + 40692 * (i : Int) + 11) % 2305843009213693951 * 69621 + 7) % 2305843009213693951 ∧ ((seed * 48271 + 40692 * (i : Int) + 11) % 2305843009213693951 * 69621 + 7) % 2305843009213693951 < 2305843009213693951 := by omega
      refine ⟨ns ++ [((seed * 48271 + 40692 * (i : Int) + 11) % 2305843009213693951 * 69621 + 7) % 2305843009213693951 / 4096 % b], ?_, by simp [hl], hall' _, rest, _, q.1, q.2, rfl, rfl⟩
      simp
  · rintro env S' ⟨ns, rest, seed, rfl, hl, hall, hs0, hs1, rfl⟩
    simp (disch := first | omega | (simp; done) | (simp; omega)) [if_pos, if_neg, id]
    exact ⟨ns, ⟨by simpa using hl, hall⟩, rfl⟩
/-! numbers -/
def isIn (lo hi : Int) : D → Bool
  | .int i => decide (lo ≤ i) && decide (i ≤ hi)
  | _ => false
theorem sp_is_integer (n : Nat) (d : D) (S : Store) (h : okE d = true) : den P (n + 1) none 0 [d] S = .ok (.bl (match d with | .int _ => true | _ => false)) S := by
  refine den_wp (f := ⟨1, 1, b0⟩) rfl rfl ?_
  cases d <;> simp at h <;> simp (disch := first | omega | (simp; done) | (simp; omega)) [if_pos, if_neg, b0]
theorem sp_is_integer_in (n : Nat) (d : D) (lo hi : Int) (S : Store) (h : okE d = true) : den P (n + 2) none 1 [d, .int lo, .int hi] S = .ok (.bl (isIn lo hi d)) S := by
  refine den_wp (f := ⟨3, 3, b1⟩) rfl rfl ?_
  cases d with
  | int i =>
    simp (disch := first | omega | (simp; done) | (simp; omega)) [if_pos, if_neg, b1, sp_is_integer n (.int i) S rfl]
    by_cases h1 : lo ≤ i
    · simp (disch := first | omega | (simp; done) | (simp; omega)) [if_pos, if_neg, h1, isIn]
    · simp (disch := first | omega | (simp; done) | (simp; omega)) [if_pos, if_neg, h1, isIn]
  | _ => simp (disch := first | omega | (simp; done) | (simp; omega)) [if_pos, if_neg, b1, sp_is_integer n _ S h, isIn]
theorem chkN (n : Nat) (d : D) (lo hi : Int) (S : Store) (h : okE d = true) (hb : isIn lo hi d = true) : den P (n + 3) none 6 [d, .int lo, .int hi] S = .ok .non S := by
  refine den_wp (f := ⟨3, 3, b6⟩) rfl rfl ?_
  simp (disch := first | omega | (simp; done) | (simp; omega)) [if_pos, if_neg, b6, sp_is_integer_in n d lo hi S h, hb]
theorem chkNx (n : Nat) (d : D) (lo hi : Int) (S : Store) (h : okE d = true) (hb : isIn lo hi d = false) : den P (n + 3) none 6 [d, .int lo, .int hi] S = .exc 1 [] S := by
  refine den_wp (f := ⟨3, 3, b6⟩) rfl rfl ?_
  simp (disch := first | omega | (simp; done) | (simp; omega)) [if_pos, if_neg, b6, sp_is_integer_in n d lo hi S h, hb]
  exact finX_nil (pre := []) rfl
def isGapsD : D → Bool
  | .tup xs => decide (1 ≤ xs.length) && (decide (xs.length ≤ 8) && xs.all (isIn 1 60))
  | _ => false
theorem sp_is_gaps (n : Nat) (d : D) (S : Store) (h : okE d = true) : den P (n + 3) none 7 [d] S = .ok (.bl (isGapsD d)) S := by
  refine den_wp (f := ⟨1, 2, b7⟩) rfl rfl ?_
  cases d with
  | tup xs =>
    simp only [okE_tup, Bool.and_eq_true, decide_eq_true_eq] at h
    obtain ⟨hl, he⟩ := h
    rw [okEs_all, List.all_eq_true] at he
    by_cases h1 : 1 ≤ xs.length
    · by_cases h2 : xs.length ≤ 8
      · have h1' : (1 : Int) ≤ (xs.length : Int) := by omega
        have h2' : (xs.length : Int) ≤ 8 := by omega
        simp (disch := first | omega | (simp; done) | (simp; omega)) [if_pos, if_neg, b7, h1', h2']
        rw [compK_map (fun x => .bl (isIn 1 60 x)) (by simpa using hl) (fun x hx => ⟨_, rfl, by simp, by simp (disch := first | omega | (simp; done) | (simp; omega)) [if_pos, if_neg, sp_is_integer_in n x 1 60 S (he x hx)]⟩)]
        simp (disch := first | omega | (simp; done) | (simp; omega)) [if_pos, if_neg, isGapsD, h1, h2]
      · have h1' : (1 : Int) ≤ (xs.length : Int) := by omega
        have h2' : ¬ (xs.length : Int) ≤ 8 := by omega
        simp (disch := first | omega | (simp; done) | (simp; omega)) [if_pos, if_neg, b7, h1', h2', isGapsD, h1, h2]
    · have h1' : ¬ (1 : Int) ≤ (xs.length : Int) := by omega
      simp (disch := first | omega | (simp; done) | (simp; omega)) [if_pos, if_neg, b7, h1', isGapsD, h1]
  | exc => simp at h
  | _ => simp (disch := first | omega | (simp; done) | (simp; omega)) [if_pos, if_neg, b7, isGapsD]
theorem chkG (n : Nat) (d : D) (S : Store) (h : okE d = true) (hb : isGapsD d = true) : den P (n + 4) none 8 [d] S = .ok .non S := by
  refine den_wp (f := ⟨1, 1, b8⟩) rfl rfl ?_
  simp (disch := first | omega | (simp; done) | (simp; omega)) [if_pos, if_neg, b8, sp_is_gaps n d S h, hb]
theorem chkGx (n : Nat) (d : D) (S : Store) (h : okE d = true) (hb : isGapsD d = false) : den P (n + 4) none 8 [d] S = .exc 8 [] S := by
  refine den_wp (f := ⟨1, 1, b8⟩) rfl rfl ?_
  simp (disch := first | omega | (simp; done) | (simp; omega)) [if_pos, if_neg, b8, sp_is_gaps n d S h, hb]
  exact finX_nil (pre := []) rfl
/-! gaps and asks as numbers -/
def iN (n : Nat) : D := .int (n : Int)
def toG (gs : List Nat) : D := .tup (gs.map iN)
@[simp] theorem bel_iN (n m : Nat) : D.bel n (iN m) = true := by simp [iN]
@[simp] theorem bels_iN (n : Nat) (l : List Nat) : D.bels n (l.map iN) = true := belsM fun x _ => bel_iN n x
@[simp] theorem bel_toG (n : Nat) (l : List Nat) : D.bel n (toG l) = true := by simp [toG]
theorem okEs_iN (l : List Nat) : okEs (l.map iN) = true := by
  rw [okEs_all, List.all_eq_true]; intro x hx; obtain ⟨m, _, rfl⟩ := List.mem_map.mp hx; simp [iN]
theorem okE_toG {l : List Nat} (h : l.length ≤ 1000) : okE (toG l) = true := by
  simp only [toG, okE_tup, okEs_iN, Bool.and_true, decide_eq_true_eq, List.length_map]; omega
/-- numbers that are gaps -/
structure OkG (gs : List Nat) : Prop where
  len : 1 ≤ gs.length ∧ gs.length ≤ 8
  ok : ∀ g ∈ gs, 1 ≤ g ∧ g ≤ 60
theorem OkG.d {gs : List Nat} (h : OkG gs) : isGapsD (toG gs) = true := by
  have : (gs.map iN).all (isIn 1 60) = true := by
    rw [List.all_eq_true]; intro x hx; obtain ⟨m, hm, rfl⟩ := List.mem_map.mp hx
    have := h.ok m hm
    simp [iN, isIn]; omega
  simp only [toG, isGapsD, this, List.length_map]
  simp [h.len.1, h.len.2]
theorem OkG.e {gs : List Nat} (h : OkG gs) : okE (toG gs) = true := okE_toG (by have := h.len; omega)
end HT
end
section
set_option maxHeartbeats 0
set_option linter.all false
set_option maxRecDepth 100000
namespace HT
open Pw
def isNameL (s : List Nat) : Bool := decide (1 ≤ s.length) && decide (s.length ≤ 8) && (match s with | c :: _ => decide (c ∈ LET) | [] => false) && s.all fun c => decide (c ∈ SIG)
def isNameD : D → Bool
  | .str s => isNameL s
  | _ => false
theorem sp_is_name (n : Nat) (d : D) (S : Store) (h : okE d = true) : den P (n + 1) none 2 [d] S = .ok (.bl (isNameD d)) S := by
  refine den_wp (f := ⟨1, 2, b2⟩) rfl rfl ?_
  cases d with
  | str s =>
    simp only [okE_str, decide_eq_true_eq] at h
    simp (disch := first | omega | (simp; done) | (simp; omega)) [if_pos, if_neg, b2]
    by_cases h1 : 1 ≤ s.length
    · by_cases h8 : s.length ≤ 8
      · cases s with
        | nil => simp at h1
        | cons c r =>
          have hr : r.length ≤ 7 := by simp at h8; omega
          simp (disch := first | omega | (simp; done) | (simp; omega)) [if_pos, if_neg, id]
          by_cases hc : c ∈ LET
          · simp (disch := first | omega | (simp; done) | (simp; omega)) [if_pos, if_neg, hc]
            rw [compK_map (fun x => .bl (match x with | .str [c] => decide (c ∈ SIG) | _ => false))]
            · simp (disch := first | omega | (simp; done) | (simp; omega)) [if_pos, if_neg, isNameD, isNameL, hc, hr]
              simp [Function.comp_def]
            · simp; omega
            · intro x hx
              rw [← List.map_cons (f := fun c => D.str [c]), List.mem_map] at hx
              obtain ⟨a, _, rfl⟩ := hx
              exact ⟨_, rfl, by simp, by simp⟩
          · simp (disch := first | omega | (simp; done) | (simp; omega)) [if_pos, if_neg, hc, fin, isNameD, isNameL]
      · simp (disch := first | omega | (simp; done) | (simp; omega)) [if_pos, if_neg, h1, h8, fin, isNameD, isNameL]
    · simp (disch := first | omega | (simp; done) | (simp; omega)) [if_pos, if_neg, h1, fin, isNameD, isNameL]
  | exc => simp at h
  | _ => simp [b2, isNameD, fin]
theorem sp_name (n : Nat) (S : Store) (z : Int) (m : Nat) (hm : 1 ≤ m ∧ m < 1000) :
    ∃ s : List Nat, (s.length = m ∧ (∃ c r, s = c :: r ∧ c ∈ LET) ∧ ∀ c ∈ s, c ∈ SIG) ∧ den P (n + 1) none 19 [.int z, .int m] S = .ok (.str s) S := by
  refine den_post (f := ⟨2, 7, b19⟩) (fun s : List Nat => s.length = m ∧ (∃ c r, s = c :: r ∧ c ∈ LET) ∧ ∀ c ∈ s, c ∈ SIG) (fun s => .ok (.str s) S) rfl rfl ?_
  obtain ⟨c0, hc0, he0⟩ := pick_s (l := LET) (z := z % 26) (by decide) ⟨by omega, by have : LET.length = 26 := rfl; omega⟩
  have hs0 : c0 ∈ SIG := by unfold SIG; exact List.mem_append_left _ hc0
  unfold LET at he0
  simp (disch := first | omega | (simp; done) | (simp; omega)) [if_pos, if_neg, b19, he0]
  refine wp_seq (wp_forRz (m - 1) (by omega) (fun a : List Nat × Int => [some (.int z), some (.int m), none, some (.str LET), some (.str (c0 :: a.1)), some (.int a.2), some (.str SIG)]) (fun _ => S)
    (fun i a => a.1.length = i ∧ ∀ c ∈ a.1, c ∈ SIG) ([], _) ⟨rfl, by simp⟩ rfl rfl ?_ ?_)
  · rintro i ⟨r, rest⟩ hi ⟨hl, hall⟩
    simp only at hl hall
    obtain ⟨c, hc, he⟩ := pick_s (l := SIG) (z := rest % 36) (by decide) ⟨by omega, by have : SIG.length = 36 := rfl; omega⟩
    simp (disch := first | omega | (simp; done) | (simp; omega)) [if_pos, if_neg, he]
    refine ⟨(r ++ [c], _), ⟨by simp [hl], ?_⟩, rfl, rfl⟩
    intro a ha
    rw [List.mem_append, List.mem_singleton] at ha
    rcases ha with ha | rfl
    · exact hall a ha
    · exact hc
  · rintro ⟨r, rest⟩ ⟨hl, hall⟩
    simp only at hl hall
    simp (disch := first | omega | (simp; done) | (simp; omega)) [if_pos, if_neg, id]
    exact ⟨by omega, hc0, hs0, hall⟩
theorem isNameL_of {s : List Nat} (h : s.length ≤ 8) (h1 : ∃ c r, s = c :: r ∧ c ∈ LET) (h2 : ∀ c ∈ s, c ∈ SIG) : isNameL s = true := by
  obtain ⟨c, r, rfl, hc⟩ := h1
  simp only [isNameL, hc, Bool.and_eq_true, decide_eq_true_eq, List.all_eq_true]
  exact ⟨⟨⟨by simp, h⟩, trivial⟩, h2⟩
theorem sp_names (n : Nat) (S : Store) (z : Int) (m : Nat) (hm : m ≤ 12) :
    ∃ ns : List (List Nat), ((ns.length ≤ m ∧ (1 ≤ m → ns ≠ [])) ∧ ns.Pairwise (· < ·) ∧ ∀ s ∈ ns, isNameL s = true) ∧ den P (n + 2) none 20 [.int z, .int m] S = .ok (.obj S.length) (.lst (ns.map .str) :: S) := by
  refine den_post (f := ⟨2, 10, b20⟩) (fun ns : List (List Nat) => (ns.length ≤ m ∧ (1 ≤ m → ns ≠ [])) ∧ ns.Pairwise (· < ·) ∧ ∀ s ∈ ns, isNameL s = true) (fun ns => .ok (.obj S.length) (.lst (ns.map .str) :: S)) rfl rfl ?_
  have hp : binD .pow (.int 10) (.int 13) S = .ok (.int (10 ^ 13)) S := pow_i ⟨by omega, by omega, by decide⟩
  obtain ⟨nb, ⟨hnl, hnb⟩, hden⟩ := sp_numbers n S z 20000000000000 13 (by omega) (by omega)
  have hden' : den P (n + 1) none 18 [.int z, .int 20000000000000, .int 13] S = .ok (.obj S.length) (.lst (nb.map .int) :: S) := hden
  have hget : ∀ i : Nat, i < 13 → ∃ w : Int, nb[i]? = some w ∧ 0 ≤ w := fun i hi => ⟨nb[i]'(by omega), by simp, (hnb _ (List.getElem_mem _)).1⟩
  obtain ⟨w, hw, hw0⟩ := hget 12 (by omega)
  have e12 : idxD (.obj S.length) (.int 12) (.lst (nb.map .int) :: S) = .ok (.int w) (.lst (nb.map .int) :: S) := by
    have := idx_self (nb.map .int) S 12; rw [show ((12 : Nat) : Int) = 12 from rfl] at this; rw [this]; simp [hw]
  have f12 : ∀ o : SO, idxD (.obj S.length) (.int 12) (o :: .lst (nb.map .int) :: S) = .ok (.int w) (o :: .lst (nb.map .int) :: S) := fun o => by
    have := idx_un o (nb.map .int) S 12; rw [show ((12 : Nat) : Int) = 12 from rfl] at this; rw [this]; simp [hw]
  obtain ⟨sz, hsz, h2, h8⟩ : ∃ sz : Nat, (2 + w / 2 % 7 : Int) = sz ∧ 2 ≤ sz ∧ sz ≤ 8 := ⟨(2 + w / 2 % 7).toNat, by omega, by omega, by omega⟩
  have hpl := Int.emod_nonneg (w / 14) (show ((sz : Int) - 1) ≠ 0 by omega)
  have hpl2 := Int.emod_lt_of_pos (w / 14) (show 0 < ((sz : Int) - 1) by omega)
  obtain ⟨pl, hpl0, h1, hps⟩ : ∃ pl : Nat, (1 + w / 14 % ((sz : Int) - 1) : Int) = pl ∧ 1 ≤ pl ∧ pl < sz := ⟨(1 + w / 14 % ((sz : Int) - 1)).toNat, by omega, by omega, by omega⟩
  obtain ⟨st, ⟨hst1, hst2, hst3⟩, hst⟩ := sp_name n (.lst (nb.map .int) :: S) (w / 84) sz (by omega)
  have hw12 := (List.getElem?_eq_some_iff.mp hw).2
  simp (disch := first | omega | (simp; done) | (simp; omega)) [if_pos, if_neg, b20, hp, hden', hw12, hsz, hpl0, hst]
  refine wp_seq (wp_forR m (fun a : List (List Nat) => [some (.int z), some (.int m), none, some (.obj (S.length + 1)), none, some (.obj S.length), some (.int pl), some (.str [48, 49, 50, 51, 52, 53, 54, 55, 56, 57, 97, 98, 99, 100, 101, 102, 103, 104, 105, 106, 107, 108, 109, 110, 111, 112, 113, 114, 115, 116, 117, 118, 119, 120, 121, 122]), some (.int sz), some (.str st)]) (fun a => .dct (nmD a) :: .lst (nb.map .int) :: S)
    (fun i a => (a.length ≤ i ∧ (1 ≤ i → a ≠ [])) ∧ a.Nodup ∧ ∀ s ∈ a, isNameL s = true) [] ⟨⟨by simp, by omega⟩, by simp, by simp⟩ rfl rfl ?_ ?_)
  · rintro i ks hi ⟨⟨hl, hne⟩, hnd, hall⟩
    obtain ⟨v, hv, hv0⟩ := hget i (by omega)
    obtain ⟨q, hq, hq1, hq8⟩ : ∃ q : Nat, (1 + v % 8 : Int) = q ∧ 1 ≤ q ∧ q ≤ 8 := ⟨(1 + v % 8).toNat, by omega, by omega, by omega⟩
    obtain ⟨nm, ⟨hm1, hm2, hm3⟩, hnm⟩ := sp_name n (.dct (nmD ks) :: .lst (nb.map .int) :: S) (v / 8) q (by omega)
    have hok : isNameL nm = true := isNameL_of (by omega) hm2 hm3
    have fin : ∀ s : List Nat, isNameL s = true → Inv (fun a : List (List Nat) => [some (.int z), some (.int m), none, some (.obj (S.length + 1)), none, some (.obj S.length), some (.int pl), some (.str [48, 49, 50, 51, 52, 53, 54, 55, 56, 57, 97, 98, 99, 100, 101, 102, 103, 104, 105, 106, 107, 108, 109, 110, 111, 112, 113, 114, 115, 116, 117, 118, 119, 120, 121, 122]), some (.int sz), some (.str st)]) (fun a => .dct (nmD a) :: .lst (nb.map .int) :: S)
      (fun i a => (a.length ≤ i ∧ (1 ≤ i → a ≠ [])) ∧ a.Nodup ∧ ∀ s ∈ a, isNameL s = true) (i + 1) [some (.int z), some (.int m), none, some (.obj (S.length + 1)), none, some (.obj S.length), some (.int pl), some (.str [48, 49, 50, 51, 52, 53, 54, 55, 56, 57, 97, 98, 99, 100, 101, 102, 103, 104, 105, 106, 107, 108, 109, 110, 111, 112, 113, 114, 115, 116, 117, 118, 119, 120, 121, 122]), some (.int sz), some (.str st)] (.dct (nmD (if s ∈ ks then ks else ks ++ [s])) :: .lst (nb.map .int) :: S) := fun s hs => by
      refine ⟨if s ∈ ks then ks else ks ++ [s], ?_, rfl, rfl⟩
      split
      · rename_i hns
        exact ⟨⟨by omega, fun _ z => by subst z; simp at hns⟩, hnd, hall⟩
      · rename_i hns
        refine ⟨⟨by simp; omega, fun _ => by simp⟩, ?_, ?_⟩
        · rw [List.nodup_append]; exact ⟨hnd, by simp, by intro a ha b hb; simp at hb; subst hb; rintro rfl; exact hns ha⟩
        · intro t ht
          rw [List.mem_append, List.mem_singleton] at ht
          rcases ht with ht | rfl
          · exact hall t ht
          · exact hs
    have hv' := (List.getElem?_eq_some_iff.mp hv).2
    simp (disch := first | omega | (simp; done) | (simp; omega)) [if_pos, if_neg, hv', hq, hnm, hw12]
    by_cases hw1 : w % 2 = 1
    · obtain ⟨c, hc, he⟩ := pick_s (l := [48, 49, 50, 51, 52, 53, 54, 55, 56, 57, 97, 98, 99, 100, 101, 102, 103, 104, 105, 106, 107, 108, 109, 110, 111, 112, 113, 114, 115, 116, 117, 118, 119, 120, 121, 122]) (z := 3 * (i : Int) + v % 3) (by decide) ⟨by omega, by simp; omega⟩
      have ht := fin (st.take pl ++ [c] ++ st.drop (pl + 1)) (isNameL_of (by simp; omega) (by
        obtain ⟨a, r, rfl, ha⟩ := hst2
        refine ⟨a, r.take (pl - 1) ++ [c] ++ (a :: r).drop (pl + 1), ?_, ha⟩
        cases pl with
        | zero => omega
        | succ p => simp) (by
        intro x hx
        simp only [List.mem_append, List.mem_singleton] at hx
        rcases hx with (hx | rfl) | hx
        · exact hst3 x (List.mem_of_mem_take hx)
        · revert hc; generalize x = y; intro hc; revert y; decide
        · exact hst3 x (List.mem_of_mem_drop hx)))
      simp (disch := first | omega | (simp; done) | (simp; omega)) [if_pos, if_neg, hw1, he]
      simpa using ht
    · have ht := fin nm hok
      simp (disch := first | omega | (simp; done) | (simp; omega)) [if_pos, if_neg, hw1]
      exact ht
  · rintro ks ⟨⟨hl, hne⟩, hnd, hall⟩
    simp (disch := first | omega | (simp; done) | (simp; omega)) [if_pos, if_neg, keysD_nm (get_over _ _ _), sortD_s]
    exact ⟨ks.mergeSort leL, ⟨⟨by simpa using hl, fun h1 z => hne h1 (List.length_eq_zero_iff.mp (by have := congrArg List.length z; simpa using this))⟩, sort_asc hnd, fun s hs => hall s (by simpa using hs)⟩, rfl⟩
end HT
end
section
set_option maxHeartbeats 0
set_option linter.all false
set_option maxRecDepth 100000
namespace HT
open Pw
def asc (ns : List (List Nat)) : Bool := (List.range (ns.length - 1)).all fun k => decide ((ns[k]?.getD []) < (ns[k + 1]?.getD []))
theorem asc_of {ns : List (List Nat)} (h : ns.Pairwise (· < ·)) : asc ns = true := by
  unfold asc
  rw [List.all_eq_true]
  intro k hk
  rw [List.mem_range] at hk
  have h1 : k < ns.length := by omega
  have h2 : k + 1 < ns.length := by omega
  simp only [List.getElem?_eq_getElem h1, List.getElem?_eq_getElem h2, Option.getD_some, decide_eq_true_eq]
  exact List.pairwise_iff_getElem.mp h k (k + 1) h1 h2 (by omega)
theorem of_asc {ns : List (List Nat)} (h : asc ns = true) : ns.Pairwise (· < ·) := by
  unfold asc at h
  rw [List.all_eq_true] at h
  have key : ∀ d i, (hi : i + d + 1 < ns.length) → ns[i]'(by omega) < ns[i + d + 1] := by
    intro d
    have st : ∀ k, (hk : k + 1 < ns.length) → ns[k] < ns[k + 1] := fun k hk => by
      have := h k (List.mem_range.mpr (by omega))
      simpa only [List.getElem?_eq_getElem (show k < ns.length by omega), List.getElem?_eq_getElem hk, Option.getD_some, decide_eq_true_eq] using this
    induction d with
    | zero => intro i hi; exact st i hi
    | succ d ih =>
      intro i hi
      exact List.lt_trans (ih i (by omega)) (st (i + d + 1) hi)
  rw [List.pairwise_iff_getElem]
  intro i j hi hj hij
  have := key (j - i - 1) i (by omega)
  simpa only [show i + (j - i - 1) + 1 = j by omega] using this
theorem sp_asc_t (n : Nat) (ns : List (List Nat)) (S : Store) (hl : ns.length ≤ 1000) : den P (n + 1) none 3 [.tup (ns.map .str)] S = .ok (.bl (asc ns)) S := by
  refine den_wp (f := ⟨1, 2, b3⟩) rfl rfl ?_
  have hr : rngL 0 ((ns.length : Int) - 1) = (List.range (ns.length - 1)).map fun i : Nat => D.int (i : Int) := by
    rw [rngL_z, show ((ns.length : Int) - 1).toNat = ns.length - 1 by omega]
  simp (disch := first | omega | (simp; done) | (simp; omega)) [if_pos, if_neg, b3, hr]
  rw [compK_rg (ns.length - 1) (fun _ => true) (fun k => .bl (decide ((ns[k]?.getD []) < (ns[k + 1]?.getD [])))) (by omega) (fun k hk => by
    have k1 : k < ns.length := by omega
    have k2 : k + 1 < ns.length := by omega
    constructor
    · simp (disch := first | omega | (simp; done) | (simp; omega)) [if_pos, if_neg, id]
    · intro _
      simp (disch := first | omega | (simp; done) | (simp; omega)) [if_pos, if_neg, k1, k2])]
  rw [List.filter_eq_self.mpr (by simp)]
  simp (disch := first | omega | (simp; done) | (simp; omega)) [if_pos, if_neg, asc]
theorem sp_asc_l (n : Nat) (a : Nat) (ns : List (List Nat)) (S : Store) (h : get S a = some (.lst (ns.map .str))) (hl : ns.length ≤ 1000) : den P (n + 1) none 3 [.obj a] S = .ok (.bl (asc ns)) S := by
  refine den_wp (f := ⟨1, 2, b3⟩) rfl rfl ?_
  have hr : rngL 0 ((ns.length : Int) - 1) = (List.range (ns.length - 1)).map fun i : Nat => D.int (i : Int) := by
    rw [rngL_z, show ((ns.length : Int) - 1).toNat = ns.length - 1 by omega]
  simp (disch := first | omega | (simp; done) | (simp; omega)) [if_pos, if_neg, b3, h, hr]
  rw [compK_rg (ns.length - 1) (fun _ => true) (fun k => .bl (decide ((ns[k]?.getD []) < (ns[k + 1]?.getD [])))) (by omega) (fun k hk => by
    have k1 : k < ns.length := by omega
    have k2 : k + 1 < ns.length := by omega
    constructor
    · simp (disch := first | omega | (simp; done) | (simp; omega)) [if_pos, if_neg, id]
    · intro _
      simp (disch := first | omega | (simp; done) | (simp; omega)) [if_pos, if_neg, h, k1, k2])]
  rw [List.filter_eq_self.mpr (by simp)]
  simp (disch := first | omega | (simp; done) | (simp; omega)) [if_pos, if_neg, asc]
/-! rows of names -/
def strO : D → List Nat
  | .str s => s
  | _ => []
theorem map_strO {xs : List D} (h : xs.all isNameD = true) : xs = (xs.map strO).map .str := by
  rw [List.all_eq_true] at h
  rw [List.map_map]
  refine (List.map_id _).symm.trans (List.map_congr_left fun x hx => ?_)
  have := h x hx
  cases x <;> simp [isNameD] at this ⊢ <;> rfl
def namesD (lo hi : Int) : D → Bool
  | .tup xs => decide (lo ≤ xs.length) && (decide ((xs.length : Int) ≤ hi) && xs.all isNameD)
  | _ => false
theorem sp_is_names (n : Nat) (d : D) (lo hi : Int) (S : Store) (h : okE d = true) : den P (n + 2) none 4 [d, .int lo, .int hi] S = .ok (.bl (namesD lo hi d)) S := by
  refine den_wp (f := ⟨3, 4, b4⟩) rfl rfl ?_
  cases d with
  | tup xs =>
    simp only [okE_tup, Bool.and_eq_true, decide_eq_true_eq] at h
    obtain ⟨hl, he⟩ := h
    rw [okEs_all, List.all_eq_true] at he
    by_cases h1 : lo ≤ (xs.length : Int)
    · by_cases h2 : (xs.length : Int) ≤ hi
      · simp (disch := first | omega | (simp; done) | (simp; omega)) [if_pos, if_neg, b4, h1, h2]
        rw [compK_map (fun x => .bl (isNameD x)) (by simpa using hl) (fun x hx => ⟨_, rfl, by simp, by simp (disch := first | omega | (simp; done) | (simp; omega)) [if_pos, if_neg, sp_is_name n x S (he x hx)]⟩)]
        simp (disch := first | omega | (simp; done) | (simp; omega)) [if_pos, if_neg, namesD, h1, h2]
      · simp (disch := first | omega | (simp; done) | (simp; omega)) [if_pos, if_neg, b4, h1, h2, namesD]
    · simp (disch := first | omega | (simp; done) | (simp; omega)) [if_pos, if_neg, b4, h1, namesD]
  | exc => simp at h
  | _ => simp (disch := first | omega | (simp; done) | (simp; omega)) [if_pos, if_neg, b4, namesD]
def rowD (lo hi : Int) : D → Bool
  | .tup xs => namesD lo hi (.tup xs) && asc (xs.map strO)
  | _ => false
theorem sp_is_row (n : Nat) (d : D) (lo hi : Int) (S : Store) (h : okE d = true) (hh : hi ≤ 1000) : den P (n + 3) none 5 [d, .int lo, .int hi] S = .ok (.bl (rowD lo hi d)) S := by
  refine den_wp (f := ⟨3, 3, b5⟩) rfl rfl ?_
  have e := sp_is_names n d lo hi S h
  cases hb : namesD lo hi d with
  | false =>
    rw [hb] at e
    simp (disch := first | omega | (simp; done) | (simp; omega)) [if_pos, if_neg, b5, e]
    cases d <;> simp [rowD, hb]
  | true =>
    rw [hb] at e
    cases d with
    | tup xs =>
      have hx : xs.all isNameD = true := by simp only [namesD, Bool.and_eq_true] at hb; exact hb.2.2
      have hl : xs.length ≤ 1000 := by simp only [namesD, Bool.and_eq_true, decide_eq_true_eq] at hb; omega
      have e2 := sp_asc_t (n + 1) (xs.map strO) S (by simpa using hl)
      rw [← map_strO hx] at e2
      simp (disch := first | omega | (simp; done) | (simp; omega)) [if_pos, if_neg, b5, e, e2, rowD, hb]
    | _ => simp [namesD] at hb
@[simp] theorem idx_t2 (xs : List D) (S : Store) : idxD (.tup xs) (.int 2) S = Res.of xs[2]? S := idx_t xs 2 S
/-! needs -/
def intO_ : D → Int
  | .int i => i
  | _ => 0
def needD : D → Bool
  | .tup [a, b, c] => isNameD a && (isIn 1 60 b && isIn 1 (intO_ b) c)
  | _ => false
def nameO : D → List Nat
  | .tup (.str s :: _) => s
  | _ => []
theorem sp_is_need (n : Nat) (d : D) (S : Store) (h : okE d = true) : den P (n + 3) none 10 [d] S = .ok (.bl (needD d)) S := by
  refine den_wp (f := ⟨1, 1, b10⟩) rfl rfl ?_
  cases d with
  | tup xs =>
    simp only [okE_tup, Bool.and_eq_true, decide_eq_true_eq] at h
    obtain ⟨hl, he⟩ := h
    by_cases h3 : xs.length = 3
    · match xs, h3, he with
      | [a, b, c], _, he =>
        simp only [okEs_cons, Bool.and_eq_true] at he
        obtain ⟨ha, hb, hc, _⟩ := he
        have e1 := sp_is_name (n + 1) a S ha
        cases hn : isNameD a with
        | false =>
          rw [hn] at e1
          simp (disch := first | omega | (simp; done) | (simp; omega)) [if_pos, if_neg, b10, e1, needD, hn]
        | true =>
          rw [hn] at e1
          have e2 := sp_is_integer_in n b 1 60 S hb
          cases hi : isIn 1 60 b with
          | false =>
            rw [hi] at e2
            simp (disch := first | omega | (simp; done) | (simp; omega)) [if_pos, if_neg, b10, e1, e2, needD, hn, hi]
          | true =>
            rw [hi] at e2
            cases b with
            | int v =>
              have e3 := sp_is_integer_in n c 1 v S hc
              simp (disch := first | omega | (simp; done) | (simp; omega)) [if_pos, if_neg, b10, e1, e2, e3, needD, hn, hi, intO_]
            | _ => simp [isIn] at hi
    · have hne : ¬ (xs.length : Int) = 3 := by omega
      simp (disch := first | omega | (simp; done) | (simp; omega)) [if_pos, if_neg, b10, hne]
      match xs, h3 with
      | [], _ => rfl
      | [_], _ => rfl
      | [_, _], _ => rfl
      | [_, _, _], h => simp at h
      | _ :: _ :: _ :: _ :: _, _ => rfl
  | exc => simp at h
  | _ => simp (disch := first | omega | (simp; done) | (simp; omega)) [if_pos, if_neg, b10, needD]
def needsD : D → Bool
  | .tup xs => decide (1 ≤ xs.length) && (decide (xs.length ≤ 8) && (xs.all needD && asc (xs.map nameO)))
  | _ => false
theorem need_at0 {x : D} (h : needD x = true) : ∃ b c, x = .tup [.str (nameO x), b, c] := by
  cases x with
  | tup xs =>
    match xs, h with
    | [a, b, c], h =>
      cases a with
      | str s => exact ⟨b, c, rfl⟩
      | _ => simp [needD, isNameD] at h
  | _ => simp [needD] at h
theorem sp_is_needs (n : Nat) (d : D) (S : Store) (h : okE d = true) : den P (n + 4) none 11 [d] S = .ok (.bl (needsD d)) S := by
  refine den_wp (f := ⟨1, 2, b11⟩) rfl rfl ?_
  cases d with
  | tup xs =>
    simp only [okE_tup, Bool.and_eq_true, decide_eq_true_eq] at h
    obtain ⟨hl, he⟩ := h
    rw [okEs_all, List.all_eq_true] at he
    by_cases h1 : 1 ≤ xs.length
    · by_cases h2 : xs.length ≤ 8
      · have h1' : (1 : Int) ≤ (xs.length : Int) := by omega
        have h2' : (xs.length : Int) ≤ 8 := by omega
        simp (disch := first | omega | (simp; done) | (simp; omega)) [if_pos, if_neg, b11, h1', h2']
        rw [compK_map (fun x => .bl (needD x)) (by simpa using hl) (fun x hx => ⟨_, rfl, by simp, by simp (disch := first | omega | (simp; done) | (simp; omega)) [if_pos, if_neg, sp_is_need n x S (he x hx)]⟩)]
        cases ha : xs.all needD with
        | false => simp (disch := first | omega | (simp; done) | (simp; omega)) [if_pos, if_neg, ha, needsD]
        | true =>
          have hn : ∀ x ∈ xs, ∃ b c, x = .tup [.str (nameO x), b, c] := fun x hx => need_at0 (List.all_eq_true.mp ha x hx)
          simp (disch := first | omega | (simp; done) | (simp; omega)) [if_pos, if_neg, ha]
          rw [compK_map (fun x => .str (nameO x)) (by simpa using hl) (fun x hx => by
            obtain ⟨b, c, e⟩ := hn x hx
            exact ⟨_, rfl, by simp, by
              rw [e]; simp (disch := first | omega | (simp; done) | (simp; omega)) [if_pos, if_neg, nameO]⟩)]
          have e := sp_asc_l (n + 2) S.length (xs.map nameO) (.lst ((xs.map nameO).map .str) :: S) (by simp) (by simp; omega)
          rw [List.map_map] at e
          simp (disch := first | omega | (simp; done) | (simp; omega)) [if_pos, if_neg, Function.comp_def] at e ⊢
          simp (disch := first | omega | (simp; done) | (simp; omega)) [if_pos, if_neg, e, needsD, ha, h1, h2]
      · have h1' : (1 : Int) ≤ (xs.length : Int) := by omega
        have h2' : ¬ (xs.length : Int) ≤ 8 := by omega
        simp (disch := first | omega | (simp; done) | (simp; omega)) [if_pos, if_neg, b11, h1', h2', needsD, h1, h2]
    · have h1' : ¬ (1 : Int) ≤ (xs.length : Int) := by omega
      simp (disch := first | omega | (simp; done) | (simp; omega)) [if_pos, if_neg, b11, h1', needsD, h1]
  | exc => simp at h
  | _ => simp (disch := first | omega | (simp; done) | (simp; omega)) [if_pos, if_neg, b11, needsD]
theorem chkD (n : Nat) (d : D) (S : Store) (h : okE d = true) (hb : needsD d = true) : den P (n + 5) none 12 [d] S = .ok .non S := by
  refine den_wp (f := ⟨1, 1, b12⟩) rfl rfl ?_
  simp (disch := first | omega | (simp; done) | (simp; omega)) [if_pos, if_neg, b12, sp_is_needs n d S h, hb]
theorem chkDx (n : Nat) (d : D) (S : Store) (h : okE d = true) (hb : needsD d = false) : den P (n + 5) none 12 [d] S = .exc 8 [] S := by
  refine den_wp (f := ⟨1, 1, b12⟩) rfl rfl ?_
  simp (disch := first | omega | (simp; done) | (simp; omega)) [if_pos, if_neg, b12, sp_is_needs n d S h, hb]
  exact finX_nil (pre := []) rfl
end HT
end
section
set_option maxHeartbeats 0
set_option linter.all false
set_option maxRecDepth 100000
namespace HT
open Pw
def at_ (r : List Nat) (j : Nat) : Nat := r[j]?.getD 0
theorem lenG' (S : Store) (l : List Nat) : lenD S (toG l) = some (l.length : Int) := by simp [toG]
theorem ixG {l : List Nat} {k : Nat} (h : k < l.length) (S : Store) : idxD (toG l) (.int (k : Int)) S = .ok (iN l[k]) S := by simp only [toG]; rw [idx_t]; simp [h]
def cl (w g : Nat) : Nat := (w + g - 1) / g
def Hs (gs : List Nat) (k w : Nat) : Nat := ((List.range k).map fun i => cl w (at_ gs i)).sum
def need (gs : List Nat) (k w : Nat) : Nat := 1 + Hs gs k w
def lfp (gs : List Nat) (k lim : Nat) : Option Nat := ((List.range lim).map (· + 1)).find? fun w => decide (w = need gs k w)
def optD : Option Nat → D
  | none => .non
  | some k => .int (k : Int)
theorem cl_mono {w v : Nat} (g : Nat) (h : w ≤ v) : cl w g ≤ cl v g := Nat.div_le_div_right (by omega)
theorem Hs_mono (gs : List Nat) (k : Nat) {w v : Nat} (h : w ≤ v) : Hs gs k w ≤ Hs gs k v := by
  unfold Hs
  induction List.range k with
  | nil => simp
  | cons a r ih => simp only [List.map_cons, List.sum_cons]; have := cl_mono (at_ gs a) h; omega
theorem need_mono (gs : List Nat) (k : Nat) {w v : Nat} (h : w ≤ v) : need gs k w ≤ need gs k v := by
  have := Hs_mono gs k h; unfold need; omega
theorem find_range1 {p : Nat → Bool} {n : Nat} {w : Nat} : ((List.range n).map (· + 1)).find? p = some w ↔ (1 ≤ w ∧ w ≤ n ∧ p w = true ∧ ∀ v, 1 ≤ v → v < w → p v = false) := by
  constructor
  · intro h
    rw [List.find?_eq_some_iff_append] at h
    obtain ⟨hp, as, bs, e, hall⟩ := h
    have hlen : as.length + 1 + bs.length = n := by have := congrArg List.length e; simp at this; omega
    have hget : ∀ i, i < n → ((List.range n).map (· + 1))[i]? = some (i + 1) := fun i hi => by simp [hi]
    have hw : w = as.length + 1 := by
      have h1 := hget as.length (by omega)
      rw [e, List.getElem?_append_right (by omega)] at h1
      simpa using h1
    refine ⟨by omega, by omega, hp, fun v h1 h2 => ?_⟩
    have h3 := hget (v - 1) (by omega)
    rw [e, List.getElem?_append_left (by omega)] at h3
    have := hall v (by have := List.mem_of_getElem? h3; rwa [show v - 1 + 1 = v by omega] at this)
    simpa using this
  · rintro ⟨h1, h2, hp, hall⟩
    rw [List.find?_eq_some_iff_append]
    refine ⟨hp, (List.range (w - 1)).map (· + 1), (List.range n).map (· + 1) |>.drop w, ?_, ?_⟩
    · have e := List.take_append_drop (w - 1) ((List.range n).map (· + 1))
      have e3 : ((List.range n).map (· + 1))[w - 1]'(by rw [List.length_map, List.length_range]; omega) = w := by rw [List.getElem_map, List.getElem_range]; omega
      rw [List.drop_eq_getElem_cons (by simp; omega), e3, show w - 1 + 1 = w by omega, ← List.map_take, List.take_range, Nat.min_eq_left (by omega)] at e
      exact e.symm
    · intro v hv
      simp only [List.mem_map, List.mem_range] at hv
      obtain ⟨i, hi, rfl⟩ := hv
      simp [hall (i + 1) (by omega) (by omega)]
theorem lfp_some {gs : List Nat} {k lim w : Nat} : lfp gs k lim = some w ↔ (1 ≤ w ∧ w ≤ lim ∧ w = need gs k w ∧ ∀ v, 1 ≤ v → v < w → v ≠ need gs k v) := by
  unfold lfp
  rw [find_range1]
  simp only [decide_eq_true_eq, decide_eq_false_iff_not]
theorem lfp_none {gs : List Nat} {k lim : Nat} : lfp gs k lim = none ↔ ∀ v, 1 ≤ v → v ≤ lim → v ≠ need gs k v := by
  unfold lfp
  rw [List.find?_eq_none]
  simp only [List.mem_map, List.mem_range, decide_eq_true_eq]
  constructor
  · intro h v h1 h2; exact h v ⟨v - 1, by omega, by omega⟩
  · rintro h v ⟨i, hi, rfl⟩; exact h (i + 1) (by omega) (by omega)
theorem sum_castI : ∀ (l : List Nat), (l.map fun a : Nat => (a : Int)).sum = ((l.sum : Nat) : Int)
  | [] => rfl
  | a :: r => by rw [List.map_cons, List.sum_cons, List.sum_cons, sum_castI r]; simp
theorem cl_int {w g : Nat} (hg : 1 ≤ g) : ((w : Int) + (g : Int) - 1) / (g : Int) = ((cl w g : Nat) : Int) := by
  unfold cl
  rw [show ((w : Int) + (g : Int) - 1) = ((w + g - 1 : Nat) : Int) by omega]; rfl
theorem Hs_int (gs : List Nat) (k w : Nat) : (List.map (fun i => ((cl w (at_ gs i) : Nat) : Int)) (List.range k)).sum = ((Hs gs k w : Nat) : Int) := by
  have := sum_castI ((List.range k).map fun i => cl w (at_ gs i))
  rw [List.map_map] at this
  exact this
theorem atg {gs : List Nat} {i : Nat} (h : i < gs.length) : at_ gs i = gs[i] := by simp [at_, h]
theorem sp_wait (n : Nat) (S : Store) (gs : List Nat) (k lim : Nat) (hg : OkG gs) (hk : k < gs.length) (hl : 1 ≤ lim ∧ lim ≤ 600) : den P (n + 5) none 9 [toG gs, iN k, iN lim] S = .ok (optD (lfp gs k lim)) S := by
  refine den_wp (f := ⟨3, 6, b9⟩) rfl rfl ?_
  have h8 := hg.len
  have c1 := chkG n (toG gs) S hg.e hg.d
  have c2 : den P (n + 4) none 6 [.int (k : Int), .int 0, .int ((gs.length : Int) - 1)] S = .ok .non S := chkN (n + 1) _ _ _ S (by simp) (by simp [isIn]; omega)
  have c3 : den P (n + 4) none 6 [.int (lim : Int), .int 1, .int 600] S = .ok .non S := chkN (n + 1) _ _ _ S (by simp) (by simp [isIn]; omega)
  have hrk : rngL 0 (k : Int) = (List.range k).map fun i : Nat => D.int (i : Int) := rngL_nat k
  simp (disch := first | omega | (simp; done) | (simp; omega)) [if_pos, if_neg, b9, iN, c1, lenG', c2, c3]
  refine wp_seq (wp_while (fun m env S' => ∃ w : Nat, env = [some (toG gs), some (.int k), some (.int lim), none, none, some (.int w)] ∧ S' = S ∧ 1 ≤ w ∧ w ≤ lim ∧ w ≤ need gs k w ∧ (∀ v, v = need gs k v → w ≤ v) ∧ m = lim - w) (m := lim - 1) ⟨1, rfl, rfl, by omega, by omega, by unfold need; omega, fun v hv => by unfold need at hv; omega, rfl⟩ (by unfold turns; omega) ?_)
  rintro m env S' ⟨w, rfl, rfl, h1, h2, h3, h4, rfl⟩ _
  simp (disch := first | omega | (simp; done) | (simp; omega)) [if_pos, if_neg, id]
  rw [compK_rg k (fun _ => true) (fun i => .int ((cl w (at_ gs i) : Nat) : Int)) (by omega) (fun i hi => by
    have hig : i < gs.length := by omega
    have e := fun S => ixG hig S
    have g1 := hg.ok _ (List.getElem_mem hig)
    constructor
    · simp (disch := first | omega | (simp; done) | (simp; omega)) [if_pos, if_neg, id]
    · intro _
      simp (disch := first | omega | (simp; done) | (simp; omega)) [if_pos, if_neg, e, iN, atg hig, cl_int g1.1])]
  rw [List.filter_eq_self.mpr (by simp)]
  have hs := Hs_int gs k w
  obtain ⟨nd, hnd⟩ : ∃ nd : Nat, nd = need gs k w := ⟨_, rfl⟩
  have hni : (1 : Int) + ((Hs gs k w : Nat) : Int) = (nd : Int) := by rw [hnd]; unfold need; simp
  simp (disch := first | omega | (simp; done) | (simp; omega)) [if_pos, if_neg, hs, hni]
  by_cases hw : nd = w
  · have hb : lfp gs k lim = some w := lfp_some.mpr ⟨h1, h2, by omega, fun v a b c => by have := h4 v c; omega⟩
    simp (disch := first | omega | (simp; done) | (simp; omega)) [if_pos, if_neg, hw, hb, optD]
  · have hw' : ¬ (nd : Int) = (w : Int) := by omega
    by_cases hgt : lim < nd
    · have hb : lfp gs k lim = none := lfp_none.mpr fun v a b c => by
        have q := need_mono gs k (h4 v c)
        omega
      simp (disch := first | omega | (simp; done) | (simp; omega)) [if_pos, if_neg, hw', hgt, hb, optD]
    · have hgt' : ¬ (lim : Int) < (nd : Int) := by omega
      simp (disch := first | omega | (simp; done) | (simp; omega)) [if_pos, if_neg, hw', hgt']
      refine ⟨lim - nd, by omega, nd, rfl, by omega, by omega, ?_, ?_, rfl⟩
      · have := need_mono gs k (show w ≤ nd by omega); omega
      · intro v hv
        have q := need_mono gs k (h4 v hv)
        omega
/-! needs as numbers -/
def sg (gs : List Nat) (w : Nat) : Nat := (gs.map (cl w)).sum
def inG (gs : List Nat) (T : Nat) : Bool := (List.range T).any fun i => decide (i + 1 = 1 + sg gs (i + 1))
theorem sg_mono (gs : List Nat) {w v : Nat} (h : w ≤ v) : sg gs w ≤ sg gs v := by
  unfold sg
  induction gs with
  | nil => simp
  | cons a r ih => simp only [List.map_cons, List.sum_cons]; have := cl_mono a h; omega
theorem inG_fix {gs : List Nat} {T : Nat} : inG gs T = true ↔ ∃ w, 1 ≤ w ∧ w ≤ T ∧ w = 1 + sg gs w := by
  unfold inG
  simp only [List.any_eq_true, List.mem_range, decide_eq_true_eq]
  constructor
  · rintro ⟨i, h1, h2⟩; exact ⟨i + 1, by omega, by omega, h2⟩
  · rintro ⟨w, h1, h2, h3⟩; exact ⟨w - 1, by omega, by rw [show w - 1 + 1 = w by omega]; exact h3⟩
theorem inG_le {gs : List Nat} {T : Nat} : inG gs T = true ↔ ∃ w, 1 ≤ w ∧ w ≤ T ∧ 1 + sg gs w ≤ w := by
  rw [inG_fix]
  constructor
  · rintro ⟨w, h1, h2, h3⟩; exact ⟨w, h1, h2, by omega⟩
  · intro h
    have key : ∀ m w, w ≤ m → 1 ≤ w → w ≤ T → 1 + sg gs w ≤ w → ∃ w, 1 ≤ w ∧ w ≤ T ∧ w = 1 + sg gs w := by
      intro m
      induction m with
      | zero => intro w h1 h2; omega
      | succ m ih =>
        intro w h1 h2 h3 h4
        by_cases e : w = 1 + sg gs w
        · exact ⟨w, h2, h3, e⟩
        · exact ih (1 + sg gs w) (by omega) (by omega) (by omega) (by have := sg_mono gs (show 1 + sg gs w ≤ w by omega); omega)
    obtain ⟨w, h1, h2, h3⟩ := h
    exact key w w (Nat.le_refl _) h1 h2 h3
theorem sg_sub {a b : List Nat} (h : a.Sublist b) (w : Nat) : sg a w ≤ sg b w := by
  unfold sg
  induction h with
  | slnil => simp
  | cons x _ ih => simp only [List.map_cons, List.sum_cons]; omega
  | cons_cons x _ ih => simp only [List.map_cons, List.sum_cons]; omega
theorem inG_sub {a b : List Nat} (h : a.Sublist b) {T : Nat} (hb : inG b T = true) : inG a T = true := by
  rw [inG_le] at *
  obtain ⟨w, h1, h2, h3⟩ := hb
  exact ⟨w, h1, h2, by have := sg_sub h w; omega⟩
theorem Hs_snoc (gs : List Nat) (g w : Nat) : Hs (gs ++ [g]) gs.length w = sg gs w := by
  unfold Hs sg
  have : (List.range gs.length).map (fun i => cl w (at_ (gs ++ [g]) i)) = gs.map (cl w) := by
    apply List.ext_getElem
    · simp
    · intro i h1 h2
      simp only [List.length_map] at h2
      simp [at_, List.getElem?_append_left h2, h2]
  rw [this]
theorem lfp_inG (gs : List Nat) (g T : Nat) : (lfp (gs ++ [g]) gs.length T).isSome = inG gs T := by
  rw [Bool.eq_iff_iff, inG_fix]
  have e : ∀ w, need (gs ++ [g]) gs.length w = 1 + sg gs w := fun w => by unfold need; rw [Hs_snoc]
  cases h : lfp (gs ++ [g]) gs.length T with
  | none =>
    rw [lfp_none] at h
    simp only [Option.isSome_none, Bool.false_eq_true, false_iff]
    rintro ⟨w, h1, h2, h3⟩
    exact h w h1 h2 (by rw [e]; exact h3)
  | some w =>
    rw [lfp_some] at h
    obtain ⟨h1, h2, h3, _⟩ := h
    simp only [Option.isSome_some, true_iff]
    exact ⟨w, h1, h2, by rw [e] at h3; exact h3⟩
abbrev Nd := List Nat × Nat × Nat
def ndD (x : Nd) : D := .tup [.str x.1, iN x.2.1, iN x.2.2]
def nms (nd : List Nd) : List (List Nat) := nd.map (·.1)
structure OkN (nd : List Nd) : Prop where
  len : 1 ≤ nd.length ∧ nd.length ≤ 8
  asc : (nms nd).Pairwise (· < ·)
  ok : ∀ x ∈ nd, isNameL x.1 = true ∧ 1 ≤ x.2.1 ∧ x.2.1 ≤ 60 ∧ 1 ≤ x.2.2 ∧ x.2.2 ≤ x.2.1
def gpP (c : List Nat) (os : List (List Nat)) (x : Nd) : Bool := !decide (x.1 = c) && decide (x.1 ∈ os)
def gp (nd : List Nd) (c : List Nat) (os : List (List Nat)) : List Nat := (nd.filter (gpP c os)).map (·.2.1)
def own (nd : List Nd) (c : List Nat) : Nd := (nd.find? fun x => decide (x.1 = c)).getD ([], 1, 1)
def tim (nd : List Nd) (c : List Nat) (os : List (List Nat)) : Bool := inG (gp nd c os) (own nd c).2.2
theorem tim_mono {nd : List Nd} {c : List Nat} {A B : List (List Nat)} (h : ∀ s ∈ A, s ≠ c → s ∈ B) (hb : tim nd c B = true) : tim nd c A = true := by
  refine inG_sub ?_ hb
  unfold gp
  refine List.Sublist.map _ ?_
  clear hb
  induction nd with
  | nil => simp
  | cons x r ih =>
    rw [List.filter_cons, List.filter_cons]
    by_cases h1 : gpP c A x = true
    · have h2 : gpP c B x = true := by
        simp only [gpP, Bool.and_eq_true, Bool.not_eq_true', decide_eq_false_iff_not, decide_eq_true_eq] at *
        exact ⟨h1.1, h _ h1.2 h1.1⟩
      rw [if_pos h1, if_pos h2]
      exact ih.cons_cons x
    · rw [if_neg h1]
      split
      · exact ih.cons x
      · exact ih
theorem tim_cong {nd : List Nd} {c : List Nat} {A B : List (List Nat)} (h : ∀ s, s ∈ A ↔ s ∈ B) : tim nd c A = tim nd c B := by
  unfold tim gp
  have : gpP c A = gpP c B := by funext x; simp only [gpP, h]
  rw [this]
section
variable {nd : List Nd}
theorem OkN.nodup (h : OkN nd) : (nms nd).Nodup := h.asc.imp fun hab he => by subst he; exact absurd hab (List.lt_irrefl _)
theorem own_fil (h : (nms nd).Nodup) {c : List Nat} (hc : c ∈ nms nd) : nd.filter (fun x => decide (x.1 = c)) = [own nd c] := by
  unfold own
  unfold nms at *
  induction nd with
  | nil => simp at hc
  | cons x r ih =>
    rw [List.map_cons, List.nodup_cons] at h
    rw [List.filter_cons, List.find?_cons]
    by_cases e : x.1 = c
    · simp only [e, decide_true, if_true, Option.getD_some]
      have : r.filter (fun x => decide (x.1 = c)) = [] := by
        rw [List.filter_eq_nil_iff]
        intro y hy hyc
        exact h.1 (List.mem_map.mpr ⟨y, hy, by rw [e]; simpa using hyc⟩)
      rw [this]
    · simp only [e, decide_false, Bool.false_eq_true, if_false]
      rw [List.map_cons, List.mem_cons] at hc
      exact ih h.2 (hc.resolve_left fun z => e z.symm)
theorem own_mem (h : (nms nd).Nodup) {c : List Nat} (hc : c ∈ nms nd) : own nd c ∈ nd ∧ (own nd c).1 = c := by
  have : own nd c ∈ nd.filter (fun x => decide (x.1 = c)) := by rw [own_fil h hc]; simp
  simpa using this
theorem okG_gp (h : OkN nd) {c : List Nat} (hc : c ∈ nms nd) (os : List (List Nat)) : OkG (gp nd c os ++ [(own nd c).2.1]) := by
  have ho := own_mem h.nodup hc
  refine ⟨⟨by simp, ?_⟩, ?_⟩
  · have h1 : (nd.filter (gpP c os)).length + (nd.filter (fun x => decide (x.1 = c))).length ≤ nd.length := by
      clear ho hc h
      induction nd with
      | nil => simp
      | cons x r ih =>
        by_cases e : x.1 = c
        · have : gpP c os x = false := by simp [gpP, e]
          simp only [List.filter_cons, e, this, decide_true, if_true, Bool.false_eq_true, if_false, List.length_cons]; omega
        · simp only [List.filter_cons, e, decide_false, Bool.false_eq_true, if_false, List.length_cons]
          split <;> (try simp only [List.length_cons]) <;> omega
    rw [own_fil h.nodup hc] at h1
    have := h.len
    simp only [gp, List.length_append, List.length_map, List.length_cons, List.length_nil] at *; omega
  · intro g hg
    rw [List.mem_append, List.mem_singleton] at hg
    rcases hg with hg | rfl
    · obtain ⟨x, hx, rfl⟩ := List.mem_map.mp hg
      have := h.ok x (List.mem_filter.mp hx).1
      exact ⟨this.2.1, this.2.2.1⟩
    · have := h.ok _ ho.1
      exact ⟨this.2.1, this.2.2.1⟩
end
end HT
end
section
set_option maxHeartbeats 0
set_option linter.all false
set_option maxRecDepth 100000
namespace HT
open Pw
def Oth (o : D) (os : List (List Nat)) (S : Store) : Prop := o = .tup (os.map .str) ∨ ∃ a, o = .obj a ∧ get S a = some (.lst (os.map .str))
theorem Oth.cons {o : D} {os : List (List Nat)} {S : Store} (h : Oth o os S) (x : SO) : Oth o os (x :: S) := by
  rcases h with h | ⟨a, h1, h2⟩
  · exact Or.inl h
  · exact Or.inr ⟨a, h1, get_app h2 [x]⟩
theorem Oth.din {o : D} {os : List (List Nat)} {S : Store} (h : Oth o os S) (s : List Nat) : din S (.str s) o = some (decide (s ∈ os)) := by
  rcases h with rfl | ⟨a, rfl, h2⟩
  · exact inD_strs s os
  · rw [din_G, h2, dinG_l, inD_strs]
theorem ltS (x : SO) (S : Store) : get (x :: S) S.length = some x := get_self _ _
theorem sp_behind (n : Nat) (S : Store) (nd : List Nd) (c : List Nat) (o : D) (os : List (List Nat)) (h : OkN nd) (hc : c ∈ nms nd) (ho : Oth o os S) :
    den P (n + 6) none 13 [.tup (nd.map ndD), .str c, o] S = .ok (.bl (tim nd c os)) S := by
  refine den_wp (f := ⟨3, 6, b13⟩) rfl rfl ?_
  have h8 := h.len
  have hm := own_mem h.nodup hc
  have hk := h.ok _ hm.1
  simp (disch := first | omega | (simp; done) | (simp; omega)) [if_pos, if_neg, b13]
  rw [compK_fon nd ndD (gpP c os) (fun x => iN x.2.1) (by omega) (fun x hx => by
    refine ⟨_, rfl, ?_, ?_⟩
    · by_cases e : x.1 = c
      · simp (disch := first | omega | (simp; done) | (simp; omega)) [if_pos, if_neg, ndD, e, gpP]
      · by_cases e2 : x.1 ∈ os
        · simp (disch := first | omega | (simp; done) | (simp; omega)) [if_pos, if_neg, ndD, e, gpP, ho.din, e2]
        · simp (disch := first | omega | (simp; done) | (simp; omega)) [if_pos, if_neg, ndD, e, gpP, ho.din, e2]
    · intro _; simp (disch := first | omega | (simp; done) | (simp; omega)) [if_pos, if_neg, ndD])]
  simp (disch := first | omega | (simp; done) | (simp; omega)) [if_pos, if_neg, id]
  rw [compK_fon nd ndD (fun x => decide (x.1 = c)) ndD (by omega) (fun x hx => by
    refine ⟨_, rfl, ?_, ?_⟩
    · by_cases e : x.1 = c
      · simp (disch := first | omega | (simp; done) | (simp; omega)) [if_pos, if_neg, ndD, e]
      · simp (disch := first | omega | (simp; done) | (simp; omega)) [if_pos, if_neg, ndD, e]
    · intro _; simp (disch := first | omega | (simp; done) | (simp; omega)) [if_pos, if_neg, id])]
  rw [own_fil h.nodup hc]
  have hw := fun T => sp_wait n T (gp nd c os ++ [(own nd c).2.1]) (gp nd c os).length (own nd c).2.2 (okG_gp h hc os) (by simp) (by omega)
  have e1 : (List.map (fun x : Nd => iN x.2.1) (List.filter (gpP c os) nd)) = (gp nd c os).map iN := by simp [gp, List.map_map, Function.comp_def]
  have hl : lfp (gp nd c os ++ [(own nd c).2.1]) (gp nd c os).length (own nd c).2.2 = none ∨ ∃ w, lfp (gp nd c os ++ [(own nd c).2.1]) (gp nd c os).length (own nd c).2.2 = some w := by
    cases lfp (gp nd c os ++ [(own nd c).2.1]) (gp nd c os).length (own nd c).2.2 with
    | none => exact Or.inl rfl
    | some w => exact Or.inr ⟨w, rfl⟩
  have hi := lfp_inG (gp nd c os) (own nd c).2.1 (own nd c).2.2
  have hlen : (gp nd c os).length ≤ 8 := by have := (okG_gp h hc os).len; simp at this; omega
  unfold toG at hw
  rw [List.map_append] at hw
  rw [e1]
  have htim : tim nd c os = inG (gp nd c os) (own nd c).2.2 := rfl
  generalize gp nd c os = G at *
  have hw' : ∀ T, den P (n + 5) none 9 [.tup (G.map iN ++ [iN (own nd c).2.1]), .int (G.length : Int), iN (own nd c).2.2] T = .ok (optD (lfp (G ++ [(own nd c).2.1]) G.length (own nd c).2.2)) T := hw
  rcases hl with hl | ⟨w, hl⟩
  · rw [hl] at hi
    have : tim nd c os = false := by rw [htim, ← hi]; rfl
    simp (disch := first | omega | (simp; done) | (simp; omega)) [if_pos, if_neg, ndD, hw', hl, optD, this]
  · rw [hl] at hi
    have : tim nd c os = true := by rw [htim, ← hi]; rfl
    simp (disch := first | omega | (simp; done) | (simp; omega)) [if_pos, if_neg, ndD, hw', hl, optD, this]
/-! the memo -/
def mkey (c : List Nat) (os : List (List Nat)) : D := .tup [.str c, .tup ((os.mergeSort leL).map .str)]
theorem keyT_mkey (c : List Nat) (os : List (List Nat)) : keyT (mkey c os) = true := by
  simp [mkey, keyT, keyIn, Function.comp_def]
/-- what is kept in the memo is so -/
structure OkM (nd : List Nd) (m : List (D × D)) : Prop where
  so : ∀ c os d, lookD (mkey c os) m = some d → d = .bl (tim nd c os)
  bel : ∀ p ∈ m, ∀ n, D.bel n p.1 = true ∧ D.bel n p.2 = true
theorem OkM.nil (nd : List Nd) : OkM nd [] := ⟨fun _ _ _ h => by simp [lookD] at h, by simp⟩
def mo (m : List (D × D)) : SO := if m = [] then .dct [] else .dcn m
theorem look_put (k k' v : D) : ∀ m : List (D × D), lookD k' (putD k v m) = if k = k' then some v else lookD k' m
  | [] => by
    by_cases e : k = k'
    · subst e; simp [putD, lookD]
    · simp [putD, lookD, e]
  | (a, b) :: r => by
    have ih := look_put k k' v r
    by_cases e : a = k
    · subst e
      by_cases e2 : a = k'
      · subst e2; simp [putD, lookD]
      · simp [putD, lookD, e2]
    · rw [putD, if_neg e, lookD, lookD]
      by_cases e2 : a = k'
      · subst e2; simp [Ne.symm e]
      · rw [if_neg e2, if_neg e2, ih]
theorem mem_putD {k v : D} {p : D × D} : ∀ {m : List (D × D)}, p ∈ putD k v m → p = (k, v) ∨ p ∈ m
  | [], h => by simp [putD] at h; exact Or.inl h
  | (a, b) :: r, h => by
    by_cases e : a = k
    · rw [putD, if_pos e, List.mem_cons] at h
      rcases h with h | h
      · exact Or.inl (by rw [h, e])
      · exact Or.inr (List.mem_cons_of_mem _ h)
    · rw [putD, if_neg e, List.mem_cons] at h
      rcases h with h | h
      · exact Or.inr (by rw [h]; exact List.mem_cons_self ..)
      · exact (mem_putD h).imp id (List.mem_cons_of_mem _)
theorem len_putD (k v : D) : ∀ m : List (D × D), (putD k v m).length ≤ m.length + 1
  | [] => by simp [putD]
  | (a, b) :: r => by
    have := len_putD k v r
    rw [putD]; split <;> simp only [List.length_cons] <;> omega
theorem putD_ne (k v : D) : ∀ m : List (D × D), putD k v m ≠ []
  | [] => by simp [putD]
  | (a, b) :: r => by rw [putD]; split <;> simp
theorem str_inj {a b : List (List Nat)} (h : a.map D.str = b.map D.str) : a = b := by
  have := congrArg (List.map strO) h
  simpa [List.map_map, Function.comp_def, strO] using this
theorem OkM.put {nd : List Nd} {m : List (D × D)} (h : OkM nd m) (c : List Nat) (os : List (List Nat)) : OkM nd (putD (mkey c os) (.bl (tim nd c os)) m) := by
  refine ⟨fun c' os' d hl => ?_, fun p hp n => ?_⟩
  · rw [look_put] at hl
    by_cases e : mkey c os = mkey c' os'
    · rw [if_pos e] at hl
      cases hl
      simp only [mkey, D.tup.injEq, List.cons.injEq, D.str.injEq, and_true] at e
      obtain ⟨rfl, e⟩ := e
      have e := str_inj e
      have : ∀ s, s ∈ os ↔ s ∈ os' := fun s => by
        rw [← (List.mergeSort_perm os leL).mem_iff, ← (List.mergeSort_perm os' leL).mem_iff, e]
      rw [tim_cong this]
    · rw [if_neg e] at hl
      exact h.so c' os' d hl
  · rcases mem_putD hp with rfl | hp
    · simp [mkey, belsM]
    · exact h.bel p hp n
theorem OkM.sbel {nd : List Nd} {m : List (D × D)} (h : OkM nd m) (n : Nat) : SO.bel n (mo m) = true := by
  unfold mo
  split
  · rfl
  · show (D.bels n (m.map (·.1)) && D.bels n (m.map (·.2))) = true
    rw [belsM fun p hp => (h.bel p hp n).1, belsM fun p hp => (h.bel p hp n).2]; rfl
theorem mo_put (k v : D) (m : List (D × D)) : mo (putD k v m) = .dcn (putD k v m) := by simp [mo, putD_ne]
theorem mo_set {n : Nat} {S : Store} {m : List (D × D)} {k v : D} (hk : keyT k = true) (hl : m.length < 100000) : setG n k v (some (mo m)) S = some (Pw.put S n (mo (putD k v m))) := by
  rw [mo_put]
  unfold mo
  split
  · rename_i e; subst e; rw [setG_dn0 hk]; rfl
  · rw [setG_dn hk hl]
theorem mo_in {m : List (D × D)} {k : D} (hk : keyT k = true) : dinG k (some (mo m)) = some (lookD k m).isSome := by
  unfold mo
  split
  · rename_i e; subst e; rw [dinG_n0 hk]; rfl
  · rw [dinG_n hk]; rfl
theorem mo_ix {S : Store} {m : List (D × D)} {k d : D} (hk : keyT k = true) (hl : lookD k m = some d) : idxKG k (some (mo m)) S = .ok d S := by
  unfold mo
  split
  · rename_i e; subst e; simp [lookD] at hl
  · exact idxKG_n hk hl
theorem mo_no {m : List (D × D)} {xs : List D} : mo m ≠ .lst xs := by
  unfold mo; split <;> simp
theorem Oth.put {o : D} {os : List (List Nat)} {S : Store} {M : Nat} {m : List (D × D)} (h : Oth o os S) (hM : get S M = some (mo m)) (x : SO) : Oth o os (Pw.put S M x) := by
  rcases h with h | ⟨a, h1, h2⟩
  · exact Or.inl h
  · refine Or.inr ⟨a, h1, ?_⟩
    rw [get_put_ne, h2]
    rintro rfl
    rw [h2] at hM
    exact mo_no (Option.some.inj hM).symm
theorem sp_in_time (n : Nat) (S : Store) (nd : List Nd) (c : List Nat) (o : D) (os : List (List Nat)) (M : Nat) (m : List (D × D)) (h : OkN nd) (hc : c ∈ nms nd) (ho : Oth o os S) (hM : get S M = some (mo m)) (hm : OkM nd m) (hl : m.length < 90000) (hos : os.length < 64) :
    ∃ m', (OkM nd m' ∧ m'.length ≤ m.length + 1) ∧ den P (n + 1) none 23 [.tup (nd.map ndD), .str c, o, .obj M] S = .ok (.bl (tim nd c os)) (Pw.put S M (mo m')) := by
  refine den_post (f := ⟨4, 11, b23⟩) (fun m' => OkM nd m' ∧ m'.length ≤ m.length + 1) (fun m' => .ok (.bl (tim nd c os)) (Pw.put S M (mo m'))) rfl rfl ?_
  have hML := get_lt hM
  have hk := keyT_mkey c os
  have hne : ¬ M = S.length := by omega
  refine wp_split 1 [some (.tup (nd.map ndD)), some (.str c), some o, some (.obj M), none, none, some (mkey c os), none, none, none, none] (.lst ((os.mergeSort leL).map .str) :: S) ?_ ?_
  · rcases ho with rfl | ⟨a, rfl, h2⟩
    · simp (disch := first | omega | (simp; done) | (simp; omega)) [if_pos, if_neg, b23, sortD_s hos, mkey, seqD]
    · simp (disch := first | omega | (simp; done) | (simp; omega)) [if_pos, if_neg, b23, h2, sortD_s hos, mkey, seqD]
  · have ho0 := ho.cons (.lst ((os.mergeSort leL).map .str))
    have hM0 : get (.lst ((os.mergeSort leL).map .str) :: S) M = some (mo m) := by rw [get_cons, if_neg hne]; exact hM
    have hlen : (SO.lst ((os.mergeSort leL).map .str) :: S).length = S.length + 1 := rfl
    obtain ⟨pre, hpre⟩ : ∃ pre, (SO.lst ((os.mergeSort leL).map .str) :: S) = pre ++ S := ⟨[_], rfl⟩
    generalize (SO.lst ((os.mergeSort leL).map .str) :: S) = T0 at *
    have hin := mo_in (m := m) hk
    have ixk : ∀ T, idxD (.obj M) (mkey c os) T = idxKG (mkey c os) (get T M) T := fun T => idx_KGt _ _ _
    cases hlook : lookD (mkey c os) m with
    | some d =>
      have hd := hm.so c os d hlook
      subst hd
      rw [hlook] at hin
      simp (disch := first | omega | (simp; done) | (simp; omega)) [if_pos, if_neg, b23, hM0, hin, ixk, mo_ix hk hlook]
      refine ⟨m, ⟨hm, by omega⟩, ?_⟩
      rw [put_same hM]
      exact fin_val hpre (by simp)
    | none =>
      rw [hlook] at hin
      have h8 := h.len
      have hmo := own_mem h.nodup hc
      have hko := h.ok _ hmo.1
      simp (disch := first | omega | (simp; done) | (simp; omega)) [if_pos, if_neg, b23, hM0, hin]
      rw [compK_fon nd ndD (fun x => gpP c os x) (fun x => iN x.2.1) (by omega) (fun x hx => by
        refine ⟨_, rfl, ?_, ?_⟩
        · by_cases e2 : x.1 ∈ os
          · by_cases e : x.1 = c
            · have e3 : c ∈ os := e ▸ e2
              simp (disch := first | omega | (simp; done) | (simp; omega)) [if_pos, if_neg, ndD, e, gpP, ho0.din, e3]
            · simp (disch := first | omega | (simp; done) | (simp; omega)) [if_pos, if_neg, ndD, e, gpP, ho0.din, e2]
          · simp (disch := first | omega | (simp; done) | (simp; omega)) [if_pos, if_neg, ndD, gpP, ho0.din, e2]
        · intro _; simp (disch := first | omega | (simp; done) | (simp; omega)) [if_pos, if_neg, ndD])]
      simp (disch := first | omega | (simp; done) | (simp; omega)) [if_pos, if_neg, id]
      rw [compK_fon nd ndD (fun x => decide (x.1 = c)) (fun x => iN x.2.2) (by omega) (fun x hx => by
        refine ⟨_, rfl, ?_, ?_⟩
        · by_cases e : x.1 = c
          · simp (disch := first | omega | (simp; done) | (simp; omega)) [if_pos, if_neg, ndD, e]
          · simp (disch := first | omega | (simp; done) | (simp; omega)) [if_pos, if_neg, ndD, e]
        · intro _; simp (disch := first | omega | (simp; done) | (simp; omega)) [if_pos, if_neg, ndD])]
      rw [own_fil h.nodup hc]
      have e1 : (List.map (fun x : Nd => iN x.2.1) (List.filter (fun x => gpP c os x) nd)) = (gp nd c os).map iN := by simp [gp, List.map_map, Function.comp_def]
      have hgl : (gp nd c os).length ≤ 8 := by have := (okG_gp h hc os).len; simp at this; omega
      have hg1 : ∀ g ∈ gp nd c os, 1 ≤ g ∧ g ≤ 60 := fun g hg => (okG_gp h hc os).ok g (by simp [hg])
      have htim : tim nd c os = inG (gp nd c os) (own nd c).2.2 := rfl
      rw [e1]
      generalize gp nd c os = G at *
      obtain ⟨Tm, hTm⟩ : ∃ Tm, (own nd c).2.2 = Tm := ⟨_, rfl⟩
      rw [hTm] at htim hko
      have hr : rngL 1 ((Tm : Int) + 1) = ((List.range Tm).map (· + 1)).map iN := by
        rw [show (Tm : Int) + 1 = ((Tm + 1 : Nat) : Int) from rfl, rngL1, Nat.add_sub_cancel, List.map_map]; rfl
      simp (disch := first | omega | (simp; done) | (simp; omega)) [if_pos, if_neg, hTm, iN, hr]
      have q1 : get (SO.lst [D.int (Tm : Int)] :: SO.lst (G.map iN) :: T0) T0.length = some (.lst (G.map iN)) := by simp
      have q2 : get (SO.lst [D.int (Tm : Int)] :: SO.lst (G.map iN) :: T0) (T0.length + 1) = some (.lst [.int (Tm : Int)]) := by simp
      have q3 : get (SO.lst [D.int (Tm : Int)] :: SO.lst (G.map iN) :: T0) M = some (mo m) := by
        have z1 : ¬ M = T0.length := by omega
        have z2 : ¬ M = T0.length + 1 := by omega
        simp [z1, z2, hM0]
      obtain ⟨pr2, hp2⟩ : ∃ pr2, (SO.lst [D.int (Tm : Int)] :: SO.lst (G.map iN) :: T0) = pr2 ++ S := ⟨_ :: _ :: pre, by rw [hpre]; rfl⟩
      have q4 := get_lt q3
      generalize (SO.lst [D.int (Tm : Int)] :: SO.lst (G.map iN) :: T0) = T2 at *
      have after : ∀ T, T = T2 → ∀ e4 e8 e10, wp (seqK ⟨den P n, P.G, P.Cl, none⟩ [Stm.setIx (Exp.v 3) (Exp.v 6) (Exp.v 7)] (.ok (.nx [some (.tup (nd.map ndD)), some (.str c), some o, some (.obj M), e4, some (.obj T0.length),
            some (mkey c os), some (.bl (inG G Tm)), e8, some (.obj (T0.length + 1)), e10]) T))
          fun fl S3 => wp (seqK ⟨den P n, P.G, P.Cl, none⟩ [Stm.ret ((Exp.v 3).idx (Exp.v 6))] (.ok fl S3)) fun fl S' => ∃ a, (OkM nd a ∧ a.length ≤ m.length + 1) ∧ outF S fl S' = Res.ok (D.bl (inG G Tm)) (put S M (mo a)) := by
        rintro T rfl e4 e8 e10
        have st := mo_set (n := M) (S := T) (k := mkey c os) (v := .bl (inG G Tm)) hk (show m.length < 100000 by omega)
        have hlk : lookD (mkey c os) (putD (mkey c os) (.bl (inG G Tm)) m) = some (.bl (inG G Tm)) := by rw [look_put, if_pos rfl]
        simp (disch := first | omega | (simp; done) | (simp; omega)) [if_pos, if_neg, q3, st, ixk, get_put_self q4, mo_ix hk hlk]
        have hput := hm.put c os
        rw [htim] at hput
        refine ⟨_, ⟨hput, len_putD _ _ m⟩, ?_⟩
        rw [hp2, put_app hML]
        exact fin_put (by simp) (hput.sbel _)
      rw [htim]
      refine wp_seq (wp_seq (wp_for (fun i e S' => S' = T2 ∧ i ≤ Tm ∧ (∀ v, 1 ≤ v → v ≤ i → v ≠ 1 + sg G v) ∧ e = [some (.tup (nd.map ndD)), some (.str c), some o, some (.obj M), none, some (.obj T0.length), some (mkey c os), some (.bl false), none, some (.obj (T0.length + 1)), none])
        ⟨rfl, by omega, by omega, rfl⟩ (by intros; rfl) ?_ ?_))
      · rintro i x e S' hx ⟨rfl, hi, hnf, rfl⟩
        rw [List.getElem?_map] at hx
        obtain ⟨j, hj, rfl⟩ := Option.map_eq_some_iff.mp hx
        obtain ⟨hj1, hj2⟩ := List.getElem?_eq_some_iff.mp hj
        simp only [List.length_range] at hj1
        simp only [List.getElem_range] at hj2
        subst hj2
        simp only [Function.comp_apply]
        generalize hw : i + 1 = w at *
        simp (disch := first | omega | (simp; done) | (simp; omega)) [if_pos, if_neg, iN, q1]
        rw [compK_on G iN (fun g => .int ((cl w g : Nat) : Int)) (by omega) (fun g hg => by
          have g1 := hg1 g hg
          refine ⟨_, rfl, by simp (disch := first | omega | (simp; done) | (simp; omega)) [if_pos, if_neg, id], by simp (disch := first | omega | (simp; done) | (simp; omega)) [if_pos, if_neg, iN, cl_int g1.1]⟩)]
        have hsum : (List.map (fun g => ((cl w g : Nat) : Int)) G).sum = ((sg G w : Nat) : Int) := by
          have := sum_castI (G.map (cl w))
          rw [List.map_map] at this
          exact this
        by_cases e : 1 + sg G w = w
        · have e' : (1 : Int) + ((sg G w : Nat) : Int) = (w : Int) := by omega
          have hin : inG G Tm = true := inG_fix.mpr ⟨w, by omega, by omega, e.symm⟩
          have af := after S' rfl none none none
          rw [hin] at af ⊢
          simp (disch := first | omega | (simp; done) | (simp; omega)) [if_pos, if_neg, hsum, e']
          simpa using af
        · have e' : ¬ (1 : Int) + ((sg G w : Nat) : Int) = (w : Int) := by omega
          by_cases e2 : Tm < 1 + sg G w
          · have e2' : (Tm : Int) < 1 + ((sg G w : Nat) : Int) := by omega
            have hin : inG G Tm = false := by
              rw [Bool.eq_false_iff]
              intro hc
              obtain ⟨v, h1, h2, h3⟩ := inG_fix.mp hc
              by_cases hv : v ≤ i
              · exact hnf v h1 hv h3
              · have := sg_mono G (show w ≤ v by omega)
                omega
            have af := after S' rfl none none none
            rw [hin] at af ⊢
            simp (disch := first | omega | (simp; done) | (simp; omega)) [if_pos, if_neg, hsum, e', e2', q2]
            simpa using af
          · have e2' : ¬ (Tm : Int) < 1 + ((sg G w : Nat) : Int) := by omega
            simp (disch := first | omega | (simp; done) | (simp; omega)) [if_pos, if_neg, hsum, e', e2', q2]
            refine ⟨by omega, fun v h1 h2 => ?_⟩
            by_cases hv : v ≤ i
            · exact hnf v h1 hv
            · rw [show v = w by omega]; omega
      · rintro e S' ⟨rfl, _, hnf, rfl⟩
        have : inG G Tm = false := by
          rw [Bool.eq_false_iff]
          intro hc
          obtain ⟨w, h1, h2, h3⟩ := inG_fix.mp hc
          exact hnf w h1 (by simpa using h2) h3
        have af := after S' rfl none none none
        rw [this] at af ⊢
        exact af
end HT
end
section
set_option maxHeartbeats 0
set_option linter.all false
set_option maxRecDepth 100000
namespace HT
open Pw
/-! the order -/
def ordM (nd : List Nd) : Nat → List (List Nat) → List (List Nat) → Bool × List (List Nat)
  | 0, left, acc => (true, acc)
  | f + 1, left, acc => match (left.filter fun c => tim nd c left).getLast? with
    | none => (false, left)
    | some l => ordM nd f (left.filter fun c => !decide (c = l)) (l :: acc)
def wLate : List Nat := [108, 97, 116, 101]
def wOrder : List Nat := [111, 114, 100, 101, 114]
def dueD (r : Bool × List (List Nat)) : D := .tup [.str (if r.1 = true then wOrder else wLate), .tup (r.2.map .str)]
theorem len_fil {left : List (List Nat)} {l : List Nat} (hn : left.Nodup) (hl : l ∈ left) : (left.filter fun c => !decide (c = l)).length + 1 = left.length := by
  induction left with
  | nil => simp at hl
  | cons a r ih =>
    rw [List.nodup_cons] at hn
    rw [List.filter_cons]
    by_cases e : a = l
    · subst e
      simp only [decide_true, Bool.not_true, Bool.false_eq_true, if_false, List.length_cons]
      rw [List.filter_eq_self.mpr (fun x hx => by
        have : x ≠ a := fun z => hn.1 (z ▸ hx)
        simp [this])]
    · rw [List.mem_cons] at hl
      have := ih hn.2 (hl.resolve_left fun z => e z.symm)
      simp only [e, decide_false, Bool.not_false, if_true, List.length_cons]; omega
theorem put_hi {S pre : Store} {n : Nat} {x : SO} (h : S.length ≤ n) : ∃ pre', put (pre ++ S) n x = pre' ++ S ∧ pre'.length = pre.length := by
  induction pre with
  | nil =>
    have : ∀ T : Store, T.length ≤ n → put T n x = T := by
      intro T
      induction T with
      | nil => intro _; rfl
      | cons a r ih => intro hl; rw [put_cons, if_neg (by simp at hl; omega), ih (by simp at hl; omega)]
    exact ⟨[], this S h, rfl⟩
  | cons a r ih =>
    obtain ⟨q, h1, h2⟩ := ih
    rw [List.cons_append, put_cons]
    split
    · exact ⟨x :: r, rfl, by simp⟩
    · exact ⟨a :: q, by rw [h1]; rfl, by simp [h2]⟩
theorem getLast_split {l : List (List Nat)} {x : List Nat} (h : l.getLast? = some x) : ∃ pre, l = pre ++ [x] := by
  rw [List.getLast?_eq_some_iff] at h
  exact h
/-- names that are left -/
structure Left (nd : List Nd) (left : List (List Nat)) : Prop where
  sub : ∀ c ∈ left, c ∈ nms nd
  asc : left.Pairwise (· < ·)
theorem Left.nodup {nd : List Nd} {left : List (List Nat)} (h : Left nd left) : left.Nodup := h.asc.imp fun hab he => by subst he; exact absurd hab (List.lt_irrefl _)
theorem Left.fil {nd : List Nd} {left : List (List Nat)} (h : Left nd left) (p : List Nat → Bool) : Left nd (left.filter p) := ⟨fun c hc => h.sub c (List.mem_filter.mp hc).1, h.asc.filter p⟩
theorem Left.all {nd : List Nd} (h : OkN nd) : Left nd (nms nd) := ⟨fun _ hc => hc, h.asc⟩
theorem needsD_ok {nd : List Nd} (h : OkN nd) : okE (.tup (nd.map ndD)) = true ∧ needsD (.tup (nd.map ndD)) = true := by
  have h8 := h.len
  constructor
  · simp only [okE_tup, Bool.and_eq_true, decide_eq_true_eq, List.length_map]
    refine ⟨by omega, ?_⟩
    rw [okEs_all, List.all_eq_true]
    intro x hx
    obtain ⟨y, hy, rfl⟩ := List.mem_map.mp hx
    have := (h.ok y hy).1
    have hl : y.1.length ≤ 8 := by simp only [isNameL, Bool.and_eq_true, decide_eq_true_eq] at this; exact this.1.1.2
    simp [ndD, iN]; omega
  · simp only [needsD, Bool.and_eq_true, decide_eq_true_eq, List.length_map]
    refine ⟨h8.1, h8.2, ?_, ?_⟩
    · rw [List.all_eq_true]
      intro x hx
      obtain ⟨y, hy, rfl⟩ := List.mem_map.mp hx
      obtain ⟨h1, h2, h3, h4, h5⟩ := h.ok y hy
      simp [ndD, needD, isNameD, h1, iN, isIn, intO_]
      omega
    · rw [List.map_map]
      exact asc_of h.asc
theorem rev_l {S : Store} {n : Nat} {xs : List D} (h : get S n = some (.lst xs)) : revD (.obj n) S = .ok (.obj S.length) (.lst xs.reverse :: S) := by simp [revD, h]
def toI (nd : List Nd) (S : Store) (mm : Nat) (env : Env) (S' : Store) : Prop := ∃ (left acc : List (List Nat)) (l o : Nat), Left nd left ∧ left.length = mm ∧ acc.length + mm = nd.length ∧ ordM nd mm left acc = ordM nd nd.length (nms nd) [] ∧ (∃ pre, S' = pre ++ S) ∧ S.length ≤ o ∧ S.length ≤ l ∧ l ≠ o ∧ get S' l = some (.lst (left.map .str)) ∧ get S' o = some (.lst (acc.reverse.map .str)) ∧
    env = [some (.tup (nd.map ndD)), none, none, some (.obj l), none, some (.obj o)]
theorem bels_str (n : Nat) (l : List (List Nat)) : D.bels n (l.map .str) = true := belsM fun _ _ => rfl
theorem dueD_bel (n : Nat) (r : Bool × List (List Nat)) : D.bel n (dueD r) = true := by simp [dueD, bels_str]
theorem sp_timely_order (n : Nat) (S : Store) (nd : List Nd) (h : OkN nd) : den P (n + 7) none 14 [.tup (nd.map ndD)] S = .ok (dueD (ordM nd nd.length (nms nd) [])) S := by
  refine den_wp (f := ⟨1, 6, b14⟩) rfl rfl ?_
  have h8 := h.len
  obtain ⟨k1, k2⟩ := needsD_ok h
  have hck := chkD (n + 1) _ S k1 k2
  simp (disch := first | omega | (simp; done) | (simp; omega)) [if_pos, if_neg, b14, hck]
  rw [compK_on nd ndD (fun x => .str x.1) (by omega) (fun x hx => ⟨_, rfl, by simp (disch := first | omega | (simp; done) | (simp; omega)) [if_pos, if_neg, id], by simp (disch := first | omega | (simp; done) | (simp; omega)) [if_pos, if_neg, ndD]⟩)]
  have e1 : nd.map (fun x : Nd => D.str x.1) = (nms nd).map .str := by simp [nms, Function.comp_def]
  rw [e1]
  simp (disch := first | omega | (simp; done) | (simp; omega)) [if_pos, if_neg, id]
  refine wp_seq (wp_while (toI nd S) (m := nd.length) ⟨nms nd, [], S.length, S.length + 1, Left.all h, by simp [nms], by simp, rfl, ⟨[_, _], rfl⟩, by omega, by omega, by omega, by simp, by simp, rfl⟩ (by unfold turns; omega) ?_)
  rintro mm env S' ⟨left, acc, l, o, hleft, hlm, hal, hord, ⟨pre, hpre⟩, ho, hl, hlo, hgl, hgo, rfl⟩ _
  have hl8 : left.length ≤ 8 := by omega
  rw [← hord]
  cases mm with
  | zero =>
    have : left = [] := List.length_eq_zero_iff.mp hlm
    subst this
    have hrv := rev_l hgo
    rw [← List.map_reverse, List.reverse_reverse] at hrv
    simp (disch := first | omega | (simp; done) | (simp; omega)) [if_pos, if_neg, hgl, hrv, bels_str]
    exact fin_val (pre := _ :: pre) (by rw [hpre]; rfl) (by simp [bels_str])
  | succ mm =>
    have hpos : (0 : Int) < (left.length : Int) := by omega
    simp (disch := first | omega | (simp; done) | (simp; omega)) [if_pos, if_neg, hgl, hpos]
    rw [compK_fon left .str (fun c => tim nd c left) .str (by omega) (fun c hc => by
      have hb := sp_behind n S' nd c (.obj l) left h (hleft.sub c hc) (Or.inr ⟨l, rfl, hgl⟩)
      refine ⟨_, rfl, ?_, ?_⟩
      · by_cases e : tim nd c left = true
        · simp (disch := first | omega | (simp; done) | (simp; omega)) [if_pos, if_neg, hb, e]
        · simp (disch := first | omega | (simp; done) | (simp; omega)) [if_pos, if_neg, hb, e]
      · intro _; simp (disch := first | omega | (simp; done) | (simp; omega)) [if_pos, if_neg, id])]
    cases hla : (left.filter fun c => tim nd c left).getLast? with
    | none =>
      have hnil : (left.filter fun c => tim nd c left) = [] := List.getLast?_eq_none_iff.mp hla
      have hz : ¬ l = S'.length := by have := get_lt hgl; omega
      have ho1 : ordM nd (mm + 1) left acc = (false, left) := by rw [ordM, hla]
      rw [hnil, ho1]
      simp (disch := first | omega | (simp; done) | (simp; omega)) [if_pos, if_neg, hz, hgl]
      exact fin_val (pre := _ :: pre) (by rw [hpre]; rfl) (by simp [bels_str])
    | some x =>
      obtain ⟨ab, hab⟩ := getLast_split hla
      have ho1 : ordM nd (mm + 1) left acc = ordM nd mm (left.filter fun c => !decide (c = x)) (x :: acc) := by rw [ordM, hla]
      have hxm : x ∈ left := by
        have : x ∈ left.filter fun c => tim nd c left := by rw [hab]; simp
        exact (List.mem_filter.mp this).1
      have hlf := len_fil hleft.nodup hxm
      have hab8 : ab.length + 1 ≤ 8 := by
        have h1 := List.length_filter_le (fun c => tim nd c left) left
        rw [hab] at h1; simp at h1; omega
      rw [hab, ho1]
      have hzl : ¬ l = S'.length := by have := get_lt hgl; omega
      have hzo : ¬ o = S'.length := by have := get_lt hgo; omega
      have hac : acc.length < 16777216 := by omega
      have hne1 : ¬ (ab.length : Int) + 1 = 0 := by omega
      have hgl2 : ∀ Y, get (put S' o Y) l = some (.lst (left.map .str)) := fun Y => by rw [get_put_ne hlo]; exact hgl
      have hgo2 : ∀ Y, get (put S' o Y) o = some Y := fun Y => get_put_self (get_lt hgo)
      simp (disch := first | omega | (simp; done) | (simp; omega)) [if_pos, if_neg, hzl, hzo, hgl, hgo, hne1, idxG_last, hgl2]
      rw [compK_fon left .str (fun c => !decide (c = x)) .str (by omega) (fun c hc => by
        refine ⟨_, rfl, ?_, ?_⟩
        · by_cases e : c = x
          · simp (disch := first | omega | (simp; done) | (simp; omega)) [if_pos, if_neg, e, idxG_last]
          · simp (disch := first | omega | (simp; done) | (simp; omega)) [if_pos, if_neg, e, idxG_last]
        · intro _; simp (disch := first | omega | (simp; done) | (simp; omega)) [if_pos, if_neg, id])]
      obtain ⟨pre', hp', _⟩ := put_hi (pre := pre) (x := .lst ((List.map D.str acc).reverse ++ [D.str x])) ho
      rw [← hpre] at hp'
      have hgoY := hgo2 (.lst ((List.map D.str acc).reverse ++ [D.str x]))
      have hlY : (put S' o (.lst ((List.map D.str acc).reverse ++ [D.str x]))).length = S'.length := by simp
      generalize put S' o (.lst ((List.map D.str acc).reverse ++ [D.str x])) = T1 at *
      have hno : ¬ o = T1.length := by omega
      have hno1 : ¬ o = T1.length + 1 := by have := get_lt hgo; omega
      simp (disch := first | omega | (simp; done) | (simp; omega)) [if_pos, if_neg, hlY]
      have hSl : S.length ≤ S'.length := by rw [hpre]; simp
      refine ⟨mm, by omega, ?_⟩
      rw [trim_no (by simp [hlY]; intros; omega)]
      exact ⟨left.filter fun c => !decide (c = x), x :: acc, S'.length + 1, o, hleft.fil _, by omega, by simp; omega, by rw [← ho1, hord], ⟨_ :: _ :: pre', by rw [hp']; rfl⟩, by omega, by omega, by omega, by simp [hlY], by simp [hlY, hzo, hgoY]; omega, by simp⟩
end HT
end
section
set_option maxHeartbeats 0
set_option linter.all false
set_option maxRecDepth 100000
namespace HT
open Pw
theorem compL_finv {β : Type} {f : D → Store → Res (Option D)} {g : Store → Bool} (l : List β) (c : β → D) (p : β → Bool) (v : β → D) (I : Nat → Store → Prop) {S : Store} (hg : ∀ i S', I i S' → g S' = true)
    (h : ∀ i b S', l[i]? = some b → I i S' → ∃ S2, f (c b) S' = .ok (if p b = true then some (v b) else none) S2 ∧ I (i + 1) S2) : ∀ k, I k S → (∀ i, (l.drop k)[i]? = l[k + i]?) → ∃ S', compL f g ((l.drop k).map c) S = .ok (((l.drop k).filter p).map v) S' ∧ I (k + (l.drop k).length) S' := by
  have key : ∀ (r : List β) (k : Nat) (S : Store), (∀ i, r[i]? = l[k + i]?) → I k S → ∃ S', compL f g (r.map c) S = .ok ((r.filter p).map v) S' ∧ I (k + r.length) S' := by
    intro r
    induction r with
    | nil => intro k S _ hI; exact ⟨S, by simp [compL, hg k S hI], by simpa using hI⟩
    | cons b r ih =>
      intro k S hr hI
      obtain ⟨S2, e1, h1⟩ := h k b S (by simpa using (hr 0).symm) hI
      obtain ⟨S3, e2, h2⟩ := ih (k + 1) S2 (fun i => by have := hr (i + 1); simp only [List.getElem?_cons_succ] at this; rw [this]; congr 1; omega) h1
      refine ⟨S3, ?_, by rw [List.length_cons, show k + (r.length + 1) = k + 1 + r.length by omega]; exact h2⟩
      cases hp : p b with
      | true =>
        rw [hp] at e1
        simp only [if_true] at e1
        simp only [List.map_cons, compL, hg k S hI, if_true, e1, bind_ok]
        rw [e2, bind_ok, List.filter_cons, hp]; rfl
      | false =>
        rw [hp] at e1
        simp only [Bool.false_eq_true, if_false] at e1
        simp only [List.map_cons, compL, hg k S hI, if_true, e1, bind_ok]
        rw [e2, bind_ok, List.filter_cons, hp]; rfl
  intro k hI hr
  exact key _ k S hr hI
/-- a comprehension that changes the store -/
theorem compK_finv {β : Type} {C : Ctx} {e : Exp} {t : Tg} {ifs : List Tst} {env : Env} {o : Option Nat} {S : Store} (l : List β) (c : β → D) (p : β → Bool) (v : β → D) (I : Nat → Store → Prop) (hl : l.length ≤ 16777216) (h0 : I 0 S) (hg : ∀ i S', I i S' → stands o (obAt o S) S' = true)
    (h : ∀ i b S', l[i]? = some b → I i S' → ∃ env' S1 S2, bind1 t (c b) (kill t.ix env) = some env' ∧ evTs C ifs env' S' = .ok (p b) S1 ∧ (if p b = true then evE C e env' S1 = .ok (v b) S2 else S2 = S1) ∧ I (i + 1) S2) : ∃ S', compK C e t ifs env o (l.map c) S = .ok ((l.filter p).map v) S' ∧ I l.length S' := by
  unfold compK
  rw [if_pos (by simpa using hl)]
  have key := fun (f : D → Store → Res (Option D)) (hf : ∀ i b S', l[i]? = some b → I i S' → ∃ S2, f (c b) S' = .ok (if p b = true then some (v b) else none) S2 ∧ I (i + 1) S2) => compL_finv (f := f) (g := stands o (obAt o S)) l c p v I hg hf 0 h0 (by simp)
  simp only [List.drop_zero, Nat.zero_add] at key
  refine key _ fun i b S' hb hI => ?_
  obtain ⟨env', S1, S2, h1, h2, h3, h4⟩ := h i b S' hb hI
  refine ⟨S2, ?_, h4⟩
  cases hp : p b with
  | true =>
    rw [hp] at h2 h3
    simp only [if_true] at h3
    simp only [h1, h2, h3, if_true]
  | false =>
    rw [hp] at h2 h3
    simp only [Bool.false_eq_true, if_false] at h3
    subst h3
    simp only [h1, h2, Bool.false_eq_true, if_false]
/-! calls that use the memo -/
theorem get_pm {S pre : Store} {M : Nat} {m : List (D × D)} (hM : M < S.length) : get (pre ++ put S M (mo m)) M = some (mo m) := get_app (get_put_self hM) pre
theorem put_pm {S pre : Store} {M : Nat} {x y : SO} (hM : M < S.length) : put (pre ++ put S M x) M y = pre ++ put S M y := by rw [put_app (by simpa using hM), put_put]
def loI (nd : List Nd) (S : Store) (M B : Nat) (i : Nat) (env : Env) (S' : Store) : Prop := ∃ (left acc : List (List Nat)) (l o : Nat) (m : List (D × D)) (pre : Store), Left nd left ∧ left.length + i = nd.length ∧ acc.length = i ∧ ordM nd (nd.length - i) left acc = ordM nd nd.length (nms nd) [] ∧ S' = pre ++ put S M (mo m) ∧ OkM nd m ∧ m.length ≤ B + 8 * i ∧ S.length ≤ o ∧ S.length ≤ l ∧ get S' l = some (.lst (left.map .str)) ∧ get S' o = some (.lst (acc.map .str)) ∧
    env = [some (.tup (nd.map ndD)), some (.obj M), none, none, none, some (.obj l), none, some (.obj o), none]
theorem sp_law_order (n : Nat) (S : Store) (nd : List Nd) (M : Nat) (m : List (D × D)) (h : OkN nd) (hM : get S M = some (mo m)) (hm : OkM nd m) (hl : m.length < 80000) :
    ∃ m', (OkM nd m' ∧ m'.length ≤ m.length + 64) ∧ den P (n + 2) none 24 [.tup (nd.map ndD), .obj M] S = .ok (dueD (ordM nd nd.length (nms nd) [])) (put S M (mo m')) := by
  refine den_post (f := ⟨2, 9, b24⟩) (fun m' => OkM nd m' ∧ m'.length ≤ m.length + 64) (fun m' => .ok (dueD (ordM nd nd.length (nms nd) [])) (put S M (mo m'))) rfl rfl ?_
  have h8 := h.len
  have hML := get_lt hM
  have hrn : rngL 0 (nd.length : Int) = (List.range nd.length).map fun i : Nat => D.int (i : Int) := rngL_nat _
  simp (disch := first | omega | (simp; done) | (simp; omega)) [if_pos, if_neg, b24, hrn]
  rw [compK_on nd ndD (fun x => .str x.1) (by omega) (fun x hx => ⟨_, rfl, by simp (disch := first | omega | (simp; done) | (simp; omega)) [if_pos, if_neg, id], by simp (disch := first | omega | (simp; done) | (simp; omega)) [if_pos, if_neg, ndD]⟩)]
  have e1 : nd.map (fun x : Nd => D.str x.1) = (nms nd).map .str := by simp [nms, Function.comp_def]
  rw [e1]
  simp (disch := first | omega | (simp; done) | (simp; omega)) [if_pos, if_neg, id]
  refine wp_seq (wp_for (loI nd S M m.length) ⟨nms nd, [], S.length, S.length + 1, m, [_, _], Left.all h, by simp [nms], rfl, by simp, by rw [put_same hM]; rfl, hm, by omega, by omega, by omega, by simp, by simp, rfl⟩ (by intros; rfl) ?_ ?_)
  · rintro i x env S' hx ⟨left, acc, l, o, m1, pre, hleft, hlm, hal, hord, hpre, hm1, hl1, ho, hl2, hgl, hgo, rfl⟩
    obtain ⟨hi, rfl⟩ := range_at hx
    have hl8 : left.length ≤ 8 := by omega
    obtain ⟨k, hk⟩ : ∃ k, nd.length - i = k + 1 := ⟨nd.length - i - 1, by omega⟩
    rw [← hord, hk]
    have hgM : get S' M = some (mo m1) := by rw [hpre]; exact get_pm hML
    simp (disch := first | omega | (simp; done) | (simp; omega)) [if_pos, if_neg, hgl]
    obtain ⟨S2, hcp, m2, hm2, hl2', hS2⟩ := compK_finv (C := ⟨den P (n + 1), P.G, P.Cl, none⟩) (e := .v 3) (t := .v 3) (ifs := [.val (.call 23 [.v 0, .v 3, .v 5, .v 1])])
      (env := [some (.tup (nd.map ndD)), some (.obj M), none, none, none, some (.obj l), none, some (.obj o), some (.int (i : Int))]) (o := some l) (S := S') left .str (fun c => tim nd c left) .str
      (fun j T => ∃ m2, OkM nd m2 ∧ m2.length ≤ m1.length + j ∧ T = put S' M (mo m2)) (by omega) ⟨m1, hm1, by omega, (put_same hgM).symm⟩ (by
        rintro j T ⟨m2, _, _, rfl⟩
        have hne : l ≠ M := by omega
        simp [stands, obAt, get_put_ne hne]) (by
        rintro j c T hc ⟨m2, hm2, hl2, rfl⟩
        have hcl := List.mem_of_getElem? hc
        have hj := (List.getElem?_eq_some_iff.mp hc).1
        have hne : l ≠ M := by omega
        obtain ⟨m3, ⟨hm3, hl3⟩, hd⟩ := sp_in_time n (put S' M (mo m2)) nd c (.obj l) left M m2 h (hleft.sub c hcl) (Or.inr ⟨l, rfl, by rw [get_put_ne hne]; exact hgl⟩) (get_put_self (get_lt hgM)) hm2 (by omega) (by omega)
        rw [put_put] at hd
        refine ⟨_, put S' M (mo m3), put S' M (mo m3), rfl, ?_, ?_, m3, hm3, by omega, rfl⟩
        · by_cases e : tim nd c left = true
          · simp (disch := first | omega | (simp; done) | (simp; omega)) [if_pos, if_neg, hd, e]
          · simp (disch := first | omega | (simp; done) | (simp; omega)) [if_pos, if_neg, hd, e]
        · by_cases e : tim nd c left = true
          · simp (disch := first | omega | (simp; done) | (simp; omega)) [if_pos, if_neg, e]
          · simp (disch := first | omega | (simp; done) | (simp; omega)) [if_pos, if_neg, e])
    rw [hcp]
    have hne : l ≠ M := by omega
    have hno : o ≠ M := by omega
    have hgl2 : get S2 l = some (.lst (left.map .str)) := by rw [hS2, get_put_ne hne]; exact hgl
    have hgo2 : get S2 o = some (.lst (acc.map .str)) := by rw [hS2, get_put_ne hno]; exact hgo
    have hS2' : S2 = pre ++ put S M (mo m2) := by rw [hS2, hpre, put_pm hML]
    have hSl : S2.length = S'.length := by rw [hS2]; simp
    have hSl2 : S.length ≤ S2.length := by rw [hS2']; simp
    have hzl : ¬ l = S2.length := by have := get_lt hgl2; omega
    have hzl1 : ¬ l = S2.length + 1 := by have := get_lt hgl2; omega
    have hzl2 : ¬ l = S2.length + 2 := by have := get_lt hgl2; omega
    have hzo : ¬ o = S2.length := by have := get_lt hgo2; omega
    have hzo1 : ¬ o = S2.length + 1 := by have := get_lt hgo2; omega
    clear hcp hS2
    cases hla : (left.filter fun c => tim nd c left).getLast? with
    | none =>
      have hnil : (left.filter fun c => tim nd c left) = [] := List.getLast?_eq_none_iff.mp hla
      have ho1 : ordM nd (k + 1) left acc = (false, left) := by rw [ordM, hla]
      rw [hnil, ho1]
      simp (disch := first | omega | (simp; done) | (simp; omega)) [if_pos, if_neg, hzl, hgl2]
      refine ⟨m2, ⟨hm2, by omega⟩, ?_⟩
      rw [hS2']
      exact fin_put (pre := _ :: pre) (by simp [bels_str]) (hm2.sbel _)
    | some x =>
      obtain ⟨ab, hab⟩ := getLast_split hla
      have ho1 : ordM nd (k + 1) left acc = ordM nd k (left.filter fun c => !decide (c = x)) (x :: acc) := by rw [ordM, hla]
      have hxm : x ∈ left := by
        have : x ∈ left.filter fun c => tim nd c left := by rw [hab]; simp
        exact (List.mem_filter.mp this).1
      have hlf := len_fil hleft.nodup hxm
      have hab8 : ab.length + 1 ≤ 8 := by
        have h1 := List.length_filter_le (fun c => tim nd c left) left
        rw [hab] at h1; simp at h1; omega
      rw [hab]
      have hne1 : ¬ (ab.length : Int) + 1 = 0 := by omega
      have hix : ∀ (X : SO) T, idxG (some (.lst (ab.map .str ++ [D.str x]))) (ab.length : Int) T = .ok (.str x) T := fun X T => by simp [idxG]
      simp (disch := first | omega | (simp; done) | (simp; omega)) [if_pos, if_neg, hzl, hzl1, hzl2, hzo, hzo1, hgl2, hgo2, hne1]
      rw [compK_fon left .str (fun c => !decide (c = x)) .str (by omega) (fun c hc => by
        refine ⟨_, rfl, ?_, ?_⟩
        · by_cases e : c = x
          · simp (disch := first | omega | (simp; done) | (simp; omega)) [if_pos, if_neg, e]
          · simp (disch := first | omega | (simp; done) | (simp; omega)) [if_pos, if_neg, e]
        · intro _; simp (disch := first | omega | (simp; done) | (simp; omega)) [if_pos, if_neg, id])]
      simp (disch := first | omega | (simp; done) | (simp; omega)) [if_pos, if_neg, id]
      rw [trim_no (by simp; intros; omega)]
      exact ⟨left.filter fun c => !decide (c = x), x :: acc, S2.length + 3, S2.length + 2, m2, _ :: _ :: _ :: _ :: pre, hleft.fil _, by omega, by simp; omega, by rw [show nd.length - (i + 1) = k by omega, ← ho1, ← hk, hord], by rw [hS2']; rfl, hm2, by omega, by omega, by omega, by simp, by simp, by simp⟩
  · rintro env S' ⟨left, acc, l, o, m1, pre, hleft, hlm, hal, hord, hpre, hm1, hl1, ho, hl2, hgl, hgo, rfl⟩
    simp only [List.length_map, List.length_range] at *
    have hz : ordM nd (nd.length - nd.length) left acc = (true, acc) := by rw [Nat.sub_self]; rfl
    rw [hz] at hord
    rw [← hord]
    simp (disch := first | omega | (simp; done) | (simp; omega)) [if_pos, if_neg, hgo]
    refine ⟨m1, ⟨hm1, by omega⟩, ?_⟩
    rw [hpre]
    exact fin_put (by simp [bels_str]) (hm1.sbel _)
end HT
end
section
set_option maxHeartbeats 0
set_option linter.all false
set_option maxRecDepth 100000
namespace HT
open Pw
/-! ascending rows -/
theorem asc_sub : ∀ (ys : List (List Nat)) (xs : List (List Nat)), xs.Pairwise (· < ·) → ys.Pairwise (· < ·) → (∀ x ∈ xs, x ∈ ys) → xs.Sublist ys
  | [], xs, _, _, h => by
    cases xs with
    | nil => exact List.Sublist.slnil
    | cons x r => exact absurd (h x (by simp)) (by simp)
  | y :: t, [], _, _, _ => List.nil_sublist _
  | y :: t, x :: r, hx, hy, h => by
    rw [List.pairwise_cons] at hx hy
    by_cases e : x = y
    · subst e
      refine (asc_sub t r hx.2 hy.2 fun z hz => ?_).cons_cons x
      have h1 := hx.1 z hz
      rcases List.mem_cons.mp (h z (by simp [hz])) with rfl | h2
      · exact absurd h1 (List.lt_irrefl _)
      · exact h2
    · refine (asc_sub t (x :: r) (List.pairwise_cons.mpr hx) hy.2 fun z hz => ?_).cons y
      have hxt : x ∈ t := (List.mem_cons.mp (h x (by simp))).resolve_left e
      have hyx := hy.1 x hxt
      rcases List.mem_cons.mp (h z hz) with rfl | h2
      · exfalso
        rcases List.mem_cons.mp hz with rfl | hz
        · exact e rfl
        · exact List.lt_irrefl _ (List.lt_trans hyx (hx.1 _ hz))
      · exact h2
theorem sorted_iff {nd : List Nd} (h : OkN nd) (os : List (List Nat)) : os.mergeSort leL = nms nd ↔ (os.length = nd.length ∧ (∀ c ∈ os, c ∈ nms nd) ∧ os.Nodup) := by
  have hp := List.mergeSort_perm os leL
  constructor
  · intro e
    rw [e] at hp
    refine ⟨by have := hp.length_eq; simpa [nms] using this.symm, fun c hc => hp.mem_iff.mpr hc, hp.nodup_iff.mp h.nodup⟩
  · rintro ⟨h1, h2, h3⟩
    refine (asc_sub _ _ (sort_asc h3) h.asc fun x hx => h2 x (hp.mem_iff.mp hx)).eq_of_length ?_
    rw [hp.length_eq, h1]; simp [nms]
/-! the judges' meaning -/
def chipsOf : D → Option (List (List Nat))
  | .tup xs => strsD xs
  | _ => none
theorem strsD_eq : ∀ {xs : List D} {os : List (List Nat)}, strsD xs = some os → xs = os.map .str
  | [], _, h => by cases h; rfl
  | x :: r, os, h => by
    cases x with
    | str s =>
      obtain ⟨t, h1, rfl⟩ := Option.map_eq_some_iff.mp (show (strsD r).map (s :: ·) = some os from h)
      rw [strsD_eq h1]; rfl
    | _ => cases h
theorem strsD_str (os : List (List Nat)) : strsD (os.map .str) = some os := by
  induction os with
  | nil => rfl
  | cons a r ih => show (strsD (r.map .str)).map (a :: ·) = _; rw [ih]; rfl
def isS : D → Bool
  | .str _ => true
  | _ => false
theorem strsD_all : ∀ (xs : List D), (strsD xs).isSome = xs.all isS
  | [] => rfl
  | x :: r => by
    cases x with
    | str s =>
      show ((strsD r).map (s :: ·)).isSome = (isS (.str s) && r.all isS)
      rw [← strsD_all r]; cases strsD r <;> rfl
    | _ => rfl
def tk (nd : List Nd) (os : List (List Nat)) (k : Nat) : Bool := tim nd (os[k]?.getD []) (os.take k)
def tAll (nd : List Nd) (os : List (List Nat)) : Bool := (List.range os.length).all (tk nd os)
def tS_ (nd : List Nd) (os : List (List Nat)) : Bool := decide (os.mergeSort leL = nms nd) && tAll nd os
def lS_ (nd : List Nd) (os : List (List Nat)) : Bool := decide (os ≠ []) && (asc os && (os.all (fun c => decide (c ∈ nms nd)) && !(os.any fun c => tim nd c os)))
def tB (nd : List Nd) (v : D) : Bool := match chipsOf v with
  | some os => tS_ nd os
  | none => false
def lB (nd : List Nd) (v : D) : Bool := match chipsOf v with
  | some os => lS_ nd os
  | none => false
theorem deq_str (S : Store) (n : Nat) (a b : List Nat) : deq S (n + 1) (.str a) (.str b) = some (decide (a = b)) := rfl
theorem alls_cons' (f : D → D → Option Bool) (x y : D) (r t : List D) : alls f (x :: r) (y :: t) = (f x y).bind fun c => (alls f r t).bind fun k => some (c && k) := by
  rw [alls]
theorem alls_str {S : Store} {n : Nat} : ∀ {xs ys : List (List Nat)}, xs.length = ys.length → alls (deq S (n + 1)) (xs.map .str) (ys.map .str) = some (decide (xs = ys))
  | [], [], _ => by rw [List.map_nil, alls]; rfl
  | x :: r, y :: t, h => by
    have ih := alls_str (S := S) (n := n) (xs := r) (ys := t) (by simpa using h)
    rw [List.map_cons, List.map_cons, alls_cons', ih, deq_str, Option.bind_some, Option.bind_some]
    by_cases e : x = y <;> by_cases e2 : r = t <;> simp [e, e2]
theorem deq_lst {T : Store} {n a b : Nat} {xs ys : List D} (ha : get T a = some (.lst xs)) (hb : get T b = some (.lst ys)) : deq T (n + 1) (.obj a) (.obj b) = if xs.length = ys.length then alls (deq T n) xs ys else some false := by
  rw [deq]
  simp only [ha, hb]
theorem cmp_strs {T : Store} {a b : Nat} {xs ys : List (List Nat)} (ha : get T a = some (.lst (xs.map .str))) (hb : get T b = some (.lst (ys.map .str))) : cmpD T .ne (.obj a) (.obj b) = some (!decide (xs = ys)) := by
  have : deq T fuel (.obj a) (.obj b) = some (decide (xs = ys)) := by
    rw [show fuel = 39 + 1 from rfl, deq_lst ha hb, List.length_map, List.length_map]
    by_cases hl : xs.length = ys.length
    · rw [if_pos hl]; exact alls_str (n := 38) hl
    · rw [if_neg hl]
      have : ¬ xs = ys := fun e => hl (by rw [e])
      simp [this]
  have tp : topOk T true (.obj a) (.obj b) = true := by simp [topOk, topEq, ha]
  show (if topOk T true (.obj a) (.obj b) then (deq T fuel (.obj a) (.obj b)).map (!·) else none) = _
  rw [tp, if_pos rfl, this]; rfl
end HT
end
section
set_option maxHeartbeats 0
set_option linter.all false
set_option maxRecDepth 100000
namespace HT
open Pw
theorem sp_is_timely (n : Nat) (S : Store) (nd : List Nd) (v : D) (h : OkN nd) (hv : okE v = true) (hl : ∀ xs, v = .tup xs → xs.length < 64) : den P (n + 7) none 15 [.tup (nd.map ndD), v] S = .ok (.bl (tB nd v)) S := by
  refine den_wp (f := ⟨2, 6, b15⟩) rfl rfl ?_
  have h8 := h.len
  obtain ⟨k1, k2⟩ := needsD_ok h
  have hck := chkD (n + 1) _ S k1 k2
  simp (disch := first | omega | (simp; done) | (simp; omega)) [if_pos, if_neg, b15, hck]
  rw [compK_on nd ndD (fun x => .str x.1) (by omega) (fun x hx => ⟨_, rfl, by simp (disch := first | omega | (simp; done) | (simp; omega)) [if_pos, if_neg, id], by simp (disch := first | omega | (simp; done) | (simp; omega)) [if_pos, if_neg, ndD]⟩)]
  have e1 : nd.map (fun x : Nd => D.str x.1) = (nms nd).map .str := by simp [nms, Function.comp_def]
  rw [e1]
  cases v with
  | exc => simp at hv
  | tup xs =>
    have hxl := hl xs rfl
    have hA := strsD_all xs
    have hel : ∀ x ∈ xs, okE x = true := by
      simp only [okE_tup, okEs_all, Bool.and_eq_true, List.all_eq_true] at hv; exact hv.2
    simp (disch := first | omega | (simp; done) | (simp; omega)) [if_pos, if_neg, id]
    rw [compK_map (fun x => .bl (isS x)) (by simp; omega) (fun x hx => by
      have hx2 := hel x hx
      refine ⟨_, rfl, by simp, ?_⟩
      cases x with
      | exc => simp at hx2
      | _ => simp (disch := first | omega | (simp; done) | (simp; omega)) [if_pos, if_neg, isS])]
    cases hs : strsD xs with
    | none =>
      rw [hs] at hA
      have hA' : xs.all isS = false := hA.symm
      simp (disch := first | omega | (simp; done) | (simp; omega)) [if_pos, if_neg, hA', tB, chipsOf, hs]
    | some os =>
      rw [hs] at hA
      have hA' : xs.all isS = true := hA.symm
      have hxs := strsD_eq hs
      simp (disch := first | omega | (simp; done) | (simp; omega)) [if_pos, if_neg, hA']
      subst hxs
      simp only [List.length_map] at hxl
      have hso := sortD_s (ts := os) hxl
      have hcm := cmp_strs (T := .lst ((os.mergeSort leL).map .str) :: .lst ((nms nd).map .str) :: S) (a := S.length + 1) (b := S.length) (xs := os.mergeSort leL) (ys := nms nd) (by simp) (by simp)
      by_cases he : os.mergeSort leL = nms nd
      · obtain ⟨q1, q2, q3⟩ := (sorted_iff h os).mp he
        rw [he] at hso hcm
        have hr : rngL 0 (os.length : Int) = (List.range os.length).map fun i : Nat => D.int (i : Int) := rngL_nat _
        simp (disch := first | omega | (simp; done) | (simp; omega)) [if_pos, if_neg, hso, hcm]
        rw [compK_rg os.length (fun _ => true) (fun k => .bl (tk nd os k)) (by omega) (fun k hk => by
          constructor
          · simp (disch := first | omega | (simp; done) | (simp; omega)) [if_pos, if_neg, id]
          · intro _
            have hb := sp_behind n (SO.lst (List.map D.str (nms nd)) :: SO.lst (List.map D.str (nms nd)) :: S) nd os[k] (.tup ((os.take k).map .str)) (os.take k) h (q2 _ (List.getElem_mem hk)) (Or.inl rfl)
            rw [List.map_take] at hb
            simp (disch := first | omega | (simp; done) | (simp; omega)) [if_pos, if_neg, hk, hb, tk])]
        rw [List.filter_eq_self.mpr (by simp)]
        have hf : tS_ nd os = (List.range os.length).all (tk nd os) := by simp [tS_, he, tAll]
        simp (disch := first | omega | (simp; done) | (simp; omega)) [if_pos, if_neg, tB, chipsOf, hs, hf]
      · have hsF : tS_ nd os = false := by simp [tS_, he]
        simp (disch := first | omega | (simp; done) | (simp; omega)) [if_pos, if_neg, hso, hcm, he, tB, chipsOf, hs, hsF]
  | _ => simp (disch := first | omega | (simp; done) | (simp; omega)) [if_pos, if_neg, tB, chipsOf]
theorem namesD_str (os : List (List Nat)) : namesD 1 8 (.tup (os.map .str)) = (decide (1 ≤ os.length) && (decide (os.length ≤ 8) && os.all isNameL)) := by
  have e1 : decide ((1 : Int) ≤ ((os.map D.str).length : Nat)) = decide (1 ≤ os.length) := by
    rw [List.length_map]; congr 1; apply propext; omega
  have e2 : decide ((((os.map D.str).length : Nat) : Int) ≤ 8) = decide (os.length ≤ 8) := by
    rw [List.length_map]; congr 1; apply propext; omega
  show (decide ((1 : Int) ≤ ((os.map D.str).length : Nat)) && (decide ((((os.map D.str).length : Nat) : Int) ≤ 8) && (os.map D.str).all isNameD)) = _
  rw [e1, e2, List.all_map]; rfl
theorem rowD_str (os : List (List Nat)) : rowD 1 8 (.tup (os.map .str)) = (namesD 1 8 (.tup (os.map .str)) && asc os) := by
  show (namesD 1 8 (.tup (os.map .str)) && asc ((os.map D.str).map strO)) = _
  rw [List.map_map]
  have : os.map (strO ∘ D.str) = os := by
    refine (List.map_congr_left fun x _ => rfl).trans (List.map_id _)
  rw [this]
theorem row_chips {v : D} (h : rowD 1 8 v = true) : ∃ os : List (List Nat), v = .tup (os.map .str) := by
  cases v with
  | tup xs =>
    simp only [rowD, namesD, Bool.and_eq_true] at h
    exact ⟨_, by rw [← map_strO h.1.2.2]⟩
  | _ => simp [rowD] at h
theorem names_ok {nd : List Nd} (h : OkN nd) {c : List Nat} (hc : c ∈ nms nd) : isNameL c = true := by
  obtain ⟨x, hx, rfl⟩ := List.mem_map.mp hc
  exact (h.ok x hx).1
theorem late_row {nd : List Nd} (h : OkN nd) {os : List (List Nat)} (h1 : os ≠ []) (h2 : asc os = true) (h3 : ∀ c ∈ os, c ∈ nms nd) : rowD 1 8 (.tup (os.map .str)) = true := by
  have hs := asc_sub _ _ (of_asc h2) h.asc h3
  have hl := hs.length_le
  have h8 := h.len
  have hp : 1 ≤ os.length := by
    cases os with
    | nil => exact absurd rfl h1
    | cons => simp
  have hm : (nms nd).length = nd.length := by simp [nms]
  rw [rowD_str, namesD_str, h2]
  have ha : os.all isNameL = true := List.all_eq_true.mpr fun c hc => names_ok h (h3 c hc)
  simp [ha, hp]; omega
theorem sp_is_late (n : Nat) (S : Store) (nd : List Nd) (v : D) (h : OkN nd) (hv : okE v = true) : den P (n + 7) none 16 [.tup (nd.map ndD), v] S = .ok (.bl (lB nd v)) S := by
  refine den_wp (f := ⟨2, 5, b16⟩) rfl rfl ?_
  have h8 := h.len
  obtain ⟨k1, k2⟩ := needsD_ok h
  have hck := chkD (n + 1) _ S k1 k2
  have hrow := sp_is_row (n + 3) v 1 8 (.lst ((nms nd).map .str) :: S) hv (by omega)
  simp (disch := first | omega | (simp; done) | (simp; omega)) [if_pos, if_neg, b16, hck]
  rw [compK_on nd ndD (fun x => .str x.1) (by omega) (fun x hx => ⟨_, rfl, by simp (disch := first | omega | (simp; done) | (simp; omega)) [if_pos, if_neg, id], by simp (disch := first | omega | (simp; done) | (simp; omega)) [if_pos, if_neg, ndD]⟩)]
  have e1 : nd.map (fun x : Nd => D.str x.1) = (nms nd).map .str := by simp [nms, Function.comp_def]
  rw [e1]
  cases hb : rowD 1 8 v with
  | false =>
    have hlB : lB nd v = false := by
      unfold lB
      cases hc : chipsOf v with
      | none => rfl
      | some os =>
        cases v with
        | tup xs =>
          have := strsD_eq (show strsD xs = some os from hc)
          subst this
          show lS_ nd os = false
          rw [Bool.eq_false_iff]
          intro hl
          simp only [lS_, Bool.and_eq_true, decide_eq_true_eq, List.all_eq_true] at hl
          rw [late_row h hl.1 hl.2.1 hl.2.2.1] at hb
          cases hb
        | _ => cases hc
    rw [hb] at hrow
    simp (disch := first | omega | (simp; done) | (simp; omega)) [if_pos, if_neg, hrow, hlB]
  | true =>
    rw [hb] at hrow
    obtain ⟨os, rfl⟩ := row_chips hb
    have hle : os.length ≤ 8 := by
      rw [rowD_str, namesD_str] at hb
      simp only [Bool.and_eq_true, decide_eq_true_eq] at hb; exact hb.1.2.1
    simp (disch := first | omega | (simp; done) | (simp; omega)) [if_pos, if_neg, hrow]
    rw [compK_on os .str (fun c => .bl (decide (c ∈ nms nd))) (by omega) (fun c hc => ⟨_, rfl, by simp (disch := first | omega | (simp; done) | (simp; omega)) [if_pos, if_neg, id], by simp (disch := first | omega | (simp; done) | (simp; omega)) [if_pos, if_neg, inD_strs]⟩)]
    cases ha : os.all (fun c => decide (c ∈ nms nd)) with
    | false =>
      have hlB : lB nd (.tup (os.map .str)) = false := by
        show (match strsD (os.map .str) with | some os => lS_ nd os | none => false) = false
        rw [strsD_str]
        simp [lS_, ha]
      simp (disch := first | omega | (simp; done) | (simp; omega)) [if_pos, if_neg, ha, hlB]
    | true =>
      have hall : ∀ c ∈ os, c ∈ nms nd := by simpa using ha
      simp (disch := first | omega | (simp; done) | (simp; omega)) [if_pos, if_neg, ha]
      rw [compK_on os .str (fun c => .bl (tim nd c os)) (by omega) (fun c hc => by
        have hb := sp_behind n (SO.lst (List.map D.str (nms nd)) :: S) nd c (.tup (os.map .str)) os h (hall c hc) (Or.inl rfl)
        exact ⟨_, rfl, by simp (disch := first | omega | (simp; done) | (simp; omega)) [if_pos, if_neg, id], by simp (disch := first | omega | (simp; done) | (simp; omega)) [if_pos, if_neg, hb]⟩)]
      have hlB : lB nd (.tup (os.map .str)) = !(os.any fun c => tim nd c os) := by
        show (match strsD (os.map .str) with | some os => lS_ nd os | none => false) = _
        rw [strsD_str]
        rw [rowD_str, namesD_str] at hb
        simp only [Bool.and_eq_true, decide_eq_true_eq] at hb
        have hne : os ≠ [] := by rintro rfl; simp at hb
        simp [lS_, hne, hb.2, ha]
      simp (disch := first | omega | (simp; done) | (simp; omega)) [if_pos, if_neg, hlB]
end HT
end
section
set_option maxHeartbeats 0
set_option linter.all false
set_option maxRecDepth 100000
namespace HT
open Pw
def chipIn (nd : List Nd) : D → Bool
  | .str s => decide (s ∈ nms nd)
  | _ => false
def cB (nd : List Nd) : D → Bool
  | .tup xs => xs.all (chipIn nd)
  | _ => false
theorem cB_chips {nd : List Nd} {v : D} (h : cB nd v = true) : ∃ os : List (List Nat), v = .tup (os.map .str) ∧ ∀ c ∈ os, c ∈ nms nd := by
  cases v with
  | tup xs =>
    have hx : ∀ x ∈ xs, chipIn nd x = true := by simpa [cB] using h
    refine ⟨xs.map strO, ?_, ?_⟩
    · have : xs = (xs.map strO).map .str := by
        rw [List.map_map]
        refine (List.map_id _).symm.trans (List.map_congr_left fun x hx' => ?_)
        have := hx x hx'
        cases x <;> simp [chipIn] at this ⊢ <;> rfl
      rw [← this]
    · intro c hc
      obtain ⟨x, hx', rfl⟩ := List.mem_map.mp hc
      have := hx x hx'
      cases x <;> simp [chipIn] at this ⊢ <;> exact this
  | _ => simp [cB] at h
theorem cB_of {nd : List Nd} {os : List (List Nat)} (h : ∀ c ∈ os, c ∈ nms nd) : cB nd (.tup (os.map .str)) = true := by
  simp only [cB, List.all_map, List.all_eq_true, Function.comp_apply, chipIn, decide_eq_true_eq]; exact h
theorem sp_are_chips (n : Nat) (S : Store) (nd : List Nd) (v : D) (h : OkN nd) (hv : okE v = true) : den P (n + 1) none 25 [.tup (nd.map ndD), v] S = .ok (.bl (cB nd v)) S := by
  refine den_wp (f := ⟨2, 5, b25⟩) rfl rfl ?_
  have h8 := h.len
  cases v with
  | exc => simp at hv
  | tup xs =>
    have hel : ∀ x ∈ xs, okE x = true := by
      simp only [okE_tup, okEs_all, Bool.and_eq_true, List.all_eq_true] at hv; exact hv.2
    simp (disch := first | omega | (simp; done) | (simp; omega)) [if_pos, if_neg, b25]
    rw [compK_on nd ndD (fun x => .str x.1) (by omega) (fun x hx => ⟨_, rfl, by simp (disch := first | omega | (simp; done) | (simp; omega)) [if_pos, if_neg, id], by simp (disch := first | omega | (simp; done) | (simp; omega)) [if_pos, if_neg, ndD]⟩)]
    have e1 : nd.map (fun x : Nd => D.str x.1) = (nms nd).map .str := by simp [nms, Function.comp_def]
    rw [e1]
    simp (disch := first | omega | (simp; done) | (simp; omega)) [if_pos, if_neg, id]
    refine wp_seq (wp_find (fun x => !chipIn nd x) (fun _ => .bl false) ?_ ?_ ?_)
    · intro x hx
      have hx2 := hel x hx
      cases x with
      | exc => simp at hx2
      | str s =>
        by_cases e : s ∈ nms nd
        · simp (disch := first | omega | (simp; done) | (simp; omega)) [if_pos, if_neg, chipIn, e, inD_strs]
        · simp (disch := first | omega | (simp; done) | (simp; omega)) [if_pos, if_neg, chipIn, e, inD_strs]
      | _ => simp (disch := first | omega | (simp; done) | (simp; omega)) [if_pos, if_neg, chipIn]
    · intro hf
      have hf2 := find_none_all hf
      simp only [Bool.not_not] at hf2
      have : cB nd (.tup xs) = true := hf2
      simp (disch := first | omega | (simp; done) | (simp; omega)) [if_pos, if_neg, this]
    · intro x hx
      have h1 := List.find?_some hx
      have h2 := List.mem_of_find?_eq_some hx
      have : cB nd (.tup xs) = false := List.all_eq_false.mpr ⟨x, h2, by simpa using h1⟩
      simp (disch := first | omega | (simp; done) | (simp; omega)) [if_pos, if_neg, this]
  | _ => simp (disch := first | omega | (simp; done) | (simp; omega)) [if_pos, if_neg, b25, cB]
def tL (nd : List Nd) (os : List (List Nat)) (k : Nat) : Bool := !decide ((os[k]?.getD []) ∈ os.take k) && tk nd os k
theorem nodup_take {os : List (List Nat)} : os.Nodup ↔ ∀ k, (h : k < os.length) → os[k] ∉ os.take k := by
  constructor
  · intro hn k hk hm
    rw [List.mem_take_iff_getElem] at hm
    obtain ⟨i, hi, e⟩ := hm
    have hik : i < k := by omega
    exact (List.pairwise_iff_getElem.mp hn i k (by omega) hk hik) e
  · intro h
    rw [List.nodup_iff_pairwise_ne, List.pairwise_iff_getElem]
    intro i j hi hj hij e
    refine h j hj ?_
    rw [List.mem_take_iff_getElem]
    exact ⟨i, by omega, e⟩
theorem tB_law {nd : List Nd} (h : OkN nd) {os : List (List Nat)} (hc : ∀ c ∈ os, c ∈ nms nd) (hl : os.length = nd.length) : tB nd (.tup (os.map .str)) = (List.range os.length).all (tL nd os) := by
  show (match strsD (os.map .str) with | some os => tS_ nd os | none => false) = _
  rw [strsD_str]
  show tS_ nd os = _
  rw [Bool.eq_iff_iff]
  simp only [tS_, tAll, tL, Bool.and_eq_true, decide_eq_true_eq, List.all_eq_true, List.mem_range, Bool.not_eq_true', decide_eq_false_iff_not]
  rw [sorted_iff h]
  constructor
  · rintro ⟨⟨_, _, hn⟩, ht⟩ k hk
    refine ⟨?_, ht k hk⟩
    rw [List.getElem?_eq_getElem hk]
    exact nodup_take.mp hn k hk
  · intro hk
    refine ⟨⟨hl, hc, nodup_take.mpr fun k hk' => ?_⟩, fun k hk' => (hk k hk').2⟩
    have := (hk k hk').1
    rw [List.getElem?_eq_getElem hk'] at this
    exact this
theorem tB_no {nd : List Nd} (h : OkN nd) {v : D} (hc : cB nd v = false) : tB nd v = false := by
  unfold tB
  cases hh : chipsOf v with
  | none => rfl
  | some os =>
    cases v with
    | tup xs =>
      have := strsD_eq (show strsD xs = some os from hh)
      subst this
      show tS_ nd os = false
      rw [Bool.eq_false_iff]
      intro ht
      simp only [tS_, Bool.and_eq_true, decide_eq_true_eq] at ht
      have := (sorted_iff h os).mp ht.1
      rw [cB_of this.2.1] at hc
      cases hc
    | _ => cases hh
theorem tB_len {nd : List Nd} (h : OkN nd) {os : List (List Nat)} (hl : os.length ≠ nd.length) : tB nd (.tup (os.map .str)) = false := by
  show (match strsD (os.map .str) with | some os => tS_ nd os | none => false) = _
  rw [strsD_str]
  show tS_ nd os = false
  rw [Bool.eq_false_iff]
  intro ht
  simp only [tS_, Bool.and_eq_true, decide_eq_true_eq] at ht
  exact hl ((sorted_iff h os).mp ht.1).1
theorem sp_law_timely (n : Nat) (S : Store) (nd : List Nd) (v : D) (M : Nat) (m : List (D × D)) (h : OkN nd) (hv : okE v = true) (hM : get S M = some (mo m)) (hm : OkM nd m) (hl : m.length < 80000) :
    ∃ m', (OkM nd m' ∧ m'.length ≤ m.length + 8) ∧ den P (n + 2) none 26 [.tup (nd.map ndD), v, .obj M] S = .ok (.bl (tB nd v)) (put S M (mo m')) := by
  refine den_post (f := ⟨3, 4, b26⟩) (fun m' => OkM nd m' ∧ m'.length ≤ m.length + 8) (fun m' => .ok (.bl (tB nd v)) (put S M (mo m'))) rfl rfl ?_
  have h8 := h.len
  have hML := get_lt hM
  have hch := sp_are_chips n S nd v h hv
  cases hc : cB nd v with
  | false =>
    rw [hc] at hch
    have := tB_no h hc
    simp (disch := first | omega | (simp; done) | (simp; omega)) [if_pos, if_neg, b26, hch, this]
    exact ⟨m, ⟨hm, by omega⟩, by rw [put_same hM]⟩
  | true =>
    rw [hc] at hch
    obtain ⟨os, rfl, hos⟩ := cB_chips hc
    by_cases hlen : os.length = nd.length
    · have hr : rngL 0 (os.length : Int) = (List.range os.length).map fun i : Nat => D.int (i : Int) := rngL_nat _
      have hlen' : (os.length : Int) = (nd.length : Int) := by omega
      rw [tB_law h hos hlen]
      simp (disch := first | omega | (simp; done) | (simp; omega)) [if_pos, if_neg, b26, hch, hlen', hr]
      refine wp_seq (wp_for (fun i env S' => ∃ m1, OkM nd m1 ∧ m1.length ≤ m.length + i ∧ S' = put S M (mo m1) ∧ (∀ k, k < i → tL nd os k = true) ∧ env = [some (.tup (nd.map ndD)), some (.tup (os.map .str)), some (.obj M), none])
        ⟨m, hm, by omega, (put_same hM).symm, by omega, rfl⟩ (by intros; rfl) ?_ ?_)
      · rintro i x env S' hx ⟨m1, hm1, hl1, rfl, hall, rfl⟩
        obtain ⟨hi, rfl⟩ := range_at hx
        have hio : i < os.length := by omega
        have hti : os[i]?.getD [] = os[i] := by rw [List.getElem?_eq_getElem hio]; rfl
        obtain ⟨m2, ⟨hm2, hl2⟩, hd⟩ := sp_in_time n (put S M (mo m1)) nd os[i] (.tup ((os.take i).map .str)) (os.take i) M m1 h (hos _ (List.getElem_mem hio)) (Or.inl rfl) (get_put_self hML) hm1 (by omega) (by simp; omega)
        rw [put_put, List.map_take] at hd
        have hbel : SO.bel S.length (mo m2) = true := hm2.sbel _
        have hin : inD (.str os[i]) (List.take i (List.map D.str os)) = some (decide (os[i] ∈ os.take i)) := by rw [← List.map_take]; exact inD_strs _ _
        have stop : tL nd os i = false → ((List.range os.length).all (tL nd os)) = false := fun hf => List.all_eq_false.mpr ⟨i, List.mem_range.mpr hio, by simp [hf]⟩
        by_cases e1 : os[i] ∈ os.take i
        · have hf : tL nd os i = false := by simp [tL, hti, e1]
          have := stop hf
          simp (disch := first | omega | (simp; done) | (simp; omega)) [if_pos, if_neg, hio, hin, e1, this]
          exact ⟨m1, ⟨hm1, by omega⟩, fin_put (pre := []) (by simp) (hm1.sbel _)⟩
        · by_cases e2 : tim nd os[i] (os.take i) = true
          · have ht : tL nd os i = true := by simp [tL, tk, hti, e1, e2]
            simp (disch := first | omega | (simp; done) | (simp; omega)) [if_pos, if_neg, hio, hin, e1, hd, e2]
            rw [trim_same (by simp)]
            refine ⟨m2, hm2, by omega, rfl, fun k hk => ?_⟩
            by_cases hki : k < i
            · exact hall k hki
            · rw [show k = i by omega]; exact ht
          · have hf : tL nd os i = false := by simp [tL, tk, hti, e2]
            have := stop hf
            simp (disch := first | omega | (simp; done) | (simp; omega)) [if_pos, if_neg, hio, hin, e1, hd, e2, this]
            exact ⟨m2, ⟨hm2, by omega⟩, fin_put (pre := []) (by simp) hbel⟩
      · rintro env S' ⟨m1, hm1, hl1, rfl, hall, rfl⟩
        have : (List.range os.length).all (tL nd os) = true := List.all_eq_true.mpr fun k hk => hall k (by simpa [hlen] using hk)
        simp (disch := first | omega | (simp; done) | (simp; omega)) [if_pos, if_neg, this]
        exact ⟨m1, ⟨hm1, by simp at hl1; omega⟩, fin_put (pre := []) (by simp) (hm1.sbel _)⟩
    · have hlen' : ¬ (os.length : Int) = (nd.length : Int) := by omega
      have := tB_len h hlen
      simp (disch := first | omega | (simp; done) | (simp; omega)) [if_pos, if_neg, b26, hch, hlen', this]
      exact ⟨m, ⟨hm, by omega⟩, by rw [put_same hM]⟩
theorem lB_no {nd : List Nd} {v : D} (hc : cB nd v = false) : lB nd v = false := by
  unfold lB
  cases hh : chipsOf v with
  | none => rfl
  | some os =>
    cases v with
    | tup xs =>
      have := strsD_eq (show strsD xs = some os from hh)
      subst this
      show lS_ nd os = false
      rw [Bool.eq_false_iff]
      intro ht
      simp only [lS_, Bool.and_eq_true, decide_eq_true_eq, List.all_eq_true] at ht
      rw [cB_of ht.2.2.1] at hc
      cases hc
    | _ => cases hh
theorem lB_str (nd : List Nd) (os : List (List Nat)) : lB nd (.tup (os.map .str)) = lS_ nd os := by
  show (match strsD (os.map .str) with | some os => lS_ nd os | none => false) = _
  rw [strsD_str]
theorem sp_law_late (n : Nat) (S : Store) (nd : List Nd) (v : D) (M : Nat) (m : List (D × D)) (h : OkN nd) (hv : okE v = true) (hM : get S M = some (mo m)) (hm : OkM nd m) (hl : m.length < 80000) :
    ∃ m', (OkM nd m' ∧ m'.length ≤ m.length + 8) ∧ den P (n + 2) none 27 [.tup (nd.map ndD), v, .obj M] S = .ok (.bl (lB nd v)) (put S M (mo m')) := by
  refine den_post (f := ⟨3, 5, b27⟩) (fun m' => OkM nd m' ∧ m'.length ≤ m.length + 8) (fun m' => .ok (.bl (lB nd v)) (put S M (mo m'))) rfl rfl ?_
  have h8 := h.len
  have hML := get_lt hM
  have hch := sp_are_chips n S nd v h hv
  cases hc : cB nd v with
  | false =>
    rw [hc] at hch
    have := lB_no hc
    simp (disch := first | omega | (simp; done) | (simp; omega)) [if_pos, if_neg, b27, hch, this]
    exact ⟨m, ⟨hm, by omega⟩, by rw [put_same hM]⟩
  | true =>
    rw [hc] at hch
    obtain ⟨os, rfl, hos⟩ := cB_chips hc
    rw [lB_str]
    have hle : os.length ≤ 16777216 := by simp only [okE_tup, Bool.and_eq_true, decide_eq_true_eq, List.length_map] at hv; exact hv.1
    by_cases h0 : os = []
    · subst h0
      have : lS_ nd [] = false := by simp [lS_]
      simp only [List.map_nil] at hch
      simp (disch := first | omega | (simp; done) | (simp; omega)) [if_pos, if_neg, b27, hch, this]
      exact ⟨m, ⟨hm, by omega⟩, by rw [put_same hM]⟩
    · have hne : ¬ (os.length : Int) = 0 := by
        have : os.length ≠ 0 := fun z => h0 (List.length_eq_zero_iff.mp z)
        omega
      have hr : rngL 0 ((os.length : Int) - 1) = (List.range (os.length - 1)).map fun i : Nat => D.int (i : Int) := by
        rw [rngL_z, show ((os.length : Int) - 1).toNat = os.length - 1 by omega]
      simp (disch := first | omega | (simp; done) | (simp; omega)) [if_pos, if_neg, b27, hch, hne, hr, h0]
      refine wp_seq (wp_findL (List.range (os.length - 1)) (fun i => .int (i : Int)) (fun k => !decide ((os[k]?.getD []) < (os[k + 1]?.getD []))) (fun _ => .bl false) ?_ ?_ ?_)
      · intro k hk
        rw [List.mem_range] at hk
        have k1 : k < os.length := by omega
        have k2 : k + 1 < os.length := by omega
        by_cases e : os[k] < os[k + 1]
        · simp (disch := first | omega | (simp; done) | (simp; omega)) [if_pos, if_neg, k1, k2, e]
        · simp (disch := first | omega | (simp; done) | (simp; omega)) [if_pos, if_neg, k1, k2, e]
      · intro hf
        have hasc : asc os = true := by
          have := find_none_all hf
          simpa [asc] using this
        have hlen8 : os.length ≤ 8 := by
          have := (asc_sub _ _ (of_asc hasc) h.asc hos).length_le
          simp [nms] at this; omega
        have hLS : lS_ nd os = !(os.any fun c => tim nd c os) := by
          have : os.all (fun c => decide (c ∈ nms nd)) = true := List.all_eq_true.mpr fun c hc => by simpa using hos c hc
          simp [lS_, h0, hasc, this]
        simp (disch := first | omega | (simp; done) | (simp; omega)) [if_pos, if_neg, id]
        obtain ⟨S2, hcp, m2, hm2, hl2', hS2⟩ := compK_finv (C := ⟨den P (n + 1), P.G, P.Cl, none⟩) (e := .call 23 [.v 0, .v 3, .v 1, .v 2]) (t := .v 3) (ifs := [])
          (env := [some (.tup (nd.map ndD)), some (.tup (os.map .str)), some (.obj M), none, none]) (o := none) (S := S) os .str (fun c => true) (fun c => .bl (tim nd c os))
          (fun j T => ∃ m2, OkM nd m2 ∧ m2.length ≤ m.length + j ∧ T = put S M (mo m2)) (by omega) ⟨m, hm, by omega, (put_same hM).symm⟩ (by intros; rfl) (by
            rintro j c T hcj ⟨m2, hm2, hl2, rfl⟩
            have hcl := List.mem_of_getElem? hcj
            have hj := (List.getElem?_eq_some_iff.mp hcj).1
            obtain ⟨m3, ⟨hm3, hl3⟩, hd⟩ := sp_in_time n (put S M (mo m2)) nd c (.tup (os.map .str)) os M m2 h (hos c hcl) (Or.inl rfl) (get_put_self hML) hm2 (by omega) (by omega)
            rw [put_put] at hd
            exact ⟨_, put S M (mo m2), put S M (mo m3), rfl, by simp (disch := first | omega | (simp; done) | (simp; omega)) [if_pos, if_neg, id], by simp (disch := first | omega | (simp; done) | (simp; omega)) [if_pos, if_neg, hd], m3, hm3, by omega, rfl⟩)
        rw [List.filter_eq_self.mpr (by simp)] at hcp
        rw [hcp]
        simp (disch := first | omega | (simp; done) | (simp; omega)) [if_pos, if_neg, hLS]
        refine ⟨m2, ⟨hm2, by omega⟩, ?_⟩
        rw [hS2]
        exact fin_put (pre := []) (by simp) (hm2.sbel _)
      · intro k hk
        have h1 := List.find?_some hk
        have h2 := List.mem_of_find?_eq_some hk
        have hasc : asc os = false := List.all_eq_false.mpr ⟨k, h2, by simpa using h1⟩
        have : lS_ nd os = false := by simp [lS_, hasc]
        simp (disch := first | omega | (simp; done) | (simp; omega)) [if_pos, if_neg, this]
        exact ⟨m, ⟨hm, by omega⟩, by rw [put_same hM]⟩
end HT
end
section
set_option maxHeartbeats 0
set_option linter.all false
set_option maxRecDepth 100000
namespace HT
open Pw
def okV (v : D) : Prop := okE v = true ∧ ∀ xs, v = .tup xs → xs.length < 64
theorem sp_judges (n : Nat) (S : Store) (nd : List Nd) (vs : List D) (W M : Nat) (m : List (D × D)) (h : OkN nd) (hv : ∀ v ∈ vs, okV v) (hW : get S W = some (.lst vs)) (hM : get S M = some (mo m)) (hm : OkM nd m) (hl : m.length < 10000) (hvl : vs.length ≤ 1000) :
    ∃ m', (OkM nd m' ∧ m'.length ≤ m.length + 16 * vs.length) ∧ den P (n + 8) none 31 [.tup (nd.map ndD), .obj W, .obj M] S = .ok (.bl true) (put S M (mo m')) := by
  refine den_post (f := ⟨3, 4, b31⟩) (fun m' => OkM nd m' ∧ m'.length ≤ m.length + 16 * vs.length) (fun m' => .ok (.bl true) (put S M (mo m'))) rfl rfl ?_
  have hML := get_lt hM
  have hWM : W ≠ M := by rintro rfl; rw [hW] at hM; exact mo_no (Option.some.inj hM).symm
  simp (disch := first | omega | (simp; done) | (simp; omega)) [if_pos, if_neg, b31, hW]
  refine wp_seq (wp_for (fun i env S' => i ≤ vs.length ∧ ∃ m1, OkM nd m1 ∧ m1.length ≤ m.length + 16 * i ∧ S' = put S M (mo m1) ∧ env = [some (.tup (nd.map ndD)), some (.obj W), some (.obj M), none])
    ⟨by omega, m, hm, by omega, (put_same hM).symm, rfl⟩ (by
      rintro i env S' ⟨_, m1, _, _, rfl, _⟩
      simp [stands, obAt, get_put_ne hWM]) ?_ ?_)
  · rintro i x env S' hx ⟨hi, m1, hm1, hl1, rfl, rfl⟩
    have hil := (List.getElem?_eq_some_iff.mp hx).1
    obtain ⟨ho, h64⟩ := hv x (List.mem_of_getElem? hx)
    have t1 : ∀ T, den P (n + 7) none 15 [.tup (nd.map ndD), x] T = .ok (.bl (tB nd x)) T := fun T => sp_is_timely n T nd x h ho h64
    have l1 : ∀ T, den P (n + 7) none 16 [.tup (nd.map ndD), x] T = .ok (.bl (lB nd x)) T := fun T => sp_is_late n T nd x h ho
    obtain ⟨m2, ⟨hm2, hl2⟩, t2⟩ := sp_law_timely (n + 5) (put S M (mo m1)) nd x M m1 h ho (get_put_self hML) hm1 (by omega)
    obtain ⟨m3, ⟨hm3, hl3⟩, l2⟩ := sp_law_late (n + 5) (put S M (mo m2)) nd x M m2 h ho (get_put_self hML) hm2 (by omega)
    rw [put_put] at t2 l2
    have t2' : den P (n + 7) none 26 [.tup (nd.map ndD), x, .obj M] (put S M (mo m1)) = .ok (.bl (tB nd x)) (put S M (mo m2)) := t2
    have l2' : den P (n + 7) none 27 [.tup (nd.map ndD), x, .obj M] (put S M (mo m2)) = .ok (.bl (lB nd x)) (put S M (mo m3)) := l2
    have s1 : ∀ b T, den P (n + 7) none 21 [.bl b, .bl b] T = .ok (.bl true) T := fun b T => sp_same 0 (.bl b) rfl (n + 6) T
    simp (disch := first | omega | (simp; done) | (simp; omega)) [if_pos, if_neg, t1, l1, t2', l2', s1]
    rw [trim_same (by simp)]
    exact ⟨by omega, m3, hm3, by omega, rfl⟩
  · rintro env S' ⟨_, m1, hm1, hl1, rfl, rfl⟩
    simp (disch := first | omega | (simp; done) | (simp; omega)) [if_pos, if_neg, id]
    exact ⟨m1, ⟨hm1, hl1⟩, fin_put (pre := []) (by simp) (hm1.sbel _)⟩
/-! all orders, all sets -/
def ordN (ns : List (List Nat)) : Nat → List (List (List Nat))
  | 0 => [[]]
  | i + 1 => (ordN ns i).flatMap fun o => (ns.filter fun c => !decide (c ∈ o)).map fun c => o ++ [c]
def setN : List (List Nat) → List (List (List Nat)) → List (List (List Nat))
  | [], acc => acc
  | c :: r, acc => setN r (acc ++ acc.map fun o => o ++ [c])
def tS' (o : List (List Nat)) : D := .tup (o.map .str)
theorem ordN_ok {ns : List (List Nat)} : ∀ (i : Nat), ∀ o ∈ ordN ns i, o.length = i ∧ ∀ c ∈ o, c ∈ ns
  | 0, o, h => by simp [ordN] at h; subst h; simp
  | i + 1, o, h => by
    simp only [ordN, List.mem_flatMap, List.mem_map, List.mem_filter] at h
    obtain ⟨p, hp, c, ⟨hc, _⟩, rfl⟩ := h
    obtain ⟨h1, h2⟩ := ordN_ok i p hp
    refine ⟨by simp [h1], fun d hd => ?_⟩
    rw [List.mem_append, List.mem_singleton] at hd
    rcases hd with hd | rfl
    · exact h2 d hd
    · exact hc
theorem ordN_len {ns : List (List Nat)} : ∀ (i : Nat), (ordN ns i).length ≤ ns.length ^ i
  | 0 => by simp [ordN]
  | i + 1 => by
    have ih := ordN_len (ns := ns) i
    have : ∀ l : List (List (List Nat)), (l.flatMap fun o => (ns.filter fun c => !decide (c ∈ o)).map fun c => o ++ [c]).length ≤ l.length * ns.length := by
      intro l
      induction l with
      | nil => simp
      | cons a r ih =>
        rw [List.flatMap_cons, List.length_append, List.length_map, List.length_cons, Nat.succ_mul]
        have := List.length_filter_le (fun c => !decide (c ∈ a)) ns
        omega
    have h2 := this (ordN ns i)
    rw [ordN, Nat.pow_succ]
    exact Nat.le_trans h2 (Nat.mul_le_mul_right _ ih)
theorem ordN_all {ns : List (List Nat)} {L : List (List Nat)} (hn : L.Nodup) (hs : ∀ c ∈ L, c ∈ ns) : ∀ i, i ≤ L.length → L.take i ∈ ordN ns i
  | 0, _ => by simp [ordN]
  | i + 1, h => by
    have ih := ordN_all hn hs i (by omega)
    simp only [ordN, List.mem_flatMap, List.mem_map, List.mem_filter]
    refine ⟨L.take i, ih, L[i], ⟨hs _ (List.getElem_mem _), ?_⟩, ?_⟩
    · have := nodup_take.mp hn i (by omega)
      simp [this]
    · rw [List.take_add_one, List.getElem?_eq_getElem (by omega)]; rfl
theorem setN_ok : ∀ (ns : List (List Nat)) (acc : List (List (List Nat))) (all : List (List Nat)) (k : Nat), (∀ c ∈ ns, c ∈ all) → (∀ o ∈ acc, o.length ≤ k ∧ ∀ c ∈ o, c ∈ all) → ∀ o ∈ setN ns acc, o.length ≤ k + ns.length ∧ ∀ c ∈ o, c ∈ all
  | [], acc, all, k, _, h, o, ho => h o ho
  | c :: r, acc, all, k, hc, h, o, ho => by
    have := setN_ok r (acc ++ acc.map fun o => o ++ [c]) all (k + 1) (fun d hd => hc d (by simp [hd])) (fun p hp => by
      rw [List.mem_append, List.mem_map] at hp
      rcases hp with hp | ⟨q, hq, rfl⟩
      · exact ⟨by have := (h p hp).1; omega, (h p hp).2⟩
      · refine ⟨by simp; exact (h q hq).1, fun d hd => ?_⟩
        rw [List.mem_append, List.mem_singleton] at hd
        rcases hd with hd | rfl
        · exact (h q hq).2 d hd
        · exact hc _ (by simp)) o ho
    exact ⟨by have := this.1; simp; omega, this.2⟩
theorem setN_len : ∀ (ns : List (List Nat)) (acc : List (List (List Nat))), (setN ns acc).length = acc.length * 2 ^ ns.length
  | [], acc => by simp [setN]
  | c :: r, acc => by
    rw [setN, setN_len r, List.length_append, List.length_map, List.length_cons, Nat.pow_succ, ← Nat.mul_two, Nat.mul_assoc, Nat.mul_comm 2]
theorem setN_acc : ∀ (ns : List (List Nat)) (acc : List (List (List Nat))), ∀ o ∈ acc, o ∈ setN ns acc
  | [], acc, o, h => h
  | c :: r, acc, o, h => setN_acc r _ o (by simp [h])
theorem setN_all : ∀ (ns : List (List Nat)) (acc : List (List (List Nat))) (p L : List (List Nat)), p ∈ acc → L.Sublist ns → p ++ L ∈ setN ns acc
  | [], acc, p, L, hp, hs => by
    have : L = [] := List.sublist_nil.mp hs
    subst this; simpa [setN] using hp
  | c :: r, acc, p, L, hp, hs => by
    rw [setN]
    cases hs with
    | cons _ hs => exact setN_all r _ p L (by simp [hp]) hs
    | cons_cons _ hs =>
      rename_i L'
      have := setN_all r (acc ++ acc.map fun o => o ++ [c]) (p ++ [c]) L' (by simp [hp]) hs
      simpa using this
end HT
end
section
set_option maxHeartbeats 0
set_option linter.all false
set_option maxRecDepth 100000
namespace HT
open Pw
def nxt (ns : List (List Nat)) (o : List (List Nat)) : List (List (List Nat)) := (ns.filter fun c => !decide (c ∈ o)).map fun c => o ++ [c]
theorem ordN_nxt (ns : List (List Nat)) (i : Nat) : ordN ns (i + 1) = (ordN ns i).flatMap (nxt ns) := rfl
theorem bels_tS (n : Nat) (l : List (List (List Nat))) : D.bels n (l.map tS') = true := belsM fun o _ => by simp [tS', bels_str]
def aoI (ns : List (List Nat)) (S : Store) (N i : Nat) (env : Env) (S' : Store) : Prop := ∃ (q : Nat) (pre : Store), S' = pre ++ S ∧ S.length ≤ q ∧ get S' q = some (.lst ((ordN ns i).map tS')) ∧ env = [some (.obj N), none, none, none, some (.obj q), none]
def asI (ns : List (List Nat)) (S : Store) (N i : Nat) (env : Env) (S' : Store) : Prop := i ≤ ns.length ∧ ∃ (q : Nat) (pre : Store) (cur : List (List (List Nat))), S' = pre ++ S ∧ S.length ≤ q ∧ get S' q = some (.lst (cur.map tS')) ∧ setN (ns.drop i) cur = setN ns [[]] ∧ cur.length ≤ 2 ^ i ∧ (∀ o ∈ cur, o.length ≤ i) ∧ env = [some (.obj N), none, none, some (.obj q)]
theorem sp_all_orders (n : Nat) (S : Store) (ns : List (List Nat)) (N : Nat) (hN : get S N = some (.lst (ns.map .str))) (h4 : ns.length ≤ 4) :
    den P (n + 1) none 28 [.obj N] S = .ok (.obj S.length) (.lst ((ordN ns ns.length).map tS') :: S) := by
  refine den_wp (f := ⟨1, 6, b28⟩) rfl rfl ?_
  have hNl := get_lt hN
  have hr : rngL 0 (ns.length : Int) = (List.range ns.length).map fun i : Nat => D.int (i : Int) := rngL_nat _
  simp (disch := first | omega | (simp; done) | (simp; omega)) [if_pos, if_neg, b28, hN, hr]
  refine wp_seq (wp_for (aoI ns S N)
    ⟨S.length, [_], rfl, by omega, by simp [ordN, tS'], rfl⟩ (by intros; rfl) ?_ ?_)
  · rintro i x env S' hx ⟨q, pre, hpre, hq, hg, rfl⟩
    obtain ⟨hi, rfl⟩ := range_at hx
    have hql := get_lt hg
    have hzq : ¬ q = S'.length := by omega
    have hSl : S.length ≤ S'.length := by rw [hpre]; simp
    have hzN : ¬ N = S'.length := by omega
    have hN' : get S' N = some (.lst (ns.map .str)) := by rw [hpre]; exact get_app hN _
    have hlen : (ordN ns i).length ≤ 256 := Nat.le_trans (ordN_len i) (Nat.le_trans (Nat.pow_le_pow_left h4 i) (Nat.pow_le_pow_right (by omega) (show i ≤ 4 by omega)))
    simp (disch := first | omega | (simp; done) | (simp; omega)) [if_pos, if_neg, hzq, hg]
    refine wp_seq (wp_for (fun j env T => j ≤ (ordN ns i).length ∧ T = .lst ((((ordN ns i).take j).flatMap (nxt ns)).map tS') :: S' ∧ env = [some (.obj N), some (.obj S'.length), none, none, some (.obj q), some (.int (i : Int))])
      ⟨by omega, by simp, rfl⟩ (by
        rintro j env T ⟨_, rfl, _⟩
        simp [stands, obAt, hzq]) ?_ ?_)
    · rintro j x env T hx ⟨hj, rfl, rfl⟩
      rw [List.getElem?_map] at hx
      obtain ⟨o, ho, rfl⟩ := Option.map_eq_some_iff.mp hx
      obtain ⟨hol, hos⟩ := ordN_ok i o (List.mem_of_getElem? ho)
      have hjl := (List.getElem?_eq_some_iff.mp ho).1
      have hacc : ((((ordN ns i).take j).flatMap (nxt ns))).length ≤ 1024 := by
        have : ∀ l : List (List (List Nat)), (l.flatMap (nxt ns)).length ≤ l.length * 4 := by
          intro l
          induction l with
          | nil => simp
          | cons a r ih =>
            rw [List.flatMap_cons, List.length_append, List.length_cons, Nat.succ_mul]
            have : (nxt ns a).length ≤ 4 := by
              unfold nxt; rw [List.length_map]
              exact Nat.le_trans (List.length_filter_le _ _) h4
            omega
        have h1 := this ((ordN ns i).take j)
        rw [List.length_take] at h1
        omega
      generalize hA : ((ordN ns i).take j).flatMap (nxt ns) = A at *
      simp (disch := first | omega | (simp; done) | (simp; omega)) [if_pos, if_neg, hzN, hN']
      refine wp_seq (wp_for (fun k env T => k ≤ ns.length ∧ T = .lst ((A ++ ((ns.take k).filter fun c => !decide (c ∈ o)).map fun c => o ++ [c]).map tS') :: S' ∧ env = [some (.obj N), some (.obj S'.length), none, some (tS' o), some (.obj q), some (.int (i : Int))])
        ⟨by omega, by simp, rfl⟩ (by
          rintro k env T ⟨_, rfl, _⟩
          simp [stands, obAt, hzN]) ?_ ?_)
      · rintro k x env T hx ⟨hk, rfl, rfl⟩
        rw [List.getElem?_map] at hx
        obtain ⟨c, hc, rfl⟩ := Option.map_eq_some_iff.mp hx
        have hkl := (List.getElem?_eq_some_iff.mp hc).1
        have hin : inD (.str c) (o.map .str) = some (decide (c ∈ o)) := inD_strs _ _
        have hfl : (((ns.take k).filter fun c => !decide (c ∈ o))).length ≤ 4 := by
          have := List.length_filter_le (fun c => !decide (c ∈ o)) (ns.take k)
          rw [List.length_take] at this; omega
        by_cases e : c ∈ o
        · simp (disch := first | omega | (simp; done) | (simp; omega)) [if_pos, if_neg, tS', hin, e]
          refine ⟨by omega, ?_⟩
          rw [List.take_add_one, hc]
          simp [List.filter_append, e, tS']
        · have hol2 : o.length + 1 ≤ 16777216 := by omega
          have hal : A.length + (((ns.take k).filter fun c => !decide (c ∈ o))).length < 16777216 := by omega
          simp (disch := first | omega | (simp; done) | (simp; omega)) [if_pos, if_neg, tS', hin, e]
          refine ⟨by omega, ?_⟩
          rw [List.take_add_one, hc]
          simp [List.filter_append, e, tS']
      · rintro env T ⟨_, rfl, rfl⟩
        have hk : ns.take (ns.map D.str).length = ns := by simp
        rw [hk]
        simp (disch := first | omega | (simp; done) | (simp; omega)) [if_pos, if_neg, id]
        refine ⟨by omega, ?_⟩
        rw [List.take_add_one, ho]
        simp [hA, nxt]
    · rintro env T ⟨_, rfl, rfl⟩
      have hk : (ordN ns i).take ((ordN ns i).map tS').length = ordN ns i := by simp
      rw [hk, ← ordN_nxt]
      simp (disch := first | omega | (simp; done) | (simp; omega)) [if_pos, if_neg, id]
      rw [trim_no (by simp)]
      exact ⟨S'.length, _ :: pre, by rw [hpre]; rfl, by omega, by simp, rfl⟩
  · rintro env S' ⟨q, pre, hpre, hq, hg, rfl⟩
    simp only [List.length_map, List.length_range] at hg
    simp (disch := first | omega | (simp; done) | (simp; omega)) [if_pos, if_neg, id]
    exact fin_any pre hpre hq hg (by simp [bels_tS])
theorem sp_all_sets (n : Nat) (S : Store) (ns : List (List Nat)) (N : Nat) (hN : get S N = some (.lst (ns.map .str))) (h4 : ns.length ≤ 4) :
    den P (n + 1) none 29 [.obj N] S = .ok (.obj S.length) (.lst ((setN ns [[]]).map tS') :: S) := by
  refine den_wp (f := ⟨1, 4, b29⟩) rfl rfl ?_
  have hNl := get_lt hN
  simp (disch := first | omega | (simp; done) | (simp; omega)) [if_pos, if_neg, b29, hN]
  refine wp_seq (wp_for (asI ns S N)
    ⟨by omega, S.length, [_], [[]], rfl, by omega, by simp [tS'], by simp, by simp, by simp, rfl⟩ (by
      rintro i env T ⟨_, q, pre, cur, rfl, hq, _⟩
      have := get_app hN pre
      simp [stands, obAt, this, show ¬ N = S.length by omega, hN]) ?_ ?_)
  · rintro i x env S' hx ⟨hi, q, pre, cur, hpre, hq, hg, hset, hcl, hol, rfl⟩
    rw [List.getElem?_map] at hx
    obtain ⟨c, hc, rfl⟩ := Option.map_eq_some_iff.mp hx
    obtain ⟨hil, hce⟩ := List.getElem?_eq_some_iff.mp hc
    have hql := get_lt hg
    have hSl : S.length ≤ S'.length := by rw [hpre]; simp
    have hc16 : cur.length ≤ 16 := Nat.le_trans hcl (Nat.pow_le_pow_right (by omega) (show i ≤ 4 by omega))
    have hzq : ¬ q = S'.length := by omega
    simp (disch := first | omega | (simp; done) | (simp; omega)) [if_pos, if_neg, hg]
    rw [compK_on cur tS' (fun o => tS' (o ++ [c])) (by omega) (fun o ho => by
      have h1 := hol o ho
      have h2 : o.length + 1 ≤ 16777216 := by omega
      exact ⟨_, rfl, by simp (disch := first | omega | (simp; done) | (simp; omega)) [if_pos, if_neg, id], by simp (disch := first | omega | (simp; done) | (simp; omega)) [if_pos, if_neg, tS']⟩)]
    simp (disch := first | omega | (simp; done) | (simp; omega)) [if_pos, if_neg, hg, hzq]
    rw [trim_no (by simp)]
    refine ⟨by omega, S'.length + 1, _ :: _ :: pre, cur ++ cur.map fun o => o ++ [c], by rw [hpre]; rfl, by omega, by simp [Function.comp_def], ?_, by rw [List.length_append, List.length_map, Nat.pow_succ]; omega, ?_, rfl⟩
    · rw [← hset, List.drop_eq_getElem_cons hil, hce, setN]
    · intro o ho
      rw [List.mem_append, List.mem_map] at ho
      rcases ho with ho | ⟨p, hp, rfl⟩
      · have := hol o ho; omega
      · have := hol p hp; simp; omega
  · rintro env S' ⟨_, q, pre, cur, hpre, hq, hg, hset, hcl, hol, rfl⟩
    have : cur = setN ns [[]] := by rw [← hset]; simp [setN]
    rw [← this]
    simp (disch := first | omega | (simp; done) | (simp; omega)) [if_pos, if_neg, id]
    exact fin_any pre hpre hq hg (by simp [bels_tS])
end HT
end
section
set_option maxHeartbeats 0
set_option linter.all false
set_option maxRecDepth 100000
namespace HT
open Pw
theorem okV_str {os : List (List Nat)} (h : ∀ c ∈ os, c.length ≤ 9) (hl : os.length < 64) : okV (.tup (os.map .str)) := by
  refine ⟨?_, fun xs e => by cases e; simpa using hl⟩
  simp only [okE_tup, Bool.and_eq_true, decide_eq_true_eq, List.length_map]
  refine ⟨by omega, ?_⟩
  rw [okEs_all, List.all_eq_true]
  intro x hx
  obtain ⟨c, hc, rfl⟩ := List.mem_map.mp hx
  have := h c hc
  simp; omega
theorem okV_flat {v : D} (h : okE v = true) (ht : ∀ xs, v = .tup xs → xs.length < 64) : okV v := ⟨h, ht⟩
def sx (x : D) : Prop := ∃ c : List Nat, x = .str c ∧ c.length ≤ 9
theorem fa {a b : List D} (h1 : ∀ x ∈ a, sx x) (h2 : ∀ x ∈ b, sx x) : ∀ x ∈ a ++ b, sx x := fun x hx => by
  rw [List.mem_append] at hx; exact hx.elim (h1 x) (h2 x)
theorem ft {a : List D} (h1 : ∀ x ∈ a, sx x) (k : Nat) : ∀ x ∈ a.take k, sx x := fun x hx => h1 x (List.mem_of_mem_take hx)
theorem fd {a : List D} (h1 : ∀ x ∈ a, sx x) (k : Nat) : ∀ x ∈ a.drop k, sx x := fun x hx => h1 x (List.mem_of_mem_drop hx)
theorem fr {a : List D} (h1 : ∀ x ∈ a, sx x) : ∀ x ∈ a.reverse, sx x := fun x hx => h1 x (List.mem_reverse.mp hx)
theorem fc {x : D} {a : List D} (h1 : sx x) (h2 : ∀ x ∈ a, sx x) : ∀ y ∈ x :: a, sx y := fun y hy => by
  rw [List.mem_cons] at hy
  rcases hy with rfl | hy
  · exact h1
  · exact h2 y hy
theorem fn : ∀ x ∈ ([] : List D), sx x := by simp
theorem fm {os : List (List Nat)} (h : ∀ c ∈ os, c.length ≤ 9) : ∀ x ∈ os.map D.str, sx x := fun x hx => by
  obtain ⟨c, hc, rfl⟩ := List.mem_map.mp hx
  exact ⟨c, rfl, h c hc⟩
theorem okV_of {xs : List D} (h : ∀ x ∈ xs, sx x) (hl : xs.length < 64) : okV (.tup xs) := by
  refine ⟨?_, fun ys e => by cases e; exact hl⟩
  simp only [okE_tup, Bool.and_eq_true, decide_eq_true_eq]
  refine ⟨by omega, ?_⟩
  rw [okEs_all, List.all_eq_true]
  intro x hx
  obtain ⟨c, rfl, hc⟩ := h x hx
  simp; omega
theorem shr_i {z : Int} {k : Nat} (S : Store) : binD .shr (.int z) (.int (k : Int)) S = .ok (.int (z / 2 ^ k)) S := by
  show (if (0 : Int) ≤ (k : Int) then Res.ok (D.int (z / 2 ^ (k : Int).toNat)) S else .bad) = _
  rw [if_pos (by omega)]; simp
theorem rev_t (xs : List D) (S : Store) : revD (.tup xs) S = .ok (.tup xs.reverse) S := rfl
def vlP (S : Store) (p : Store × Nat × List D) : Prop := (∃ pre, p.1 = pre ++ S) ∧ S.length ≤ p.2.1 ∧ get p.1 p.2.1 = some (.lst p.2.2) ∧ p.2.2.length ≤ 60 ∧ (∀ v ∈ p.2.2, okV v)
def nvI (V0 : List D) (R : Store) (E : Option D → Env) (a b i : Nat) (env : Env) (T : Store) : Prop := ∃ (X : List D) (e4 : Option D), T = .lst (V0 ++ X) :: R ∧ X.length ≤ a + b * i ∧ (∀ v ∈ X, okV v) ∧ env = E e4
theorem sp_values (n : Nat) (S : Store) (nd : List Nd) (w : List Nat) (c0 : List Nat) (cr : List (List Nat)) (Nn : Nat) (zs : List Int) (h : OkN nd) (hc : ∀ c ∈ c0 :: cr, c ∈ nms nd) (hl : (c0 :: cr).length ≤ 8) (hZ : get S Nn = some (.lst (zs.map .int))) (hz : ∀ z ∈ zs, 0 ≤ z ∧ z < 256) (hzl : zs.length ≤ 8) :
    ∃ p : Store × Nat × List D, vlP S p ∧ den P (n + 1) none 30 [.tup (nd.map ndD), .tup [.str w, .tup ((c0 :: cr).map .str)], .obj Nn] S = .ok (.obj p.2.1) p.1 := by
  have h8 := h.len
  have hZl := get_lt hZ
  have hsh : ∀ c ∈ c0 :: cr, c.length ≤ 8 := fun c hc' => by
    have := names_ok h (hc c hc')
    simp only [isNameL, Bool.and_eq_true, decide_eq_true_eq] at this; exact this.1.1.2
  have hshn : ∀ c ∈ nms nd, c.length ≤ 8 := fun c hc' => by
    have := names_ok h hc'
    simp only [isNameL, Bool.and_eq_true, decide_eq_true_eq] at this; exact this.1.1.2
  simp only [List.length_cons] at hl
  have hr : rngL 0 ((cr.length : Int) + 1 - 1) = (List.range cr.length).map fun i : Nat => D.int (i : Int) := by
    rw [show (cr.length : Int) + 1 - 1 = (cr.length : Int) by omega]; exact rngL_nat _
  refine den_post (f := ⟨3, 9, b30⟩) (vlP S) (fun p => .ok (.obj p.2.1) p.1) rfl rfl ?_
  simp (disch := first | omega | (simp; done) | (simp; omega)) [if_pos, if_neg, b30]
  rw [compK_on nd ndD (fun x => .str x.1) (by omega) (fun x hx => ⟨_, rfl, by simp (disch := first | omega | (simp; done) | (simp; omega)) [if_pos, if_neg, id], by simp (disch := first | omega | (simp; done) | (simp; omega)) [if_pos, if_neg, ndD]⟩)]
  have e1 : nd.map (fun x : Nd => D.str x.1) = (nms nd).map .str := by simp [nms, Function.comp_def]
  rw [e1]
  simp (disch := first | omega | (simp; done) | (simp; omega)) [if_pos, if_neg, hr, rev_t]
  have hsh9 : ∀ c ∈ c0 :: cr, c.length ≤ 9 := fun c hc' => by have := hsh c hc'; omega
  have hL : ∀ x ∈ (D.str c0 :: List.map D.str cr), sx x := fm (os := c0 :: cr) hsh9
  have hcr : ∀ x ∈ List.map D.str cr, sx x := fun x hx => hL x (by simp [hx])
  have hc0 : sx (.str c0) := hL _ (by simp)
  have hnm : ∀ x ∈ (nms nd).map D.str, sx x := fm fun c hc' => by have := hshn c hc'; omega
  have hnl : (nms nd).length ≤ 8 := by simp [nms]; exact h8.2
  have hz9 : sx (.str [122, 122, 122, 122, 122, 122, 122, 122, 122]) := ⟨_, rfl, by simp⟩
  have hz2 : sx (.str [122, 122]) := ⟨_, rfl, by simp⟩
  obtain ⟨V0, hV0⟩ : ∃ V0 : List D, V0 = [D.tup (D.str c0 :: List.map D.str cr), D.tup (List.map D.str (nms nd)),
              D.tup ((List.map D.str cr).reverse ++ [D.str c0]), D.tup (D.str c0 :: (List.map D.str cr ++ [D.str c0])),
              D.tup (List.map D.str cr), D.tup (List.take cr.length (D.str c0 :: List.map D.str cr)),
              D.obj (List.length S + 1), D.str c0, D.non, D.bl true, D.int 0, D.str [],
              D.obj (List.length S + 1 + 1 + 1), D.tup [D.int 1], D.tup [D.obj (List.length S + 1 + 1 + 1 + 1)],
              D.tup [D.non], D.tup [D.tup [D.str c0]], D.obj (List.length S + 1 + 1 + 1 + 1 + 1),
              D.tup (List.map D.str cr ++ [D.str [122, 122, 122, 122, 122, 122, 122, 122, 122]]),
              D.tup (List.map D.str cr ++ [D.str [122, 122]])] := ⟨_, rfl⟩
  have hc0l := hsh c0 (by simp)
  have okV0 : ∀ v ∈ V0, okV v := by
    intro v hv
    rw [hV0] at hv
    simp only [List.mem_cons, List.not_mem_nil, or_false] at hv
    rcases hv with rfl | rfl | rfl | rfl | rfl | rfl | rfl | rfl | rfl | rfl | rfl | rfl | rfl | rfl | rfl | rfl | rfl | rfl | rfl | rfl
    · exact okV_of hL (by simp; omega)
    · exact okV_of hnm (by simp; omega)
    · exact okV_of (fa (fr hcr) (fc hc0 fn)) (by simp; omega)
    · exact okV_of (fc hc0 (fa hcr (fc hc0 fn))) (by simp; omega)
    · exact okV_of hcr (by simp; omega)
    · exact okV_of (ft hL _) (by simp; omega)
    · exact okV_flat (by simp) (by simp)
    · exact okV_flat (by simp; omega) (by simp)
    · exact okV_flat (by simp) (by simp)
    · exact okV_flat (by simp) (by simp)
    · exact okV_flat (by simp) (by simp)
    · exact okV_flat (by simp) (by simp)
    · exact okV_flat (by simp) (by simp)
    · exact okV_flat (by simp) (by simp)
    · exact okV_flat (by simp) (by simp)
    · exact okV_flat (by simp) (by simp)
    · exact okV_flat (by simp; omega) (by simp)
    · exact okV_flat (by simp) (by simp)
    · exact okV_of (fa hcr (fc hz9 fn)) (by simp; omega)
    · exact okV_of (fa hcr (fc hz2 fn)) (by simp; omega)
  have hV0l : V0.length = 20 := by rw [hV0]; rfl
  rw [← hV0]
  generalize hR : (SO.lst [D.non, D.bl true, D.int 0, D.str [], D.obj (List.length S + 1 + 1 + 1), D.tup [D.int 1],
                D.tup [D.obj (List.length S + 1 + 1 + 1 + 1)], D.tup [D.non], D.tup [D.tup [D.str c0]],
                D.obj (List.length S + 1 + 1 + 1 + 1 + 1),
                D.tup (List.map D.str cr ++ [D.str [122, 122, 122, 122, 122, 122, 122, 122, 122]]),
                D.tup (List.map D.str cr ++ [D.str [122, 122]])] :: SO.dct [(D.str c0, D.int 1)] :: SO.lst [] :: SO.dct [] :: SO.lst
                      [D.tup (D.str c0 :: List.map D.str cr), D.tup (List.map D.str (nms nd)),
                        D.tup ((List.map D.str cr).reverse ++ [D.str c0]),
                        D.tup (D.str c0 :: (List.map D.str cr ++ [D.str c0])), D.tup (List.map D.str cr),
                        D.tup (List.take cr.length (D.str c0 :: List.map D.str cr)), D.obj (List.length S + 1),
                        D.str c0] :: SO.lst (D.str c0 :: List.map D.str cr) :: SO.lst (List.map D.str (nms nd)) :: S : Store) = R
  have hRl : R.length = S.length + 7 := by rw [← hR]; rfl
  obtain ⟨preR, hRp⟩ : ∃ preR, R = preR ++ S := ⟨[_, _, _, _, _, _, _], by rw [← hR]; rfl⟩
  have hRn : get R S.length = some (.lst ((nms nd).map .str)) := by rw [← hR]; exact get_app (get_self _ _) [_, _, _, _, _, _]
  have hRZ : get R Nn = some (.lst (zs.map .int)) := by rw [hRp]; exact get_app hZ _
  clear hR
  rw [show List.length S + 1 + 1 + 1 + 1 + 1 + 1 + 1 = R.length by omega]
  have hnb : ∀ X, SO.bel S.length (.lst (V0 ++ X)) = false := fun X => by
    show D.bels S.length (V0 ++ X) = false
    rw [belsA]
    exact List.all_eq_false.mpr ⟨.obj (S.length + 1), by rw [hV0]; simp, by simp⟩
  clear hV0
  refine wp_seq (wp_for (nvI V0 R (fun e4 => [some (D.tup (List.map ndD nd)), some (D.tup [D.str w, D.tup (D.str c0 :: List.map D.str cr)]), some (D.obj Nn),
          some (D.tup (D.str c0 :: List.map D.str cr)), e4, some (D.obj (List.length S)), none, none, some (D.obj R.length)]) 0 3)
    ⟨[], none, by simp, by simp, by simp, rfl⟩ (by intros; rfl) ?_ ?_)
  · rintro i x env T hx ⟨X, e4, rfl, hXl, hX, rfl⟩
    obtain ⟨hi, rfl⟩ := range_at hx
    have hLl : (D.str c0 :: List.map D.str cr).length = cr.length + 1 := by simp
    have hg1 : i < (D.str c0 :: List.map D.str cr).length := by omega
    have hg2 : i + 1 < (D.str c0 :: List.map D.str cr).length := by omega
    have hs1 := hL _ (List.getElem_mem hg1)
    have hs2 := hL _ (List.getElem_mem hg2)
    generalize D.str c0 :: List.map D.str cr = Lm at *
    have hXl2 : V0.length + X.length + 3 < 16777216 := by omega
    simp (disch := first | omega | (simp; done) | (simp; omega)) [if_pos, if_neg, hg1, hg2]
    refine ⟨_, some (.int (i : Int)), rfl, by simp only [List.length_append, List.length_cons, List.length_nil]; omega, ?_, rfl⟩
    intro v hv
    rw [List.mem_append] at hv
    rcases hv with hv | hv
    · exact hX v hv
    · simp only [List.mem_cons, List.not_mem_nil, or_false] at hv
      rcases hv with rfl | rfl | rfl
      · exact okV_of (fa (ft hL _) (fc hs2 (fc hs1 (fd hL _)))) (by simp; omega)
      · exact okV_of (fa (ft hL _) (fd hL _)) (by simp; omega)
      · exact okV_of (fa (ft hL _) (fc hs2 (fd hL _))) (by simp; omega)
  · rintro env T ⟨X, e4, rfl, hXl, hX, rfl⟩
    simp only [List.length_map, List.length_range] at hXl
    simp (disch := first | omega | (simp; done) | (simp; omega)) [if_pos, if_neg, hRZ, show ¬ Nn = R.length by omega]
    have hzg : ∀ (Y : SO) (Y' : SO), get (Y :: R) Nn = get (Y' :: R) Nn := fun Y Y' => by
      have : ¬ Nn = R.length := by omega
      simp [this]
    refine wp_seq (wp_for (nvI V0 R (fun _ => [some (D.tup (List.map ndD nd)), some (D.tup [D.str w, D.tup (D.str c0 :: List.map D.str cr)]), some (D.obj Nn),
          some (D.tup (D.str c0 :: List.map D.str cr)), e4, some (D.obj (List.length S)), none, none, some (D.obj R.length)]) 24 1)
      ⟨X, none, rfl, by omega, hX, rfl⟩ (by
        rintro i env T ⟨X, e, rfl, _⟩
        simp [stands, obAt, hzg _ (.lst (V0 ++ X)), show ¬ Nn = R.length by omega]) ?_ ?_)
    · clear X hXl hX
      rintro i x env T hx ⟨X, e5, rfl, hXl, hX, rfl⟩
      rw [List.getElem?_map] at hx
      obtain ⟨z, hz1, rfl⟩ := Option.map_eq_some_iff.mp hx
      have hil := (List.getElem?_eq_some_iff.mp hz1).1
      have hrn : rngL 0 ((nms nd).length : Int) = (List.range (nms nd).length).map fun i : Nat => D.int (i : Int) := rngL_nat _
      simp (disch := first | omega | (simp; done) | (simp; omega)) [if_pos, if_neg, hRn, show ¬ S.length = R.length by omega, hrn]
      have hq := fun (k : Nat) (T : Store) => shr_i (z := z) (k := k) T
      rw [compK_rg (nms nd).length (fun k => decide (z / 2 ^ k % 2 = 1)) (fun k => .str ((nms nd)[k]?.getD [])) (by omega) (fun k hk => by
        constructor
        · by_cases e : z / 2 ^ k % 2 = 1
          · simp (disch := first | omega | (simp; done) | (simp; omega)) [if_pos, if_neg, hq, e]
          · simp (disch := first | omega | (simp; done) | (simp; omega)) [if_pos, if_neg, hq, e]
        · intro _
          simp (disch := first | omega | (simp; done) | (simp; omega)) [if_pos, if_neg, hRn, show ¬ S.length = R.length by omega, hk])]
      have hXl2 : V0.length + X.length + 1 < 16777216 := by omega
      simp (disch := first | omega | (simp; done) | (simp; omega)) [if_pos, if_neg, id]
      refine ⟨_, none, rfl, by simp only [List.length_append, List.length_cons, List.length_nil]; omega, ?_, rfl⟩
      intro v hv
      rw [List.mem_append, List.mem_singleton] at hv
      rcases hv with hv | rfl
      · exact hX v hv
      · refine okV_of (fun x hx => ?_) ?_
        · obtain ⟨k, _, rfl⟩ := List.mem_map.mp hx
          refine ⟨_, rfl, ?_⟩
          cases hk : (nms nd)[k]? with
          | none => simp
          | some c => have := hshn c (List.mem_of_getElem? hk); simp; omega
        · have := List.length_filter_le (fun k => decide (z / 2 ^ k % 2 = 1)) (List.range (nms nd).length)
          simp only [List.length_range] at this
          simp only [List.length_map]; omega
    · clear X hXl hX
      rintro env T ⟨X, e5, rfl, hXl, hX, rfl⟩
      simp only [List.length_map] at hXl
      simp (disch := first | omega | (simp; done) | (simp; omega)) [if_pos, if_neg, id]
      refine ⟨.lst (V0 ++ X) :: R, R.length, ⟨V0 ++ X, ⟨.lst (V0 ++ X) :: preR, show _ :: R = _ :: (preR ++ S) by rw [← hRp]⟩, show S.length ≤ R.length by omega, get_self _ _, show (V0 ++ X).length ≤ 60 by rw [List.length_append]; omega, ?_⟩, ?_⟩
      · intro v hv
        rw [List.mem_append] at hv
        exact hv.elim (okV0 v) (hX v)
      · exact fin_keep (pre := _ :: preR) (by first | (rw [hRp]; done) | (rw [hRp]; rfl)) (by omega) (get_self _ _) (hnb X)
end HT
end
section
set_option maxHeartbeats 0
set_option linter.all false
set_option maxRecDepth 100000
namespace HT
open Pw
def nineD : D := .tup ((List.range 9).map fun k => .tup [.str [110, 48 + k], .int 9, .int 1])
def vA (ds : List D) (a z : D) (B : Nat) : List D := [.non, .bl true, .int 5, .str [], .tup [], .obj B, .obj (B + 1), .obj (B + 2), a, .tup (ds ++ [z]), .tup (ds ++ [.non]), nineD]
def vB (ds : List D) : List D := if 1 < ds.length then [.tup ds.reverse] else []
def wC (a : Nd) (B : Nat) : List D := [.obj (B + 4), .tup [.str a.1, iN a.2.1], .tup [.str a.1, iN a.2.1, iN a.2.2, iN a.2.2], .tup [iN a.2.1, .str a.1, iN a.2.2], .str a.1]
def wD (a : Nd) : List D := [.int 0, .int 61, .int (-1), .bl true, .non, .str [57], .tup [iN a.2.1], .int 600]
def wE (a : Nd) (B : Nat) : List D := [.int 0, .int ((a.2.1 : Int) + 1), .int (-1), .bl true, .non, .str [49], .obj (B + 7), .int 61]
def wF (z : Nd) (B : Nat) : List D := [.str ((z.1 ++ [48, 48, 48, 48, 48, 48, 48, 48]).take 9), .str (z.1.take 7 ++ [126]), .non, .int 3, .obj (B + 9)]
def wG (f : Nd) : List D := [.str [], .str (53 :: f.1.drop 1), .str (75 :: f.1.drop 1)]
def gD (ds : List D) (p : Nat) (a : Nd) (x : D) : D := gx ds p (.tup [.str a.1, x, .int 1])
def gE (ds : List D) (p : Nat) (a : Nd) (x : D) : D := gx ds p (.tup [.str a.1, iN a.2.1, x])
def gF (ds : List D) (z : Nd) (x : D) : D := .tup (ds.take (ds.length - 1) ++ [.tup [x, iN z.2.1, iN z.2.2]])
def gG (ds : List D) (f : Nd) (x : D) : D := .tup (.tup [x, iN f.2.1, iN f.2.2] :: ds.drop 1)
def spV (ds : List D) (p : Nat) (a z f : Nd) (B : Nat) : List D := vA ds (ndD a) (ndD z) B ++ vB ds ++ (wC a B).map (gx ds p) ++ (wD a).map (gD ds p a) ++ (wE a B).map (gE ds p a) ++ (wF z B).map (gF ds z) ++ (wG f).map (gG ds f)
def spS (ds : List D) (p : Nat) (a z f : Nd) (B : Nat) : Store := [.lst (wG f), .lst (wF z B), .lst [.str z.1], .lst (wE a B), .lst [iN a.2.2], .lst (wD a), .lst (wC a B), .lst [.str a.1, iN a.2.1, iN a.2.2], .lst (spV ds p a z f B), .lst ds, .dct [], .lst []]
theorem sp_spoilt (n : Nat) (S : Store) (nd : List Nd) (p : Nat) (h : OkN nd) (hp : p < nd.length) : den P (n + 1) none 32 [.tup (nd.map ndD), iN p] S = .ok (.obj (S.length + 3)) (spS (nd.map ndD) p nd[p] (nd[nd.length - 1]'(by have := h.len; omega)) (nd[0]'(by have := h.len; omega)) S.length ++ S) := by
  refine den_wp (f := ⟨2, 10, b32⟩) rfl rfl ?_
  have h8 := h.len
  have hle : nd.length - 1 < nd.length := by omega
  have hl0 : 0 < nd.length := by omega
  generalize ha : nd[p] = a
  generalize hz : nd[nd.length - 1] = z
  generalize hf : nd[0] = f
  have hda : (nd.map ndD)[p]? = some (ndD a) := by simp [hp, ha]
  have hdz : (nd.map ndD)[nd.length - 1]? = some (ndD z) := by simp [hle, hz]
  have hdf : (nd.map ndD)[0]? = some (ndD f) := by rw [List.getElem?_map, List.getElem?_eq_getElem hl0, hf]; rfl
  have hzn : z.1.length ≤ 8 := by
    have := (h.ok z (by rw [← hz]; exact List.getElem_mem _)).1
    simp only [isNameL, Bool.and_eq_true, decide_eq_true_eq] at this; exact this.1.1.2
  have hfn : f.1.length ≤ 8 := by
    have := (h.ok f (by rw [← hf]; exact List.getElem_mem _)).1
    simp only [isNameL, Bool.and_eq_true, decide_eq_true_eq] at this; exact this.1.1.2
  have hdl : (nd.map ndD).length = nd.length := by simp
  have hbl : ∀ n, D.bels n (nd.map ndD) = true := fun n => belsM fun x _ => by simp [ndD]
  rw [← hdl] at hdz h8 hp
  have hpl : p + 1 ≤ 1000 := by omega
  generalize hds : nd.map ndD = ds at *
  have hixa : ∀ T, idxD (.tup ds) (.int (p : Int)) T = .ok (ndD a) T := fun T => by rw [idx_t, hda]; rfl
  have hixz : ∀ T, idxD (.tup ds) (.int ((ds.length : Int) - 1)) T = .ok (ndD z) T := fun T => by
    rw [show ((ds.length : Int) - 1) = ((ds.length - 1 : Nat) : Int) by omega, idx_t, hdz]; rfl
  have hixf : ∀ T, idxD (.tup ds) (.int 0) T = .ok (ndD f) T := fun T => by rw [idx_t0, hdf]; rfl
  refine wp_split 5 [some (.tup ds), some (iN p), some (iN a.2.1), none, some (ndD z), some (.str a.1), some nineD, some (iN a.2.2), some (.obj (S.length + 3)), none] (.lst (vA ds (ndD a) (ndD z) S.length ++ vB ds) :: .lst ds :: .dct [] :: .lst [] :: S) ?_ ?_
  · simp only [b32, List.take_succ_cons, List.take_zero]
    have hbd : ∀ env : Env, bind1 (.tup [5, 2, 7]) (ndD a) env = some (((env.set 5 (some (.str a.1))).set 2 (some (iN a.2.1))).set 7 (some (iN a.2.2))) := fun env => rfl
    have hdg : ∀ k, k < 9 → [48, 49, 50, 51, 52, 53, 54, 55, 56][k]? = some (48 + k) := by decide
    simp (disch := first | omega | (simp; done) | (simp; omega)) [if_pos, if_neg, iN, hixa, hixz, hbd]
    rw [compK_rg 9 (fun _ => true) (fun k => .tup [.str [110, 48 + k], .int 9, .int 1]) (by omega) (fun k hk => by
      constructor
      · simp (disch := first | omega | (simp; done) | (simp; omega)) [if_pos, if_neg, id]
      · intro _
        simp (disch := first | omega | (simp; done) | (simp; omega)) [if_pos, if_neg, id]
        exact (List.getElem?_eq_some_iff.mp (hdg k hk)).2)]
    rw [List.filter_eq_self.mpr (by simp)]
    have hbz : D.bel S.length (ndD z) = true := by simp [ndD]
    by_cases h1 : 1 < ds.length
    · have h1' : (1 : Int) < (ds.length : Int) := by omega
      simp (disch := first | omega | (simp; done) | (simp; omega)) [if_pos, if_neg, h1', hixa, hixz, rev_t, vA, vB, h1, nineD]
    · have h1' : ¬ (1 : Int) < (ds.length : Int) := by omega
      simp (disch := first | omega | (simp; done) | (simp; omega)) [if_pos, if_neg, h1', hixa, hixz, rev_t, vA, vB, h1, nineD]
  obtain ⟨V1, hV1⟩ : ∃ V1, V1 = vA ds (ndD a) (ndD z) S.length ++ vB ds := ⟨_, rfl⟩
  have hV1l : V1.length ≤ 13 := by rw [hV1]; unfold vA vB; split <;> simp
  have hVn : (SO.lst V1).bel S.length = false := by
    show D.bels S.length V1 = false
    rw [belsA]
    exact List.all_eq_false.mpr ⟨.obj S.length, by rw [hV1]; simp [vA], by simp⟩
  rw [← hV1]
  have hixz1 : ∀ T, idxD (ndD z) (.int 1) T = .ok (iN z.2.1) T := fun T => rfl
  have hixz2 : ∀ T, idxD (ndD z) (.int 2) T = .ok (iN z.2.2) T := fun T => rfl
  have hixn : ∀ T, idxD (ndD z) (.int 0) T = .ok (.str z.1) T := fun T => rfl
  have hixfn : ∀ T, idxD (ndD f) (.int 0) T = .ok (.str f.1) T := fun T => rfl
  have hixf1 : ∀ T, idxD (ndD f) (.int 1) T = .ok (iN f.2.1) T := fun T => rfl
  have hixf2 : ∀ T, idxD (ndD f) (.int 2) T = .ok (iN f.2.2) T := fun T => rfl
  have hga : ∀ T, binD .add (iN a.2.1) (.int 1) T = .ok (.int ((a.2.1 : Int) + 1)) T := fun T => rfl
  have hsz : z.1.length ≤ 16777216 := by omega
  have hsf : f.1.length ≤ 16777216 := by omega
  obtain ⟨V2, hV2⟩ : ∃ V, V = V1 ++ (wC a S.length).map (gx ds p) := ⟨_, rfl⟩
  have hV2l : V2.length ≤ 18 := by rw [hV2]; simp [wC, wD, wE, wF, wG]; omega
  refine wp_split 1 [some (.tup ds), some (iN p), some (iN a.2.1), none, some (ndD z), some (.str a.1), some nineD, some (iN a.2.2), some (.obj (S.length + 3)), none] (.lst (wC a S.length) :: .lst [.str a.1, iN a.2.1, iN a.2.2] :: .lst (V2) :: .lst ds :: .dct [] :: .lst [] :: S) ?_ ?_
  · simp only [b32, List.take_succ_cons, List.take_zero, List.drop_succ_cons, List.drop_zero]
    simp (disch := first | omega | (simp; done) | (simp; omega)) [if_pos, if_neg, hixz, hixf, hixn, hixfn, hsz, hsf, hga]
    refine wp_seq (wp_forapp (gx ds p) V1 (fun acc => .lst (wC a S.length) :: .lst [.str a.1, iN a.2.1, iN a.2.2] :: .lst (acc) :: .lst ds :: .dct [] :: .lst [] :: S) (by first | (simp [wC]; done) | (simp [wC]; rfl)) (fun acc => by simp [stands, obAt, wC]) ?_ ?_)
    · intro x hx acc hacc
      have hacc' : acc.length ≤ 100 := by simp at hacc; omega
      simp (disch := first | omega | (simp; done) | (simp; omega)) [if_pos, if_neg, iN, gx, wC, hixz, hixf, hixn, hixz1, hixz2, hixfn, hixf1, hixf2]
      try rw [trim_same (by simp)]
    · simp [hV2, wC]
      done
  obtain ⟨V3, hV3⟩ : ∃ V, V = V2 ++ (wD a).map (gD ds p a) := ⟨_, rfl⟩
  have hV3l : V3.length ≤ 26 := by rw [hV3]; simp [wC, wD, wE, wF, wG]; omega
  refine wp_split 1 [some (.tup ds), some (iN p), some (iN a.2.1), none, some (ndD z), some (.str a.1), some nineD, some (iN a.2.2), some (.obj (S.length + 3)), none] (.lst (wD a) :: .lst (wC a S.length) :: .lst [.str a.1, iN a.2.1, iN a.2.2] :: .lst (V3) :: .lst ds :: .dct [] :: .lst [] :: S) ?_ ?_
  · simp only [b32, List.take_succ_cons, List.take_zero, List.drop_succ_cons, List.drop_zero]
    simp (disch := first | omega | (simp; done) | (simp; omega)) [if_pos, if_neg, hixz, hixf, hixn, hixfn, hsz, hsf, hga]
    refine wp_seq (wp_forapp (gD ds p a) V2 (fun acc => .lst (wD a) :: .lst (wC a S.length) :: .lst [.str a.1, iN a.2.1, iN a.2.2] :: .lst (acc) :: .lst ds :: .dct [] :: .lst [] :: S) (by first | (simp [wD]; done) | (simp [wD]; rfl)) (fun acc => by simp [stands, obAt, wD]) ?_ ?_)
    · intro x hx acc hacc
      have hacc' : acc.length ≤ 100 := by simp at hacc; omega
      simp (disch := first | omega | (simp; done) | (simp; omega)) [if_pos, if_neg, iN, gD, gx, wD, hixz, hixf, hixn, hixz1, hixz2, hixfn, hixf1, hixf2]
      try rw [trim_same (by simp)]
    · simp [hV3, wD]
      done
  obtain ⟨V4, hV4⟩ : ∃ V, V = V3 ++ (wE a S.length).map (gE ds p a) := ⟨_, rfl⟩
  have hV4l : V4.length ≤ 34 := by rw [hV4]; simp [wC, wD, wE, wF, wG]; omega
  refine wp_split 1 [some (.tup ds), some (iN p), some (iN a.2.1), none, some (ndD z), some (.str a.1), some nineD, some (iN a.2.2), some (.obj (S.length + 3)), none] (.lst (wE a S.length) :: .lst [iN a.2.2] :: .lst (wD a) :: .lst (wC a S.length) :: .lst [.str a.1, iN a.2.1, iN a.2.2] :: .lst (V4) :: .lst ds :: .dct [] :: .lst [] :: S) ?_ ?_
  · simp only [b32, List.take_succ_cons, List.take_zero, List.drop_succ_cons, List.drop_zero]
    simp (disch := first | omega | (simp; done) | (simp; omega)) [if_pos, if_neg, hixz, hixf, hixn, hixfn, hsz, hsf, hga]
    refine wp_seq (wp_forapp (gE ds p a) V3 (fun acc => .lst (wE a S.length) :: .lst [iN a.2.2] :: .lst (wD a) :: .lst (wC a S.length) :: .lst [.str a.1, iN a.2.1, iN a.2.2] :: .lst (acc) :: .lst ds :: .dct [] :: .lst [] :: S) (by first | (simp [wE]; done) | (simp [wE]; rfl)) (fun acc => by simp [stands, obAt, wE]) ?_ ?_)
    · intro x hx acc hacc
      have hacc' : acc.length ≤ 100 := by simp at hacc; omega
      simp (disch := first | omega | (simp; done) | (simp; omega)) [if_pos, if_neg, iN, gE, gx, wE, hixz, hixf, hixn, hixz1, hixz2, hixfn, hixf1, hixf2]
      try rw [trim_same (by simp)]
    · simp [hV4, wE]
      done
  obtain ⟨V5, hV5⟩ : ∃ V, V = V4 ++ (wF z S.length).map (gF ds z) := ⟨_, rfl⟩
  have hV5l : V5.length ≤ 39 := by rw [hV5]; simp [wC, wD, wE, wF, wG]; omega
  refine wp_split 1 [some (.tup ds), some (iN p), some (iN a.2.1), none, some (ndD z), some (.str a.1), some nineD, some (iN a.2.2), some (.obj (S.length + 3)), none] (.lst (wF z S.length) :: .lst [.str z.1] :: .lst (wE a S.length) :: .lst [iN a.2.2] :: .lst (wD a) :: .lst (wC a S.length) :: .lst [.str a.1, iN a.2.1, iN a.2.2] :: .lst (V5) :: .lst ds :: .dct [] :: .lst [] :: S) ?_ ?_
  · simp only [b32, List.take_succ_cons, List.take_zero, List.drop_succ_cons, List.drop_zero]
    simp (disch := first | omega | (simp; done) | (simp; omega)) [if_pos, if_neg, hixz, hixf, hixn, hixfn, hsz, hsf, hga]
    refine wp_seq (wp_forapp (gF ds z) V4 (fun acc => .lst (wF z S.length) :: .lst [.str z.1] :: .lst (wE a S.length) :: .lst [iN a.2.2] :: .lst (wD a) :: .lst (wC a S.length) :: .lst [.str a.1, iN a.2.1, iN a.2.2] :: .lst (acc) :: .lst ds :: .dct [] :: .lst [] :: S) (by first | (simp [wF]; done) | (simp [wF]; rfl)) (fun acc => by simp [stands, obAt, wF]) ?_ ?_)
    · intro x hx acc hacc
      have hacc' : acc.length ≤ 100 := by simp at hacc; omega
      simp (disch := first | omega | (simp; done) | (simp; omega)) [if_pos, if_neg, iN, gF, wF, hixz, hixf, hixn, hixz1, hixz2, hixfn, hixf1, hixf2]
      try rw [trim_same (by simp)]
    · simp [hV5, wF]
      done
  obtain ⟨V6, hV6⟩ : ∃ V, V = V5 ++ (wG f).map (gG ds f) := ⟨_, rfl⟩
  have hV6l : V6.length ≤ 42 := by rw [hV6]; simp [wC, wD, wE, wF, wG]; omega
  refine wp_split 1 [some (.tup ds), some (iN p), some (iN a.2.1), none, some (ndD z), some (.str a.1), some nineD, some (iN a.2.2), some (.obj (S.length + 3)), none] (.lst (wG f) :: .lst (wF z S.length) :: .lst [.str z.1] :: .lst (wE a S.length) :: .lst [iN a.2.2] :: .lst (wD a) :: .lst (wC a S.length) :: .lst [.str a.1, iN a.2.1, iN a.2.2] :: .lst (V6) :: .lst ds :: .dct [] :: .lst [] :: S) ?_ ?_
  · simp only [b32, List.take_succ_cons, List.take_zero, List.drop_succ_cons, List.drop_zero]
    simp (disch := first | omega | (simp; done) | (simp; omega)) [if_pos, if_neg, hixz, hixf, hixn, hixfn, hsz, hsf, hga]
    refine wp_seq (wp_forapp (gG ds f) V5 (fun acc => .lst (wG f) :: .lst (wF z S.length) :: .lst [.str z.1] :: .lst (wE a S.length) :: .lst [iN a.2.2] :: .lst (wD a) :: .lst (wC a S.length) :: .lst [.str a.1, iN a.2.1, iN a.2.2] :: .lst (acc) :: .lst ds :: .dct [] :: .lst [] :: S) (by first | (simp [wG]; done) | (simp [wG]; rfl)) (fun acc => by simp [stands, obAt, wG]) ?_ ?_)
    · intro x hx acc hacc
      have hacc' : acc.length ≤ 100 := by simp at hacc; omega
      simp (disch := first | omega | (simp; done) | (simp; omega)) [if_pos, if_neg, iN, gG, wG, hixz, hixf, hixn, hixz1, hixz2, hixfn, hixf1, hixf2]
      try rw [trim_same (by simp)]
    · simp [hV6, wG]
      done
  simp only [b32, List.drop_succ_cons, List.drop_zero]
  simp (disch := first | omega | (simp; done) | (simp; omega)) [if_pos, if_neg, id]
  have hfin : V6 = spV ds p a z f S.length := by rw [hV6, hV5, hV4, hV3, hV2, hV1]; rfl
  rw [hfin]
  refine fin_keep (pre := spS ds p a z f S.length) rfl (by omega) (o := .lst (spV ds p a z f S.length)) (by simp [spS]) ?_
  rw [obel_lst, belsA, List.all_eq_false]
  exact ⟨.obj S.length, by simp [spV, vA], by simp⟩
end HT
end
section
set_option maxHeartbeats 0
set_option linter.all false
set_option maxRecDepth 100000
namespace HT
open Pw
def badN (d : D) : Prop := okE d = true ∧ needsD d = false
theorem ds_ok {nd : List Nd} (h : OkN nd) : okEs (nd.map ndD) = true := by
  have := (needsD_ok h).1
  simp only [okE_tup, Bool.and_eq_true] at this; exact this.2
theorem ds_len {nd : List Nd} (h : OkN nd) : (nd.map ndD).length ≤ 8 := by have := h.len; simp; exact this.2
theorem nms_ds (nd : List Nd) : (nd.map ndD).map nameO = nms nd := by
  rw [List.map_map]; exact List.map_congr_left fun x _ => rfl
theorem spV_bad {nd : List Nd} (h : OkN nd) {p : Nat} (hp : p < nd.length) {a z f : Nd} (ha : a ∈ nd) (hz : z ∈ nd) (hf : f ∈ nd) (B : Nat) : ∀ v ∈ spV (nd.map ndD) p a z f B, badN v := by
  have hd := ds_ok h
  have h8 := ds_len h
  have key : ∀ x, okE x = true → needD x = false → badN (gx (nd.map ndD) p x) := fun x hx hn => ⟨okE_gx hd (by omega) hx, by simp only [gx, needsD, all_gx hn, Bool.and_false, Bool.false_and]⟩
  have nameOk : ∀ x ∈ nd, isNameL x.1 = true ∧ 1 ≤ x.1.length ∧ x.1.length ≤ 8 := fun x hx => by
    have := (h.ok x hx).1
    have h2 := this
    simp only [isNameL, Bool.and_eq_true, decide_eq_true_eq] at this
    exact ⟨h2, this.1.1.1, this.1.1.2⟩
  obtain ⟨na1, na2, na3⟩ := nameOk a ha
  obtain ⟨nz1, nz2, nz3⟩ := nameOk z hz
  obtain ⟨nf1, nf2, nf3⟩ := nameOk f hf
  obtain ⟨_, ga1, ga2, ga3, ga4⟩ := h.ok a ha
  have hdl : (nd.map ndD).length = nd.length := by simp
  intro v hv
  simp only [spV, List.mem_append] at hv
  rcases hv with (((((hv | hv) | hv) | hv) | hv) | hv) | hv
  · simp only [vA, List.mem_cons, List.not_mem_nil, or_false] at hv
    rcases hv with rfl | rfl | rfl | rfl | rfl | rfl | rfl | rfl | rfl | rfl | rfl | rfl
    · exact ⟨by simp, rfl⟩
    · exact ⟨by simp, rfl⟩
    · exact ⟨by simp, rfl⟩
    · exact ⟨by simp, rfl⟩
    · exact ⟨by simp, rfl⟩
    · exact ⟨by simp, rfl⟩
    · exact ⟨by simp, rfl⟩
    · exact ⟨by simp, rfl⟩
    · refine ⟨by simp [ndD, iN]; omega, ?_⟩
      simp [ndD, needsD, needD]
    · refine ⟨?_, ?_⟩
      · simp only [okE_tup, okEs_app, okEs_cons, hd, Bool.true_and, Bool.and_eq_true, decide_eq_true_eq, List.length_append]
        refine ⟨by simp; omega, by simp [ndD, iN]; omega, by simp⟩
      · rw [Bool.eq_false_iff]
        intro hc
        simp only [needsD, Bool.and_eq_true, List.map_append, nms_ds] at hc
        have := of_asc hc.2.2.2
        rw [List.pairwise_append] at this
        have hzm : z.1 ∈ nms nd := List.mem_map.mpr ⟨z, hz, rfl⟩
        exact List.lt_irrefl _ (this.2.2 z.1 hzm z.1 (by simp [ndD, nameO]))
    · refine ⟨?_, ?_⟩
      · simp only [okE_tup, okEs_app, okEs_cons, hd, Bool.true_and, Bool.and_eq_true, decide_eq_true_eq, List.length_append]
        refine ⟨by simp; omega, by simp, by simp⟩
      · simp [needsD, needD]
    · exact ⟨by decide, by decide⟩
  · unfold vB at hv
    split at hv
    · rename_i h1
      simp only [List.mem_cons, List.not_mem_nil, or_false] at hv
      subst hv
      refine ⟨?_, ?_⟩
      · simp only [okE_tup, Bool.and_eq_true, decide_eq_true_eq, List.length_reverse]
        refine ⟨by omega, ?_⟩
        rw [okEs_all, List.all_eq_true] at *
        intro x hx; exact hd x (List.mem_reverse.mp hx)
      · rw [Bool.eq_false_iff]
        intro hc
        simp only [needsD, Bool.and_eq_true, List.map_reverse, nms_ds] at hc
        have hr := of_asc hc.2.2.2
        rw [List.pairwise_reverse] at hr
        have ha := h.asc
        have hl : 1 < (nms nd).length := by simp [nms]; omega
        have e1 := List.pairwise_iff_getElem.mp hr 0 1 (by omega) hl (by omega)
        have e2 := List.pairwise_iff_getElem.mp ha 0 1 (by omega) hl (by omega)
        exact List.lt_irrefl _ (List.lt_trans e1 e2)
    · cases hv
  · simp only [wC, List.map_cons, List.map_nil, List.mem_cons, List.not_mem_nil, or_false] at hv
    rcases hv with rfl | rfl | rfl | rfl | rfl
    · exact key _ (by simp) rfl
    · exact key _ (by simp [iN]; omega) rfl
    · exact key _ (by simp [iN]; omega) rfl
    · exact key _ (by simp [iN]; omega) rfl
    · exact key _ (by simp; omega) rfl
  · have k2 : ∀ x, okE x = true → isIn 1 60 x = false → badN (gD (nd.map ndD) p a x) := fun x hx hn => key _ (by simp [hx]; omega) (by simp [needD, hn])
    simp only [wD, List.map_cons, List.map_nil, List.mem_cons, List.not_mem_nil, or_false] at hv
    rcases hv with rfl | rfl | rfl | rfl | rfl | rfl | rfl | rfl
    all_goals exact k2 _ (by simp [iN]) (by first | rfl | decide)
  · have k2 : ∀ x, okE x = true → isIn 1 (a.2.1 : Int) x = false → badN (gE (nd.map ndD) p a x) := fun x hx hn => key _ (by simp [hx, iN]; omega) (by simp [needD, hn, intO_, iN])
    simp only [wE, List.map_cons, List.map_nil, List.mem_cons, List.not_mem_nil, or_false] at hv
    rcases hv with rfl | rfl | rfl | rfl | rfl | rfl | rfl | rfl
    · exact k2 _ (by simp) (by simp [isIn])
    · exact k2 _ (by simp) (by simp [isIn]; omega)
    · exact k2 _ (by simp) (by simp [isIn])
    · exact k2 _ (by simp) rfl
    · exact k2 _ (by simp) rfl
    · exact k2 _ (by simp) rfl
    · exact k2 _ (by simp) rfl
    · exact k2 _ (by simp) (by simp [isIn]; omega)
  · have k2 : ∀ x, okE x = true → isNameD x = false → badN (gF (nd.map ndD) z x) := fun x hx hn => by
      refine ⟨?_, ?_⟩
      · have ht := okEs_take hd ((nd.map ndD).length - 1)
        simp only [gF, okE_tup, okEs_app, okEs_cons, ht, hx, Bool.true_and, Bool.and_eq_true, decide_eq_true_eq]
        refine ⟨by simp; omega, by simp [iN], by simp⟩
      · have : needD (.tup [x, iN z.2.1, iN z.2.2]) = false := by simp [needD, hn]
        simp only [gF, needsD, List.all_append, List.all_cons, this, Bool.false_and, Bool.and_false]
    simp only [wF, List.map_cons, List.map_nil, List.mem_cons, List.not_mem_nil, or_false] at hv
    rcases hv with rfl | rfl | rfl | rfl | rfl
    · refine k2 _ (by simp; omega) ?_
      have : ((z.1 ++ [48, 48, 48, 48, 48, 48, 48, 48]).take 9).length = 9 := by simp; omega
      simp [isNameD, isNameL, this]
    · refine k2 _ (by simp; omega) ?_
      show isNameL (z.1.take 7 ++ [126]) = false
      have : ¬ (126 ∈ SIG) := by decide
      simp [isNameL, this]
    · exact k2 _ (by simp) rfl
    · exact k2 _ (by simp) rfl
    · exact k2 _ (by simp) rfl
  · have k2 : ∀ x, okE x = true → isNameD x = false → badN (gG (nd.map ndD) f x) := fun x hx hn => by
      refine ⟨?_, ?_⟩
      · have ht := okEs_drop hd 1
        simp only [gG, okE_tup, okEs_cons, ht, hx, Bool.true_and, Bool.and_eq_true, decide_eq_true_eq]
        refine ⟨by simp; omega, ⟨by simp, by simp [iN]⟩, trivial⟩
      · have : needD (.tup [x, iN f.2.1, iN f.2.2]) = false := by simp [needD, hn]
        simp only [gG, needsD, List.all_cons, this, Bool.false_and, Bool.and_false]
    simp only [wG, List.map_cons, List.map_nil, List.mem_cons, List.not_mem_nil, or_false] at hv
    rcases hv with rfl | rfl | rfl
    · exact k2 _ (by simp) (by simp [isNameD, isNameL])
    · refine k2 _ (by simp; omega) ?_
      have : ¬ (53 ∈ LET) := by decide
      simp [isNameD, isNameL, this]
    · refine k2 _ (by simp; omega) ?_
      have : ¬ (75 ∈ LET) := by decide
      simp [isNameD, isNameL, this]
end HT
end
section
set_option maxHeartbeats 0
set_option linter.all false
set_option maxRecDepth 100000
namespace HT
open Pw
theorem ndD_pl {nd : List Nd} : ∀ x ∈ nd.map ndD, plD 3 x = true := by
  intro x hx
  obtain ⟨y, _, rfl⟩ := List.mem_map.mp hx
  simp [ndD, plD, iN]
theorem ndD_pl2 {nd : List Nd} : ∀ x ∈ nd.map ndD, plD 2 x = true := by
  intro x hx
  obtain ⟨y, _, rfl⟩ := List.mem_map.mp hx
  simp [ndD, plD, iN]
theorem spV_eq {nd : List Nd} {p : Nat} {a z f : Nd} (h8 : (nd.map ndD).length ≤ 8) (S M : Store) : ∀ S1, S1 = M ++ (spS (nd.map ndD) p a z f S.length ++ S) → ∀ S2, S2 = spS (nd.map ndD) p a z f S1.length ++ S1 → cmpD S2 .ne (.obj (S.length + 3)) (.obj (S1.length + 3)) = some false := by
  intro S1 hS1 S2 hS2
  have hp := ndD_pl (nd := nd)
  have hp2 := ndD_pl2 (nd := nd)
  generalize nd.map ndD = ds at *
  have g1 : ∀ k o, (spS ds p a z f S.length).reverse[k]? = some o → get S2 (S.length + k) = some o := fun k o ho => by rw [hS2]; exact get_app (by rw [hS1]; exact get_app (get_rev ho) _) _
  have g2 : ∀ k o, (spS ds p a z f S1.length).reverse[k]? = some o → get S2 (S1.length + k) = some o := fun k o ho => by rw [hS2]; exact get_rev ho
  generalize S.length = B at *
  generalize S1.length = B' at *
  clear hS1 hS2
  have ex : ∀ (d : D) n, plD 3 d = true → deq S2 (n + 4) d d = some true := fun d n hd => deq_sm hd (by omega)
  have l0 : deq S2 39 (.obj B) (.obj B') = some true := lst_eq 38 _ _ [] [] (g1 0 _ rfl) (g2 0 _ rfl) rfl rfl
  have l1 : deq S2 39 (.obj (B + 1)) (.obj (B' + 1)) = some true := dct_eq 38 _ _ [] [] (g1 1 _ rfl) (g2 1 _ rfl) rfl rfl
  have l2 : deq S2 39 (.obj (B + 2)) (.obj (B' + 2)) = some true := lst_eq 38 _ _ _ _ (g1 2 _ rfl) (g2 2 _ rfl) rfl (sames _ _ hp (by omega))
  have l4 : deq S2 38 (.obj (B + 4)) (.obj (B' + 4)) = some true := lst_eq 37 _ _ _ _ (g1 4 _ rfl) (g2 4 _ rfl) rfl (sames _ _ (by simp [plD, iN]) (by omega))
  have l7 : deq S2 37 (.obj (B + 7)) (.obj (B' + 7)) = some true := lst_eq 36 _ _ _ _ (g1 7 _ rfl) (g2 7 _ rfl) rfl (sames _ _ (by simp [plD, iN]) (by omega))
  have l9 : deq S2 37 (.obj (B + 9)) (.obj (B' + 9)) = some true := lst_eq 36 _ _ _ _ (g1 9 _ rfl) (g2 9 _ rfl) rfl (sames _ _ (by simp [plD, iN]) (by omega))
  have hz1 : ∀ w, plD 2 (ndD w) = true := fun w => by simp [ndD, plD, iN]
  have tz : plD 3 (.tup (ds ++ [ndD z])) = true := by
    simp only [plD, Bool.and_eq_true, decide_eq_true_eq, List.all_eq_true]
    refine ⟨by simp; omega, fun x hx => ?_⟩
    rw [List.mem_append, List.mem_singleton] at hx
    rcases hx with hx | rfl
    · exact hp2 x hx
    · exact hz1 z
  have tn : plD 3 (.tup (ds ++ [.non])) = true := by
    simp only [plD, Bool.and_eq_true, decide_eq_true_eq, List.all_eq_true]
    refine ⟨by simp; omega, fun x hx => ?_⟩
    rw [List.mem_append, List.mem_singleton] at hx
    rcases hx with hx | rfl
    · exact hp2 x hx
    · rfl
  have mA : alls (deq S2 39) (vA ds (ndD a) (ndD z) B) (vA ds (ndD a) (ndD z) B') = some true := by
    unfold vA
    exact alls_cons (ex _ 35 rfl) (alls_cons (ex _ 35 rfl) (alls_cons (ex _ 35 rfl) (alls_cons (ex _ 35 rfl) (alls_cons (ex _ 35 (by decide)) (alls_cons l0 (alls_cons l1 (alls_cons l2 (alls_cons (ex _ 35 (by simp [ndD, plD, iN])) (alls_cons (ex _ 35 tz) (alls_cons (ex _ 35 tn) (alls_cons (ex _ 35 (by decide)) rfl)))))))))))
  have mB : alls (deq S2 39) (vB ds) (vB ds) = some true := by
    refine sames _ _ (fun x hx => ?_) (by omega)
    unfold vB at hx
    split at hx
    · simp only [List.mem_cons, List.not_mem_nil, or_false] at hx
      subst hx
      simp only [plD, Bool.and_eq_true, decide_eq_true_eq, List.all_eq_true]
      exact ⟨by simp; omega, fun x hx => hp2 x (List.mem_reverse.mp hx)⟩
    · cases hx
  have mC : alls (deq S2 39) ((wC a B).map (gx ds p)) ((wC a B').map (gx ds p)) = some true := by
    refine alls_map (f := deq S2 38) ?_ fun x y hxy => gx_eq hp hxy
    unfold wC
    exact alls_cons l4 (alls_cons (ex _ 34 (by simp [plD, iN])) (alls_cons (ex _ 34 (by simp [plD, iN])) (alls_cons (ex _ 34 (by simp [plD, iN])) (alls_cons (ex _ 34 rfl) rfl))))
  have mD : alls (deq S2 39) ((wD a).map (gD ds p a)) ((wD a).map (gD ds p a)) = some true := by
    refine alls_map (f := deq S2 37) (sames _ _ ?_ (by omega)) fun x y hxy => gx_eq hp (tup1 37 [.str a.1] [.int 1] x y (by simp [plD]) (by simp [plD]) (by omega) hxy)
    intro x hx
    simp only [wD, List.mem_cons, List.not_mem_nil, or_false] at hx
    rcases hx with rfl | rfl | rfl | rfl | rfl | rfl | rfl | rfl
    all_goals simp [plD, iN]
  have mE : alls (deq S2 39) ((wE a B).map (gE ds p a)) ((wE a B').map (gE ds p a)) = some true := by
    refine alls_map (f := deq S2 37) ?_ fun x y hxy => gx_eq hp (tup1 37 [.str a.1, iN a.2.1] [] x y (by simp [plD, iN]) (by simp) (by omega) hxy)
    unfold wE
    exact alls_cons (ex _ 33 rfl) (alls_cons (ex _ 33 rfl) (alls_cons (ex _ 33 rfl) (alls_cons (ex _ 33 rfl) (alls_cons (ex _ 33 rfl) (alls_cons (ex _ 33 rfl) (alls_cons l7 (alls_cons (ex _ 33 rfl) rfl)))))))
  have mF : alls (deq S2 39) ((wF z B).map (gF ds z)) ((wF z B').map (gF ds z)) = some true := by
    refine alls_map (f := deq S2 37) ?_ fun x y hxy => tup1 38 (ds.take (ds.length - 1)) [] _ _ (fun w hw => hp w (List.mem_of_mem_take hw)) (by simp) (by omega) (tup1 37 [] [iN z.2.1, iN z.2.2] x y (by simp) (by simp [plD, iN]) (by omega) hxy)
    unfold wF
    exact alls_cons (ex _ 33 rfl) (alls_cons (ex _ 33 rfl) (alls_cons (ex _ 33 rfl) (alls_cons (ex _ 33 rfl) (alls_cons l9 rfl))))
  have mG : alls (deq S2 39) ((wG f).map (gG ds f)) ((wG f).map (gG ds f)) = some true := by
    refine alls_map (f := deq S2 37) (sames _ _ ?_ (by omega)) fun x y hxy => tup1 38 [] (ds.drop 1) _ _ (by simp) (fun w hw => hp w (List.mem_of_mem_drop hw)) (by omega) (tup1 37 [] [iN f.2.1, iN f.2.2] x y (by simp) (by simp [plD, iN]) (by omega) hxy)
    simp [wG, plD]
  have hB : get S2 (B + 3) = some (.lst (spV ds p a z f B)) := g1 3 _ rfl
  have hB' : get S2 (B' + 3) = some (.lst (spV ds p a z f B')) := g2 3 _ rfl
  have := lst_eq 39 (B + 3) (B' + 3) _ _ hB hB' (by simp [spV, vA, wC, wE, wF]) (alls_app (alls_app (alls_app (alls_app (alls_app (alls_app mA mB) mC) mD) mE) mF) mG)
  simp [cmpD, topOk, topEq, hB, this, fuel]
/-! what is refused -/
theorem sp_book (n : Nat) (S : Store) : den P (n + 1) (some (8, [])) 35 [] S = .ok (.bl true) S := by
  refine den_hot (f := ⟨1, 2, b35⟩) rfl ?_
  have hcl : P.Cl[8]? = some [8, 0, 15] := rfl
  simp (disch := first | omega | (simp; done) | (simp; omega)) [if_pos, if_neg, b35, hcl, lbls]
  exact fin_val (pre := [_, _, _, _, _, _, _]) rfl (by simp)
theorem cat8 : catches P.Cl 8 [0] = true := rfl
theorem to_x (n : Nat) (S : Store) (d : D) (h : okE d = true) (hb : needsD d = false) : den P (n + 6) none 14 [d] S = .exc 8 [] S := by
  refine den_wp (f := ⟨1, 6, b14⟩) rfl rfl ?_
  simp (disch := first | omega | (simp; done) | (simp; omega)) [if_pos, if_neg, b14, chkDx n d S h hb]
  exact finX_nil (pre := []) rfl
theorem it_x (n : Nat) (S : Store) (d e : D) (h : okE d = true) (hb : needsD d = false) : den P (n + 6) none 15 [d, e] S = .exc 8 [] S := by
  refine den_wp (f := ⟨2, 6, b15⟩) rfl rfl ?_
  simp (disch := first | omega | (simp; done) | (simp; omega)) [if_pos, if_neg, b15, chkDx n d S h hb]
  exact finX_nil (pre := []) rfl
theorem il_x (n : Nat) (S : Store) (d e : D) (h : okE d = true) (hb : needsD d = false) : den P (n + 6) none 16 [d, e] S = .exc 8 [] S := by
  refine den_wp (f := ⟨2, 5, b16⟩) rfl rfl ?_
  simp (disch := first | omega | (simp; done) | (simp; omega)) [if_pos, if_neg, b16, chkDx n d S h hb]
  exact finX_nil (pre := []) rfl
theorem ref0 (n : Nat) (S : Store) (d e : D) (h : okE d = true) (hb : needsD d = false) : den P (n + 7) none 33 [.int 0, d, e] S = .ok (.bl true) S := by
  refine den_wp (f := ⟨3, 4, b33⟩) rfl rfl ?_
  have hm : ∀ S, den P (n + 6) (some (8, [])) 35 [] S = .ok (.bl true) S := fun S => sp_book (n + 5) S
  simp (disch := first | omega | (simp; done) | (simp; omega)) [if_pos, if_neg, b33, to_x n S d h hb, cat8, hm]
theorem ref1 (n : Nat) (S : Store) (d e : D) (h : okE d = true) (hb : needsD d = false) : den P (n + 7) none 33 [.int 1, d, e] S = .ok (.bl true) S := by
  refine den_wp (f := ⟨3, 4, b33⟩) rfl rfl ?_
  have hm : ∀ S, den P (n + 6) (some (8, [])) 35 [] S = .ok (.bl true) S := fun S => sp_book (n + 5) S
  simp (disch := first | omega | (simp; done) | (simp; omega)) [if_pos, if_neg, b33, it_x n S d e h hb, cat8, hm]
theorem ref2 (n : Nat) (S : Store) (d e : D) (h : okE d = true) (hb : needsD d = false) : den P (n + 7) none 33 [.int 2, d, e] S = .ok (.bl true) S := by
  refine den_wp (f := ⟨3, 4, b33⟩) rfl rfl ?_
  have hm : ∀ S, den P (n + 6) (some (8, [])) 35 [] S = .ok (.bl true) S := fun S => sp_book (n + 5) S
  simp (disch := first | omega | (simp; done) | (simp; omega)) [if_pos, if_neg, b33, il_x n S d e h hb, cat8, hm]
end HT
end
section
set_option maxHeartbeats 0
set_option linter.all false
set_option maxRecDepth 100000
namespace HT
open Pw
theorem ndD_bels (n : Nat) (nd : List Nd) : D.bels n (nd.map ndD) = true := belsM fun x _ => by simp [ndD]
def ndI (ns : List (List Nat)) (i : Nat) (acc : List Nd) : Prop := nms acc = ns.take i ∧ ∀ x ∈ acc, 1 ≤ x.2.1 ∧ x.2.1 ≤ 60 ∧ 1 ≤ x.2.2 ∧ x.2.2 ≤ x.2.1
def lnI (ns : List (List Nat)) (nb : List Int) (S : Store) (E : Env) (i : Nat) (env : Env) (T : Store) : Prop := i ≤ ns.length ∧ ∃ acc : List Nd, ndI ns i acc ∧ T = .lst (acc.map ndD) :: .lst (nb.map .int) :: .lst (ns.map .str) :: S ∧ env = E
theorem sp_needs (n : Nat) (S : Store) (zs : List Int) (st : Int) (h : get S 0 = some (.ro (zs.map .int))) (hl : zs.length ≤ 63) : ∃ nd : List Nd, OkN nd ∧ den P (n + 3) none 22 [.obj 0, .int st] S = .ok (.tup (nd.map ndD)) S := by
  refine den_post (f := ⟨2, 10, b22⟩) OkN (fun nd => .ok (.tup (nd.map ndD)) S) rfl rfl ?_
  have h0 := get_lt h
  obtain ⟨c1, hc1⟩ := sp_cell (n + 1) S zs 1 h (by omega) hl
  obtain ⟨m, hm, hm1, hm8⟩ : ∃ m : Nat, (1 + st % 8 : Int) = m ∧ 1 ≤ m ∧ m ≤ 8 := ⟨(1 + st % 8).toNat, by omega, by omega, by omega⟩
  obtain ⟨ns, ⟨⟨hnl, hne⟩, hnasc, hnok⟩, hns⟩ := sp_names n S c1 m (by omega)
  have hlS : get (.lst (ns.map .str) :: S) 0 = some (.ro (zs.map .int)) := by rw [get_cons, if_neg (by omega)]; exact h
  obtain ⟨c2, hc2⟩ := sp_cell (n + 1) (.lst (ns.map .str) :: S) zs 2 hlS (by omega) hl
  obtain ⟨nb, ⟨hbl, hbr⟩, hnb⟩ := sp_numbers (n + 1) (.lst (ns.map .str) :: S) c2 3600 8 (by omega) (by omega)
  have hc1' : den P (n + 2) none 17 [.obj 0, .int 1] S = .ok (.int c1) S := hc1
  have hc2' : den P (n + 2) none 17 [.obj 0, .int 2] (.lst (ns.map .str) :: S) = .ok (.int c2) (.lst (ns.map .str) :: S) := hc2
  have hnb' : den P (n + 2) none 18 [.int c2, .int 3600, .int 8] (.lst (ns.map .str) :: S) = .ok (.obj (S.length + 1)) (.lst (nb.map .int) :: .lst (ns.map .str) :: S) := hnb
  obtain ⟨md, hmd, hmd4⟩ := modN (st / 8) (show 0 < 4 by omega)
  have hmd' : (st / 8 % 4 : Int) = md := hmd
  have hn0 : 1 ≤ ns.length := by
    have := hne hm1
    cases ns with
    | nil => exact absurd rfl this
    | cons => simp
  have hr : rngL 0 (ns.length : Int) = (List.range ns.length).map fun i : Nat => D.int (i : Int) := rngL_nat _
  simp (disch := first | omega | (simp; done) | (simp; omega)) [if_pos, if_neg, b22, hc1', hm, hns, hc2', hnb', hmd', hr]
  refine wp_seq (wp_for (lnI ns nb S [some (.obj 0), some (.int st), some (.int ns.length), none, none, some (.int md), some (.obj S.length), some (.obj (S.length + 1 + 1)), some (.obj (S.length + 1)), none])
    ⟨by omega, [], ⟨by simp [nms], by simp⟩, by simp, rfl⟩ (by intros; rfl) ?_ ?_)
  · rintro i x env T hx ⟨hi, acc, ⟨hac1, hac2⟩, rfl, rfl⟩
    obtain ⟨hil, rfl⟩ := range_at hx
    have hal : acc.length = i := by have := congrArg List.length hac1; simp [nms] at this; omega
    have hib : i < nb.length := by omega
    obtain ⟨z, hz⟩ : ∃ z, nb[i] = z := ⟨_, rfl⟩
    have hzr := hbr z (by rw [← hz]; exact List.getElem_mem _)
    obtain ⟨g0, hg0, hg01, hg02⟩ : ∃ g : Nat, (1 + z % 60 : Int) = g ∧ 1 ≤ g ∧ g ≤ 60 := ⟨(1 + z % 60).toNat, by omega, by omega, by omega⟩
    obtain ⟨t0', ht0', ht0'l⟩ := modN (z / 60) (show 0 < g0 by omega)
    obtain ⟨t0, ht0, ht01, ht02⟩ : ∃ t : Nat, (1 + z / 60 % (g0 : Int) : Int) = t ∧ 1 ≤ t ∧ t ≤ g0 := ⟨1 + t0', by rw [ht0']; simp, by omega, by omega⟩
    obtain ⟨q0', hq0', _⟩ := modN z (show 0 < 3 * ns.length by omega)
    obtain ⟨q0, hq0, hq01⟩ : ∃ q : Nat, ((ns.length : Int) + z % (3 * (ns.length : Int)) : Int) = q ∧ 1 ≤ q := ⟨ns.length + q0', by
      rw [show (3 * (ns.length : Int)) = ((3 * ns.length : Nat) : Int) by simp, hq0']; simp, by omega⟩
    obtain ⟨g1, hg1, hg11, hg12⟩ : ∃ g : Nat, (∀ T, f2D .min (.int 60) (.int (q0 : Int)) T = .ok (.int (g : Int)) T) ∧ 1 ≤ g ∧ g ≤ 60 := ⟨min 60 q0, fun T => minN 60 q0 T, by omega, by omega⟩
    obtain ⟨t5, ht5, _⟩ := modN (z / 60) (show 0 < 5 by omega)
    have ht5' : (z / 60 % 5 : Int) = t5 := ht5
    obtain ⟨t2, ht2, ht21, ht22⟩ : ∃ t : Nat, (∀ T, f2D .max (.int 1) (.int ((g1 : Int) - (t5 : Int))) T = .ok (.int (t : Int)) T) ∧ 1 ≤ t ∧ t ≤ g1 := ⟨max 1 (g1 - t5), fun T => by rw [f2_max]; congr 2; split <;> omega, by omega, by omega⟩
    obtain ⟨q1', hq1', _⟩ := modN (z / 60) (show 0 < ns.length + 1 by omega)
    have hq1'' : (z / 60 % ((ns.length : Int) + 1) : Int) = q1' := by rw [show ((ns.length : Int) + 1) = ((ns.length + 1 : Nat) : Int) by simp]; exact hq1'
    obtain ⟨q1, hq1, hq11⟩ : ∃ q : Nat, (1 + (q1' : Int) : Int) = q ∧ 1 ≤ q := ⟨1 + q1', by simp, by omega⟩
    obtain ⟨t3, ht3, ht31, ht32⟩ : ∃ t : Nat, (∀ T, f2D .min (.int (g1 : Int)) (.int (q1 : Int)) T = .ok (.int (t : Int)) T) ∧ 1 ≤ t ∧ t ≤ g1 := ⟨min g1 q1, fun T => minN g1 q1 T, by omega, by omega⟩
    have fin : ∀ g t : Nat, 1 ≤ g → g ≤ 60 → 1 ≤ t → t ≤ g → lnI ns nb S [some (.obj 0), some (.int st), some (.int ns.length), none, none, some (.int md), some (.obj S.length), some (.obj (S.length + 1 + 1)), some (.obj (S.length + 1)), none] (i + 1)
        [some (.obj 0), some (.int st), some (.int ns.length), none, none, some (.int md), some (.obj S.length), some (.obj (S.length + 1 + 1)), some (.obj (S.length + 1)), none]
        (.lst (acc.map ndD ++ [.tup [.str ns[i], .int g, .int t]]) :: .lst (nb.map .int) :: .lst (ns.map .str) :: S) := fun g t a b c d => by
      refine ⟨by omega, acc ++ [(ns[i], g, t)], ⟨?_, ?_⟩, by simp [ndD, iN], rfl⟩
      · rw [List.take_add_one, List.getElem?_eq_getElem hil]
        simp only [nms, List.map_append] at hac1 ⊢
        rw [hac1]; rfl
      · intro x hx
        rw [List.mem_append, List.mem_singleton] at hx
        rcases hx with hx | rfl
        · exact hac2 x hx
        · exact ⟨a, b, c, d⟩
    have hal2 : acc.length < 16777216 := by omega
    have hmd5 : md = 0 ∨ md = 1 ∨ md = 2 ∨ md = 3 := by omega
    rcases hmd5 with e | e | e | e
    · subst e
      simp (disch := first | omega | (simp; done) | (simp; omega)) [if_pos, if_neg, hib, hz, hg0, ht0, hil]
      simpa using fin g0 t0 hg01 hg02 ht01 ht02
    · subst e
      simp (disch := first | omega | (simp; done) | (simp; omega)) [if_pos, if_neg, hib, hz, hg0, ht0, hil, hq0, hg1, mul_sm]
      simpa using fin g1 g1 hg11 hg12 hg11 (by omega)
    · subst e
      simp (disch := first | omega | (simp; done) | (simp; omega)) [if_pos, if_neg, hib, hz, hg0, ht0, hil, hq0, hg1, ht5', ht2, mul_sm]
      simpa using fin g1 t2 hg11 hg12 ht21 ht22
    · subst e
      simp (disch := first | omega | (simp; done) | (simp; omega)) [if_pos, if_neg, hib, hz, hg0, ht0, hil, hq0, hg1, hq1'', hq1, ht3, mul_sm]
      simpa using fin g1 t3 hg11 hg12 ht31 ht32
  · rintro env T ⟨_, acc, ⟨hac1, hac2⟩, rfl, rfl⟩
    simp only [List.length_map, List.length_range, List.take_length] at hac1
    simp (disch := first | omega | (simp; done) | (simp; omega)) [if_pos, if_neg, id]
    have hlen : acc.length = ns.length := by have := congrArg List.length hac1; simpa [nms] using this
    refine ⟨acc, ⟨⟨by omega, by omega⟩, by rw [hac1]; exact hnasc, fun x hx => ?_⟩, ?_⟩
    · have hxn : x.1 ∈ ns := by rw [← hac1]; exact List.mem_map.mpr ⟨x, hx, rfl⟩
      obtain ⟨a, b, c, d⟩ := hac2 x hx
      exact ⟨hnok _ hxn, a, b, c, d⟩
    · exact fin_val (pre := [_, _, _]) rfl (by simp [ndD_bels])
end HT
end
section
set_option maxHeartbeats 0
set_option linter.all false
set_option maxRecDepth 100000
namespace HT
open Pw
/-! what the order is -/
theorem ordM_ok {nd : List Nd} (h : OkN nd) : ∀ (f : Nat) (left acc : List (List Nat)), Left nd left → left.length = f → (∀ j, (hj : j < acc.length) → tim nd acc[j] (left ++ acc.take j) = true) → (left ++ acc).Perm (nms nd) →
    (if (ordM nd f left acc).1 = true then tS_ nd (ordM nd f left acc).2 = true else lS_ nd (ordM nd f left acc).2 = true) ∧ (∀ c ∈ (ordM nd f left acc).2, c ∈ nms nd) ∧ (ordM nd f left acc).2 ≠ [] ∧ (ordM nd f left acc).2.length ≤ 8
  | 0, left, acc, hleft, hl, ht, hp => by
    have : left = [] := List.length_eq_zero_iff.mp hl
    subst this
    rw [List.nil_append] at hp
    have hn := h.len
    have hlen : acc.length = nd.length := by have := hp.length_eq; simpa [nms] using this
    refine ⟨?_, fun c hc => hp.mem_iff.mp hc, ?_, ?_⟩
    · show (if true = true then tS_ nd acc = true else _)
      rw [if_pos rfl]
      simp only [tS_, tAll, Bool.and_eq_true, decide_eq_true_eq, List.all_eq_true, List.mem_range]
      refine ⟨(sorted_iff h acc).mpr ⟨hlen, fun c hc => hp.mem_iff.mp hc, hp.nodup_iff.mpr h.nodup⟩, fun k hk => ?_⟩
      have := ht k hk
      rw [List.nil_append] at this
      simp only [tk, List.getElem?_eq_getElem hk]
      exact this
    · show acc ≠ []
      rintro rfl
      simp at hlen; omega
    · show acc.length ≤ 8
      omega
  | f + 1, left, acc, hleft, hl, ht, hp => by
    have hn := h.len
    cases hla : (left.filter fun c => tim nd c left).getLast? with
    | none =>
      have hnil : (left.filter fun c => tim nd c left) = [] := List.getLast?_eq_none_iff.mp hla
      have e : ordM nd (f + 1) left acc = (false, left) := by rw [ordM, hla]
      rw [e]
      have hne : left ≠ [] := by rintro rfl; simp at hl
      refine ⟨?_, hleft.sub, hne, ?_⟩
      · show (if false = true then _ else lS_ nd left = true)
        rw [if_neg (by simp)]
        simp only [lS_, Bool.and_eq_true, decide_eq_true_eq, List.all_eq_true, Bool.not_eq_true']
        refine ⟨hne, asc_of hleft.asc, hleft.sub, ?_⟩
        rw [List.any_eq_false]
        intro c hc ht2
        have : c ∈ left.filter fun c => tim nd c left := List.mem_filter.mpr ⟨hc, ht2⟩
        rw [hnil] at this; cases this
      · show left.length ≤ 8
        have := (asc_sub _ _ hleft.asc h.asc hleft.sub).length_le
        simp [nms] at this; omega
    | some x =>
      obtain ⟨ab, hab⟩ := getLast_split hla
      have e : ordM nd (f + 1) left acc = ordM nd f (left.filter fun c => !decide (c = x)) (x :: acc) := by rw [ordM, hla]
      have hxf : x ∈ left.filter fun c => tim nd c left := by rw [hab]; simp
      obtain ⟨hxm, hxt⟩ := List.mem_filter.mp hxf
      have hlf := len_fil hleft.nodup hxm
      rw [e]
      have hsub : ∀ s, s ∈ (left.filter fun c => !decide (c = x)) → s ∈ left := fun s hs => (List.mem_filter.mp hs).1
      refine ordM_ok h f _ _ (hleft.fil _) (by omega) ?_ ?_
      · intro j hj
        cases j with
        | zero =>
          simp only [List.getElem_cons_zero, List.take_zero, List.append_nil]
          exact tim_mono (fun s hs _ => hsub s hs) hxt
        | succ j =>
          simp only [List.length_cons] at hj
          simp only [List.getElem_cons_succ, List.take_succ_cons]
          refine tim_mono (fun s hs _ => ?_) (ht j (by omega))
          rw [List.mem_append, List.mem_cons] at hs
          rw [List.mem_append]
          rcases hs with hs | rfl | hs
          · exact .inl (hsub s hs)
          · exact .inl hxm
          · exact .inr hs
      · refine List.Perm.trans ?_ hp
        have : (x :: left.filter fun c => !decide (c = x)).Perm left := by
          have hcl := hleft.nodup
          clear hla hab e hxf hxt hlf hsub ht hp hl hleft
          induction left with
          | nil => simp at hxm
          | cons a r ih =>
            rw [List.nodup_cons] at hcl
            by_cases e : a = x
            · subst e
              rw [List.filter_cons]
              simp only [decide_true, Bool.not_true, Bool.false_eq_true, if_false]
              rw [List.filter_eq_self.mpr fun y hy => by
                have : y ≠ a := fun z => hcl.1 (z ▸ hy)
                simp [this]]
            · rw [List.filter_cons]
              simp only [e, decide_false, Bool.not_false, if_true]
              exact (List.Perm.swap a x _).trans ((ih ((List.mem_cons.mp hxm).resolve_left fun z => e z.symm) hcl.2).cons a)
        refine List.Perm.trans ?_ (this.append_right acc)
        exact List.perm_middle
theorem last_in {p : List Nat → Prop} [DecidablePred p] : ∀ (O : List (List Nat)), (∃ s ∈ O, p s) → ∃ k, ∃ h : k < O.length, p O[k] ∧ ∀ i, (hi : i < O.length) → k < i → ¬ p O[i]
  | [], h => by obtain ⟨s, hs, _⟩ := h; cases hs
  | a :: r, h => by
    by_cases hr : ∃ s ∈ r, p s
    · obtain ⟨k, hk, h1, h2⟩ := last_in r hr
      refine ⟨k + 1, by simp; exact hk, by simpa using h1, fun i hi hki => ?_⟩
      cases i with
      | zero => omega
      | succ i => simp only [List.getElem_cons_succ]; exact h2 i (by simpa using hi) (by omega)
    · refine ⟨0, by simp, ?_, fun i hi hki => ?_⟩
      · obtain ⟨s, hs, hp⟩ := h
        rcases List.mem_cons.mp hs with rfl | hs
        · exact hp
        · exact absurd ⟨s, hs, hp⟩ hr
      · cases i with
        | zero => omega
        | succ i =>
          simp only [List.getElem_cons_succ]
          intro hp
          exact hr ⟨_, List.getElem_mem _, hp⟩
theorem excl {nd : List Nd} (h : OkN nd) {O L : List (List Nat)} (ho : tS_ nd O = true) (hl : lS_ nd L = true) : False := by
  simp only [tS_, tAll, Bool.and_eq_true, decide_eq_true_eq, List.all_eq_true, List.mem_range] at ho
  simp only [lS_, Bool.and_eq_true, decide_eq_true_eq, List.all_eq_true, Bool.not_eq_true'] at hl
  obtain ⟨ho1, ho2⟩ := ho
  obtain ⟨hl1, hl2, hl3, hl4⟩ := hl
  have hp := List.mergeSort_perm O leL
  rw [ho1] at hp
  have hin : ∀ s ∈ L, s ∈ O := fun s hs => hp.mem_iff.mp (hl3 s hs)
  have hex : ∃ s ∈ O, s ∈ L := by
    cases L with
    | nil => exact absurd rfl hl1
    | cons a r => exact ⟨a, hin a (by simp), by simp⟩
  obtain ⟨k, hk, h1, h2⟩ := last_in (p := fun s => s ∈ L) O hex
  have ht := ho2 k hk
  simp only [tk, List.getElem?_eq_getElem hk, Option.getD_some] at ht
  have : tim nd O[k] L = true := by
    refine tim_mono (fun s hs hne => ?_) ht
    obtain ⟨i, hi, rfl⟩ := List.mem_iff_getElem.mp (hin s hs)
    have hik : i < k := by
      by_cases e : i = k
      · subst e; exact absurd rfl hne
      · by_cases e2 : k < i
        · exact absurd hs (h2 i hi e2)
        · omega
    rw [List.mem_take_iff_getElem]
    exact ⟨i, by omega, rfl⟩
  rw [List.any_eq_false] at hl4
  exact hl4 _ h1 this
theorem due_ok {nd : List Nd} (h : OkN nd) : (if (ordM nd nd.length (nms nd) []).1 = true then tS_ nd (ordM nd nd.length (nms nd) []).2 = true else lS_ nd (ordM nd nd.length (nms nd) []).2 = true) ∧ (∀ c ∈ (ordM nd nd.length (nms nd) []).2, c ∈ nms nd) ∧ (ordM nd nd.length (nms nd) []).2 ≠ [] ∧ (ordM nd nd.length (nms nd) []).2.length ≤ 8 :=
  ordM_ok h _ _ _ (Left.all h) (by simp [nms]) (by intro j hj; simp at hj) (by simp)
/-- all orders and all sets agree with the greedy order -/
theorem agree {nd : List Nd} (h : OkN nd) {r : Bool × List (List Nat)} (hr : ordM nd nd.length (nms nd) [] = r) :
    (0 < ((ordN (nms nd) (nms nd).length).filter fun o => tS_ nd o).length ↔ r.1 = true) ∧ (0 < ((setN (nms nd) [[]]).filter fun o => lS_ nd o).length ↔ r.1 = false) := by
  obtain ⟨h1, h2, h3, h4⟩ := due_ok h
  rw [hr] at h1 h2 h3 h4
  cases hb : r.1 with
  | true =>
    rw [hb, if_pos rfl] at h1
    have hin : r.2 ∈ ordN (nms nd) (nms nd).length := by
      have hs := h1
      simp only [tS_, Bool.and_eq_true, decide_eq_true_eq] at hs
      obtain ⟨e1, _, e3⟩ := (sorted_iff h r.2).mp hs.1
      have := ordN_all (ns := nms nd) e3 h2 (nms nd).length (by simp [nms]; omega)
      rwa [List.take_of_length_le (by simp [nms]; omega)] at this
    constructor
    · simp only [iff_true]
      exact List.length_pos_of_mem (List.mem_filter.mpr ⟨hin, h1⟩)
    · simp only [Bool.true_eq_false, iff_false]
      intro hp
      obtain ⟨L, hL⟩ := List.exists_mem_of_length_pos hp
      exact excl h h1 (List.mem_filter.mp hL).2
  | false =>
    rw [hb, if_neg (by simp)] at h1
    have hs := h1
    simp only [lS_, Bool.and_eq_true, decide_eq_true_eq] at hs
    have hsub := asc_sub _ _ (of_asc hs.2.1) h.asc h2
    have hin : r.2 ∈ setN (nms nd) [[]] := by
      have := setN_all (nms nd) [[]] [] r.2 (by simp) hsub
      simpa using this
    constructor
    · simp only [Bool.false_eq_true, iff_false]
      intro hp
      obtain ⟨O, hO⟩ := List.exists_mem_of_length_pos hp
      exact excl h (List.mem_filter.mp hO).2 h1
    · simp only [iff_true]
      exact List.length_pos_of_mem (List.mem_filter.mpr ⟨hin, h1⟩)
end HT
end
section
set_option maxHeartbeats 0
set_option linter.all false
set_option maxRecDepth 100000
namespace HT
open Pw
def e8 : List Nd := (List.range 8).map fun k => ([110, 48 + k], 60, 1 + k)
theorem e8_ok : OkN e8 := ⟨by decide, by decide, by decide⟩
theorem e8_ord : ordM e8 e8.length (nms e8) [] = (true, nms e8) := by decide +kernel
theorem due_pl (r : Bool × List (List Nat)) (h : r.2.length ≤ 100) : plD 2 (dueD r) = true := by
  simp [dueD, plD]; omega
theorem dis_tt : dis (.bl true) (.bl true) = some true := rfl
theorem law_tail (S0 T : Store) (nd : List Nd) (r : Bool × List (List Nat)) (st : Int) (V M : Nat) (vs : List D) (m : List (D × D)) (e4 e6 e9 e11 e14 e17 : Option D) (h : OkN nd) (hr : ordM nd nd.length (nms nd) [] = r)
    (hV : get T V = some (.lst vs)) (hv : ∀ v ∈ vs, okV v) (hvl : vs.length ≤ 1000) (hM : get T M = some (mo m)) (hm : OkM nd m) (hml : m.length < 10000) (hpre : ∃ pre, T = pre ++ S0) (hMS : S0.length ≤ M) :
    wp (evSs ⟨den P 29, P.G, P.Cl, none⟩ (b34.drop 8) [some (.obj 0), some (dueD r), none, none, e4, some (.obj M), e6, none, some (.tup (nd.map ndD)), e9, none, e11, none, none, e14, none, some (.int st), e17, none, some (.obj V)] T)
      (fun fl S' => ∃ S2, outF S0 fl S' = .ok (.bl true) S2) := by
  have h8 := h.len
  obtain ⟨due1, due2, due3, due4⟩ := due_ok h
  rw [hr] at due1 due2 due3 due4
  obtain ⟨m2, ⟨hm2, hl2⟩, hj⟩ := sp_judges 21 T nd vs V M m h hv hV hM hm hml hvl
  obtain ⟨pl, hpl, hpl2⟩ := modN (st / 32) (show 0 < nd.length by omega)
  obtain ⟨pre, hpre⟩ := hpre
  obtain ⟨pre1, hp1, _⟩ := put_hi (pre := pre) (x := mo m2) hMS
  rw [← hpre] at hp1
  generalize hT1 : put T M (mo m2) = T1 at *
  have hsp := fun (T : Store) => sp_spoilt 28 T nd pl h hpl2
  have ha : nd[pl] ∈ nd := List.getElem_mem _
  have hz : nd[nd.length - 1]'(by omega) ∈ nd := List.getElem_mem _
  have hf : nd[0]'(by omega) ∈ nd := List.getElem_mem _
  have hbad := spV_bad h hpl2 ha hz hf T1.length
  generalize nd[pl] = a at *
  generalize nd[nd.length - 1]'(by omega) = z at *
  generalize nd[0]'(by omega) = f at *
  have hj' : den P 29 none 31 [.tup (nd.map ndD), .obj V, .obj M] T = .ok (.bl true) T1 := hj
  have hsp1 : den P 29 none 32 [.tup (nd.map ndD), .int (pl : Int)] T1 = .ok (.obj (T1.length + 3)) (spS (nd.map ndD) pl a z f T1.length ++ T1) := hsp T1
  have hT2g : get (spS (nd.map ndD) pl a z f T1.length ++ T1) (T1.length + 3) = some (.lst (spV (nd.map ndD) pl a z f T1.length)) := get_rev (k := 3) rfl
  have hne := spV_eq (nd := nd) (p := pl) (a := a) (z := z) (f := f) (ds_len h) T1 [] _ rfl _ rfl
  rw [List.nil_append] at hne
  have hsp2 : den P 29 none 32 [.tup (nd.map ndD), .int (pl : Int)] (spS (nd.map ndD) pl a z f T1.length ++ T1) = .ok (.obj ((spS (nd.map ndD) pl a z f T1.length ++ T1).length + 3)) (spS (nd.map ndD) pl a z f (spS (nd.map ndD) pl a z f T1.length ++ T1).length ++ (spS (nd.map ndD) pl a z f T1.length ++ T1)) := hsp _
  obtain ⟨pre2, hp2⟩ : ∃ pre2, spS (nd.map ndD) pl a z f (spS (nd.map ndD) pl a z f T1.length ++ T1).length ++ (spS (nd.map ndD) pl a z f T1.length ++ T1) = pre2 ++ S0 := ⟨spS (nd.map ndD) pl a z f (spS (nd.map ndD) pl a z f T1.length ++ T1).length ++ (spS (nd.map ndD) pl a z f T1.length ++ pre1), by rw [hp1]; simp⟩
  generalize hT2 : spS (nd.map ndD) pl a z f T1.length ++ T1 = T2 at *
  generalize hT3 : spS (nd.map ndD) pl a z f T2.length ++ T2 = T3 at *
  have hpl' : (st / 32 % (nd.length : Int) : Int) = pl := hpl
  refine wp_split 3 [some (.obj 0), some (dueD r), none, none, e4, some (.obj M), e6, none, some (.tup (nd.map ndD)), e9, none, e11, some (.int (pl : Int)), none, e14, some (.obj (T1.length + 3)), some (.int st), e17, none, some (.obj V)] T2 ?_ ?_
  · simp only [b34, List.take_succ_cons, List.take_zero, List.drop_succ_cons, List.drop_zero]
    clear hne
    simp (disch := first | omega | (simp; done) | (simp; omega)) [if_pos, if_neg, hj', hpl', hsp1]
  have hdue1 : idxD (dueD r) (.int 1) = fun S => .ok (.tup (r.2.map .str)) S := rfl
  refine wp_split 1 [some (.obj 0), some (dueD r), none, none, e4, some (.obj M), e6, none, some (.tup (nd.map ndD)), e9, none, e11, some (.int (pl : Int)), none, e14, some (.obj (T1.length + 3)), some (.int st), e17, none, some (.obj V)] T2 ?_ ?_
  · simp only [b34, List.take_succ_cons, List.take_zero, List.drop_succ_cons, List.drop_zero]
    clear hne
    simp (disch := first | omega | (simp; done) | (simp; omega)) [if_pos, if_neg, hT2g]
    refine wp_seq (wp_see (fun x hx => ?_) ?_)
    · obtain ⟨b1, b2⟩ := hbad x hx
      have k1 : ∀ S, den P 29 none 11 [x] S = .ok (.bl false) S := fun S => by rw [← b2]; exact sp_is_needs 25 x S b1
      have k2 : ∀ S, den P 29 none 33 [.int 0, x, .tup []] S = .ok (.bl true) S := fun S => ref0 22 S x _ b1 b2
      have k3 : ∀ S, den P 29 none 33 [.int 1, x, .tup (r.2.map .str)] S = .ok (.bl true) S := fun S => ref1 22 S x _ b1 b2
      have k4 : ∀ S, den P 29 none 33 [.int 2, x, .tup (r.2.map .str)] S = .ok (.bl true) S := fun S => ref2 22 S x _ b1 b2
      simp (disch := first | omega | (simp; done) | (simp; omega)) [if_pos, if_neg, k1, k2, k3, k4, hdue1]
    · simp (disch := first | omega | (simp; done) | (simp; omega)) [if_pos, if_neg, id]
  have hto : ∀ S, den P 29 none 14 [.tup (nd.map ndD)] S = .ok (dueD r) S := fun S => by rw [← hr]; exact sp_timely_order 22 S nd h
  have hsame : ∀ S, den P 29 none 21 [dueD r, dueD r] S = .ok (.bl true) S := fun S => sp_same 2 (dueD r) (due_pl r (by omega)) 26 S
  have hto8 : ∀ S, den P 29 none 14 [.tup (e8.map ndD)] S = .ok (dueD (true, nms e8)) S := fun S => by rw [← e8_ord]; exact sp_timely_order 22 S e8 e8_ok
  have hsame8 : ∀ S, den P 29 none 21 [dueD (true, nms e8), .tup [.str wOrder, .tup ((nms e8).map .str)]] S = .ok (.bl true) S := fun S => sp_same 2 (dueD (true, nms e8)) (by decide) 26 S
  have hin8 : ∀ S, den P 29 none 11 [.tup (e8.map ndD)] S = .ok (.bl true) S := fun S => by rw [← (needsD_ok e8_ok).2]; exact sp_is_needs 25 _ S (needsD_ok e8_ok).1
  have hdg : ∀ k, k < 8 → [48, 49, 50, 51, 52, 53, 54, 55][k]? = some (48 + k) := by decide
  have h88 : (List.range 8).map (fun k => D.tup [.str [110, 48 + k], .int 60, .int (1 + (k : Int))]) = e8.map ndD := by decide
  simp only [b34, List.drop_succ_cons, List.drop_zero]
  simp (disch := first | omega | (simp; done) | (simp; omega)) [if_pos, if_neg, hsp2, hne]
  rw [compK_rg 8 (fun _ => true) (fun k => .tup [.str [110, 48 + k], .int 60, .int (1 + (k : Int))]) (by omega) (fun k hk => by
    constructor
    · simp (disch := first | omega | (simp; done) | (simp; omega)) [if_pos, if_neg, id]
    · intro _
      simp (disch := first | omega | (simp; done) | (simp; omega)) [if_pos, if_neg, id]
      exact (List.getElem?_eq_some_iff.mp (hdg k hk)).2)]
  rw [List.filter_eq_self.mpr (by simp), h88]
  simp (disch := first | omega | (simp; done) | (simp; omega)) [if_pos, if_neg, hin8, hto8]
  rw [compK_on e8 ndD (fun x => .str x.1) (by decide) (fun x hx => ⟨_, rfl, by simp (disch := first | omega | (simp; done) | (simp; omega)) [if_pos, if_neg, id], by simp (disch := first | omega | (simp; done) | (simp; omega)) [if_pos, if_neg, ndD]⟩)]
  have e1 : e8.map (fun x : Nd => D.str x.1) = (nms e8).map .str := by simp [nms, Function.comp_def]
  rw [e1]
  have hsame8' : ∀ S, den P 29 none 21 [dueD (true, nms e8), .tup [.str [111, 114, 100, 101, 114], .tup ((nms e8).map .str)]] S = .ok (.bl true) S := hsame8
  simp (disch := first | omega | (simp; done) | (simp; omega)) [if_pos, if_neg, hsame8', hto, hsame]
  exact ⟨S0, fin_val hp2 (by simp)⟩
end HT
end
section
set_option maxHeartbeats 0
set_option linter.all false
set_option maxRecDepth 100000
namespace HT
open Pw
def brP (S0 : Store) (nd : List Nd) (r : Bool × List (List Nat)) (st : Int) (fl : Flow) (S' : Store) : Prop := ∃ (V8 : Nat) (vs8 : List D) (m8 : List (D × D)) (e4 e6 e11 e14 e17 : Option D), fl = .nx [some (.obj 0), some (dueD r), none, none, e4, some (.obj (S0.length + 1)), e6, none, some (.tup (nd.map ndD)), some (.obj S0.length), none, e11, none, none, e14, none, some (.int st), e17, none, some (.obj V8)] ∧
  get S' V8 = some (.lst vs8) ∧ (∀ v ∈ vs8, okV v) ∧ vs8.length ≤ 1000 ∧ get S' (S0.length + 1) = some (mo m8) ∧ OkM nd m8 ∧ m8.length < 10000 ∧ ∃ pre, S' = pre ++ S0
theorem tB_str (nd : List Nd) (os : List (List Nat)) : tB nd (.tup (os.map .str)) = tS_ nd os := by
  show (match strsD (os.map .str) with | some os => tS_ nd os | none => false) = _
  rw [strsD_str]
theorem law_few (S0 S4 : Store) (nd : List Nd) (r : Bool × List (List Nat)) (st : Int) (V : Nat) (vs : List D) (m1 : List (D × D)) (h : OkN nd) (hr : ordM nd nd.length (nms nd) [] = r) (h4 : nd.length ≤ 4)
    (hg4 : get S4 V = some (.lst vs)) (hvok : ∀ v ∈ vs, okV v) (hvl : vs.length ≤ 60) (hM4 : get S4 (S0.length + 1) = some (mo m1)) (hm1 : OkM nd m1) (hl1 : m1.length ≤ 64) (hVM : V ≠ S0.length + 1) (pre : Store) (hp40 : S4 = pre ++ S0) :
    wp (evSs ⟨den P 29, P.G, P.Cl, none⟩ (List.take 1 (List.drop 7 b34)) [some (.obj 0), some (dueD r), none, none, none, some (.obj (S0.length + 1)), none, none, some (.tup (nd.map ndD)), some (.obj S0.length), none, none, none, none, none, none, some (.int st), none, none, some (.obj V)] S4) (brP S0 nd r st) := by
  have h4' : (nd.length : Int) ≤ 4 := by omega
  have hag := agree h hr
  have hnl : (nms nd).length ≤ 4 := by simp [nms]; exact h4
  have hML := get_lt hM4
  have hVL := get_lt hg4
  have hsh : ∀ c ∈ nms nd, c.length ≤ 9 := fun c hc' => by
    have := names_ok h hc'
    simp only [isNameL, Bool.and_eq_true, decide_eq_true_eq] at this; omega
  have hO := sp_all_orders 28 (.lst ((nms nd).map .str) :: S4) (nms nd) S4.length (get_self _ _) hnl
  have hZ := sp_all_sets 28 (.lst ((ordN (nms nd) (nms nd).length).map tS') :: .lst ((nms nd).map .str) :: S4) (nms nd) S4.length (get_under _ _ _) hnl
  have hOl : (ordN (nms nd) (nms nd).length).length ≤ 256 := Nat.le_trans (ordN_len _) (Nat.le_trans (Nat.pow_le_pow_left hnl _) (Nat.pow_le_pow_right (by omega) hnl))
  have hZl : (setN (nms nd) [[]]).length ≤ 16 := by
    rw [setN_len]; simp only [List.length_cons, List.length_nil, Nat.one_mul, Nat.zero_add]
    exact Nat.le_trans (Nat.pow_le_pow_right (by omega) hnl) (by omega)
  have hOo := ordN_ok (ns := nms nd) (nms nd).length
  have hZo := setN_ok (nms nd) [[]] (nms nd) 0 (fun c hc => hc) (by simp)
  generalize ordN (nms nd) (nms nd).length = O at *
  generalize setN (nms nd) [[]] = Z at *
  have okO : ∀ o ∈ O, okV (tS' o) := fun o ho => okV_str (fun c hc => hsh c ((hOo o ho).2 c hc)) (by rw [(hOo o ho).1]; omega)
  have okZ : ∀ o ∈ Z, okV (tS' o) := fun o ho => okV_str (fun c hc => hsh c ((hZo o ho).2 c hc)) (by have := (hZo o ho).1; omega)
  have hO' : den P 29 none 28 [.obj S4.length] (.lst ((nms nd).map .str) :: S4) = .ok (.obj (S4.length + 1)) (.lst (O.map tS') :: .lst ((nms nd).map .str) :: S4) := hO
  have hZ' : den P 29 none 29 [.obj S4.length] (.lst (O.map tS') :: .lst ((nms nd).map .str) :: S4) = .ok (.obj (S4.length + 1 + 1)) (.lst (Z.map tS') :: .lst (O.map tS') :: .lst ((nms nd).map .str) :: S4) := hZ
  simp only [b34, List.take_succ_cons, List.take_zero, List.drop_succ_cons, List.drop_zero]
  simp (disch := first | omega | (simp; done) | (simp; omega)) [if_pos, if_neg, h4']
  rw [compK_on nd ndD (fun x => .str x.1) (by omega) (fun x hx => ⟨_, rfl, by simp (disch := first | omega | (simp; done) | (simp; omega)) [if_pos, if_neg, id], by simp (disch := first | omega | (simp; done) | (simp; omega)) [if_pos, if_neg, ndD]⟩)]
  have e1 : nd.map (fun x : Nd => D.str x.1) = (nms nd).map .str := by simp [nms, Function.comp_def]
  rw [e1]
  simp (disch := first | omega | (simp; done) | (simp; omega)) [if_pos, if_neg, hO', hZ']
  obtain ⟨pre7, hp7⟩ : ∃ pre7, (SO.lst (Z.map tS') :: .lst (O.map tS') :: .lst ((nms nd).map .str) :: S4 : Store) = pre7 ++ S0 := ⟨[SO.lst (Z.map tS'), .lst (O.map tS'), .lst ((nms nd).map .str)] ++ pre, by rw [hp40]; simp⟩
  have q1 : get (SO.lst (Z.map tS') :: .lst (O.map tS') :: .lst ((nms nd).map .str) :: S4) (S4.length + 1) = some (.lst (O.map tS')) := get_app (get_self _ _) [_]
  have q2 : get (SO.lst (Z.map tS') :: .lst (O.map tS') :: .lst ((nms nd).map .str) :: S4) (S4.length + 2) = some (.lst (Z.map tS')) := get_self _ _
  have q3 : get (SO.lst (Z.map tS') :: .lst (O.map tS') :: .lst ((nms nd).map .str) :: S4) V = some (.lst vs) := get_app hg4 [_, _, _]
  have q4 : get (SO.lst (Z.map tS') :: .lst (O.map tS') :: .lst ((nms nd).map .str) :: S4) (S0.length + 1) = some (mo m1) := get_app hM4 [_, _, _]
  have ql : (SO.lst (Z.map tS') :: .lst (O.map tS') :: .lst ((nms nd).map .str) :: S4 : Store).length = S4.length + 3 := rfl
  generalize (SO.lst (Z.map tS') :: .lst (O.map tS') :: .lst ((nms nd).map .str) :: S4 : Store) = S7 at *
  have n1 : S4.length + 1 ≠ S0.length + 1 := by omega
  have n2 : S4.length + 2 ≠ S0.length + 1 := by omega
  obtain ⟨S8, hc8, _, m2, hm2, hl2, hS8⟩ := compK_finv (C := ⟨den P 29, P.G, P.Cl, none⟩) (e := .v 10) (t := .v 10) (ifs := [.val (.call 26 [.v 8, .v 10, .v 5])])
    (env := [some (.obj 0), some (dueD r), none, none, none, some (.obj (S0.length + 1)), some (.obj S4.length), none, some (.tup (nd.map ndD)), some (.obj S0.length), none, some (.obj (S4.length + 1)), none, none, some (.obj (S4.length + 1 + 1)), none, some (.int st), none, none, some (.obj V)]) (o := some (S4.length + 1)) (S := S7) O tS' (fun o => tS_ nd o) tS'
    (fun j T => j ≤ O.length ∧ ∃ m2, OkM nd m2 ∧ m2.length ≤ m1.length + 8 * j ∧ T = put S7 (S0.length + 1) (mo m2)) (by omega) ⟨by omega, m1, hm1, by omega, (put_same q4).symm⟩ (by
      rintro j T ⟨_, m2, _, _, rfl⟩
      simp [stands, obAt, get_put_ne n1]) (by
      rintro j o T hj ⟨_, m2, hm2, hl2, rfl⟩
      have hjl := (List.getElem?_eq_some_iff.mp hj).1
      obtain ⟨m3, ⟨hm3, hl3⟩, hd⟩ := sp_law_timely 27 (put S7 (S0.length + 1) (mo m2)) nd (tS' o) (S0.length + 1) m2 h (okO o (List.mem_of_getElem? hj)).1 (get_put_self (get_lt q4)) hm2 (by omega)
      rw [put_put, show tB nd (tS' o) = tS_ nd o from tB_str nd o] at hd
      have hd' : den P 29 none 26 [.tup (nd.map ndD), tS' o, .obj (S0.length + 1)] (put S7 (S0.length + 1) (mo m2)) = .ok (.bl (tS_ nd o)) (put S7 (S0.length + 1) (mo m3)) := hd
      refine ⟨_, put S7 (S0.length + 1) (mo m3), put S7 (S0.length + 1) (mo m3), rfl, ?_, ?_, by omega, m3, hm3, by omega, rfl⟩
      · by_cases e : tS_ nd o = true
        · simp (disch := first | omega | (simp; done) | (simp; omega)) [if_pos, if_neg, hd', e]
        · simp (disch := first | omega | (simp; done) | (simp; omega)) [if_pos, if_neg, hd', e]
      · by_cases e : tS_ nd o = true
        · simp (disch := first | omega | (simp; done) | (simp; omega)) [if_pos, if_neg, e]
        · simp (disch := first | omega | (simp; done) | (simp; omega)) [if_pos, if_neg, e])
  have hl2 : m2.length ≤ m1.length + 8 * O.length := hl2
  have hS8 : S8 = put S7 (S0.length + 1) (mo m2) := hS8
  rw [hc8]
  clear hc8
  have p1 : get S8 (S4.length + 1) = some (.lst (O.map tS')) := by rw [hS8, get_put_ne n1]; exact q1
  have p2 : get S8 (S4.length + 1 + 1) = some (.lst (Z.map tS')) := by rw [hS8, get_put_ne n2]; exact q2
  have p3 : get S8 V = some (.lst vs) := by rw [hS8, get_put_ne hVM]; exact q3
  have p4 : get S8 (S0.length + 1) = some (mo m2) := by rw [hS8]; exact get_put_self (get_lt q4)
  have p5 : S8.length = S4.length + 3 := by rw [hS8]; simp [ql]
  obtain ⟨pre8, p6⟩ : ∃ pre8, S8 = pre8 ++ S0 := by
    obtain ⟨pre8, e, _⟩ := put_hi (pre := pre7) (S := S0) (n := S0.length + 1) (x := mo m2) (by omega)
    exact ⟨pre8, by rw [hS8, hp7]; exact e⟩
  clear hS8
  obtain ⟨X, hX⟩ : ∃ X, X = O.filter fun o => tS_ nd o := ⟨_, rfl⟩
  have hXl : X.length ≤ 256 := by rw [hX]; exact Nat.le_trans (List.length_filter_le _ _) hOl
  rw [← hX] at hag ⊢
  simp (disch := first | omega | (simp; done) | (simp; omega)) [if_pos, if_neg, p2, show ¬ S4.length + 1 + 1 = S8.length by omega]
  have r1 : get (.lst (X.map tS') :: S8) (S4.length + 1) = some (.lst (O.map tS')) := get_app p1 [_]
  have r2 : get (.lst (X.map tS') :: S8) (S4.length + 1 + 1) = some (.lst (Z.map tS')) := get_app p2 [_]
  have r3 : get (.lst (X.map tS') :: S8) V = some (.lst vs) := get_app p3 [_]
  have r4 : get (.lst (X.map tS') :: S8) (S0.length + 1) = some (mo m2) := get_app p4 [_]
  have r5 : get (.lst (X.map tS') :: S8) S8.length = some (.lst (X.map tS')) := get_self _ _
  have r6 : (SO.lst (X.map tS') :: S8).length = S4.length + 4 := by simp [p5]
  obtain ⟨pre9, r7⟩ : ∃ pre9, (SO.lst (X.map tS') :: S8 : Store) = pre9 ++ S0 := ⟨[.lst (X.map tS')] ++ pre8, by rw [p6]; simp⟩
  generalize (SO.lst (X.map tS') :: S8 : Store) = S9 at *
  have n3 : S4.length + 1 + 1 ≠ S0.length + 1 := by omega
  obtain ⟨S10, hc10, _, m3, hm3, hl3, hS10⟩ := compK_finv (C := ⟨den P 29, P.G, P.Cl, none⟩) (e := .v 13) (t := .v 13) (ifs := [.val (.call 27 [.v 8, .v 13, .v 5])])
    (env := [some (.obj 0), some (dueD r), none, none, none, some (.obj (S0.length + 1)), some (.obj S4.length), none, some (.tup (nd.map ndD)), some (.obj S0.length), none, some (.obj (S4.length + 1)), none, none, some (.obj (S4.length + 1 + 1)), none, some (.int st), some (.obj S8.length), none, some (.obj V)]) (o := some (S4.length + 1 + 1)) (S := S9) Z tS' (fun o => lS_ nd o) tS'
    (fun j T => j ≤ Z.length ∧ ∃ m3, OkM nd m3 ∧ m3.length ≤ m2.length + 8 * j ∧ T = put S9 (S0.length + 1) (mo m3)) (by omega) ⟨by omega, m2, hm2, by omega, (put_same r4).symm⟩ (by
      rintro j T ⟨_, m3, _, _, rfl⟩
      simp [stands, obAt, get_put_ne n3]) (by
      rintro j o T hj ⟨_, m3, hm3, hl3, rfl⟩
      have hjl := (List.getElem?_eq_some_iff.mp hj).1
      obtain ⟨m4, ⟨hm4, hl4⟩, hd⟩ := sp_law_late 27 (put S9 (S0.length + 1) (mo m3)) nd (tS' o) (S0.length + 1) m3 h (okZ o (List.mem_of_getElem? hj)).1 (get_put_self (get_lt r4)) hm3 (by omega)
      rw [put_put, show lB nd (tS' o) = lS_ nd o from lB_str nd o] at hd
      have hd' : den P 29 none 27 [.tup (nd.map ndD), tS' o, .obj (S0.length + 1)] (put S9 (S0.length + 1) (mo m3)) = .ok (.bl (lS_ nd o)) (put S9 (S0.length + 1) (mo m4)) := hd
      refine ⟨_, put S9 (S0.length + 1) (mo m4), put S9 (S0.length + 1) (mo m4), rfl, ?_, ?_, by omega, m4, hm4, by omega, rfl⟩
      · by_cases e : lS_ nd o = true
        · simp (disch := first | omega | (simp; done) | (simp; omega)) [if_pos, if_neg, hd', e]
        · simp (disch := first | omega | (simp; done) | (simp; omega)) [if_pos, if_neg, hd', e]
      · by_cases e : lS_ nd o = true
        · simp (disch := first | omega | (simp; done) | (simp; omega)) [if_pos, if_neg, e]
        · simp (disch := first | omega | (simp; done) | (simp; omega)) [if_pos, if_neg, e])
  have hl3 : m3.length ≤ m2.length + 8 * Z.length := hl3
  have hS10 : S10 = put S9 (S0.length + 1) (mo m3) := hS10
  rw [hc10]
  clear hc10
  obtain ⟨Y, hY⟩ : ∃ Y, Y = Z.filter fun o => lS_ nd o := ⟨_, rfl⟩
  have hYl : Y.length ≤ 16 := by rw [hY]; exact Nat.le_trans (List.length_filter_le _ _) hZl
  rw [← hY] at hag ⊢
  have n5 : S8.length ≠ S0.length + 1 := by omega
  have t1 : get S10 (S4.length + 1) = some (.lst (O.map tS')) := by rw [hS10, get_put_ne n1]; exact r1
  have t2 : get S10 (S4.length + 1 + 1) = some (.lst (Z.map tS')) := by rw [hS10, get_put_ne n3]; exact r2
  have t3 : get S10 V = some (.lst vs) := by rw [hS10, get_put_ne hVM]; exact r3
  have t4 : get S10 (S0.length + 1) = some (mo m3) := by rw [hS10]; exact get_put_self (get_lt r4)
  have t5 : get S10 S8.length = some (.lst (X.map tS')) := by rw [hS10, get_put_ne n5]; exact r5
  have t6 : S10.length = S4.length + 4 := by rw [hS10]; simp [r6]
  obtain ⟨pre10, t7⟩ : ∃ pre10, S10 = pre10 ++ S0 := by
    obtain ⟨pre8, e, _⟩ := put_hi (pre := pre9) (S := S0) (n := S0.length + 1) (x := mo m3) (by omega)
    exact ⟨pre8, by rw [hS10, r7]; exact e⟩
  clear hS10
  have hd0 : ∀ T, idxD (dueD r) (.int 0) T = .ok (.str (if r.1 = true then wOrder else wLate)) T := fun T => rfl
  have z1 : ¬ S8.length = S10.length := by omega
  have z2 : ¬ V = S10.length := by omega
  have z3 : ¬ S4.length + 1 = S10.length := by omega
  have z4 : ¬ S4.length + 1 = S10.length + 1 := by omega
  have z5 : ¬ S4.length + 1 + 1 = S10.length := by omega
  have z6 : ¬ S4.length + 1 + 1 = S10.length + 1 := by omega
  have hb : (0 < X.length ↔ Y = []) ∧ (decide (0 < X.length) = decide ((if r.1 = true then wOrder else wLate) = [111, 114, 100, 101, 114])) := by
    obtain ⟨a1, a2⟩ := hag
    cases hb : r.1 with
    | true =>
      rw [hb] at a1 a2
      have b1 := a1.mpr rfl
      have b2 : ¬ 0 < Y.length := fun z => by cases a2.mp z
      have b4 : Y = [] := List.length_eq_zero_iff.mp (by omega)
      rw [decide_eq_true b1]
      exact ⟨⟨fun _ => b4, fun _ => b1⟩, by decide⟩
    | false =>
      rw [hb] at a1 a2
      have b1 := a2.mpr rfl
      have b2 : ¬ 0 < X.length := fun z => by cases a1.mp z
      have b4 : ¬ Y = [] := by rintro rfl; simp at b1
      rw [decide_eq_false b2]
      exact ⟨⟨fun z => absurd z b2, fun z => absurd z b4⟩, by decide⟩
  have hb3 : (Y = [] ↔ (if r.1 = true then wOrder else wLate) = [111, 114, 100, 101, 114]) := hb.1.symm.trans (decide_eq_decide.mp hb.2)
  simp (disch := first | omega | (simp; done) | (simp; omega)) [if_pos, if_neg, t5, z1, hb.1, hb3, hd0, t3, z2, t1, z3, z4, t2, z5, z6]
  refine ⟨S10.length + 1 + 1, vs ++ (O.map tS' ++ Z.map tS'), m3, _, _, _, _, _, rfl, get_self _ _, ?_, ?_, get_app t4 [_, _, _], hm3, by omega, ⟨[.lst (vs ++ (O.map tS' ++ Z.map tS')), .lst (vs ++ O.map tS'), .lst (Y.map tS')] ++ pre10, by rw [t7]; simp⟩⟩
  · intro v hv
    rw [List.mem_append, List.mem_append, List.mem_map, List.mem_map] at hv
    rcases hv with hv | ⟨o, ho, rfl⟩ | ⟨o, ho, rfl⟩
    · exact hvok v hv
    · exact okO o ho
    · exact okZ o ho
  · simp only [List.length_append, List.length_map]; omega
theorem k31_law (zs : List Int) (hl : zs.length ≤ 63) : ∃ S, den P 30 none 34 [.obj 0] [.ro (zs.map .int)] = .ok (.bl true) S := by
  generalize hS0 : ([.ro (zs.map .int)] : Store) = S0
  have hg0 : get S0 0 = some (.ro (zs.map .int)) := by rw [← hS0]; rfl
  clear hS0
  obtain ⟨st, hst⟩ := sp_cell 28 S0 zs 0 hg0 (by omega) hl
  obtain ⟨nd, h, hnd⟩ := sp_needs 26 S0 zs st hg0 hl
  obtain ⟨c3, hc3⟩ := sp_cell 28 S0 zs 3 hg0 (by omega) hl
  obtain ⟨nb, ⟨hbl, hbr⟩, hnb⟩ := sp_numbers 28 S0 c3 256 8 (by omega) (by omega)
  have h8 := h.len
  have hst' : den P 29 none 17 [.obj 0, .int 0] S0 = .ok (.int st) S0 := hst
  have hnd' : den P 29 none 22 [.obj 0, .int st] S0 = .ok (.tup (nd.map ndD)) S0 := hnd
  have hc3' : den P 29 none 17 [.obj 0, .int 3] S0 = .ok (.int c3) S0 := hc3
  have hnb' : den P 29 none 18 [.int c3, .int 256, .int 8] S0 = .ok (.obj S0.length) (.lst (nb.map .int) :: S0) := hnb
  obtain ⟨r, hr⟩ : ∃ r, ordM nd nd.length (nms nd) [] = r := ⟨_, rfl⟩
  have hdk := due_ok h
  have hag := agree h hr
  rw [hr] at hdk
  obtain ⟨due1, due2, due3, due4⟩ := hdk
  suffices Hh : wp (evSs ⟨den P 29, P.G, P.Cl, none⟩ b34 [some (.obj 0), none, none, none, none, none, none, none, none, none, none, none, none, none, none, none, none, none, none, none] S0) fun fl S' => ∃ S2, outF S0 fl S' = .ok (.bl true) S2 from by
    have := den_post (p := P) (n := 29) (i := 34) (f := ⟨1, 20, b34⟩) (ds := [.obj 0]) (S := S0) (fun _ : Store => True) (fun S2 => .ok (.bl true) S2) rfl rfl (wp_mono Hh fun fl S' h => by obtain ⟨S2, h⟩ := h; exact ⟨S2, trivial, h⟩)
    obtain ⟨S2, _, h⟩ := this
    exact ⟨S2, h⟩
  have hM2 : get (.dct [] :: .lst (nb.map .int) :: S0) (S0.length + 1) = some (mo []) := get_self _ _
  obtain ⟨m1, ⟨hm1, hl1⟩, hdue⟩ := sp_law_order 27 (.dct [] :: .lst (nb.map .int) :: S0) nd (S0.length + 1) [] h hM2 (OkM.nil nd) (by simp)
  rw [hr] at hdue
  obtain ⟨pre3, hp3, _⟩ := put_hi (S := S0) (pre := [.dct [], .lst (nb.map .int)]) (n := S0.length + 1) (x := mo m1) (by omega)
  have hM3 : get (put (.dct [] :: .lst (nb.map .int) :: S0) (S0.length + 1) (mo m1)) (S0.length + 1) = some (mo m1) := get_put_self (get_lt hM2)
  have hn3 : get (put (.dct [] :: .lst (nb.map .int) :: S0) (S0.length + 1) (mo m1)) S0.length = some (.lst (nb.map .int)) := by
    rw [get_put_ne (by omega)]
    exact get_under _ _ _
  have hdue' : den P 29 none 24 [.tup (nd.map ndD), .obj (S0.length + 1)] (.dct [] :: .lst (nb.map .int) :: S0) = .ok (dueD r) (put (.dct [] :: .lst (nb.map .int) :: S0) (S0.length + 1) (mo m1)) := hdue
  have hp3' : put (.dct [] :: .lst (nb.map .int) :: S0) (S0.length + 1) (mo m1) = pre3 ++ S0 := hp3
  generalize put (.dct [] :: .lst (nb.map .int) :: S0) (S0.length + 1) (mo m1) = S3 at *
  have hin : ∀ S, den P 29 none 11 [.tup (nd.map ndD)] S = .ok (.bl true) S := fun S => by rw [← (needsD_ok h).2]; exact sp_is_needs 25 _ S (needsD_ok h).1
  have hto : ∀ S, den P 29 none 14 [.tup (nd.map ndD)] S = .ok (dueD r) S := fun S => by rw [← hr]; exact sp_timely_order 22 S nd h
  have hsame : ∀ S, den P 29 none 21 [dueD r, dueD r] S = .ok (.bl true) S := fun S => sp_same 2 (dueD r) (due_pl r (by omega)) 26 S
  refine wp_split 6 [some (.obj 0), some (dueD r), none, none, none, some (.obj (S0.length + 1)), none, none, some (.tup (nd.map ndD)), some (.obj S0.length), none, none, none, none, none, none, some (.int st), none, none, none] S3 ?_ ?_
  · simp only [b34, List.take_succ_cons, List.take_zero]
    simp (disch := first | omega | (simp; done) | (simp; omega)) [if_pos, if_neg, hst', hnd', hc3', hnb', hdue', hin, hto, hsame]
  obtain ⟨c0, cr, hcr⟩ : ∃ c0 cr, r.2 = c0 :: cr := by
    cases hq : r.2 with
    | nil => exact absurd hq due3
    | cons a t => exact ⟨a, t, rfl⟩
  have hds : dueD r = .tup [.str (if r.1 = true then wOrder else wLate), .tup ((c0 :: cr).map .str)] := by unfold dueD; rw [hcr]
  obtain ⟨⟨S4, V, vs⟩, ⟨⟨pre4, hp4⟩, hV4, hg4, hvl, hvok⟩, hval⟩ := sp_values 28 S3 nd (if r.1 = true then wOrder else wLate) c0 cr S0.length nb h (fun c hc => due2 c (by rw [hcr]; exact hc)) (by rw [← hcr]; exact due4) hn3 hbr (by omega)
  rw [← hds] at hval
  dsimp only at hp4 hV4 hg4 hvl hvok hval
  have hval' : den P 29 none 30 [.tup (nd.map ndD), dueD r, .obj S0.length] S3 = .ok (.obj V) S4 := hval
  have hM4 : get S4 (S0.length + 1) = some (mo m1) := by rw [hp4]; exact get_app hM3 _
  have hp40 : S4 = (pre4 ++ pre3) ++ S0 := by rw [hp4, hp3']; simp
  refine wp_split 1 [some (.obj 0), some (dueD r), none, none, none, some (.obj (S0.length + 1)), none, none, some (.tup (nd.map ndD)), some (.obj S0.length), none, none, none, none, none, none, some (.int st), none, none, some (.obj V)] S4 ?_ ?_
  · simp only [b34, List.take_succ_cons, List.take_zero, List.drop_succ_cons, List.drop_zero]
    simp (disch := first | omega | (simp; done) | (simp; omega)) [if_pos, if_neg, hval']
  have hdd : List.drop 1 (List.drop 6 b34) = List.take 1 (List.drop 7 b34) ++ List.drop 8 b34 := by
    simp only [b34, List.take_succ_cons, List.take_zero, List.drop_succ_cons, List.drop_zero, List.cons_append, List.nil_append]
  rw [hdd]
  refine wp_app2 _ _ _ _ ?_
  by_cases h4 : nd.length ≤ 4
  · refine wp_mono (law_few S0 S4 nd r st V vs m1 h hr h4 hg4 hvok hvl hM4 hm1 (by simp at hl1; omega) (by rintro rfl; rw [hM4] at hg4; exact mo_no (Option.some.inj hg4)) _ hp40) fun fl S' hq => ?_
    obtain ⟨V8, vs8, m8, e4, e6, e11, e14, e17, rfl, a1, a2, a3, a4, a5, a6, a7⟩ := hq
    exact ⟨_, rfl, law_tail S0 S' nd r st V8 (S0.length + 1) vs8 m8 e4 e6 (some (.obj S0.length)) e11 e14 e17 h hr a1 a2 a3 a4 a5 a6 a7 (by omega)⟩
  · have h4' : ¬ (nd.length : Int) ≤ 4 := by omega
    have tail := law_tail S0 S4 nd r st V (S0.length + 1) vs m1 none none (some (.obj S0.length)) none none none h hr hg4 hvok (by omega) hM4 hm1 (by simp at hl1; omega) ⟨_, hp40⟩ (by omega)
    have : wp (evSs ⟨den P 29, P.G, P.Cl, none⟩ (List.take 1 (List.drop 7 b34)) [some (.obj 0), some (dueD r), none, none, none, some (.obj (S0.length + 1)), none, none, some (.tup (nd.map ndD)), some (.obj S0.length), none, none, none, none, none, none, some (.int st), none, none, some (.obj V)] S4) fun fl S' => fl = .nx [some (.obj 0), some (dueD r), none, none, none, some (.obj (S0.length + 1)), none, none, some (.tup (nd.map ndD)), some (.obj S0.length), none, none, none, none, none, none, some (.int st), none, none, some (.obj V)] ∧ S' = S4 := by
      simp only [b34, List.take_succ_cons, List.take_zero, List.drop_succ_cons, List.drop_zero]
      simp (disch := first | omega | (simp; done) | (simp; omega)) [if_pos, if_neg, h4']
    refine wp_mono this fun fl S' hq => ⟨_, hq.1, ?_⟩
    rw [hq.2]
    exact tail
end HT
end
section
set_option Elab.async false
set_option linter.all false
set_option maxRecDepth 100000
set_option maxHeartbeats 0
/-- the law by what the evaluator says -/
theorem HT.holds_of (pure_ : ∀ ns : List Int, ns.length ≤ 63 → (∀ z ∈ ns, PySem.Builtin.Int.intBits z ≤ 1048576) → ∃ S, Pw.den HT.txt.prg 30 none 34 [.obj 0] [.ro (ns.map .int)] = .ok (.bl true) S) : PySem.Challenge.rw_pullwire_k31_timely_orders.Holds := by
  open PySem PySem.W PySem.Calls PyProof.Rows in
  w_on; o_law
  refine HandSHeadRun.head_any (r := OpenLaw.row PySem.Challenge.rw_pullwire_k31_timely_orders) (q := view (OpenLaw.row PySem.Challenge.rw_pullwire_k31_timely_orders).prog [61]) (H := HT.txt.hook) (ob := HT.txt.ob) (M := 20000) (loose := HT.names) (d := HandSHeadRun.topDef (OpenLaw.row PySem.Challenge.rw_pullwire_k31_timely_orders).prog 61) (kwd := []) HT.txt.ob_eq
    (by kernel_rfl) (fun s => by kernel_rfl) HT.run (by kernel_rfl) (by kernel_rfl) (by kernel_rfl) (by rfl) (by first | assumption | decide +kernel) (by decide +kernel) ⟨rfl, rfl, rfl, rfl, rfl, by decide +kernel⟩ ?hw ?hc
  case hw => w_witness2
  case hc =>
    exact Pw.Txt.walk HT.txt (l := PySem.Challenge.rw_pullwire_k31_timely_orders) (n := 63) (k := 29) (j := 34) (a0 := HT.d34) (x := "script") rfl (by decide) (by kernel_rfl) ⟨rfl, by decide, by decide⟩ ⟨rfl, by kernel_rfl⟩ HT.look HT.bni HT.bnd rfl (by decide) rfl (by kernel_rfl) pure_
end
set_option Elab.async false
set_option maxRecDepth 100000
set_option maxHeartbeats 0
theorem PySem.Challenge.cw_pullwire_k31_timely_orders_holds : PySem.Challenge.rw_pullwire_k31_timely_orders.Holds := by
  exact HT.holds_of fun ns hl _ => HT.k31_law ns hl
